import PyProof.Rows.All
import Wide.All
import OpenK.AllK
import Wide.FinOn
import HandS.ForMost
import HandS.More
import HandS.IsInst
import HandS.Style
import HandS.WordsExc
import HandS.TryOnly
import HandS.HotCalls
import HandS.ExcIs
import HandS.SortInts
import HandS.DictComp
import HandS.DeepEq
import HandS.Finally
import PyProof.DictUpdate
import KE.KEqNest
import PySem.Challenge.RW_pickfloor_k07_reasons_looked_at
section
set_option Elab.async false
set_option linter.all false
set_option maxRecDepth 100000
set_option maxHeartbeats 4000000
/-! Eng1: a ghost layer over HandS. Values are trees of data (D); what is never changed any more lies in a frozen part F that only grows; what may still change is told by address in G, or is owned by one slot. -/
namespace Gh
open PySem PySem.Spec PyProof.Rows L2

inductive D where
  | non | bl (b : Bool) | int (i : Int) | str (x : Str) | ref (a : Addr) | ty (n : String)
  | lst (xs : List D) | tup (xs : List D) | dic (kvs : List (Key × D))

def KL (K : PySem.W.Frag) (a : Addr) (xs : List V) : Prop :=
  ∃ (o : Obj) (its : Array Value) (n : Nat), K.lookup a = some o ∧ o.cls = .type "list" ∧ o.dict = none ∧ o.data = .seq its n ∧ its.size ≤ sizeLine ∧ Vals xs its.toList
def FL (K : PySem.W.Frag) (F : Hp) (a : Addr) (xs : List V) : Prop := F a = some (.lst xs) ∨ KL K a xs

mutual
inductive Rep (K : PySem.W.Frag) (F : Hp) : V → D → Prop
  | non : Rep K F .non .non
  | bl (b : Bool) : Rep K F (.bl b) (.bl b)
  | int (i : Int) : Rep K F (.int i) (.int i)
  | str (x : Str) : Rep K F (.str x) (.str x)
  | ref (a : Addr) : Rep K F (.ref a) (.ref a)
  | ty (n : String) : Rep K F (.ty n) (.ty n)
  | lst {a : Addr} {vs : List V} {ds : List D} : FL K F a vs → Reps K F vs ds → Rep K F (.ref a) (.lst ds)
  | tup {a : Addr} {vs : List V} {ds : List D} : F a = some (.tup vs) → Reps K F vs ds → Rep K F (.ref a) (.tup ds)
  | dic {a : Addr} {kvs : List (Key × V)} {kds : List (Key × D)} : F a = some (.dK kvs) → KReps K F kvs kds → Rep K F (.ref a) (.dic kds)
inductive Reps (K : PySem.W.Frag) (F : Hp) : List V → List D → Prop
  | nil : Reps K F [] []
  | cons {v : V} {vs : List V} {d : D} {ds : List D} : Rep K F v d → Reps K F vs ds → Reps K F (v :: vs) (d :: ds)
inductive KReps (K : PySem.W.Frag) (F : Hp) : List (Key × V) → List (Key × D) → Prop
  | nil : KReps K F [] []
  | cons {k : Key} {v : V} {r : List (Key × V)} {d : D} {s : List (Key × D)} : Rep K F v d → KReps K F r s → KReps K F ((k, v) :: r) ((k, d) :: s)
end
inductive FReps (K : PySem.W.Frag) (F : Hp) : List (Str × V) → List (Str × D) → Prop
  | nil : FReps K F [] []
  | cons {k : Str} {v : V} {r : List (Str × V)} {d : D} {s : List (Str × D)} : Rep K F v d → FReps K F r s → FReps K F ((k, v) :: r) ((k, d) :: s)

theorem FL.mono {K : PySem.W.Frag} {F F' : Hp} (e : Same F F') {a : Addr} {xs : List V} (h : FL K F a xs) : FL K F' a xs := h.elim (fun z => .inl (e _ _ z)) .inr
mutual
theorem Rep.mono {K : PySem.W.Frag} {F F' : Hp} (e : Same F F') : ∀ {v : V} {d : D}, Rep K F v d → Rep K F' v d
  | _, _, .non => .non
  | _, _, .bl b => .bl b
  | _, _, .int i => .int i
  | _, _, .str x => .str x
  | _, _, .ref a => .ref a
  | _, _, .ty n => .ty n
  | _, _, .lst h r => .lst (h.mono e) (Reps.mono e r)
  | _, _, .tup h r => .tup (e _ _ h) (Reps.mono e r)
  | _, _, .dic h r => .dic (e _ _ h) (KReps.mono e r)
theorem Reps.mono {K : PySem.W.Frag} {F F' : Hp} (e : Same F F') : ∀ {vs : List V} {ds : List D}, Reps K F vs ds → Reps K F' vs ds
  | _, _, .nil => .nil
  | _, _, .cons h t => .cons (Rep.mono e h) (Reps.mono e t)
theorem KReps.mono {K : PySem.W.Frag} {F F' : Hp} (e : Same F F') : ∀ {vs : List (Key × V)} {ds : List (Key × D)}, KReps K F vs ds → KReps K F' vs ds
  | _, _, .nil => .nil
  | _, _, .cons h t => .cons (Rep.mono e h) (KReps.mono e t)
end
theorem FReps.mono {K : PySem.W.Frag} {F F' : Hp} (e : Same F F') : ∀ {vs : List (Str × V)} {ds : List (Str × D)}, FReps K F vs ds → FReps K F' vs ds
  | _, _, .nil => .nil
  | _, _, .cons h t => .cons (h.mono e) (FReps.mono e t)

section
variable {K : PySem.W.Frag} {F : Hp}
theorem Reps.length {vs : List V} {ds : List D} (h : Reps K F vs ds) : vs.length = ds.length := by
  induction ds generalizing vs with
  | nil => cases h; rfl
  | cons d ds ih => cases h with | cons a b => simp [ih b]
theorem Reps.get {vs : List V} {ds : List D} {i : Nat} {d : D} (h : Reps K F vs ds) (e : ds[i]? = some d) : ∃ v, vs[i]? = some v ∧ Rep K F v d := by
  induction ds generalizing vs i with
  | nil => simp at e
  | cons d0 ds ih =>
    cases h with
    | cons a b =>
      cases i with
      | zero => simp at e; subst e; exact ⟨_, rfl, a⟩
      | succ i => simp at e; obtain ⟨v, h1, h2⟩ := ih b e; exact ⟨v, by simpa using h1, h2⟩
theorem Reps.get' {vs : List V} {ds : List D} {i : Nat} {v : V} (h : Reps K F vs ds) (e : vs[i]? = some v) : ∃ d, ds[i]? = some d ∧ Rep K F v d := by
  have hl := h.length
  have hi := (List.getElem?_eq_some_iff.mp e).1
  obtain ⟨v', e', r⟩ := h.get (List.getElem?_eq_getElem (show i < ds.length by omega))
  rw [e] at e'; cases e'
  exact ⟨_, List.getElem?_eq_getElem (by omega), r⟩
theorem Reps.append {vs ws : List V} {ds es : List D} (h : Reps K F vs ds) (h' : Reps K F ws es) : Reps K F (vs ++ ws) (ds ++ es) := by
  induction ds generalizing vs with
  | nil => cases h; exact h'
  | cons d ds ih => cases h with | cons a b => exact .cons a (ih b)
theorem Reps.snoc {vs : List V} {ds : List D} {v : V} {d : D} (h : Reps K F vs ds) (h' : Rep K F v d) : Reps K F (vs ++ [v]) (ds ++ [d]) := h.append (.cons h' .nil)
theorem Reps.take {vs : List V} {ds : List D} (n : Nat) (h : Reps K F vs ds) : Reps K F (vs.take n) (ds.take n) := by
  induction n generalizing vs ds with
  | zero => simpa using Reps.nil
  | succ n ih => cases h with
    | nil => exact .nil
    | cons a b => exact .cons a (ih b)
theorem Reps.drop {vs : List V} {ds : List D} (n : Nat) (h : Reps K F vs ds) : Reps K F (vs.drop n) (ds.drop n) := by
  induction n generalizing vs ds with
  | zero => simpa using h
  | succ n ih => cases h with
    | nil => exact .nil
    | cons a b => exact ih b
theorem Reps.reverse {vs : List V} {ds : List D} (h : Reps K F vs ds) : Reps K F vs.reverse ds.reverse := by
  induction ds generalizing vs with
  | nil => cases h; exact .nil
  | cons d ds ih => cases h with | cons a b => simpa using (ih b).snoc a
theorem Reps.dropLast {vs : List V} {ds : List D} (h : Reps K F vs ds) : Reps K F vs.dropLast ds.dropLast := by
  rw [List.dropLast_eq_take, List.dropLast_eq_take, h.length]; exact h.take _
theorem Reps.eraseIdx {vs : List V} {ds : List D} (n : Nat) (h : Reps K F vs ds) : Reps K F (vs.eraseIdx n) (ds.eraseIdx n) := by
  rw [List.eraseIdx_eq_take_drop_succ, List.eraseIdx_eq_take_drop_succ]
  exact (h.take n).append (h.drop (n + 1))
theorem Reps.set {vs : List V} {ds : List D} {v : V} {d : D} (n : Nat) (h : Reps K F vs ds) (r : Rep K F v d) : Reps K F (vs.set n v) (ds.set n d) := by
  induction ds generalizing vs n with
  | nil => cases h; exact .nil
  | cons d0 ds ih => cases h with
    | cons a b => cases n with
      | zero => exact .cons r b
      | succ n => exact .cons a (ih n b)
theorem reps_ints : ∀ (ns : List Int), Reps K F (ns.map V.int) (ns.map D.int)
  | [] => .nil
  | n :: ns => .cons (.int n) (reps_ints ns)
theorem reps_strs : ∀ (ns : List Str), Reps K F (ns.map V.str) (ns.map D.str)
  | [] => .nil
  | n :: ns => .cons (.str n) (reps_strs ns)
theorem Rep.int_inv {v : V} {i : Int} (h : Rep K F v (.int i)) : v = .int i := by cases h; rfl
theorem Rep.str_inv {v : V} {i : Str} (h : Rep K F v (.str i)) : v = .str i := by cases h; rfl
theorem Rep.bl_inv {v : V} {i : Bool} (h : Rep K F v (.bl i)) : v = .bl i := by cases h; rfl
theorem Rep.non_inv {v : V} (h : Rep K F v .non) : v = .non := by cases h; rfl
theorem Rep.ref_inv {v : V} {a : Addr} (h : Rep K F v (.ref a)) : v = .ref a := by cases h; rfl
theorem Rep.ty_inv {v : V} {n : String} (h : Rep K F v (.ty n)) : v = .ty n := by cases h; rfl
theorem Reps.ints_inv : ∀ {ns : List Int} {vs : List V}, Reps K F vs (ns.map D.int) → vs = ns.map V.int
  | [], _, h => by cases h; rfl
  | n :: ns, _, h => by cases h with | cons a b => rw [a.int_inv, Reps.ints_inv b]; rfl
theorem Reps.strs_inv : ∀ {ns : List Str} {vs : List V}, Reps K F vs (ns.map D.str) → vs = ns.map V.str
  | [], _, h => by cases h; rfl
  | n :: ns, _, h => by cases h with | cons a b => rw [a.str_inv, Reps.strs_inv b]; rfl
theorem Reps.bls_inv : ∀ {ns : List Bool} {vs : List V}, Reps K F vs (ns.map D.bl) → vs = ns.map V.bl
  | [], _, h => by cases h; rfl
  | n :: ns, _, h => by cases h with | cons a b => rw [a.bl_inv, Reps.bls_inv b]; rfl

/-! dicts of data -/
def valD (kvs : List (Key × D)) (k : Key) : Option D := (kvs.find? fun kv => decide (kv.1 = k)).map (·.2)
def putD (kvs : List (Key × D)) (k : Key) (v : D) : List (Key × D) :=
  if kvs.any (fun kv => decide (kv.1 = k)) then kvs.map fun kv => if kv.1 = k then (kv.1, v) else kv else kvs ++ [(k, v)]
def dropD (kvs : List (Key × D)) (k : Key) : List (Key × D) := kvs.filter fun kv => decide (kv.1 ≠ k)
theorem KReps.length {vs : List (Key × V)} {ds : List (Key × D)} (h : KReps K F vs ds) : vs.length = ds.length := by
  induction ds generalizing vs with
  | nil => cases h; rfl
  | cons d ds ih => cases h with | cons a b => simp [ih b]
theorem KReps.keys {vs : List (Key × V)} {ds : List (Key × D)} (h : KReps K F vs ds) : vs.map (·.1) = ds.map (·.1) := by
  induction ds generalizing vs with
  | nil => cases h; rfl
  | cons d ds ih => cases h with | cons a b => simp [ih b]
theorem KReps.val {vs : List (Key × V)} {ds : List (Key × D)} (h : KReps K F vs ds) (k : Key) : (valV vs k = none ∧ valD ds k = none) ∨ ∃ v d, valV vs k = some v ∧ valD ds k = some d ∧ Rep K F v d := by
  induction ds generalizing vs with
  | nil => cases h; exact .inl ⟨rfl, rfl⟩
  | cons d ds ih =>
    cases h with
    | @cons k0 v r d s a b =>
      by_cases e : k0 = k
      · exact .inr ⟨v, d, by simp [valV, e], by simp [valD, e], a⟩
      · rcases ih b with ⟨h1, h2⟩ | ⟨v', d', h1, h2, h3⟩
        · refine .inl ⟨?_, ?_⟩
          · rw [valV_neg (by simpa using e)]; exact h1
          · simpa [valD, List.find?_cons, e] using h2
        · refine .inr ⟨v', d', ?_, ?_, h3⟩
          · rw [valV_neg (by simpa using e)]; exact h1
          · simpa [valD, List.find?_cons, e] using h2
theorem KReps.isSome {vs : List (Key × V)} {ds : List (Key × D)} (h : KReps K F vs ds) (k : Key) : (valV vs k).isSome = (valD ds k).isSome := by
  rcases h.val k with ⟨h1, h2⟩ | ⟨v, d, h1, h2, _⟩ <;> rw [h1, h2] <;> rfl
theorem KReps.any {vs : List (Key × V)} {ds : List (Key × D)} (h : KReps K F vs ds) (k : Key) : (vs.any fun kv => decide (kv.1 = k)) = (ds.any fun kv => decide (kv.1 = k)) := by
  induction ds generalizing vs with
  | nil => cases h; rfl
  | cons d ds ih => cases h with | cons a b => simp [ih b]
theorem KReps.append {vs ws : List (Key × V)} {ds es : List (Key × D)} (h : KReps K F vs ds) (h' : KReps K F ws es) : KReps K F (vs ++ ws) (ds ++ es) := by
  induction ds generalizing vs with
  | nil => cases h; exact h'
  | cons d ds ih => cases h with | cons a b => exact .cons a (ih b)
theorem KReps.put {vs : List (Key × V)} {ds : List (Key × D)} (h : KReps K F vs ds) (k : Key) {v : V} {d : D} (r : Rep K F v d) : KReps K F (putK vs k v) (putD ds k d) := by
  unfold putK putD
  rw [h.any k]
  by_cases e : (ds.any fun kv => decide (kv.1 = k)) = true
  · rw [if_pos e, if_pos e]
    clear e
    induction ds generalizing vs with
    | nil => cases h; exact .nil
    | cons d0 ds ih =>
      cases h with
      | @cons k0 v0 r0 d0 s0 a b =>
        by_cases e : k0 = k
        · simp only [List.map_cons, e, if_true]; exact .cons r (ih b)
        · simp only [List.map_cons, e, if_false]; exact .cons a (ih b)
  · rw [if_neg e, if_neg e]
    exact h.append (.cons r .nil)
theorem KReps.drop {vs : List (Key × V)} {ds : List (Key × D)} (h : KReps K F vs ds) (k : Key) : KReps K F (dropK vs k) (dropD ds k) := by
  unfold dropK dropD
  induction ds generalizing vs with
  | nil => cases h; exact .nil
  | cons d0 ds ih =>
    cases h with
    | @cons k0 v0 r0 d0 s0 a b =>
      by_cases e : k0 = k
      · simpa [List.filter_cons, e] using ih b
      · simpa [List.filter_cons, e] using KReps.cons (k := k0) a (ih b)
theorem KReps.get' {vs : List (Key × V)} {ds : List (Key × D)} {i : Nat} {k : Key} {d : D} (h : KReps K F vs ds) (e : ds[i]? = some (k, d)) : ∃ v, vs[i]? = some (k, v) ∧ Rep K F v d := by
  induction ds generalizing vs i with
  | nil => simp at e
  | cons d0 ds ih =>
    cases h with
    | cons a b =>
      cases i with
      | zero => simp at e; obtain ⟨e1, e2⟩ := e; subst e1; subst e2; exact ⟨_, rfl, a⟩
      | succ i => simp at e; obtain ⟨v, h1, h2⟩ := ih b e; exact ⟨v, by simpa using h1, h2⟩
end
end Gh
end

section
set_option Elab.async false
set_option linter.all false
set_option maxRecDepth 100000
set_option maxHeartbeats 4000000
namespace Gh
open PySem PySem.Spec PyProof.Rows L2

/-! ### what may still change -/
inductive GO where
  | lst (ds : List D) | dic (kds : List (Key × D)) | ins (C dx : Addr) (fs : List (Str × D)) | own (x : Addr) | lk (ob : Obj × HO) (g : GO)
abbrev Gs := Addr → Option GO
def gupd (G : Gs) (a : Addr) (g : GO) : Gs := fun b => if b = a then some g else G b
def gdel (G : Gs) (a : Addr) : Gs := fun b => if b = a then none else G b
theorem gupd_same {G : Gs} {a : Addr} {g : GO} : gupd G a g a = some g := by unfold gupd; rw [if_pos rfl]
theorem gupd_ne {G : Gs} {a b : Addr} {g : GO} (h : b ≠ a) : gupd G a g b = G b := by unfold gupd; rw [if_neg h]
theorem gdel_same {G : Gs} {a : Addr} : gdel G a a = none := by unfold gdel; rw [if_pos rfl]
theorem gdel_ne {G : Gs} {a b : Addr} (h : b ≠ a) : gdel G a b = G b := by unfold gdel; rw [if_neg h]
theorem gupd_gupd {G : Gs} {a : Addr} {g u : GO} : gupd (gupd G a g) a u = gupd G a u := by funext b; unfold gupd; split <;> rfl
theorem gupd_self {G : Gs} {a : Addr} {g : GO} (h : G a = some g) : gupd G a g = G := by funext b; unfold gupd; split <;> simp_all
theorem gne {G : Gs} {a b : Addr} {g : GO} (h : G a = some g) (h' : G b = none) : a ≠ b := by intro e; subst e; rw [h] at h'; cases h'
def GEx (G G' : Gs) : Prop := ∀ a g, G a = some g → G' a = some g
theorem GEx.refl (G : Gs) : GEx G G := fun _ _ h => h
theorem GEx.trans {A B C : Gs} (h : GEx A B) (h' : GEx B C) : GEx A C := fun a g e => h' a g (h a g e)
theorem GEx.none {A B : Gs} (h : GEx A B) {a : Addr} (e : B a = none) : A a = none := by
  cases q : A a with
  | none => rfl
  | some g => rw [h a g q] at e; cases e

inductive ORep (K : PySem.W.Frag) (F : Hp) : HO → GO → Prop
  | lst {vs : List V} {ds : List D} : Reps K F vs ds → ORep K F (.lst vs) (.lst ds)
  | dic {kvs : List (Key × V)} {kds : List (Key × D)} : KReps K F kvs kds → ORep K F (.dK kvs) (.dic kds)
  | ins {C dx : Addr} {fs : List (Str × V)} {gs : List (Str × D)} : FReps K F fs gs → ORep K F (.ins C dx fs) (.ins C dx gs)
  | own (x : Addr) : ORep K F (.own x) (.own x)
  | lk {ob : Obj} {o : HO} {g : GO} : ORep K F o g → ORep K F (.frz ob o) (.lk (ob, o) g)
def GO.isLk : GO → Bool := fun _ => false
theorem ORep.mono {K : PySem.W.Frag} {F F' : Hp} (e : Same F F') {o : HO} {g : GO} (h : ORep K F o g) : ORep K F' o g := by
  induction h with
  | lst h => exact .lst (h.mono e)
  | dic h => exact .dic (h.mono e)
  | ins h => exact .ins (h.mono e)
  | own x => exact .own x
  | lk _ ih => exact .lk ih

structure Abs (K : PySem.W.Frag) (F : Hp) (G : Gs) (H : Hp) : Prop where
  sub : ∀ a o, F a = some o → Rd H a o
  obj : ∀ a g, G a = some g → (g.isLk = false → F a = none) ∧ ∃ o, H a = some o ∧ ORep K F o g
theorem Abs.less {K : PySem.W.Frag} {F : Hp} {G G' : Gs} {H : Hp} (A : Abs K F G' H) (h : GEx G G') : Abs K F G H := ⟨A.sub, fun a g e => A.obj a g (h a g e)⟩
theorem Abs.fF {K : PySem.W.Frag} {F : Hp} {G : Gs} {H : Hp} (A : Abs K F G H) {p : Addr} (h : H p = none) : F p = none := by
  cases q : F p with
  | none => rfl
  | some o => rcases A.sub p o q with z | ⟨_, z⟩ <;> (rw [h] at z; cases z)
theorem Abs.fG {K : PySem.W.Frag} {F : Hp} {G : Gs} {H : Hp} (A : Abs K F G H) {p : Addr} (h : H p = none) : G p = none := by
  cases q : G p with
  | none => rfl
  | some g => obtain ⟨_, o, z, _⟩ := A.obj p g q; rw [h] at z; cases z
theorem same_new {H : Hp} {p : Addr} {o : HO} (h : H p = none) : Same H (upd H p o) := fun b x e => by
  rw [upd_ne (ne_of_none e h)]
  exact e
theorem rd_new {H : Hp} {p a : Addr} {o u : HO} (h : H p = none) (r : Rd H a u) : Rd (upd H p o) a u := by
  rcases r with z | ⟨ob, z⟩
  · exact .inl (same_new h _ _ z)
  · exact .inr ⟨ob, same_new h _ _ z⟩
/-- a new thing that is never changed -/
theorem Abs.newF {K : PySem.W.Frag} {F : Hp} {G : Gs} {H : Hp} (A : Abs K F G H) {p : Addr} {o : HO} (h : H p = none) : Abs K (upd F p o) G (upd H p o) := by
  have hF := A.fF h
  have hG := A.fG h
  refine ⟨fun a u e => ?_, fun a g e => ?_⟩
  · by_cases q : a = p
    · subst q; rw [upd_same] at e; cases e; exact .inl upd_same
    · rw [upd_ne q] at e; exact rd_new h (A.sub a u e)
  · obtain ⟨h1, o', h2, h3⟩ := A.obj a g e
    have q : a ≠ p := ne_of_none h2 h
    exact ⟨fun z => by rw [upd_ne q]; exact h1 z, o', by rw [upd_ne q]; exact h2, h3.mono (same_new hF)⟩
/-- a new thing that may be changed -/
theorem Abs.newG {K : PySem.W.Frag} {F : Hp} {G : Gs} {H : Hp} (A : Abs K F G H) {p : Addr} {o : HO} {g : GO} (h : H p = none) (r : ORep K F o g) : Abs K F (gupd G p g) (upd H p o) := by
  have hF := A.fF h
  refine ⟨fun a u e => rd_new h (A.sub a u e), fun a u e => ?_⟩
  by_cases q : a = p
  · subst q; rw [gupd_same] at e; cases e; exact ⟨fun _ => hF, o, upd_same, r⟩
  · rw [gupd_ne q] at e
    obtain ⟨h1, o', h2, h3⟩ := A.obj a u e
    exact ⟨h1, o', by rw [upd_ne q]; exact h2, h3⟩
/-- a thing that may be changed is changed -/
theorem Abs.put {K : PySem.W.Frag} {F : Hp} {G : Gs} {H : Hp} (A : Abs K F G H) {p : Addr} {o : HO} {g g' : GO} (h : G p = some g) (hk : g.isLk = false) (r : ORep K F o g') : Abs K F (gupd G p g') (upd H p o) := by
  obtain ⟨hF, o0, h0, _⟩ := A.obj p g h
  have hF := hF hk
  refine ⟨fun a u e => ?_, fun a u e => ?_⟩
  · have q : a ≠ p := ne_of_none e hF
    rcases A.sub a u e with z | ⟨ob, z⟩
    · exact .inl (by rw [upd_ne q]; exact z)
    · exact .inr ⟨ob, by rw [upd_ne q]; exact z⟩
  · by_cases q : a = p
    · subst q; rw [gupd_same] at e; cases e; exact ⟨fun _ => hF, o, upd_same, r⟩
    · rw [gupd_ne q] at e
      obtain ⟨h1, o', h2, h3⟩ := A.obj a u e
      exact ⟨h1, o', by rw [upd_ne q]; exact h2, h3⟩
/-- a thing is changed no longer -/
theorem Abs.frz {K : PySem.W.Frag} {F : Hp} {G : Gs} {H : Hp} (A : Abs K F G H) {p : Addr} {o : HO} {g : GO} (h : G p = some g) (hk : g.isLk = false) (ho : H p = some o) : Abs K (upd F p o) (gdel G p) H ∧ Same F (upd F p o) := by
  obtain ⟨hF, o0, h0, _⟩ := A.obj p g h
  have hF := hF hk
  refine ⟨⟨fun a u e => ?_, fun a u e => ?_⟩, same_new hF⟩
  · by_cases q : a = p
    · subst q; rw [upd_same] at e; cases e; exact .inl ho
    · rw [upd_ne q] at e; exact A.sub a u e
  · by_cases q : a = p
    · subst q; rw [gdel_same] at e; cases e
    · rw [gdel_ne q] at e
      obtain ⟨h1, o', h2, h3⟩ := A.obj a u e
      exact ⟨fun z => by rw [upd_ne q]; exact h1 z, o', h2, h3.mono (same_new hF)⟩

/-! ### where one stands: a family of contexts that agree in what matters -/
structure Ctx where
  ι : Type
  X : ι → Cx
  P : Program
  w : World
  K : PySem.W.Frag
  mg : Str → Option Value
  base : Heap
  N : List Str
  sc : Scope
  fn : Str → Bool
  k : Nat
  cm : Bool
  F0 : Hp
  R : Gs
  hP : ∀ i, (X i).prog = P
  hw : ∀ i, (X i).w = w
  hK : ∀ i, (X i).K = K
  hmg : ∀ i, (X i).mg = mg
  hbase : ∀ i, (X i).base = base
  hN : ∀ i, (X i).N = N
  hsc : ∀ i, (X i).env.scope = sc
  hfn : ∀ i, (X i).fn = fn
  hc : cm = true → ∀ i, (X i).calm = true ∧ Room k (X i).A
  hr : ∀ i, L2H.RoomH k (X i).A
class IsTrue (b : Bool) : Prop where
  h : b = true
instance : IsTrue true := ⟨rfl⟩
/-- not within an except suite -/
class Calm (Y : Ctx) : Prop where
  h : Y.cm = true
instance (priority := low) calmAny {Y : Ctx} [h : IsTrue Y.cm] : Calm Y := ⟨h.h⟩
theorem Calm.cm {Y : Ctx} [h : Calm Y] (i : Y.ι) : (Y.X i).calm = true := (Y.hc h.h i).1
theorem Calm.rm {Y : Ctx} [h : Calm Y] (i : Y.ι) : Room Y.k (Y.X i).A := (Y.hc h.h i).2

inductive SV where
  | unk | dat (d : D) | own (ds : List D) | ownd (kds : List (Key × D))
abbrev Rho := List SV
def SV.isOwn : SV → Bool
  | .own _ => true
  | .ownd _ => true
  | _ => false
def OwnAt (ρ : Rho) (i : Nat) : Prop := ∃ x, ρ[i]? = some x ∧ x.isOwn = true
def SvOk (K : PySem.W.Frag) (F : Hp) (G R Gl : Gs) (x : Option V) : SV → Prop
  | .unk => True
  | .dat d => ∃ v, x = some v ∧ Rep K F v d
  | .own ds => ∃ l, x = some (.ref l) ∧ Gl l = some (.lst ds) ∧ G l = none ∧ R l = none
  | .ownd kds => ∃ l, x = some (.ref l) ∧ Gl l = some (.dic kds) ∧ G l = none ∧ R l = none
theorem SvOk.mono {K : PySem.W.Frag} {F F' : Hp} {G R Gl : Gs} {x : Option V} {s : SV} (e : Same F F') (h : SvOk K F G R Gl x s) : SvOk K F' G R Gl x s := by
  cases s with
  | unk => trivial
  | dat d => obtain ⟨v, h1, h2⟩ := h; exact ⟨v, h1, h2.mono e⟩
  | own ds => exact h
  | ownd ds => exact h

structure Wd (Y : Ctx) (F : Hp) (R Gl G : Gs) (ρ : Rho) (σ : L2.St) (H : Hp) : Prop where
  f0 : Same Y.F0 F
  len : σ.length = ρ.length
  g : GEx G Gl
  r0 : GEx Y.R R
  r : GEx R Gl
  gr : ∀ a, G a = none ∨ R a = none
  sv : ∀ (i : Nat) (x : SV) (s : Option V), ρ[i]? = some x → σ[i]? = some s → SvOk Y.K F G R Gl s x
  inj : ∀ (i j : Nat) (l : Addr), OwnAt ρ i → OwnAt ρ j → σ[i]? = some (some (.ref l)) → σ[j]? = some (some (.ref l)) → i = j
  abs : Abs Y.K F Gl H

section
variable {Y : Ctx} {F F' : Hp} {R Gl Gl' G : Gs} {ρ : Rho} {σ : L2.St} {H : Hp}
theorem Wd.get (W : Wd Y F R Gl G ρ σ H) {i : Nat} {x : SV} (e : ρ[i]? = some x) : ∃ s, σ[i]? = some s ∧ SvOk Y.K F G R Gl s x := by
  have h1 := (List.getElem?_eq_some_iff.mp e).1
  have h2 : i < σ.length := by rw [W.len]; exact h1
  exact ⟨σ[i], List.getElem?_eq_getElem h2, W.sv i x _ e (List.getElem?_eq_getElem h2)⟩
theorem Wd.dat (W : Wd Y F R Gl G ρ σ H) {i : Nat} {d : D} (e : ρ[i]? = some (.dat d)) : ∃ v, σ[i]? = some (some v) ∧ Rep Y.K F v d := by
  obtain ⟨s, h1, v, h2, h3⟩ := W.get e
  subst h2
  exact ⟨v, h1, h3⟩
/-- an owned address -/
def Owned (ρ : Rho) (σ : L2.St) (l : Addr) : Prop := ∃ i, OwnAt ρ i ∧ σ[i]? = some (some (.ref l))
theorem Wd.owned (W : Wd Y F R Gl G ρ σ H) {l : Addr} (h : Owned ρ σ l) : ∃ g, Gl l = some g ∧ G l = none ∧ R l = none := by
  obtain ⟨i, ⟨x, e, o⟩, e2⟩ := h
  obtain ⟨s, h1, h2⟩ := W.get e
  rw [e2] at h1; cases h1
  cases x with
  | unk => cases o
  | dat d => cases o
  | own ds => obtain ⟨l', h3, h4, h5, h6⟩ := h2; cases h3; exact ⟨_, h4, h5, h6⟩
  | ownd ds => obtain ⟨l', h3, h4, h5, h6⟩ := h2; cases h3; exact ⟨_, h4, h5, h6⟩
/-- F grows, the full ghost heap changes at places that are of no slot, no G, no R -/
theorem Wd.step {H' : Hp} (W : Wd Y F R Gl G ρ σ H) (e : Same F F') (k : ∀ a g, Gl a = some g → (∃ u, G a = some u) ∨ (∃ u, R a = some u) ∨ Owned ρ σ a → Gl' a = some g) (A : Abs Y.K F' Gl' H') : Wd Y F' R Gl' G ρ σ H' := by
  refine ⟨fun a o z => e a o (W.f0 a o z), W.len, fun a u z => k a u (W.g a u z) (.inl ⟨u, z⟩), W.r0, fun a u z => k a u (W.r a u z) (.inr (.inl ⟨u, z⟩)), W.gr, fun i x s h1 h2 => ?_, W.inj, A⟩
  have q := W.sv i x s h1 h2
  cases x with
  | unk => trivial
  | dat d => obtain ⟨v, h3, h4⟩ := q; exact ⟨v, h3, h4.mono e⟩
  | own ds =>
    obtain ⟨l, h3, h4, h5, h6⟩ := q
    subst h3
    exact ⟨l, rfl, k l _ h4 (.inr (.inr ⟨i, ⟨_, h1, rfl⟩, h2⟩)), h5, h6⟩
  | ownd ds =>
    obtain ⟨l, h3, h4, h5, h6⟩ := q
    subst h3
    exact ⟨l, rfl, k l _ h4 (.inr (.inr ⟨i, ⟨_, h1, rfl⟩, h2⟩)), h5, h6⟩
theorem Wd.newF (W : Wd Y F R Gl G ρ σ H) {p : Addr} {o : HO} (h : H p = none) : Wd Y (upd F p o) R Gl G ρ σ (upd H p o) ∧ Same F (upd F p o) :=
  ⟨W.step (same_new (W.abs.fF h)) (fun _ _ z _ => z) (W.abs.newF h), same_new (W.abs.fF h)⟩
theorem Wd.fresh (W : Wd Y F R Gl G ρ σ H) {p : Addr} (h : H p = none) : F p = none ∧ Gl p = none ∧ G p = none ∧ R p = none ∧ ¬ Owned ρ σ p := by
  have h1 := W.abs.fG h
  refine ⟨W.abs.fF h, h1, W.g.none h1, W.r.none h1, fun z => ?_⟩
  obtain ⟨g, e, _⟩ := W.owned z
  rw [h1] at e; cases e
theorem Wd.newG (W : Wd Y F R Gl G ρ σ H) {p : Addr} {o : HO} {g : GO} (h : H p = none) (r : ORep Y.K F o g) : Wd Y F R (gupd Gl p g) G ρ σ (upd H p o) :=
  W.step (Same.refl F) (fun a u z _ => by rw [gupd_ne (gne z (W.fresh h).2.1)]; exact z) (W.abs.newG h r)
/-- what is fresh is changed no longer -/
theorem Wd.frz (W : Wd Y F R Gl G ρ σ H) {l : Addr} {g : GO} {o : HO} (h : Gl l = some g) (hk : g.isLk = false) (ho : H l = some o) (h1 : G l = none) (h2 : R l = none) (h3 : ¬ Owned ρ σ l) : Wd Y (upd F l o) R (gdel Gl l) G ρ σ H ∧ Same F (upd F l o) := by
  obtain ⟨A, e⟩ := W.abs.frz h hk ho
  refine ⟨W.step e (fun a u z q => ?_) A, e⟩
  have hne : a ≠ l := by
    rintro rfl
    rcases q with ⟨u, q⟩ | ⟨u, q⟩ | q
    · rw [h1] at q; cases q
    · rw [h2] at q; cases q
    · exact h3 q
  rw [gdel_ne hne]; exact z
theorem set_get {α : Type} {l : List α} {i j : Nat} {x y : α} (h : (l.set i x)[j]? = some y) : (j = i ∧ y = x) ∨ (j ≠ i ∧ l[j]? = some y) := by
  by_cases e : j = i
  · subst e
    by_cases hl : j < l.length
    · rw [List.getElem?_set_self hl] at h; exact .inl ⟨rfl, (Option.some.inj h).symm⟩
    · rw [List.getElem?_eq_none (by simpa using hl)] at h; cases h
  · rw [List.getElem?_set_ne (Ne.symm e)] at h; exact .inr ⟨e, h⟩
/-- a slot is stored -/
theorem Wd.set (W : Wd Y F R Gl G ρ σ H) {i : Nat} {x : SV} {s : Option V} (h : SvOk Y.K F G R Gl s x) (hi : x.isOwn = true → ∀ l, s = some (.ref l) → ∀ j, j ≠ i → OwnAt ρ j → σ[j]? ≠ some (some (.ref l))) : Wd Y F R Gl G (ρ.set i x) (σ.set i s) H := by
  refine ⟨W.f0, by rw [List.length_set, List.length_set]; exact W.len, W.g, W.r0, W.r, W.gr, fun j y t h1 h2 => ?_, fun j k l o1 o2 h1 h2 => ?_, W.abs⟩
  · rcases set_get h1 with ⟨e, e1⟩ | ⟨e, e1⟩
    · rcases set_get h2 with ⟨_, e2⟩ | ⟨e', _⟩
      · subst e1; subst e2; exact h
      · exact absurd e e'
    · rcases set_get h2 with ⟨e', _⟩ | ⟨_, e2⟩
      · exact absurd e' e
      · exact W.sv j y t e1 e2
  · obtain ⟨y1, a1, b1⟩ := o1
    obtain ⟨y2, a2, b2⟩ := o2
    rcases set_get a1 with ⟨e, e1⟩ | ⟨e, e1⟩
    · rcases set_get a2 with ⟨e', e1'⟩ | ⟨e', e1'⟩
      · rw [e, e']
      · exfalso
        rcases set_get h1 with ⟨_, e2⟩ | ⟨e3, _⟩
        · rcases set_get h2 with ⟨e4, _⟩ | ⟨_, e5⟩
          · exact e' e4
          · subst e1
            exact hi b1 l e2.symm k e' ⟨y2, e1', b2⟩ e5
        · exact e3 e
    · rcases set_get a2 with ⟨e', e1'⟩ | ⟨e', e1'⟩
      · exfalso
        rcases set_get h2 with ⟨_, e2⟩ | ⟨e3, _⟩
        · rcases set_get h1 with ⟨e4, _⟩ | ⟨_, e5⟩
          · exact e e4
          · subst e1'
            exact hi b2 l e2.symm j e ⟨y1, e1, b1⟩ e5
        · exact e3 e'
      · rcases set_get h1 with ⟨e4, _⟩ | ⟨_, e5⟩
        · exact absurd e4 e
        · rcases set_get h2 with ⟨e4, _⟩ | ⟨_, e6⟩
          · exact absurd e4 e'
          · exact W.inj j k l ⟨y1, e1, b1⟩ ⟨y2, e1', b2⟩ e5 e6
theorem Wd.setD (W : Wd Y F R Gl G ρ σ H) {i : Nat} {d : D} {v : V} (h : Rep Y.K F v d) : Wd Y F R Gl G (ρ.set i (.dat d)) (σ.set i (some v)) H :=
  W.set ⟨v, rfl, h⟩ fun q => by cases q
theorem Wd.unk (W : Wd Y F R Gl G ρ σ H) (i : Nat) (s : Option V) : Wd Y F R Gl G (ρ.set i .unk) (σ.set i s) H := W.set trivial fun q => by cases q
/-- a slot forgotten, as it is -/
theorem Wd.forget (W : Wd Y F R Gl G ρ σ H) (i : Nat) : Wd Y F R Gl G (ρ.set i .unk) σ H := by
  refine ⟨W.f0, by rw [List.length_set]; exact W.len, W.g, W.r0, W.r, W.gr, fun j y t h1 h2 => ?_, fun j k l o1 o2 h1 h2 => ?_, W.abs⟩
  · rcases set_get h1 with ⟨e, e1⟩ | ⟨e, e1⟩
    · subst e1; trivial
    · exact W.sv j y t e1 h2
  · obtain ⟨y1, a1, b1⟩ := o1
    obtain ⟨y2, a2, b2⟩ := o2
    rcases set_get a1 with ⟨e, e1⟩ | ⟨e, e1⟩
    · subst e1; cases b1
    · rcases set_get a2 with ⟨e', e1'⟩ | ⟨e', e1'⟩
      · subst e1'; cases b2
      · exact W.inj j k l ⟨y1, e1, b1⟩ ⟨y2, e1', b2⟩ h1 h2
/-- a slot's reading exchanged for another one of the same value, not owned -/
theorem Wd.reD (W : Wd Y F R Gl G ρ σ H) {i : Nat} {d : D} {v : V} (hv : σ[i]? = some (some v)) (h : Rep Y.K F v d) : Wd Y F R Gl G (ρ.set i (.dat d)) σ H := by
  have e : σ.set i (some v) = σ := by
    apply List.ext_getElem?
    intro j
    by_cases q : i = j
    · subst q
      rw [List.getElem?_set_self (List.getElem?_eq_some_iff.mp hv).1, hv]
    · rw [List.getElem?_set_ne q]
  have := W.setD (i := i) h
  rwa [e] at this
end

/-! ### reading a value -/
/-- v may be read as d, d a list or a dict that may still change -/
inductive Vw (Y : Ctx) (F : Hp) (G : Gs) (ρ : Rho) (σ : L2.St) : V → D → Prop
  | rep {v : V} {d : D} : Rep Y.K F v d → Vw Y F G ρ σ v d
  | gl {l : Addr} {ds : List D} : G l = some (.lst ds) → Vw Y F G ρ σ (.ref l) (.lst ds)
  | gll {l : Addr} {ob : Obj × HO} {ds : List D} : G l = some (.lk ob (.lst ds)) → Vw Y F G ρ σ (.ref l) (.lst ds)
  | gd {l : Addr} {ds : List (Key × D)} : G l = some (.dic ds) → Vw Y F G ρ σ (.ref l) (.dic ds)
  | gdl {l : Addr} {ob : Obj × HO} {ds : List (Key × D)} : G l = some (.lk ob (.dic ds)) → Vw Y F G ρ σ (.ref l) (.dic ds)
  | ol {i : Nat} {l : Addr} {ds : List D} : ρ[i]? = some (.own ds) → σ[i]? = some (some (.ref l)) → Vw Y F G ρ σ (.ref l) (.lst ds)
  | od {i : Nat} {l : Addr} {ds : List (Key × D)} : ρ[i]? = some (.ownd ds) → σ[i]? = some (some (.ref l)) → Vw Y F G ρ σ (.ref l) (.dic ds)
/-- the same by the ghost value -/
def ViewD (G : Gs) (d d' : D) : Prop :=
  d = d' ∨ (∃ l ds, d = .ref l ∧ (G l = some (.lst ds) ∨ ∃ ob, G l = some (.lk ob (.lst ds))) ∧ d' = .lst ds) ∨ ∃ l ds, d = .ref l ∧ (G l = some (.dic ds) ∨ ∃ ob, G l = some (.lk ob (.dic ds))) ∧ d' = .dic ds
theorem ViewD.rfl {G : Gs} {d : D} : ViewD G d d := .inl (Eq.refl _)
section
variable {Y : Ctx} {F F' : Hp} {R Gl Gl' G : Gs} {ρ : Rho} {σ : L2.St} {H : Hp} {v : V}
theorem Vw.mono {d : D} (e : Same F F') (h : Vw Y F G ρ σ v d) : Vw Y F' G ρ σ v d := by
  cases h with
  | rep h => exact .rep (h.mono e)
  | gl h => exact .gl h
  | gll h => exact .gll h
  | gd h => exact .gd h
  | gdl h => exact .gdl h
  | ol h h' => exact .ol h h'
  | od h h' => exact .od h h'
theorem Vw.of {d d' : D} (r : Rep Y.K F v d) (h : ViewD G d d') : Vw Y F G ρ σ v d' := by
  rcases h with rfl | ⟨l, ds, rfl, h, rfl⟩ | ⟨l, ds, rfl, h, rfl⟩
  · exact .rep r
  · rw [r.ref_inv]; rcases h with h | ⟨ob, h⟩
    · exact .gl h
    · exact .gll h
  · rw [r.ref_inv]; rcases h with h | ⟨ob, h⟩
    · exact .gd h
    · exact .gdl h
theorem FL.sq (A : Abs Y.K F Gl H) {a : Addr} {vs : List V} (h : FL Y.K F a vs) : SqL Y.K H a vs := by
  rcases h with h | h
  · exact .inl (A.sub a _ h)
  · exact .inr h
theorem Wd.lstV (W : Wd Y F R Gl G ρ σ H) {ds : List D} (h : Vw Y F G ρ σ v (.lst ds)) : ∃ a vs, v = .ref a ∧ SqL Y.K H a vs ∧ Reps Y.K F vs ds := by
  have go : ∀ {l : Addr} {g : GO}, Gl l = some g → (g = .lst ds ∨ ∃ ob, g = .lk ob (.lst ds)) → ∃ vs, SqL Y.K H l vs ∧ Reps Y.K F vs ds := fun {l g} e q => by
    obtain ⟨_, o, ho, r⟩ := W.abs.obj l g e
    rcases q with rfl | ⟨ob, rfl⟩
    · cases r with | lst r => exact ⟨_, .inl (.inl ho), r⟩
    · cases r with | lk r => cases r with | lst r => exact ⟨_, .inl (.inr ⟨_, ho⟩), r⟩
  cases h with
  | rep h => cases h with | lst h r => exact ⟨_, _, rfl, FL.sq W.abs h, r⟩
  | gl h => obtain ⟨vs, h1, h2⟩ := go (W.g _ _ h) (.inl rfl); exact ⟨_, vs, rfl, h1, h2⟩
  | gll h => obtain ⟨vs, h1, h2⟩ := go (W.g _ _ h) (.inr ⟨_, rfl⟩); exact ⟨_, vs, rfl, h1, h2⟩
  | ol h h' =>
    obtain ⟨s, e, l', e2, e3, _⟩ := W.get h
    rw [h'] at e; cases e; cases e2
    obtain ⟨vs, h1, h2⟩ := go e3 (.inl rfl)
    exact ⟨_, vs, rfl, h1, h2⟩
theorem Wd.dicV (W : Wd Y F R Gl G ρ σ H) {ds : List (Key × D)} (h : Vw Y F G ρ σ v (.dic ds)) : ∃ a vs, v = .ref a ∧ Rd H a (.dK vs) ∧ KReps Y.K F vs ds := by
  have go : ∀ {l : Addr} {g : GO}, Gl l = some g → (g = .dic ds ∨ ∃ ob, g = .lk ob (.dic ds)) → ∃ vs, Rd H l (.dK vs) ∧ KReps Y.K F vs ds := fun {l g} e q => by
    obtain ⟨_, o, ho, r⟩ := W.abs.obj l g e
    rcases q with rfl | ⟨ob, rfl⟩
    · cases r with | dic r => exact ⟨_, .inl ho, r⟩
    · cases r with | lk r => cases r with | dic r => exact ⟨_, .inr ⟨_, ho⟩, r⟩
  cases h with
  | rep h => cases h with | dic h r => exact ⟨_, _, rfl, W.abs.sub _ _ h, r⟩
  | gd h => obtain ⟨vs, h1, h2⟩ := go (W.g _ _ h) (.inl rfl); exact ⟨_, vs, rfl, h1, h2⟩
  | gdl h => obtain ⟨vs, h1, h2⟩ := go (W.g _ _ h) (.inr ⟨_, rfl⟩); exact ⟨_, vs, rfl, h1, h2⟩
  | od h h' =>
    obtain ⟨s, e, l', e2, e3, _⟩ := W.get h
    rw [h'] at e; cases e; cases e2
    obtain ⟨vs, h1, h2⟩ := go e3 (.inl rfl)
    exact ⟨_, vs, rfl, h1, h2⟩
theorem Wd.tupV (W : Wd Y F R Gl G ρ σ H) {ds : List D} (h : Vw Y F G ρ σ v (.tup ds)) : ∃ a vs, v = .ref a ∧ SqT Y.K H a vs ∧ Reps Y.K F vs ds := by
  cases h with
  | rep h => cases h with | tup h r => exact ⟨_, _, rfl, .inl (W.abs.sub _ _ h), r⟩
theorem Vw.int_inv {i : Int} (h : Vw Y F G ρ σ v (.int i)) : v = .int i := by cases h with | rep h => exact h.int_inv
theorem Vw.str_inv {i : Str} (h : Vw Y F G ρ σ v (.str i)) : v = .str i := by cases h with | rep h => exact h.str_inv
theorem Vw.bl_inv {i : Bool} (h : Vw Y F G ρ σ v (.bl i)) : v = .bl i := by cases h with | rep h => exact h.bl_inv
theorem Vw.non_inv (h : Vw Y F G ρ σ v .non) : v = .non := by cases h with | rep h => exact h.non_inv
end
end Gh
end

section
set_option Elab.async false
set_option linter.all false
set_option maxRecDepth 100000
set_option maxHeartbeats 4000000
namespace Gh
open PySem PySem.Spec PyProof.Rows L2

/-! ### the readings as wide as they can be -/
def wE (Y : Ctx) (e : Expr) : TE := fun σ H Q => ∀ i pins s, Inv (Y.X i) pins σ H s → wpAny (model (Y.X i).prog (Y.X i).w) (Y.X i).A (eval e (Y.X i).env) (EP (Y.X i) pins σ Q) (Y.X i).xe s
def wT (Y : Ctx) (e : Expr) : TT := fun σ H Q => ∀ i pins s, Inv (Y.X i) pins σ H s → wpAny (model (Y.X i).prog (Y.X i).w) (Y.X i).A (isTrue e (Y.X i).env (eval e (Y.X i).env)) (TP (Y.X i) pins σ Q) (Y.X i).xe s
def wW (Y : Ctx) (e : Expr) : TT := fun σ H Q => ∀ i whole pins s, Inv (Y.X i) pins σ H s → wpAny (model (Y.X i).prog (Y.X i).w) (Y.X i).A (isTrue e (Y.X i).env whole) (TP (Y.X i) pins σ Q) (Y.X i).xe s
def wA (Y : Ctx) (es : List Expr) : TA := fun σ H Q => ∀ i pos pins s, Inv (Y.X i) pins σ H s → wpAny (model (Y.X i).prog (Y.X i).w) (Y.X i).A (spliced (backTo pos (starEach es (Y.X i).env))) (AP (Y.X i) pins σ Q) (Y.X i).xe s
def wC (Y : Ctx) (op : CmpOp) (a b : Expr) : TE := fun σ H Q => ∀ i pins s, Inv (Y.X i) pins σ H s →
  wpAny (model (Y.X i).prog (Y.X i).w) (Y.X i).A (eval a (Y.X i).env) (fun v s₁ => wpAny (model (Y.X i).prog (Y.X i).w) (Y.X i).A (eval b (Y.X i).env) (fun u s₂ => wpAny (model (Y.X i).prog (Y.X i).w) (Y.X i).A (compareOp op v u) (EP (Y.X i) pins σ Q) (Y.X i).xe s₂) (Y.X i).xe s₁) (Y.X i).xe s
def wO (Y : Ctx) (e : Option Expr) (t : TO) : Prop := ∀ i, PO (Y.X i) e t
section
variable {Y : Ctx}
theorem wE.pe {e : Expr} (i : Y.ι) : PE (Y.X i) e (wE Y e) := ⟨fun pins s σ H Q I h => h i pins s I⟩
theorem wE.of {e : Expr} {t : TE} {σ : L2.St} {H : Hp} {Q : VK} (h : ∀ i, PE (Y.X i) e t) (q : t σ H Q) : wE Y e σ H Q := fun i pins s I => (h i).run pins s σ H Q I q
theorem wT.pt {e : Expr} (i : Y.ι) : PT (Y.X i) e (wT Y e) := ⟨fun pins s σ H Q I h => h i pins s I⟩
theorem wT.of {e : Expr} {t : TT} {σ : L2.St} {H : Hp} {Q : Bool → Hp → Prop} (h : ∀ i, PT (Y.X i) e t) (q : t σ H Q) : wT Y e σ H Q := fun i pins s I => (h i).run pins s σ H Q I q
theorem wW.pw {e : Expr} (i : Y.ι) : PW (Y.X i) e (wW Y e) := ⟨fun wh pins s σ H Q I h => h i wh pins s I⟩
theorem wW.of {e : Expr} {t : TT} {σ : L2.St} {H : Hp} {Q : Bool → Hp → Prop} (h : ∀ i, PW (Y.X i) e t) (q : t σ H Q) : wW Y e σ H Q := fun i wh pins s I => (h i).run wh pins s σ H Q I q
theorem wA.pa {e : List Expr} (i : Y.ι) : PA (Y.X i) e (wA Y e) := ⟨fun pos pins s σ H Q I h => h i pos pins s I⟩
theorem wA.of {e : List Expr} {t : TA} {σ : L2.St} {H : Hp} {Q : List V → Hp → Prop} (h : ∀ i, PA (Y.X i) e t) (q : t σ H Q) : wA Y e σ H Q := fun i pos pins s I => (h i).run pos pins s σ H Q I q
theorem wC.pc {op : CmpOp} {a b : Expr} (i : Y.ι) : PC (Y.X i) op a b (wC Y op a b) := ⟨fun pins s σ H Q I h => h i pins s I⟩
theorem wC.of {op : CmpOp} {a b : Expr} {t : TE} {σ : L2.St} {H : Hp} {Q : VK} (h : ∀ i, PC (Y.X i) op a b t) (q : t σ H Q) : wC Y op a b σ H Q := fun i pins s I => (h i).run pins s σ H Q I q
theorem ep_imp {X : Cx} {pins : List (Addr × Obj)} {σ : L2.St} {Q Q' : VK} {u : Value} {s : Shared} (h : EP X pins σ Q u s) (q : ∀ v H', Q v H' → Q' v H') : EP X pins σ Q' u s :=
  let ⟨v, H', I, r, z⟩ := h; ⟨v, H', I, r, q _ _ z⟩
theorem wE.mono {e : Expr} {σ : L2.St} {H : Hp} {Q Q' : VK} (h : wE Y e σ H Q) (q : ∀ v H', Q v H' → Q' v H') : wE Y e σ H Q' := fun i pins s I => thn (h i pins s I) fun _ _ z => (ep_imp z q)
theorem wT.mono {e : Expr} {σ : L2.St} {H : Hp} {Q Q' : Bool → Hp → Prop} (h : wT Y e σ H Q) (q : ∀ v H', Q v H' → Q' v H') : wT Y e σ H Q' := fun i pins s I => thn (h i pins s I) fun _ _ ⟨H', I, z⟩ => ⟨H', I, q _ _ z⟩
theorem wW.mono {e : Expr} {σ : L2.St} {H : Hp} {Q Q' : Bool → Hp → Prop} (h : wW Y e σ H Q) (q : ∀ v H', Q v H' → Q' v H') : wW Y e σ H Q' := fun i wh pins s I => thn (h i wh pins s I) fun _ _ ⟨H', I, z⟩ => ⟨H', I, q _ _ z⟩
theorem wA.mono {e : List Expr} {σ : L2.St} {H : Hp} {Q Q' : List V → Hp → Prop} (h : wA Y e σ H Q) (q : ∀ v H', Q v H' → Q' v H') : wA Y e σ H Q' := fun i pos pins s I => thn (h i pos pins s I) fun _ _ ⟨vs, H', I, r, z⟩ => ⟨vs, H', I, r, q _ _ z⟩
theorem wC.mono {op : CmpOp} {a b : Expr} {σ : L2.St} {H : Hp} {Q Q' : VK} (h : wC Y op a b σ H Q) (q : ∀ v H', Q v H' → Q' v H') : wC Y op a b σ H Q' := fun i pins s I => thn (h i pins s I) fun _ _ z => thn z fun _ _ z => thn z fun _ _ z => (ep_imp z q)
end

/-! ### what is said of an expression -/
def PR (Y : Ctx) (F : Hp) (R G : Gs) (ρ : Rho) (σ : L2.St) (d : D) : VK := fun v H' => ∃ F' Gl', Same F F' ∧ Wd Y F' R Gl' G ρ σ H' ∧ Rep Y.K F' v d
def PVw (Y : Ctx) (F : Hp) (R G : Gs) (ρ : Rho) (σ : L2.St) (d : D) : VK := fun v H' => ∃ F' Gl', Same F F' ∧ Wd Y F' R Gl' G ρ σ H' ∧ Vw Y F' G ρ σ v d
/-- a new thing, of nobody else -/
def PN (Y : Ctx) (F : Hp) (R G : Gs) (ρ : Rho) (σ : L2.St) (g : GO) : VK := fun v H' => ∃ F' Gl' l, v = .ref l ∧ Same F F' ∧ Wd Y F' R Gl' G ρ σ H' ∧ Gl' l = some g ∧ G l = none ∧ R l = none ∧ ¬ Owned ρ σ l
def PB (Y : Ctx) (F : Hp) (R G : Gs) (ρ : Rho) (σ : L2.St) (b : Bool) : Bool → Hp → Prop := fun b' H' => b' = b ∧ ∃ F' Gl', Same F F' ∧ Wd Y F' R Gl' G ρ σ H'
def PG2 (Y : Ctx) (F : Hp) (R : Gs) (ρ : Rho) (σ : L2.St) (P : D → Gs → Prop) : VK := fun v H' => ∃ F' Gl' G' d, Same F F' ∧ Wd Y F' R Gl' G' ρ σ H' ∧ Rep Y.K F' v d ∧ P d G'
structure GE (Y : Ctx) (e : Expr) (ρ : Rho) (G : Gs) (d : D) : Prop where
  run : ∀ F R Gl σ H, Wd Y F R Gl G ρ σ H → wE Y e σ H (PR Y F R G ρ σ d)
structure GV (Y : Ctx) (e : Expr) (ρ : Rho) (G : Gs) (d : D) : Prop where
  run : ∀ F R Gl σ H, Wd Y F R Gl G ρ σ H → wE Y e σ H (PVw Y F R G ρ σ d)
structure GN (Y : Ctx) (e : Expr) (ρ : Rho) (G : Gs) (g : GO) : Prop where
  run : ∀ F R Gl σ H, Wd Y F R Gl G ρ σ H → wE Y e σ H (PN Y F R G ρ σ g)
structure GT (Y : Ctx) (e : Expr) (ρ : Rho) (G : Gs) (b : Bool) : Prop where
  run : ∀ F R Gl σ H, Wd Y F R Gl G ρ σ H → wT Y e σ H (PB Y F R G ρ σ b)
structure GTW (Y : Ctx) (e : Expr) (ρ : Rho) (G : Gs) (b : Bool) : Prop where
  run : ∀ F R Gl σ H, Wd Y F R Gl G ρ σ H → wW Y e σ H (PB Y F R G ρ σ b)
structure GC (Y : Ctx) (op : CmpOp) (a b : Expr) (ρ : Rho) (G : Gs) (d : D) : Prop where
  run : ∀ F R Gl σ H, Wd Y F R Gl G ρ σ H → wC Y op a b σ H (PR Y F R G ρ σ d)
/-- with what it does to G -/
structure GW (Y : Ctx) (e : Expr) (ρ : Rho) (G : Gs) (P : D → Gs → Prop) : Prop where
  run : ∀ F R Gl σ H, Wd Y F R Gl G ρ σ H → wE Y e σ H (PG2 Y F R ρ σ P)
inductive Vws (Y : Ctx) (F : Hp) (G : Gs) (ρ : Rho) (σ : L2.St) : List V → List D → Prop
  | nil : Vws Y F G ρ σ [] []
  | cons {v : V} {vs : List V} {d : D} {ds : List D} : Vw Y F G ρ σ v d → Vws Y F G ρ σ vs ds → Vws Y F G ρ σ (v :: vs) (d :: ds)
theorem Vws.mono {Y : Ctx} {F F' : Hp} {G : Gs} {ρ : Rho} {σ : L2.St} (e : Same F F') : ∀ {vs : List V} {ds : List D}, Vws Y F G ρ σ vs ds → Vws Y F' G ρ σ vs ds
  | _, _, .nil => .nil
  | _, _, .cons h t => .cons (h.mono e) (t.mono e)
/-- arguments: by readings, by values -/
structure GA (Y : Ctx) (es : List Expr) (ρ : Rho) (G : Gs) (ds : List D) : Prop where
  run : ∀ F R Gl σ H, Wd Y F R Gl G ρ σ H → wA Y es σ H fun vs H' => ∃ F' Gl', Same F F' ∧ Wd Y F' R Gl' G ρ σ H' ∧ Vws Y F' G ρ σ vs ds
structure GR (Y : Ctx) (es : List Expr) (ρ : Rho) (G : Gs) (ds : List D) : Prop where
  run : ∀ F R Gl σ H, Wd Y F R Gl G ρ σ H → wA Y es σ H fun vs H' => ∃ F' Gl', Same F F' ∧ Wd Y F' R Gl' G ρ σ H' ∧ Reps Y.K F' vs ds

section
variable {Y : Ctx} {ρ : Rho} {G : Gs} {a b c e : Expr} {es : List Expr} {d d' d1 d2 d3 : D} {ds : List D} {pos p : Pos}
theorem PR.up {F F' : Hp} {σ : L2.St} {v : V} {H : Hp} (s : Same F F') (h : PR Y F' R G ρ σ d v H) : PR Y F R G ρ σ d v H :=
  let ⟨A, B, x, y⟩ := h; ⟨A, B, s.trans x, y⟩
theorem PVw.up {F F' : Hp} {σ : L2.St} {v : V} {H : Hp} (s : Same F F') (h : PVw Y F' R G ρ σ d v H) : PVw Y F R G ρ σ d v H :=
  let ⟨A, B, x, y⟩ := h; ⟨A, B, s.trans x, y⟩
theorem PN.up {F F' : Hp} {σ : L2.St} {v : V} {H : Hp} {g : GO} (s : Same F F') (h : PN Y F' R G ρ σ g v H) : PN Y F R G ρ σ g v H :=
  let ⟨A, B, C, z, x, y⟩ := h; ⟨A, B, C, z, s.trans x, y⟩
theorem PB.up {F F' : Hp} {σ : L2.St} {v w : Bool} {H : Hp} (s : Same F F') (h : PB Y F' R G ρ σ w v H) : PB Y F R G ρ σ w v H :=
  let ⟨z, A, B, x, y⟩ := h; ⟨z, A, B, s.trans x, y⟩
theorem PG2.up {F F' : Hp} {σ : L2.St} {v : V} {H : Hp} {P : D → Gs → Prop} (s : Same F F') (h : PG2 Y F' R ρ σ P v H) : PG2 Y F R ρ σ P v H :=
  let ⟨A, B, C, E, x, y⟩ := h; ⟨A, B, C, E, s.trans x, y⟩
theorem gv_ge (h : GE Y e ρ G d) : GV Y e ρ G d := ⟨fun F R Gl σ H W => (h.run F R Gl σ H W).mono fun v H' ⟨F', Gl', s, W', r⟩ => ⟨F', Gl', s, W', .rep r⟩⟩
theorem gv_view (h : GE Y e ρ G d) (q : ViewD G d d') : GV Y e ρ G d' := ⟨fun F R Gl σ H W => (h.run F R Gl σ H W).mono fun v H' ⟨F', Gl', s, W', r⟩ => ⟨F', Gl', s, W', .of r q⟩⟩
/-- a thing of nobody else is read: it lies frozen -/
theorem PN.fz {F : Hp} {σ : L2.St} {v : V} {H : Hp} {ds : List D} (h : PN Y F R G ρ σ (.lst ds) v H) : PR Y F R G ρ σ (.lst ds) v H := by
  obtain ⟨F', Gl', l, rfl, s, W, h1, h2, h3, h4⟩ := h
  obtain ⟨_, o, ho, r⟩ := W.abs.obj l _ h1
  cases r with
  | lst r =>
    obtain ⟨W', s'⟩ := W.frz h1 rfl ho h2 h3 h4
    exact ⟨_, _, s.trans s', W', .lst (.inl upd_same) (r.mono s')⟩
theorem PN.fzd {F : Hp} {σ : L2.St} {v : V} {H : Hp} {ds : List (Key × D)} (h : PN Y F R G ρ σ (.dic ds) v H) : PR Y F R G ρ σ (.dic ds) v H := by
  obtain ⟨F', Gl', l, rfl, s, W, h1, h2, h3, h4⟩ := h
  obtain ⟨_, o, ho, r⟩ := W.abs.obj l _ h1
  cases r with
  | dic r =>
    obtain ⟨W', s'⟩ := W.frz h1 rfl ho h2 h3 h4
    exact ⟨_, _, s.trans s', W', .dic upd_same (r.mono s')⟩
theorem ge_n (h : GN Y e ρ G (.lst ds)) : GE Y e ρ G (.lst ds) := ⟨fun F R Gl σ H W => (h.run F R Gl σ H W).mono fun v H' q => q.fz⟩
theorem ge_nd {ds : List (Key × D)} (h : GN Y e ρ G (.dic ds)) : GE Y e ρ G (.dic ds) := ⟨fun F R Gl σ H W => (h.run F R Gl σ H W).mono fun v H' q => q.fzd⟩
theorem ge_is (h : GE Y e ρ G d) (q : d = d') : GE Y e ρ G d' := q ▸ h
theorem gv_is (h : GV Y e ρ G d) (q : d = d') : GV Y e ρ G d' := q ▸ h
theorem gn_is {g g' : GO} (h : GN Y e ρ G g) (q : g = g') : GN Y e ρ G g' := q ▸ h
theorem gt_is {x y : Bool} (h : GT Y e ρ G x) (q : x = y) : GT Y e ρ G y := q ▸ h
theorem gw_ge {P : D → Gs → Prop} (h : GE Y e ρ G d) (q : P d G) : GW Y e ρ G P := ⟨fun F R Gl σ H W => (h.run F R Gl σ H W).mono fun v H' ⟨F', Gl', s, W', r⟩ => ⟨F', Gl', G, d, s, W', r, q⟩⟩
theorem gw_mono {P P' : D → Gs → Prop} (h : GW Y e ρ G P) (q : ∀ d G', P d G' → P' d G') : GW Y e ρ G P' := ⟨fun F R Gl σ H W => (h.run F R Gl σ H W).mono fun v H' ⟨F', Gl', G', d, s, W', r, z⟩ => ⟨F', Gl', G', d, s, W', r, q _ _ z⟩⟩
theorem ge_gw (h : GW Y e ρ G fun d' G' => d' = d ∧ G' = G) : GE Y e ρ G d := ⟨fun F R Gl σ H W => (h.run F R Gl σ H W).mono fun v H' ⟨F', Gl', G', d, s, W', r, z⟩ => by
  obtain ⟨rfl, rfl⟩ := z
  exact ⟨F', Gl', s, W', r⟩⟩

/-! names, constants -/
theorem vis_i {x : Str} (h : Vis Y.sc x) (i : Y.ι) : Vis (Y.X i).env.scope x := by rw [Y.hsc i]; exact h
theorem gl_i {x : Str} (h : Y.sc.names.lookup x = some .globalImplicit) (i : Y.ι) : Gl (Y.X i) x := by show (Y.X i).env.scope.names.lookup x = _; rw [Y.hsc i]; exact h
theorem nm_i {i : Y.ι} {j : Nat} {x : Str} (h : Y.N[j]? = some x) : (Y.X i).N[j]? = some x := by rw [Y.hN i]; exact h
theorem mg_i {x : Str} {o : Option Value} (h : Y.mg x = o) (i : Y.ι) : (Y.X i).mg x = o := by rw [Y.hmg i]; exact h
theorem hu_i (i : Y.ι) : (Y.X i).A.units + 64 < cLine := by have := (Y.hr i).un; omega
theorem hu1_i (i : Y.ι) : (Y.X i).A.units + 1 < cLine := by have := (Y.hr i).un; omega
theorem var_pe {x : Str} {j : Nat} (hN : Y.N[j]? = some x) (hv : Vis Y.sc x) (hd : (x == ("__debug__" : Str)) = false) (hcd : (x == ("__classdict__" : Str)) = false) (i : Y.ι) : PE (Y.X i) (.Name x p) (tVar j) := pe_var (nm_i hN) (vis_i hv i) hd hcd
theorem ge_var (j : Nat) {x : Str} (h : ρ[j]? = some (.dat d)) (hN : Y.N[j]? = some x := by rfl) (hv : Vis Y.sc x := by first | exact Or.inl rfl | exact Or.inr (Or.inl rfl) | exact Or.inr (Or.inr rfl)) (hd : (x == ("__debug__" : Str)) = false := by decide) (hcd : (x == ("__classdict__" : Str)) = false := by decide) :
    GE Y (.Name x p) ρ G d := ⟨fun F R Gl σ H W => by
  obtain ⟨v, h1, h2⟩ := W.dat h
  exact wE.of (var_pe hN hv hd hcd) ⟨v, h1, F, Gl, Same.refl F, W, h2⟩⟩
theorem gv_own (j : Nat) {x : Str} (h : ρ[j]? = some (.own ds)) (hN : Y.N[j]? = some x := by rfl) (hv : Vis Y.sc x := by first | exact Or.inl rfl | exact Or.inr (Or.inl rfl) | exact Or.inr (Or.inr rfl)) (hd : (x == ("__debug__" : Str)) = false := by decide) (hcd : (x == ("__classdict__" : Str)) = false := by decide) :
    GV Y (.Name x p) ρ G (.lst ds) := ⟨fun F R Gl σ H W => by
  obtain ⟨s, h1, l, h2, h3⟩ := W.get h
  subst h2
  exact wE.of (var_pe hN hv hd hcd) ⟨_, h1, F, Gl, Same.refl F, W, .ol h h1⟩⟩
theorem gv_ownd (j : Nat) {x : Str} {ds : List (Key × D)} (h : ρ[j]? = some (.ownd ds)) (hN : Y.N[j]? = some x := by rfl) (hv : Vis Y.sc x := by first | exact Or.inl rfl | exact Or.inr (Or.inl rfl) | exact Or.inr (Or.inr rfl)) (hd : (x == ("__debug__" : Str)) = false := by decide) (hcd : (x == ("__classdict__" : Str)) = false := by decide) :
    GV Y (.Name x p) ρ G (.dic ds) := ⟨fun F R Gl σ H W => by
  obtain ⟨s, h1, l, h2, h3⟩ := W.get h
  subst h2
  exact wE.of (var_pe hN hv hd hcd) ⟨_, h1, F, Gl, Same.refl F, W, .od h h1⟩⟩
theorem ge_c {v : V} {ex : Expr} (h : ∀ i, PE (Y.X i) ex (tC v)) (r : ∀ F, Rep Y.K F v d) : GE Y ex ρ G d := ⟨fun F R Gl σ H W => wE.of h ⟨F, Gl, Same.refl F, W, r F⟩⟩
theorem ge_int {i : Int} {j : Nat} : GE Y (.Constant (.int i) j pos) ρ G (.int i) := ge_c (fun _ => pe_int) fun _ => .int i
theorem ge_bl {i : Bool} {j : Nat} : GE Y (.Constant (.bool i) j pos) ρ G (.bl i) := ge_c (fun _ => pe_bl) fun _ => .bl i
theorem ge_non {j : Nat} : GE Y (.Constant .none j pos) ρ G .non := ge_c (fun _ => pe_non) fun _ => .non
theorem ge_str {x : Str} {j : Nat} : GE Y (.Constant (.str x) j pos) ρ G (.str x) := ge_c (fun _ => pe_str) fun _ => .str x
/-- a global of the module -/
theorem ge_glob {x : Str} {v : V} {u : Value} (hm : Y.mg x = some u) (r : RelV v u) (q : ∀ F, Rep Y.K F v d) (hg : Y.sc.names.lookup x = some .globalImplicit := by rfl) (hd : (x == ("__debug__" : Str)) = false := by decide) : GE Y (.Name x p) ρ G d :=
  ge_c (fun i => pe_glob (gl_i hg i) (mg_i hm i) r hd) q
/-- a class that is built in, as a value -/
theorem ge_ty {x : Str} {n : String} (hm : Y.mg x = none) (hv : bootBuiltins x = some (.type n)) (hg : Y.sc.names.lookup x = some .globalImplicit := by rfl) (hn : x ≠ "__name__" := by decide) (hd : (x == ("__debug__" : Str)) = false := by decide) : GE Y (.Name x p) ρ G (.ty n) :=
  ge_c (fun i => pe_bltn (gl_i hg i) (mg_i hm i) hv (v := .ty n) rfl hn hd) fun _ => .ty n

/-! ### two operands -/
def RR (Y : Ctx) (r : R2) (ρ : Rho) (G : Gs) (d1 d2 : D) (P : Hp → Gs → L2.St → VK) : Prop :=
  ∀ F R Gl σ H x y Q, Wd Y F R Gl G ρ σ H → Vw Y F G ρ σ x d1 → Vw Y F G ρ σ y d2 → (∀ v H', P F R σ v H' → Q v H') → r x y H Q
abbrev PRd (Y : Ctx) (G : Gs) (ρ : Rho) (d : D) : Hp → Gs → L2.St → VK := fun F R σ => PR Y F R G ρ σ d
abbrev PNd (Y : Ctx) (G : Gs) (ρ : Rho) (g : GO) : Hp → Gs → L2.St → VK := fun F R σ => PN Y F R G ρ σ g
theorem bin_go {r : R2} {F : Hp} {Gl : Gs} {σ : L2.St} {H : Hp} {P : Hp → Gs → L2.St → VK} (up : ∀ {F F' R σ v H}, Same F F' → P F' R σ v H → P F R σ v H) (W : Wd Y F R Gl G ρ σ H) (ha : GV Y a ρ G d1) (hb : GV Y b ρ G d2) (hr : RR Y r ρ G d1 d2 P) : tOp r (wE Y a) (wE Y b) σ H (P F R σ) :=
  (ha.run F R Gl σ H W).mono fun x H1 ⟨F1, Gl1, s1, W1, v1⟩ => (hb.run F1 R Gl1 σ H1 W1).mono fun y H2 ⟨F2, Gl2, s2, W2, v2⟩ =>
    hr F2 R Gl2 σ H2 x y _ W2 (v1.mono s2) v2 fun v H' q => up (s1.trans s2) q
theorem ge_op {op : Operator} {r : R2} (ho : ∀ i, OpR (Y.X i) (binaryOp op) r) (ha : GV Y a ρ G d1) (hb : GV Y b ρ G d2) (hr : RR Y r ρ G d1 d2 (PRd Y G ρ d)) : GE Y (.BinOp a op b pos) ρ G d :=
  ⟨fun F R Gl σ H W => wE.of (fun i => pe_op (ho i) (wE.pe i) (wE.pe i)) (bin_go (P := PRd Y G ρ d) PR.up W ha hb hr)⟩
theorem gn_op {op : Operator} {r : R2} {g : GO} (ho : ∀ i, OpR (Y.X i) (binaryOp op) r) (ha : GV Y a ρ G d1) (hb : GV Y b ρ G d2) (hr : RR Y r ρ G d1 d2 (PNd Y G ρ g)) : GN Y (.BinOp a op b pos) ρ G g :=
  ⟨fun F R Gl σ H W => wE.of (fun i => pe_op (ho i) (wE.pe i) (wE.pe i)) (bin_go (P := PNd Y G ρ g) PN.up W ha hb hr)⟩
theorem gc_op {op : CmpOp} {r : R2} (ho : ∀ i, OpR (Y.X i) (compareOp op) r) (ha : GV Y a ρ G d1) (hb : GV Y b ρ G d2) (hr : RR Y r ρ G d1 d2 (PRd Y G ρ d)) : GC Y op a b ρ G d :=
  ⟨fun F R Gl σ H W => wC.of (t := tOp r (wE Y a) (wE Y b)) (fun i => ⟨fun pins s σ H Q I h => bin (wE.pe i) (wE.pe i) I h fun v u s2 x y H2 I2 rx ry q => ho i _ _ _ _ _ _ _ _ _ I2 rx ry q⟩) (bin_go (P := PRd Y G ρ d) PR.up W ha hb hr)⟩
theorem rr_val {r : R2} (h : ∀ F R Gl σ H x y Q, Wd Y F R Gl G ρ σ H → Vw Y F G ρ σ x d1 → Vw Y F G ρ σ y d2 → (∀ v, Rep Y.K F v d → Q v H) → r x y H Q) : RR Y r ρ G d1 d2 (PRd Y G ρ d) :=
  fun F R Gl σ H x y Q W v1 v2 q => h F R Gl σ H x y Q W v1 v2 fun v z => q v H ⟨F, Gl, Same.refl F, W, z⟩
section
variable {i j : Int}
theorem ge_add (ha : GE Y a ρ G (.int i)) (hb : GE Y b ρ G (.int j)) : GE Y (.BinOp a .Add b pos) ρ G (.int (i + j)) :=
  ge_op (fun _ => op_add) (gv_ge ha) (gv_ge hb) (rr_val fun F R Gl σ H x y Q W v1 v2 q => ⟨i, j, v1.int_inv, v2.int_inv, q _ (.int _)⟩)
theorem ge_sub (ha : GE Y a ρ G (.int i)) (hb : GE Y b ρ G (.int j)) : GE Y (.BinOp a .Sub b pos) ρ G (.int (i - j)) :=
  ge_op (fun _ => op_sub) (gv_ge ha) (gv_ge hb) (rr_val fun F R Gl σ H x y Q W v1 v2 q => ⟨i, j, v1.int_inv, v2.int_inv, q _ (.int _)⟩)
theorem ge_mul (ha : GE Y a ρ G (.int i)) (hb : GE Y b ρ G (.int j)) (h : CMul i j) : GE Y (.BinOp a .Mult b pos) ρ G (.int (i * j)) :=
  ge_op (fun _ => op_mul) (gv_ge ha) (gv_ge hb) (rr_val fun F R Gl σ H x y Q W v1 v2 q => ⟨i, j, v1.int_inv, v2.int_inv, h, q _ (.int _)⟩)
theorem ge_fdiv (ha : GE Y a ρ G (.int i)) (hb : GE Y b ρ G (.int j)) (h : CDiv i j) : GE Y (.BinOp a .FloorDiv b pos) ρ G (.int (i / j)) :=
  ge_op (fun _ => op_fdiv) (gv_ge ha) (gv_ge hb) (rr_val fun F R Gl σ H x y Q W v1 v2 q => ⟨i, j, v1.int_inv, v2.int_inv, h, q _ (.int _)⟩)
theorem ge_mod (ha : GE Y a ρ G (.int i)) (hb : GE Y b ρ G (.int j)) (h : 0 < j) : GE Y (.BinOp a .Mod b pos) ρ G (.int (i % j)) :=
  ge_op (fun _ => op_mod) (gv_ge ha) (gv_ge hb) (rr_val fun F R Gl σ H x y Q W v1 v2 q => ⟨i, j, v1.int_inv, v2.int_inv, h, q _ (.int _)⟩)
theorem ge_pow (ha : GE Y a ρ G (.int i)) (hb : GE Y b ρ G (.int j)) (h : CPow i j) : GE Y (.BinOp a .Pow b pos) ρ G (.int (i ^ j.toNat)) :=
  ge_op (fun _ => op_pow) (gv_ge ha) (gv_ge hb) (rr_val fun F R Gl σ H x y Q W v1 v2 q => ⟨i, j, v1.int_inv, v2.int_inv, h, q _ (.int _)⟩)
theorem ge_addS {x y : Str} (ha : GE Y a ρ G (.str x)) (hb : GE Y b ρ G (.str y)) (h : x.length + y.length ≤ sizeLine) : GE Y (.BinOp a .Add b pos) ρ G (.str (x ++ y)) :=
  ge_op (fun _ => op_add_str) (gv_ge ha) (gv_ge hb) (rr_val fun F R Gl σ H _ _ Q W v1 v2 q => ⟨x, y, v1.str_inv, v2.str_inv, h, q _ (.str _)⟩)
theorem ge_neg (ha : GE Y a ρ G (.int i)) : GE Y (.UnaryOp .USub a pos) ρ G (.int (-i)) :=
  ⟨fun F R Gl σ H W => wE.of (fun i => pe_un un_neg (wE.pe i)) ((ha.run F R Gl σ H W).mono fun v H' ⟨F', Gl', s, W', r⟩ => ⟨i, r.int_inv, F', Gl', s, W', .int _⟩)⟩
end

/-! ### comparisons -/
theorem ge_cmp {op : CmpOp} (h : GC Y op a b ρ G d) (hm : behindInMarks op b = false := by first | exact nomark _ | rfl) : GE Y (.Compare a [op] [b] pos) ρ G d :=
  ⟨fun F R Gl σ H W => wE.of (fun i => pe_cmp (wC.pc i) hm) (h.run F R Gl σ H W)⟩
theorem gt_cmp {op : CmpOp} {x : Bool} (h : GC Y op a b ρ G (.bl x)) (hm : behindInMarks op b = false := by first | exact nomark _ | rfl) : GT Y (.Compare a [op] [b] pos) ρ G x :=
  ⟨fun F R Gl σ H W => wT.of (fun i => pt_cmp (wC.pc i) hm) ((h.run F R Gl σ H W).mono fun v H' ⟨F', Gl', s, W', r⟩ => ⟨x, r.bl_inv, rfl, F', Gl', s, W'⟩)⟩
section
variable {i j : Int}
theorem gc_i {op : CmpOp} {f : Int → Int → Bool} (ho : ∀ i, OpR (Y.X i) (compareOp op) (rI0 fun i j => .bl (f i j))) (ha : GE Y a ρ G (.int i)) (hb : GE Y b ρ G (.int j)) : GC Y op a b ρ G (.bl (f i j)) :=
  gc_op ho (gv_ge ha) (gv_ge hb) (rr_val fun F R Gl σ H x y Q W v1 v2 q => ⟨i, j, v1.int_inv, v2.int_inv, q _ (.bl _)⟩)
theorem gc_lt (ha : GE Y a ρ G (.int i)) (hb : GE Y b ρ G (.int j)) : GC Y .Lt a b ρ G (.bl (decide (i < j))) := gc_i (f := fun i j => decide (i < j)) (fun _ => op_lt) ha hb
theorem gc_le (ha : GE Y a ρ G (.int i)) (hb : GE Y b ρ G (.int j)) : GC Y .LtE a b ρ G (.bl (decide (i ≤ j))) := gc_i (f := fun i j => decide (i ≤ j)) (fun _ => op_le) ha hb
theorem gc_gt (ha : GE Y a ρ G (.int i)) (hb : GE Y b ρ G (.int j)) : GC Y .Gt a b ρ G (.bl (decide (j < i))) := gc_i (f := fun i j => decide (j < i)) (fun _ => op_gt) ha hb
theorem gc_ge (ha : GE Y a ρ G (.int i)) (hb : GE Y b ρ G (.int j)) : GC Y .GtE a b ρ G (.bl (decide (j ≤ i))) := gc_i (f := fun i j => decide (j ≤ i)) (fun _ => op_ge) ha hb
theorem gc_eqI (ha : GE Y a ρ G (.int i)) (hb : GE Y b ρ G (.int j)) : GC Y .Eq a b ρ G (.bl (decide (i = j))) :=
  gc_op (fun _ => op_eq) (gv_ge ha) (gv_ge hb) (rr_val fun F R Gl σ H x y Q W v1 v2 q => by
    rw [v1.int_inv, v2.int_inv]
    refine ⟨rfl, ?_⟩
    rw [dec_int, Bool.beq_eq_decide_eq]
    exact q _ (.bl _))
theorem gc_neI (ha : GE Y a ρ G (.int i)) (hb : GE Y b ρ G (.int j)) : GC Y .NotEq a b ρ G (.bl (!decide (i = j))) :=
  gc_op (fun _ => op_ne) (gv_ge ha) (gv_ge hb) (rr_val fun F R Gl σ H x y Q W v1 v2 q => by
    rw [v1.int_inv, v2.int_inv]
    refine ⟨rfl, ?_⟩
    rw [dec_int, Bool.beq_eq_decide_eq]
    exact q _ (.bl _))
theorem gc_eqS {x y : Str} (ha : GE Y a ρ G (.str x)) (hb : GE Y b ρ G (.str y)) : GC Y .Eq a b ρ G (.bl (decide (x = y))) :=
  gc_op (fun _ => op_eq) (gv_ge ha) (gv_ge hb) (rr_val fun F R Gl σ H x' y' Q W v1 v2 q => by
    rw [v1.str_inv, v2.str_inv]
    refine ⟨rfl, ?_⟩
    rw [dec_str, Bool.beq_eq_decide_eq]
    exact q _ (.bl _))
theorem gc_neS {x y : Str} (ha : GE Y a ρ G (.str x)) (hb : GE Y b ρ G (.str y)) : GC Y .NotEq a b ρ G (.bl (!decide (x = y))) :=
  gc_op (fun _ => op_ne) (gv_ge ha) (gv_ge hb) (rr_val fun F R Gl σ H x' y' Q W v1 v2 q => by
    rw [v1.str_inv, v2.str_inv]
    refine ⟨rfl, ?_⟩
    rw [dec_str, Bool.beq_eq_decide_eq]
    exact q _ (.bl _))
theorem gc_ltS {x y : Str} (ha : GE Y a ρ G (.str x)) (hb : GE Y b ρ G (.str y)) : GC Y .Lt a b ρ G (.bl (decide (x.cps.toList < y.cps.toList))) :=
  gc_op (fun _ => op_lt_str) (gv_ge ha) (gv_ge hb) (rr_val fun F R Gl σ H x' y' Q W v1 v2 q => ⟨x, y, v1.str_inv, v2.str_inv, q _ (.bl _)⟩)
end
def D.isNon : D → Bool
  | .non => true
  | _ => false
theorem Vw.non_iff {F : Hp} {σ : L2.St} {v : V} (h : Vw Y F G ρ σ v d) : decide (v = .non) = d.isNon := by
  cases h with
  | rep h => cases h <;> rfl
  | _ => rfl
theorem gc_isN {j : Nat} {pos' : Pos} (ha : GV Y a ρ G d) : GC Y .Is a (.Constant .none j pos') ρ G (.bl d.isNon) :=
  ⟨fun F R Gl σ H W => wC.of (fun i => pc_isN (wE.pe i)) ((ha.run F R Gl σ H W).mono fun v H' ⟨F', Gl', s, W', r⟩ => ⟨F', Gl', s, W', by rw [r.non_iff]; exact .bl _⟩)⟩
theorem gc_notN {j : Nat} {pos' : Pos} (ha : GV Y a ρ G d) : GC Y .IsNot a (.Constant .none j pos') ρ G (.bl (!d.isNon)) :=
  ⟨fun F R Gl σ H W => wC.of (fun i => pc_notN (wE.pe i)) ((ha.run F R Gl σ H W).mono fun v H' ⟨F', Gl', s, W', r⟩ => ⟨F', Gl', s, W', by rw [r.non_iff]; exact .bl _⟩)⟩

/-! ### tests -/
theorem gt_val {x : Bool} (h : GE Y e ρ G (.bl x)) (he : ∀ i whole, isTrue e (Y.X i).env whole = (do let v ← whole; standAt e.pos; holding [v] (truthy v)) := by intro _ _; rfl) : GT Y e ρ G x :=
  ⟨fun F R Gl σ H W => wT.of (fun i => pt_val (wE.pe i) (he i)) ((h.run F R Gl σ H W).mono fun v H' ⟨F', Gl', s, W', r⟩ => ⟨x, r.bl_inv, rfl, F', Gl', s, W'⟩)⟩
theorem gt_w {x : Bool} (h : GTW Y e ρ G x) : GT Y e ρ G x := ⟨fun F R Gl σ H W => wT.of (fun i => (wW.pw i).pt) (h.run F R Gl σ H W)⟩
theorem gt_not {x : Bool} (h : GT Y e ρ G x) : GT Y (.UnaryOp .Not e pos) ρ G (!x) :=
  ⟨fun F R Gl σ H W => wT.of (fun i => pt_not (wT.pt i)) ((h.run F R Gl σ H W).mono fun v H' ⟨z, q⟩ => ⟨by rw [z], q⟩)⟩
theorem gtw_and1 {x : Bool} (h : GT Y e ρ G x) : GTW Y (.BoolOp .And [e] pos) ρ G x := ⟨fun F R Gl σ H W => wW.of (fun i => pw_and1 (wT.pt i)) (h.run F R Gl σ H W)⟩
theorem gtw_or1 {x : Bool} (h : GT Y e ρ G x) : GTW Y (.BoolOp .Or [e] pos) ρ G x := ⟨fun F R Gl σ H W => wW.of (fun i => pw_or1 (wT.pt i)) (h.run F R Gl σ H W)⟩
theorem gtw_and {x y : Bool} (h : GT Y a ρ G x) (h' : x = true → GTW Y (.BoolOp .And (b :: es) pos) ρ G y) : GTW Y (.BoolOp .And (a :: b :: es) pos) ρ G (x && y) :=
  ⟨fun F R Gl σ H W => wW.of (fun i => pw_and (wT.pt i) (wW.pw i)) ((h.run F R Gl σ H W).mono fun v H1 ⟨z, F', Gl', s, W'⟩ => by
    subst z
    cases v with
    | false => exact ⟨rfl, F', Gl', s, W'⟩
    | true => exact ((h' rfl).run F' R Gl' σ H1 W').mono fun _ _ q => q.up s)⟩
theorem gtw_or {x y : Bool} (h : GT Y a ρ G x) (h' : x = false → GTW Y (.BoolOp .Or (b :: es) pos) ρ G y) : GTW Y (.BoolOp .Or (a :: b :: es) pos) ρ G (x || y) :=
  ⟨fun F R Gl σ H W => wW.of (fun i => pw_or (wT.pt i) (wW.pw i)) ((h.run F R Gl σ H W).mono fun v H1 ⟨z, F', Gl', s, W'⟩ => by
    subst z
    cases v with
    | true => exact ⟨rfl, F', Gl', s, W'⟩
    | false => exact ((h' rfl).run F' R Gl' σ H1 W').mono fun _ _ q => q.up s)⟩
theorem ge_one {op : BoolOp} (h : GE Y e ρ G d) : GE Y (.BoolOp op [e] pos) ρ G d := ⟨fun F R Gl σ H W => wE.of (fun i => pe_one (wE.pe i)) (h.run F R Gl σ H W)⟩
theorem ge_and {x y : Bool} (h : GE Y a ρ G (.bl x)) (h' : x = true → GE Y (.BoolOp .And (b :: es) pos) ρ G (.bl y)) : GE Y (.BoolOp .And (a :: b :: es) pos) ρ G (.bl (x && y)) :=
  ⟨fun F R Gl σ H W => wE.of (fun i => pe_and (wE.pe i) (wE.pe i)) ((h.run F R Gl σ H W).mono fun v H1 ⟨F', Gl', s, W', r⟩ => ⟨x, r.bl_inv, by
    cases x with
    | false => exact ⟨F', Gl', s, W', .bl _⟩
    | true => exact ((h' rfl).run F' R Gl' σ H1 W').mono fun _ _ q => q.up s⟩)⟩
theorem ge_or {x y : Bool} (h : GE Y a ρ G (.bl x)) (h' : x = false → GE Y (.BoolOp .Or (b :: es) pos) ρ G (.bl y)) : GE Y (.BoolOp .Or (a :: b :: es) pos) ρ G (.bl (x || y)) :=
  ⟨fun F R Gl σ H W => wE.of (fun i => pe_or (wE.pe i) (wE.pe i)) ((h.run F R Gl σ H W).mono fun v H1 ⟨F', Gl', s, W', r⟩ => ⟨x, r.bl_inv, by
    cases x with
    | true => exact ⟨F', Gl', s, W', .bl _⟩
    | false => exact ((h' rfl).run F' R Gl' σ H1 W').mono fun _ _ q => q.up s⟩)⟩
theorem ge_not {x : Bool} (h : GE Y e ρ G (.bl x)) : GE Y (.UnaryOp .Not e pos) ρ G (.bl (!x)) :=
  ⟨fun F R Gl σ H W => wE.of (fun i => pe_not (wE.pe i)) ((h.run F R Gl σ H W).mono fun v H1 ⟨F', Gl', s, W', r⟩ => ⟨x, r.bl_inv, F', Gl', s, W', .bl _⟩)⟩
theorem ge_if {x : Bool} (h : GT Y c ρ G x) (h1 : x = true → GE Y a ρ G d1) (h2 : x = false → GE Y b ρ G d2) : GE Y (.IfExp c a b pos) ρ G (if x then d1 else d2) :=
  ⟨fun F R Gl σ H W => wE.of (fun i => pe_ifExp (wT.pt i) (wE.pe i) (wE.pe i)) ((h.run F R Gl σ H W).mono fun v H1 ⟨z, F', Gl', s, W'⟩ => by
    subst z
    cases v with
    | true => exact ((h1 rfl).run F' R Gl' σ H1 W').mono fun _ _ q => q.up s
    | false => exact ((h2 rfl).run F' R Gl' σ H1 W').mono fun _ _ q => q.up s)⟩
/-- a < b < c of ints -/
theorem chain_go {r r' : R2} {f f' : Int → Int → Bool} {i j k : Int} {op op' : CmpOp} (er : r = rI0 fun i j => .bl (f i j)) (er' : r' = rI0 fun i j => .bl (f' i j)) {F : Hp} {Gl : Gs} {σ : L2.St} {H : Hp} (W : Wd Y F R Gl G ρ σ H)
    (ha : GE Y a ρ G (.int i)) (hb : GE Y b ρ G (.int j)) (hc : GE Y c ρ G (.int k)) : tChain r r' (wE Y a) (wE Y b) (wE Y c) σ H (PR Y F R G ρ σ (.bl (f i j && f' j k))) := by
  subst er; subst er'
  refine (ha.run F R Gl σ H W).mono fun x H1 ⟨F1, Gl1, s1, W1, v1⟩ => (hb.run F1 R Gl1 σ H1 W1).mono fun y H2 ⟨F2, Gl2, s2, W2, v2⟩ => ?_
  refine ⟨i, j, v1.int_inv, v2.int_inv, f i j, rfl, ?_⟩
  by_cases e : f i j = true
  · rw [if_pos e]
    refine (hc.run F2 R Gl2 σ H2 W2).mono fun z H3 ⟨F3, Gl3, s3, W3, v3⟩ => ⟨j, k, v2.int_inv, v3.int_inv, F3, Gl3, (s1.trans s2).trans s3, W3, ?_⟩
    rw [e, Bool.true_and]; exact .bl _
  · rw [if_neg e]
    refine ⟨F2, Gl2, s1.trans s2, W2, ?_⟩
    rw [Bool.eq_false_iff.mpr e, Bool.false_and]; exact .bl _
theorem ge_chain {f f' : Int → Int → Bool} {i j k : Int} {op op' : CmpOp} (ho : ∀ i, OpR (Y.X i) (compareOp op) (rI0 fun i j => .bl (f i j))) (ho' : ∀ i, OpR (Y.X i) (compareOp op') (rI0 fun i j => .bl (f' i j)))
    (ha : GE Y a ρ G (.int i)) (hb : GE Y b ρ G (.int j)) (hc : GE Y c ρ G (.int k)) (hm : lastMarks [op, op'] [b, c] = false := by rfl) : GE Y (.Compare a [op, op'] [b, c] pos) ρ G (.bl (f i j && f' j k)) :=
  ⟨fun F R Gl σ H W => wE.of (fun i => pe_chain (ho i) (ho' i) (wE.pe i) (wE.pe i) (wE.pe i) hm) (chain_go (op := op) (op' := op') rfl rfl W ha hb hc)⟩
end
end Gh
end

section
set_option Elab.async false
set_option linter.all false
set_option maxRecDepth 100000
set_option maxHeartbeats 4000000
namespace Gh
open PySem PySem.Spec PyProof.Rows L2
abbrev GlS (sc : Scope) (x : Str) : Prop := sc.names.lookup x = some .globalImplicit

section
variable {Y : Ctx} {ρ : Rho} {G : Gs} {a b c e : Expr} {es : List Expr} {d d' d1 d2 d3 : D} {ds : List D} {pos p : Pos}

/-! ### arguments -/
theorem ga_nil : GA Y [] ρ G [] := ⟨fun F R Gl σ H W => wA.of (fun i => pa_nil) ⟨F, Gl, Same.refl F, W, .nil⟩⟩
theorem ga_cons (h : GV Y e ρ G d) (hr : GA Y es ρ G ds) (hs : ∀ env, starEach (e :: es) env = (false, eval e env) :: starEach es env := by intro _; rfl) : GA Y (e :: es) ρ G (d :: ds) :=
  ⟨fun F R Gl σ H W => wA.of (fun i => pa_cons (wE.pe i) (wA.pa i) (hs _)) ((h.run F R Gl σ H W).mono fun v H1 ⟨F1, Gl1, s1, W1, v1⟩ => (hr.run F1 R Gl1 σ H1 W1).mono fun vs H2 ⟨F2, Gl2, s2, W2, v2⟩ =>
    ⟨F2, Gl2, s1.trans s2, W2, .cons (v1.mono s2) v2⟩)⟩
theorem gr_nil : GR Y [] ρ G [] := ⟨fun F R Gl σ H W => wA.of (fun i => pa_nil) ⟨F, Gl, Same.refl F, W, .nil⟩⟩
theorem gr_cons (h : GE Y e ρ G d) (hr : GR Y es ρ G ds) (hs : ∀ env, starEach (e :: es) env = (false, eval e env) :: starEach es env := by intro _; rfl) : GR Y (e :: es) ρ G (d :: ds) :=
  ⟨fun F R Gl σ H W => wA.of (fun i => pa_cons (wE.pe i) (wA.pa i) (hs _)) ((h.run F R Gl σ H W).mono fun v H1 ⟨F1, Gl1, s1, W1, v1⟩ => (hr.run F1 R Gl1 σ H1 W1).mono fun vs H2 ⟨F2, Gl2, s2, W2, v2⟩ =>
    ⟨F2, Gl2, s1.trans s2, W2, .cons (v1.mono s2) v2⟩)⟩

/-! ### displays -/
theorem sz_small {n : Nat} (h : n ≤ 1000) : n ≤ sizeLine := Nat.le_trans h (by decide)
theorem ge_tup {k : Nat} (h : GR Y es ρ G ds) (hl : ds.length ≤ 1000 := by exact Nat.le_of_ble_eq_true rfl) : GE Y (.Tuple es k pos) ρ G (.tup ds) :=
  ⟨fun F R Gl σ H W => wE.of (fun i => pe_tup (wA.pa i)) ((h.run F R Gl σ H W).mono fun vs H1 ⟨F1, Gl1, s1, W1, r⟩ => ⟨sz_small (by rw [r.length]; exact hl), fun p hp => by
    obtain ⟨W2, s2⟩ := W1.newF (o := .tup vs) hp
    exact ⟨_, _, s1.trans s2, W2, .tup upd_same (r.mono s2)⟩⟩)⟩
/-- a new list with what stands in it -/
theorem new_lst {F : Hp} {Gl : Gs} {σ : L2.St} {H : Hp} {vs : List V} (W : Wd Y F R Gl G ρ σ H) (r : Reps Y.K F vs ds) {p : Addr} (hp : H p = none) : PN Y F R G ρ σ (.lst ds) (.ref p) (upd H p (.lst vs)) :=
  ⟨F, _, p, rfl, Same.refl F, W.newG hp (.lst r), gupd_same, (W.fresh hp).2.2.1, (W.fresh hp).2.2.2.1, (W.fresh hp).2.2.2.2⟩
theorem new_dic {F : Hp} {Gl : Gs} {σ : L2.St} {H : Hp} {vs : List (Key × V)} {ds : List (Key × D)} (W : Wd Y F R Gl G ρ σ H) (r : KReps Y.K F vs ds) {p : Addr} (hp : H p = none) : PN Y F R G ρ σ (.dic ds) (.ref p) (upd H p (.dK vs)) :=
  ⟨F, _, p, rfl, Same.refl F, W.newG hp (.dic r), gupd_same, (W.fresh hp).2.2.1, (W.fresh hp).2.2.2.1, (W.fresh hp).2.2.2.2⟩
theorem gn_lst (h : GR Y es ρ G ds) (hl : ds.length ≤ 1000 := by exact Nat.le_of_ble_eq_true rfl) : GN Y (.List es pos) ρ G (.lst ds) :=
  ⟨fun F R Gl σ H W => wE.of (fun i => pe_lst (wA.pa i)) ((h.run F R Gl σ H W).mono fun vs H1 ⟨F1, Gl1, s1, W1, r⟩ => ⟨sz_small (by rw [r.length]; exact hl), fun p hp => (new_lst W1 r hp).up s1⟩)⟩
theorem gn_dnew : GN Y (.Dict [] [] pos) ρ G (.dic []) :=
  ⟨fun F R Gl σ H W => wE.of (fun i => pe_dnewK) fun p hp => new_dic W .nil hp⟩

/-! ### built-in functions and types called -/
abbrev AR (Y : Ctx) (r : List V → Hp → VK → Prop) (ρ : Rho) (G : Gs) (ds : List D) (P : Hp → Gs → L2.St → VK) : Prop :=
  ∀ F R Gl σ H vs Q, Wd Y F R Gl G ρ σ H → Vws Y F G ρ σ vs ds → (∀ v H', P F R σ v H' → Q v H') → r vs H Q
theorem cb_go {x : Str} {id : String} {r : List V → Hp → VK → Prop} {P : Hp → Gs → L2.St → VK} (up : ∀ {F F' R σ v H}, Same F F' → P F' R σ v H → P F R σ v H) {F : Hp} {Gl : Gs} {σ : L2.St} {H : Hp} (W : Wd Y F R Gl G ρ σ H)
    (hc : ∀ i, CallR (Y.X i) (.builtin id) r) (hg : GlS Y.sc x) (hm : Y.mg x = none) (hv : bootBuiltins x = some (.builtin id)) (ha : GA Y (e :: es) ρ G ds) (hr : AR Y r ρ G ds P)
    (hn : x ≠ "__name__") (hdb : (x == ("__debug__" : Str)) = false) (he : ∀ env, starEach (e :: es) env = (false, eval e env) :: starEach es env) (hpl : ∀ env, (backTo pos (starEach es env)).any (·.1) = false) : wE Y (.Call (.Name x p) (e :: es) [] pos) σ H (P F R σ) :=
  wE.of (fun i => pe_callB (hc i) (gl_i hg i) (mg_i hm i) hv (wA.pa i) hn hdb (he _) (hpl _)) ((ha.run F R Gl σ H W).mono fun vs H1 ⟨F1, Gl1, s1, W1, v1⟩ => hr F1 R Gl1 σ H1 vs _ W1 v1 fun v H' q => up s1 q)
theorem ct_go {x : Str} {id : String} {r : List V → Hp → VK → Prop} {P : Hp → Gs → L2.St → VK} (up : ∀ {F F' R σ v H}, Same F F' → P F' R σ v H → P F R σ v H) {F : Hp} {Gl : Gs} {σ : L2.St} {H : Hp} (W : Wd Y F R Gl G ρ σ H)
    (hc : ∀ i, CallR (Y.X i) (.type id) r) (hg : GlS Y.sc x) (hm : Y.mg x = none) (hv : bootBuiltins x = some (.type id)) (ha : GA Y (e :: es) ρ G ds) (hr : AR Y r ρ G ds P)
    (hn : x ≠ "__name__") (hdb : (x == ("__debug__" : Str)) = false) (he : ∀ env, starEach (e :: es) env = (false, eval e env) :: starEach es env) (hpl : ∀ env, (backTo pos (starEach es env)).any (·.1) = false) : wE Y (.Call (.Name x p) (e :: es) [] pos) σ H (P F R σ) :=
  wE.of (fun i => pe_callTy (hc i) (gl_i hg i) (mg_i hm i) hv (wA.pa i) hn hdb (he _) (hpl _)) ((ha.run F R Gl σ H W).mono fun vs H1 ⟨F1, Gl1, s1, W1, v1⟩ => hr F1 R Gl1 σ H1 vs _ W1 v1 fun v H' q => up s1 q)
/-- the facts about the module's names that are built in -/
structure Blt (mg : Str → Option Value) : Prop where
  no : ∀ x : Str, x ∈ (["len", "isinstance", "int", "bool", "str", "list", "tuple", "dict", "max", "min", "range", "sorted", "reversed", "enumerate", "zip", "all", "set", "ValueError"] : List Str) → mg x = none
theorem Blt.at {mg : Str → Option Value} (B : Blt mg) {x : Str} (h : (["len", "isinstance", "int", "bool", "str", "list", "tuple", "dict", "max", "min", "range", "sorted", "reversed", "enumerate", "zip", "all", "set", "ValueError"] : List Str).contains x = true := by decide) : mg x = none := B.no x (by simpa using h)

/-! len -/
inductive LenD : D → Nat → Prop
  | lst {ds : List D} : LenD (.lst ds) ds.length
  | tup {ds : List D} : LenD (.tup ds) ds.length
  | dic {ds : List (Key × D)} : LenD (.dic ds) ds.length
  | str {x : Str} (h : x.length ≤ sizeLine) : LenD (.str x) x.length
theorem call_lenR {X : Cx} : CallR X (.builtin "len") (fun xs H Q => ∃ a kvs, xs = [V.ref a] ∧ Rd H a (.dK kvs) ∧ Q (.int kvs.length) H) := by
  intro pins s σ H xs us Q I r h
  obtain ⟨a, kvs, rfl, ha, q⟩ := h
  obtain ⟨u, rfl, ru⟩ := vals1 r
  cases ru
  exact d_len I ha fun t s' I' => ⟨.int kvs.length, H, I', ⟨t, rfl⟩, q⟩
theorem Vws.one_inv {F : Hp} {σ : L2.St} {vs : List V} (h : Vws Y F G ρ σ vs [d]) : ∃ v, vs = [v] ∧ Vw Y F G ρ σ v d := by
  cases h with | cons a b => cases b; exact ⟨_, rfl, a⟩
theorem Vws.two_inv {F : Hp} {σ : L2.St} {vs : List V} (h : Vws Y F G ρ σ vs [d, d']) : ∃ v w, vs = [v, w] ∧ Vw Y F G ρ σ v d ∧ Vw Y F G ρ σ w d' := by
  cases h with | cons a b => cases b with | cons b c => cases c; exact ⟨_, _, rfl, a, b⟩
theorem pr_here {F : Hp} {Gl : Gs} {σ : L2.St} {H : Hp} {v : V} (W : Wd Y F R Gl G ρ σ H) (r : Rep Y.K F v d) : PR Y F R G ρ σ d v H := ⟨F, Gl, Same.refl F, W, r⟩
theorem ge_len {n : Nat} (T : Blt Y.mg) (ha : GV Y e ρ G d) (h : LenD d n) (hg : GlS Y.sc "len" := by rfl) (he : ∀ env, starEach [e] env = (false, eval e env) :: starEach [] env := by intro _; rfl) :
    GE Y (.Call (.Name "len" p) [e] [] pos) ρ G (.int n) := ⟨fun F R Gl σ H W => by
  cases h with
  | lst =>
    refine cb_go (P := PRd Y G ρ _) PR.up W (fun i => by have := @call_len_seq (Y.X i); rwa [Y.hK i] at this) hg T.at PySem.boot_len (ga_cons ha ga_nil he) (fun F R Gl σ H vs Q W v q => ?_) (by decide) (by decide) he (fun _ => rfl)
    obtain ⟨v, rfl, w⟩ := v.one_inv
    obtain ⟨a, vs, rfl, h1, h2⟩ := W.lstV w
    exact ⟨a, vs, rfl, .inl h1, by rw [h2.length]; exact q _ _ (pr_here W (.int _))⟩
  | tup =>
    refine cb_go (P := PRd Y G ρ _) PR.up W (fun i => by have := @call_len_seq (Y.X i); rwa [Y.hK i] at this) hg T.at PySem.boot_len (ga_cons ha ga_nil he) (fun F R Gl σ H vs Q W v q => ?_) (by decide) (by decide) he (fun _ => rfl)
    obtain ⟨v, rfl, w⟩ := v.one_inv
    obtain ⟨a, vs, rfl, h1, h2⟩ := W.tupV w
    exact ⟨a, vs, rfl, .inr h1, by rw [h2.length]; exact q _ _ (pr_here W (.int _))⟩
  | dic =>
    refine cb_go (P := PRd Y G ρ _) PR.up W (fun i => call_lenR) hg T.at PySem.boot_len (ga_cons ha ga_nil he) (fun F R Gl σ H vs Q W v q => ?_) (by decide) (by decide) he (fun _ => rfl)
    obtain ⟨v, rfl, w⟩ := v.one_inv
    obtain ⟨a, vs, rfl, h1, h2⟩ := W.dicV w
    exact ⟨a, vs, rfl, h1, by rw [h2.length]; exact q _ _ (pr_here W (.int _))⟩
  | str hl =>
    refine cb_go (P := PRd Y G ρ _) PR.up W (fun i => call_len_str) hg T.at PySem.boot_len (ga_cons ha ga_nil he) (fun F R Gl σ H vs Q W v q => ?_) (by decide) (by decide) he (fun _ => rfl)
    obtain ⟨v, rfl, w⟩ := v.one_inv
    exact ⟨_, by rw [w.str_inv], hl, q _ _ (pr_here W (.int _))⟩⟩

/-! max, min of two -/
theorem ge_max [Calm Y] {i j : Int} (T : Blt Y.mg) (ha : GE Y a ρ G (.int i)) (hb : GE Y b ρ G (.int j)) (hg : GlS Y.sc "max" := by rfl) (he : ∀ env, starEach [a, b] env = (false, eval a env) :: starEach [b] env := by intro _; rfl) (he' : ∀ env, starEach [b] env = (false, eval b env) :: starEach [] env := by intro _; rfl)
    (hpl : ∀ env, (backTo pos (starEach [b] env)).any (·.1) = false := by intro _; rfl) : GE Y (.Call (.Name "max" p) [a, b] [] pos) ρ G (.int (max i j)) := ⟨fun F R Gl σ H W => by
  refine cb_go (P := PRd Y G ρ _) PR.up W (fun i => call_max2 (Calm.cm (Y := Y) i)) hg T.at (by decide +kernel) (ga_cons (gv_ge ha) (ga_cons (gv_ge hb) ga_nil he') he) (fun F R Gl σ H vs Q W v q => ?_) (by decide) (by decide) he hpl
  obtain ⟨v, w, rfl, h1, h2⟩ := v.two_inv
  refine ⟨i, j, by rw [h1.int_inv, h2.int_inv], ?_⟩
  have e : (if j > i then j else i) = max i j := by omega
  rw [e]
  exact q _ _ (pr_here W (.int _))⟩
theorem ge_min [Calm Y] {i j : Int} (T : Blt Y.mg) (ha : GE Y a ρ G (.int i)) (hb : GE Y b ρ G (.int j)) (hg : GlS Y.sc "min" := by rfl) (he : ∀ env, starEach [a, b] env = (false, eval a env) :: starEach [b] env := by intro _; rfl) (he' : ∀ env, starEach [b] env = (false, eval b env) :: starEach [] env := by intro _; rfl)
    (hpl : ∀ env, (backTo pos (starEach [b] env)).any (·.1) = false := by intro _; rfl) : GE Y (.Call (.Name "min" p) [a, b] [] pos) ρ G (.int (min i j)) := ⟨fun F R Gl σ H W => by
  refine cb_go (P := PRd Y G ρ _) PR.up W (fun i => call_min2 (Calm.cm (Y := Y) i)) hg T.at (by decide +kernel) (ga_cons (gv_ge ha) (ga_cons (gv_ge hb) ga_nil he') he) (fun F R Gl σ H vs Q W v q => ?_) (by decide) (by decide) he hpl
  obtain ⟨v, w, rfl, h1, h2⟩ := v.two_inv
  refine ⟨i, j, by rw [h1.int_inv, h2.int_inv], ?_⟩
  have e : (if j < i then j else i) = min i j := by omega
  rw [e]
  exact q _ _ (pr_here W (.int _))⟩

/-! isinstance -/
def D.tyN : D → Option String
  | .non => some "NoneType"
  | .bl _ => some "bool"
  | .int _ => some "int"
  | .str _ => some "str"
  | .lst _ => some "list"
  | .tup _ => some "tuple"
  | .dic _ => some "dict"
  | .ref _ => none
  | .ty _ => none
theorem Wd.tyx {F : Hp} {Gl : Gs} {σ : L2.St} {H : Hp} {v : V} {n : String} (W : Wd Y F R Gl G ρ σ H) (w : Vw Y F G ρ σ v d) (h : d.tyN = some n) : TyX Y.K H v (.type n) := by
  cases d with
  | non => cases h; rw [w.non_inv]; exact .base .non
  | bl x => cases h; rw [w.bl_inv]; exact .base (.bl x)
  | int x => cases h; rw [w.int_inv]; exact .base (.int x)
  | str x => cases h; rw [w.str_inv]; exact .base (.str x)
  | lst x =>
    cases h
    obtain ⟨a, vs, rfl, h1, _⟩ := W.lstV w
    rcases h1 with (h1 | ⟨o, h1⟩) | ⟨o, its, m, h1, h2, _⟩
    · exact .base (.lst h1)
    · exact .base (.frz h1)
    · exact .kList h1 h2
  | tup x =>
    cases h
    obtain ⟨a, vs, rfl, h1, _⟩ := W.tupV w
    rcases h1 with (h1 | ⟨o, h1⟩) | ⟨o, its, m, h1, h2, _⟩
    · exact .base (.tup h1)
    · exact .fTuple h1
    · exact .kTuple h1 h2
  | dic x =>
    cases h
    obtain ⟨a, vs, rfl, h1, _⟩ := W.dicV w
    rcases h1 with h1 | ⟨o, h1⟩
    · exact .base (.dK h1)
    · exact .fDict h1
  | ref x => cases h
  | ty x => cases h
theorem ge_isi {n m : String} {x : Bool} (T : Blt Y.mg) (ha : GV Y a ρ G d) (hb : GE Y b ρ G (.ty m)) (h : d.tyN = some n) (hk : kitB n m = some x) (hg : GlS Y.sc "isinstance" := by rfl)
    (he : ∀ env, starEach [a, b] env = (false, eval a env) :: starEach [b] env := by intro _; rfl) (he' : ∀ env, starEach [b] env = (false, eval b env) :: starEach [] env := by intro _; rfl)
    (hpl : ∀ env, (backTo pos (starEach [b] env)).any (·.1) = false := by intro _; rfl) : GE Y (.Call (.Name "isinstance" p) [a, b] [] pos) ρ G (.bl x) := ⟨fun F R Gl σ H W => by
  refine cb_go (P := PRd Y G ρ _) PR.up W (fun i => by have := @call_isi (Y.X i); rwa [Y.hK i] at this) hg T.at (by decide +kernel) (ga_cons ha (ga_cons (gv_ge hb) ga_nil he') he) (fun F R Gl σ H vs Q W v q => ?_) (by decide) (by decide) he hpl
  obtain ⟨v', w', rfl, h1, h2⟩ := v.two_inv
  have e2 : w' = .ty m := by cases h2 with | rep h2 => exact h2.ty_inv
  subst e2
  exact ⟨v', .ty m, .type n, .type m, x, rfl, .ty m, W.tyx h1 h, kit_ty hk, q _ _ (pr_here W (.bl _))⟩⟩
def D.isInt : D → Bool
  | .int _ => true
  | .bl _ => true
  | _ => false
def D.isBl : D → Bool
  | .bl _ => true
  | _ => false
def D.isStr : D → Bool
  | .str _ => true
  | _ => false
def D.isLst : D → Bool
  | .lst _ => true
  | _ => false
def D.isTup : D → Bool
  | .tup _ => true
  | _ => false
def D.isDic : D → Bool
  | .dic _ => true
  | _ => false
def D.isD : D → Bool
  | .ref _ => false
  | .ty _ => false
  | _ => true
inductive IsiD : D → String → Bool → Prop
  | int {d : D} (h : d.isD = true) : IsiD d "int" d.isInt
  | bl {d : D} (h : d.isD = true) : IsiD d "bool" d.isBl
  | str {d : D} (h : d.isD = true) : IsiD d "str" d.isStr
  | lst {d : D} (h : d.isD = true) : IsiD d "list" d.isLst
  | tup {d : D} (h : d.isD = true) : IsiD d "tuple" d.isTup
  | dic {d : D} (h : d.isD = true) : IsiD d "dict" d.isDic
theorem IsiD.kit {m : String} {x : Bool} (h : IsiD d m x) : ∃ n, d.tyN = some n ∧ kitB n m = some x := by
  cases h with
  | int h => cases d <;> first | (cases h; done) | exact ⟨_, rfl, (by first | (show kitB _ _ = some true; decide +kernel) | (show kitB _ _ = some false; decide +kernel))⟩
  | bl h => cases d <;> first | (cases h; done) | exact ⟨_, rfl, (by first | (show kitB _ _ = some true; decide +kernel) | (show kitB _ _ = some false; decide +kernel))⟩
  | str h => cases d <;> first | (cases h; done) | exact ⟨_, rfl, (by first | (show kitB _ _ = some true; decide +kernel) | (show kitB _ _ = some false; decide +kernel))⟩
  | lst h => cases d <;> first | (cases h; done) | exact ⟨_, rfl, (by first | (show kitB _ _ = some true; decide +kernel) | (show kitB _ _ = some false; decide +kernel))⟩
  | tup h => cases d <;> first | (cases h; done) | exact ⟨_, rfl, (by first | (show kitB _ _ = some true; decide +kernel) | (show kitB _ _ = some false; decide +kernel))⟩
  | dic h => cases d <;> first | (cases h; done) | exact ⟨_, rfl, (by first | (show kitB _ _ = some true; decide +kernel) | (show kitB _ _ = some false; decide +kernel))⟩
theorem ge_isiD {m : String} {x : Bool} (T : Blt Y.mg) (ha : GV Y a ρ G d) (hb : GE Y b ρ G (.ty m)) (h : IsiD d m x) (hg : GlS Y.sc "isinstance" := by rfl)
    (he : ∀ env, starEach [a, b] env = (false, eval a env) :: starEach [b] env := by intro _; rfl) (he' : ∀ env, starEach [b] env = (false, eval b env) :: starEach [] env := by intro _; rfl)
    (hpl : ∀ env, (backTo pos (starEach [b] env)).any (·.1) = false := by intro _; rfl) : GE Y (.Call (.Name "isinstance" p) [a, b] [] pos) ρ G (.bl x) := by
  obtain ⟨n, h1, h2⟩ := h.kit
  exact ge_isi T ha hb h1 h2 hg he he' hpl

/-! list(..), tuple(..), dict(..), str(..), int(..) -/
theorem gn_list (T : Blt Y.mg) (ha : GV Y e ρ G (.lst ds)) (hg : GlS Y.sc "list" := by rfl) (he : ∀ env, starEach [e] env = (false, eval e env) :: starEach [] env := by intro _; rfl) : GN Y (.Call (.Name "list" p) [e] [] pos) ρ G (.lst ds) := ⟨fun F R Gl σ H W => by
  refine ct_go (P := PNd Y G ρ _) PN.up W (fun i => by have := @call_list_of (Y.X i); rwa [Y.hK i] at this) hg T.at (by decide +kernel) (ga_cons ha ga_nil he) (fun F R Gl σ H vs Q W v q => ?_) (by decide) (by decide) he (fun _ => rfl)
  obtain ⟨v, rfl, w⟩ := v.one_inv
  obtain ⟨a, vs, rfl, h1, h2⟩ := W.lstV w
  exact ⟨a, vs, rfl, .inl h1, fun l hl => q _ _ (new_lst W h2 hl)⟩⟩
theorem gn_listT (T : Blt Y.mg) (ha : GV Y e ρ G (.tup ds)) (hg : GlS Y.sc "list" := by rfl) (he : ∀ env, starEach [e] env = (false, eval e env) :: starEach [] env := by intro _; rfl) : GN Y (.Call (.Name "list" p) [e] [] pos) ρ G (.lst ds) := ⟨fun F R Gl σ H W => by
  refine ct_go (P := PNd Y G ρ _) PN.up W (fun i => by have := @call_list_of (Y.X i); rwa [Y.hK i] at this) hg T.at (by decide +kernel) (ga_cons ha ga_nil he) (fun F R Gl σ H vs Q W v q => ?_) (by decide) (by decide) he (fun _ => rfl)
  obtain ⟨v, rfl, w⟩ := v.one_inv
  obtain ⟨a, vs, rfl, h1, h2⟩ := W.tupV w
  exact ⟨a, vs, rfl, .inr h1, fun l hl => q _ _ (new_lst W h2 hl)⟩⟩
theorem ge_tuple (T : Blt Y.mg) (ha : GV Y e ρ G (.lst ds)) (hg : GlS Y.sc "tuple" := by rfl) (he : ∀ env, starEach [e] env = (false, eval e env) :: starEach [] env := by intro _; rfl) : GE Y (.Call (.Name "tuple" p) [e] [] pos) ρ G (.tup ds) := ⟨fun F R Gl σ H W => by
  refine ct_go (P := PRd Y G ρ _) PR.up W (fun i => by have := @call_tuple_of (Y.X i); rwa [Y.hK i] at this) hg T.at (by decide +kernel) (ga_cons ha ga_nil he) (fun F R Gl σ H vs Q W v q => ?_) (by decide) (by decide) he (fun _ => rfl)
  obtain ⟨v, rfl, w⟩ := v.one_inv
  obtain ⟨a, vs, rfl, h1, h2⟩ := W.lstV w
  refine ⟨a, vs, rfl, .inl ⟨h1, fun l hl => q _ _ ?_⟩⟩
  obtain ⟨W2, s2⟩ := W.newF (o := .tup vs) hl
  exact ⟨_, _, s2, W2, .tup upd_same (h2.mono s2)⟩⟩
theorem call_dictC {X : Cx} : CallR X (.type "dict") (fun xs H Q => ∃ a kvs, xs = [V.ref a] ∧ Rd H a (.dK kvs) ∧ ∀ p, H p = none → Q (.ref p) (upd H p (.dK kvs))) := by
  intro pins s σ H xs us Q I r h
  obtain ⟨a, kvs, rfl, ha, q⟩ := h
  obtain ⟨u, rfl, ru⟩ := vals1 r
  cases ru
  exact d_copyOf I ha fun p s' hp I' => ⟨.ref p, _, I', rfl, q p hp⟩
theorem gn_dict {ds : List (Key × D)} (T : Blt Y.mg) (ha : GV Y e ρ G (.dic ds)) (hg : GlS Y.sc "dict" := by rfl) (he : ∀ env, starEach [e] env = (false, eval e env) :: starEach [] env := by intro _; rfl) : GN Y (.Call (.Name "dict" p) [e] [] pos) ρ G (.dic ds) := ⟨fun F R Gl σ H W => by
  refine ct_go (P := PNd Y G ρ _) PN.up W (fun i => call_dictC) hg T.at (by decide +kernel) (ga_cons ha ga_nil he) (fun F R Gl σ H vs Q W v q => ?_) (by decide) (by decide) he (fun _ => rfl)
  obtain ⟨v, rfl, w⟩ := v.one_inv
  obtain ⟨a, vs, rfl, h1, h2⟩ := W.dicV w
  exact ⟨a, vs, rfl, h1, fun l hl => q _ _ (new_dic W h2 hl)⟩⟩
theorem ge_strI {i : Int} (T : Blt Y.mg) (ha : GE Y e ρ G (.int i)) (hl : i.natAbs.log2 < 1920) (hg : GlS Y.sc "str" := by rfl) (he : ∀ env, starEach [e] env = (false, eval e env) :: starEach [] env := by intro _; rfl) : GE Y (.Call (.Name "str" p) [e] [] pos) ρ G (.str (toString i)) := ⟨fun F R Gl σ H W => by
  refine ct_go (P := PRd Y G ρ _) PR.up W (fun i => call_str_int) hg T.at (by decide +kernel) (ga_cons (gv_ge ha) ga_nil he) (fun F R Gl σ H vs Q W v q => ?_) (by decide) (by decide) he (fun _ => rfl)
  obtain ⟨v, rfl, w⟩ := v.one_inv
  exact ⟨i, by rw [w.int_inv], hl, q _ _ (pr_here W (.str _))⟩⟩
theorem ge_intI {i : Int} (T : Blt Y.mg) (ha : GE Y e ρ G (.int i)) (hg : GlS Y.sc "int" := by rfl) (he : ∀ env, starEach [e] env = (false, eval e env) :: starEach [] env := by intro _; rfl) : GE Y (.Call (.Name "int" p) [e] [] pos) ρ G (.int i) := ⟨fun F R Gl σ H W => by
  refine ct_go (P := PRd Y G ρ _) PR.up W (fun i => call_int1) hg T.at (by decide +kernel) (ga_cons (gv_ge ha) ga_nil he) (fun F R Gl σ H vs Q W v q => ?_) (by decide) (by decide) he (fun _ => rfl)
  obtain ⟨v, rfl, w⟩ := v.one_inv
  exact .inl ⟨i, by rw [w.int_inv], q _ _ (pr_here W (.int _))⟩⟩
theorem ge_intB {i : Bool} (T : Blt Y.mg) (ha : GE Y e ρ G (.bl i)) (hg : GlS Y.sc "int" := by rfl) (he : ∀ env, starEach [e] env = (false, eval e env) :: starEach [] env := by intro _; rfl) : GE Y (.Call (.Name "int" p) [e] [] pos) ρ G (.int (if i then 1 else 0)) := ⟨fun F R Gl σ H W => by
  refine ct_go (P := PRd Y G ρ _) PR.up W (fun i => call_int1) hg T.at (by decide +kernel) (ga_cons (gv_ge ha) ga_nil he) (fun F R Gl σ H vs Q W v q => ?_) (by decide) (by decide) he (fun _ => rfl)
  obtain ⟨v, rfl, w⟩ := v.one_inv
  exact .inr ⟨i, by rw [w.bl_inv], q _ _ (pr_here W (.int _))⟩⟩
/-! sorted(..) -/
theorem ge_all [Calm Y] {bs : List Bool} (T : Blt Y.mg) (ha : GE Y e ρ G (.lst (bs.map D.bl))) (hg : GlS Y.sc "all" := by rfl) (he : ∀ env, starEach [e] env = (false, eval e env) :: starEach [] env := by intro _; rfl) : GE Y (.Call (.Name "all" p) [e] [] pos) ρ G (.bl (bs.all id)) := ⟨fun F R Gl σ H W => by
  refine cb_go (P := PRd Y G ρ _) PR.up W (fun i => by have := @cr_all (Y.X i) (Calm.cm (Y := Y) i); rwa [Y.hK i] at this) hg T.at (by decide +kernel) (ga_cons (gv_ge ha) ga_nil he) (fun F R Gl σ H vs Q W v q => ?_) (by decide) (by decide) he (fun _ => rfl)
  obtain ⟨v, rfl, w⟩ := v.one_inv
  obtain ⟨a, vs, rfl, h1, h2⟩ := W.lstV w
  rw [h2.bls_inv] at h1
  exact ⟨a, bs, rfl, h1, q _ _ (pr_here W (.bl _))⟩⟩

/-! ### subscripts -/
inductive IxD : D → D → D → Prop
  | lst {ds : List D} {i : Int} {d : D} (h : atI ds i = some d) : IxD (.lst ds) (.int i) d
  | tup {ds : List D} {i : Int} {d : D} (h : atI ds i = some d) : IxD (.tup ds) (.int i) d
  | str {z : Str} {i : Int} {c : Nat} (hz : z.length ≤ sizeLine) (h : atI z.cps.toList i = some c) : IxD (.str z) (.int i) (.str ⟨#[c]⟩)
  | dicS {ds : List (Key × D)} {k : Str} {d : D} (h : valD ds (.inr k) = some d) : IxD (.dic ds) (.str k) d
  | dicI {ds : List (Key × D)} {k : Int} {d : D} (h : valD ds (.inl k) = some d) : IxD (.dic ds) (.int k) d
theorem Reps.atI {K : PySem.W.Frag} {F : Hp} {vs : List V} {ds : List D} {i : Int} {d : D} (h : Reps K F vs ds) (e : L2.atI ds i = some d) : ∃ v, L2.atI vs i = some v ∧ Rep K F v d := by
  unfold L2.atI at e ⊢
  rw [h.length]
  cases q : ixN ds.length i with
  | none => rw [q] at e; cases e
  | some j =>
    rw [q] at e
    obtain ⟨v, h1, h2⟩ := h.get (i := j) e
    exact ⟨v, h1, h2⟩
theorem ge_ix (ha : GV Y a ρ G d1) (hb : GE Y b ρ G d2) (h : IxD d1 d2 d) (hs : PlainIx b := by exact fun _ _ => rfl) : GE Y (.Subscript a b pos) ρ G d := ⟨fun F R Gl σ H W => by
  cases h with
  | lst h =>
    refine wE.of (fun i => pe_ix (by have := @ix_list (Y.X i); rwa [Y.hK i] at this) (wE.pe i) (wE.pe i) hs) (bin_go (P := PRd Y G ρ d) PR.up W ha (gv_ge hb) (rr_val fun F R Gl σ H x y Q W v1 v2 q => ?_))
    obtain ⟨p, vs, rfl, h1, h2⟩ := W.lstV v1
    obtain ⟨v, h3, h4⟩ := h2.atI h
    exact ⟨p, vs, _, v, rfl, v2.int_inv, h1, h3, q _ h4⟩
  | tup h =>
    refine wE.of (fun i => pe_ix (by have := @ix_tup (Y.X i); rwa [Y.hK i] at this) (wE.pe i) (wE.pe i) hs) (bin_go (P := PRd Y G ρ d) PR.up W ha (gv_ge hb) (rr_val fun F R Gl σ H x y Q W v1 v2 q => ?_))
    obtain ⟨p, vs, rfl, h1, h2⟩ := W.tupV v1
    obtain ⟨v, h3, h4⟩ := h2.atI h
    exact ⟨p, vs, _, v, rfl, v2.int_inv, h1, h3, q _ h4⟩
  | str hz h =>
    refine wE.of (fun i => pe_ix ix_str (wE.pe i) (wE.pe i) hs) (bin_go (P := PRd Y G ρ _) PR.up W ha (gv_ge hb) (rr_val fun F R Gl σ H x y Q W v1 v2 q => ?_))
    exact ⟨_, _, _, v1.str_inv, v2.int_inv, hz, h, q _ (.str _)⟩
  | @dicS kds k d h =>
    refine wE.of (fun i => pe_dget (hu1_i i) (wE.pe i) (wE.pe i) hs) ((ha.run F R Gl σ H W).mono fun x H1 ⟨F1, Gl1, s1, W1, v1⟩ => (hb.run F1 R Gl1 σ H1 W1).mono fun y H2 ⟨F2, Gl2, s2, W2, r2⟩ => ?_)
    obtain ⟨p, vs, rfl, h1, h2⟩ := W2.dicV (v1.mono s2)
    rcases h2.val (.inr k) with ⟨_, z⟩ | ⟨v, d', z1, z2, z3⟩
    · rw [h] at z; cases z
    · rw [h] at z2; cases z2
      exact ⟨p, v, rfl, .inl ⟨vs, .inr k, h1, r2.str_inv, z1.symm⟩, F2, Gl2, s1.trans s2, W2, z3⟩
  | @dicI kds k d h =>
    refine wE.of (fun i => pe_dget (hu1_i i) (wE.pe i) (wE.pe i) hs) ((ha.run F R Gl σ H W).mono fun x H1 ⟨F1, Gl1, s1, W1, v1⟩ => (hb.run F1 R Gl1 σ H1 W1).mono fun y H2 ⟨F2, Gl2, s2, W2, r2⟩ => ?_)
    obtain ⟨p, vs, rfl, h1, h2⟩ := W2.dicV (v1.mono s2)
    rcases h2.val (.inl k) with ⟨_, z⟩ | ⟨v, d', z1, z2, z3⟩
    · rw [h] at z; cases z
    · rw [h] at z2; cases z2
      exact ⟨p, v, rfl, .inl ⟨vs, .inl k, h1, r2.int_inv, z1.symm⟩, F2, Gl2, s1.trans s2, W2, z3⟩⟩

/-! ### slices -/
structure GO' (Y : Ctx) (e : Option Expr) (ρ : Rho) (G : Gs) (o : Option Int) : Prop where
  run : ∃ t, (∀ i, PO (Y.X i) e t) ∧ ∀ F R Gl σ H Q, Wd Y F R Gl G ρ σ H → (∀ F' Gl' H', Same F F' → Wd Y F' R Gl' G ρ σ H' → Q o H') → t σ H Q
theorem go_none : GO' Y none ρ G none := ⟨tNoPart, fun i => po_none, fun F R Gl σ H Q W q => q F Gl H (Same.refl F) W⟩
theorem go_some {i : Int} (h : GE Y e ρ G (.int i)) : GO' Y (some e) ρ G (some i) :=
  ⟨tPart (wE Y e), fun i => po_some (wE.pe i), fun F R Gl σ H Q W q => (h.run F R Gl σ H W).mono fun v H1 ⟨F1, Gl1, s1, W1, r⟩ => ⟨i, r.int_inv, q F1 Gl1 H1 s1 W1⟩⟩
def cutD (xs : List D) (lo hi : Option Int) : List D := (xs.drop (HT.sIx xs.length 0 lo)).take (HT.sIx xs.length xs.length hi - HT.sIx xs.length 0 lo)
theorem Reps.cut {K : PySem.W.Frag} {F : Hp} {vs : List V} {ds : List D} (h : Reps K F vs ds) (lo hi : Option Int) : Reps K F (cutV vs lo hi) (cutD ds lo hi) := by
  unfold cutV cutD
  rw [h.length]
  exact (h.drop _).take _
theorem gn_slice {lo hi : Option Expr} {x y : Option Int} {p2 : Pos} (ha : GV Y a ρ G (.lst ds)) (hl : GO' Y lo ρ G x) (hh : GO' Y hi ρ G y) : GN Y (.Subscript a (.Slice lo hi none p2) pos) ρ G (.lst (cutD ds x y)) := ⟨fun F R Gl σ H W => by
  obtain ⟨tl, h1, h2⟩ := hl.run
  obtain ⟨th, h3, h4⟩ := hh.run
  refine wE.of (fun i => pe_slice (by have := @sl_list (Y.X i); rwa [Y.hK i] at this) (wE.pe i) (h1 i) (h3 i)) ((ha.run F R Gl σ H W).mono fun v H1 ⟨F1, Gl1, s1, W1, v1⟩ => h2 F1 R Gl1 σ H1 _ W1 fun F2 Gl2 H2 s2 W2 => h4 F2 R Gl2 σ H2 _ W2 fun F3 Gl3 H3 s3 W3 => ?_)
  obtain ⟨p, vs, rfl, h5, h6⟩ := W3.lstV (v1.mono (s2.trans s3))
  exact ⟨p, vs, rfl, h5, fun l hl => (new_lst W3 (h6.cut x y) hl).up ((s1.trans s2).trans s3)⟩⟩
theorem ge_sliceS {lo hi : Option Expr} {x y : Option Int} {p2 : Pos} {z : Str} (ha : GE Y a ρ G (.str z)) (hl : GO' Y lo ρ G x) (hh : GO' Y hi ρ G y) (hz : z.length ≤ sizeLine) : GE Y (.Subscript a (.Slice lo hi none p2) pos) ρ G (.str (cutS z x y)) := ⟨fun F R Gl σ H W => by
  obtain ⟨tl, h1, h2⟩ := hl.run
  obtain ⟨th, h3, h4⟩ := hh.run
  refine wE.of (fun i => pe_slice sl_str (wE.pe i) (h1 i) (h3 i)) ((ha.run F R Gl σ H W).mono fun v H1 ⟨F1, Gl1, s1, W1, v1⟩ => h2 F1 R Gl1 σ H1 _ W1 fun F2 Gl2 H2 s2 W2 => h4 F2 R Gl2 σ H2 _ W2 fun F3 Gl3 H3 s3 W3 => ?_)
  exact ⟨z, v1.str_inv, hz, F3, Gl3, (s1.trans s2).trans s3, W3, .str _⟩⟩
end
end Gh
end

section
set_option Elab.async false
set_option linter.all false
set_option maxRecDepth 100000
set_option maxHeartbeats 4000000
namespace Gh
open PySem PySem.Spec PyProof.Rows L2

/-! ### targets -/
def wG (Y : Ctx) (tg : Expr) : TG := fun v σ H Q => ∀ i pins s u, Inv (Y.X i) pins σ H s → RelV v u →
  wpAny (model (Y.X i).prog (Y.X i).w) (Y.X i).A (assign tg (Y.X i).env u) (fun _ s' => ∃ σ' H', Inv (Y.X i) pins σ' H' s' ∧ Q σ' H') (Y.X i).xe s
def wGs (Y : Ctx) (ts : List Expr) : TGs := fun vs σ H Q => ∀ i pins s us, Inv (Y.X i) pins σ H s → Vals vs us →
  wpAny (model (Y.X i).prog (Y.X i).w) (Y.X i).A (assignInOrder ((assignEach ts (Y.X i).env).map (·.2)) us) (fun _ s' => ∃ σ' H', Inv (Y.X i) pins σ' H' s' ∧ Q σ' H') (Y.X i).xe s
section
variable {Y : Ctx}
theorem wG.pg {tg : Expr} (i : Y.ι) : PG (Y.X i) tg (wG Y tg) := ⟨fun pins s σ H v u Q I r h => h i pins s u I r⟩
theorem wG.of {tg : Expr} {t : TG} {v : V} {σ : L2.St} {H : Hp} {Q : L2.St → Hp → Prop} (h : ∀ i, PG (Y.X i) tg t) (q : t v σ H Q) : wG Y tg v σ H Q := fun i pins s u I r => (h i).run pins s σ H v u Q I r q
theorem wGs.pg {ts : List Expr} (i : Y.ι) : PGs (Y.X i) ts (wGs Y ts) := ⟨fun pins s σ H v u Q I r h => h i pins s u I r⟩
theorem wGs.of {ts : List Expr} {t : TGs} {v : List V} {σ : L2.St} {H : Hp} {Q : L2.St → Hp → Prop} (h : ∀ i, PGs (Y.X i) ts t) (q : t v σ H Q) : wGs Y ts v σ H Q := fun i pins s u I r => (h i).run pins s σ H v u Q I r q
end
theorem wipe_set {σ : L2.St} {j : Nat} {x : Option V} : ∀ {vs : List Nat}, j ∈ vs → wipe (σ.set j x) vs = wipe σ vs
  | [], h => by cases h
  | v :: vs, h => by
    unfold wipe
    by_cases e : j = v
    · subst e
      clear h
      induction vs with
      | nil => show (σ.set j x).set j none = σ.set j none; exact List.set_set ..
      | cons w ws ih =>
        show ((wipe (σ.set j x) ws).set w none).set j none = ((wipe σ ws).set w none).set j none
        by_cases e : w = j
        · subst e; rw [List.set_set, List.set_set]; exact ih
        · rw [List.set_comm _ _ e, List.set_comm _ _ e, ih]
    · rw [wipe_set (vs := vs) (by rcases List.mem_cons.mp h with z | z; exact absurd z e; exact z)]
theorem wipe_wipe {σ : L2.St} : ∀ {vs : List Nat}, wipe (wipe σ vs) vs = wipe σ vs := by
  have key : ∀ (us vs : List Nat), (∀ j ∈ us, j ∈ vs) → wipe (wipe σ us) vs = wipe σ vs := by
    intro us
    induction us with
    | nil => intro vs _; rfl
    | cons u us ih =>
      intro vs h
      show wipe ((wipe σ us).set u none) vs = _
      rw [wipe_set (h u (List.mem_cons_self ..)), ih vs fun j hj => h j (List.mem_cons_of_mem _ hj)]
  intro vs
  exact key vs vs fun _ h => h
/-- the data d goes to the target: the slots js are stored -/
structure GG (Y : Ctx) (tg : Expr) (js : List Nat) (d : D) (ρ ρ' : Rho) : Prop where
  same : ∀ i : Nat, i ∉ js → ρ'[i]? = ρ[i]?
  run : ∀ F R Gl G σ H v Q, Wd Y F R Gl G ρ σ H → Rep Y.K F v d → (∀ σ' : L2.St, Wd Y F R Gl G ρ' σ' H → (∀ vs : List Nat, (∀ j ∈ js, j ∈ vs) → wipe σ' vs = wipe σ vs) → (∀ i : Nat, i ∉ js → σ'[i]? = σ[i]?) → Q σ' H) → wG Y tg v σ H Q
structure GGs (Y : Ctx) (ts : List Expr) (js : List Nat) (ds : List D) (ρ ρ' : Rho) : Prop where
  same : ∀ i : Nat, i ∉ js → ρ'[i]? = ρ[i]?
  run : ∀ F R Gl G σ H vs Q, Wd Y F R Gl G ρ σ H → Reps Y.K F vs ds → (∀ σ' : L2.St, Wd Y F R Gl G ρ' σ' H → (∀ vs : List Nat, (∀ j ∈ js, j ∈ vs) → wipe σ' vs = wipe σ vs) → (∀ i : Nat, i ∉ js → σ'[i]? = σ[i]?) → Q σ' H) → wGs Y ts vs σ H Q
section
variable {Y : Ctx} {ρ ρ' ρ'' : Rho} {G : Gs} {d : D} {ds : List D} {pos p : Pos} {e : Expr} {es : List Expr} {js js' : List Nat}
theorem loc_i {x : Str} (h : Loc Y.sc x) (i : Y.ι) : Loc (Y.X i).env.scope x := by rw [Y.hsc i]; exact h
theorem fn_i {x : Str} (h : Y.fn x = true ∨ Y.sc.names.lookup x = some .local) (i : Y.ι) : (Y.X i).fn x = true ∨ (Y.X i).env.scope.names.lookup x = some .local := by rw [Y.hfn i, Y.hsc i]; exact h
theorem gg_name (j : Nat) {x : Str} (hd : Y.N.Nodup) (hN : Y.N[j]? = some x := by rfl) (hx : Loc Y.sc x := by first | exact .inl rfl | exact .inr rfl) (hf : Y.fn x = true ∨ Y.sc.names.lookup x = some .local := by first | exact .inl rfl | exact .inr rfl) :
    GG Y (.Name x pos) [j] d ρ (ρ.set j (.dat d)) := ⟨fun i h => List.getElem?_set_ne (fun e => h (by simp [e])), fun F R Gl G σ H v Q W r q =>
  wG.of (t := gName j) (fun i => pg_name (by rw [Y.hN i]; exact hd) (nm_i hN) (loc_i hx i) (fn_i hf i)) (q _ (W.setD r) (fun vs h => wipe_set (h j (List.mem_cons_self ..))) fun i h => List.getElem?_set_ne (fun e => h (by simp [e])))⟩
theorem ggs_nil : GGs Y [] [] [] ρ ρ := ⟨fun _ _ => rfl, fun F R Gl G σ H vs Q W r q => by cases r; exact wGs.of (fun i => pgs_nil) ⟨rfl, q σ W (fun _ _ => rfl) fun _ _ => rfl⟩⟩
theorem ggs_cons (h : GG Y e js d ρ ρ') (h' : GGs Y es js' ds ρ' ρ'') (hs : ∀ i, (assignEach (e :: es) (Y.X i).env).map (·.2) = assign e (Y.X i).env :: (assignEach es (Y.X i).env).map (·.2) := by intro _; rfl) : GGs Y (e :: es) (js ++ js') (d :: ds) ρ ρ'' :=
  ⟨fun i hi => (h'.same i fun z => hi (List.mem_append_right _ z)).trans (h.same i fun z => hi (List.mem_append_left _ z)), fun F R Gl G σ H vs Q W r q => by
    cases r with
    | cons r1 r2 =>
      refine wGs.of (fun i => pgs_cons (wG.pg i) (wGs.pg i) (hs i)) ⟨_, _, rfl, h.run F R Gl G σ H _ _ W r1 fun σ1 W1 k1 l1 => h'.run F R Gl G σ1 H _ _ W1 r2 fun σ2 W2 k2 l2 => q σ2 W2 (fun vs hv => ?_) fun i hi => ?_⟩
      · rw [k2 vs fun j hj => hv j (List.mem_append_right _ hj), k1 vs fun j hj => hv j (List.mem_append_left _ hj)]
      · exact (l2 i fun z => hi (List.mem_append_right _ z)).trans (l1 i fun z => hi (List.mem_append_left _ z))⟩
theorem gg_tup [Calm Y] {k : Nat} (h : GGs Y es js ds ρ ρ') (hn : ∀ i, (assignEach es (Y.X i).env).length = ds.length := by intro _; rfl) (hst : ∀ i, (assignEach es (Y.X i).env).findIdx? (·.1) = none := by intro _; rfl) : GG Y (.Tuple es k pos) js (.tup ds) ρ ρ' :=
  ⟨h.same, fun F R Gl G σ H v Q W r q => by
    obtain ⟨a, vs, rfl, h1, h2⟩ := W.tupV (.rep r)
    exact wG.of (t := gTup Y.K ds.length (wGs Y es)) (fun i => by have := pg_tup (pos := pos) (k := k) (Calm.cm (Y := Y) i) (wGs.pg (Y := Y) i) (hn i) (hst i); rwa [Y.hK i] at this) ⟨a, vs, rfl, h1, h2.length, h.run F R Gl G σ H vs _ W h2 q⟩⟩

/-! ### what is walked -/
def wI (Y : Ctx) (tg iter : Expr) : TI := fun σ H Q => ∀ i pins s, Inv (Y.X i) pins σ H s →
  wpAny (model (Y.X i).prog (Y.X i).w) (Y.X i).A (eval iter (Y.X i).env) (fun v s1 => wpAny (model (Y.X i).prog (Y.X i).w) (Y.X i).A (pyIter v) (PIE (Y.X i) pins σ tg Q) (Y.X i).xe s1) (Y.X i).xe s
theorem wI.pi {tg iter : Expr} (i : Y.ι) : PI (Y.X i) tg iter (wI Y tg iter) := ⟨fun pins s σ H Q I h => h i pins s I⟩
theorem wI.of {tg iter : Expr} {t : TI} {σ : L2.St} {H : Hp} {Q : It → Hp → Prop} (h : ∀ i, PI (Y.X i) tg iter t) (q : t σ H Q) : wI Y tg iter σ H Q := fun i pins s I => (h i).run pins s σ H Q I q
/-- an iterator that gives the data xs, as long as S -/
structure Yields (Y : Ctx) (F : Hp) (xs : List D) (S : Rho → L2.St → Gs → Prop) (J : It) : Prop where
  go : ∀ i F' R Gl G ρ σ H, Same F F' → Wd Y F' R Gl G ρ σ H → S ρ σ G → i < xs.length → J.go i H
  yld : ∀ i F' R Gl G ρ σ H x H2 d, Same F F' → Wd Y F' R Gl G ρ σ H → S ρ σ G → xs[i]? = some d → J.yld i H x H2 → ∃ F2, Same F' F2 ∧ Wd Y F2 R Gl G ρ σ H2 ∧ Rep Y.K F2 x d
  stop : ∀ i F' R Gl G ρ σ H, Same F F' → Wd Y F' R Gl G ρ σ H → S ρ σ G → xs.length ≤ i → J.stop i H
structure GI (Y : Ctx) (tg e : Expr) (ρ : Rho) (G : Gs) (xs : List D) (S : Gs → Prop) : Prop where
  run : ∀ F R Gl σ H Q, Wd Y F R Gl G ρ σ H → (∀ J F' Gl' H', Same F F' → Wd Y F' R Gl' G ρ σ H' → Yields Y F' xs (fun _ _ => S) J → Q J H') → wI Y tg e σ H Q
theorem Wd.lstAt {F F' : Hp} {R Gl G : Gs} {σ : L2.St} {H : Hp} {a : Addr} {xs : List D} (W : Wd Y F' R Gl G ρ σ H) (s : Same F F') (r : Rep Y.K F (.ref a) d) (h : ViewD G d (.lst xs)) : ∃ vs, SqL Y.K H a vs ∧ Reps Y.K F' vs xs := by
  obtain ⟨a', vs, e, h1, h2⟩ := W.lstV (.of (r.mono s) h)
  cases e
  exact ⟨vs, h1, h2⟩
theorem gi_lst {tg : Expr} {xs : List D} (he : GE Y e ρ G d) (hv : ViewD G d (.lst xs)) : GI Y tg e ρ G xs (fun G' => ViewD G' d (.lst xs)) := ⟨fun F R Gl σ H Q W q => by
  refine wI.of (fun i => by have := @pi_list (Y.X i) tg e _ (wE.pe i); rwa [Y.hK i] at this) ((he.run F R Gl σ H W).mono fun v H1 ⟨F1, Gl1, s1, W1, r⟩ => ?_)
  obtain ⟨a, vs, rfl, h1, h2⟩ := W1.lstV (.of r hv)
  refine ⟨a, rfl, ⟨vs, h1⟩, q _ F1 Gl1 H1 s1 W1 ⟨fun i F' R Gl G ρ σ H s W hS hi => ?_, fun i F' R Gl G ρ σ H x H2 d' s W hS hi hy => ?_, fun i F' R Gl G ρ σ H s W hS hi => ?_⟩⟩
  · obtain ⟨vs, h3, h4⟩ := W.lstAt s r hS
    exact ⟨vs, vs[i]'(by rw [h4.length]; exact hi), h3, List.getElem?_eq_getElem _⟩
  · obtain ⟨vs, h3, h4⟩ := W.lstAt s r hS
    obtain ⟨rfl, hy⟩ := hy
    obtain ⟨v, h5, h6⟩ := h4.get hi
    have h7 := hy vs h3
    rw [h5] at h7; cases h7
    exact ⟨F', Same.refl _, W, h6⟩
  · obtain ⟨vs, h3, h4⟩ := W.lstAt s r hS
    exact ⟨vs, h3, by rw [h4.length]; exact hi⟩⟩
theorem gi_tup {tg : Expr} {xs : List D} (he : GE Y e ρ G (.tup xs)) : GI Y tg e ρ G xs (fun _ => True) := ⟨fun F R Gl σ H Q W q => by
  refine wI.of (fun i => by have := @pi_tup (Y.X i) tg e _ (wE.pe i); rwa [Y.hK i] at this) ((he.run F R Gl σ H W).mono fun v H1 ⟨F1, Gl1, s1, W1, r⟩ => ?_)
  obtain ⟨a, vs, rfl, h1, h2⟩ := W1.tupV (.rep r)
  have at' : ∀ {F' R Gl G ρ σ H}, Same F1 F' → Wd Y F' R Gl G ρ σ H → ∃ vs, SqT Y.K H a vs ∧ Reps Y.K F' vs xs := fun {F' R Gl G ρ σ H} s W => by
    obtain ⟨a', vs, e, h1, h2⟩ := W.tupV (.rep (r.mono s))
    cases e
    exact ⟨vs, h1, h2⟩
  refine ⟨a, rfl, ⟨vs, h1⟩, q _ F1 Gl1 H1 s1 W1 ⟨fun i F' R Gl G ρ σ H s W hS hi => ?_, fun i F' R Gl G ρ σ H x H2 d' s W hS hi hy => ?_, fun i F' R Gl G ρ σ H s W hS hi => ?_⟩⟩
  · obtain ⟨vs, h3, h4⟩ := at' s W
    exact ⟨vs, vs[i]'(by rw [h4.length]; exact hi), h3, List.getElem?_eq_getElem _⟩
  · obtain ⟨vs, h3, h4⟩ := at' s W
    obtain ⟨rfl, hy⟩ := hy
    obtain ⟨v, h5, h6⟩ := h4.get hi
    have h7 := hy vs h3
    rw [h5] at h7; cases h7
    exact ⟨F', Same.refl _, W, h6⟩
  · obtain ⟨vs, h3, h4⟩ := at' s W
    exact ⟨vs, h3, by rw [h4.length]; exact hi⟩⟩
def rngD (lo : Int) (n : Nat) : List D := (List.range n).map fun i => D.int (lo + (i : Nat))
theorem rngD_get {lo : Int} {n i : Nat} {d : D} (h : (rngD lo n)[i]? = some d) : d = .int (lo + (i : Nat)) ∧ i < n := by
  unfold rngD at h
  rw [List.getElem?_map] at h
  by_cases hi : i < n
  · rw [List.getElem?_range hi] at h; cases h; exact ⟨rfl, hi⟩
  · rw [List.getElem?_eq_none (by simpa using hi)] at h; cases h
theorem rngD_length {lo : Int} {n : Nat} : (rngD lo n).length = n := by simp [rngD]
theorem yields_rng {F : Hp} {lo : Int} {n : Nat} : Yields Y F (rngD lo n) (fun _ _ _ => True) (Itr lo n) :=
  ⟨fun i F' R Gl G ρ σ H s W hS hi => by rw [rngD_length] at hi; exact hi, fun i F' R Gl G ρ σ H x H2 d' s W hS hi hy => by
    obtain ⟨rfl, hx⟩ := hy
    obtain ⟨rfl, _⟩ := rngD_get hi
    exact ⟨F', Same.refl _, W, by rw [hx]; exact .int _⟩, fun i F' R Gl G ρ σ H s W hS hi => by rw [rngD_length] at hi; exact hi⟩
theorem gi_range1 {tg : Expr} {n : Int} (T : Blt Y.mg) (he : GE Y e ρ G (.int n)) (hb : -(2 ^ 62) ≤ n ∧ n < 2 ^ 62) (hg : GlS Y.sc "range" := by rfl) (hs : ∀ env, starEach [e] env = (false, eval e env) :: starEach [] env := by intro _; rfl) :
    GI Y tg (.Call (.Name "range" p) [e] [] pos) ρ G (rngD 0 n.toNat) (fun _ => True) := ⟨fun F R Gl σ H Q W q => by
  refine wI.of (fun i => pi_range1 (gl_i hg i) (mg_i T.at i) (wA.pa i) (hs _)) (((gr_cons he gr_nil hs).run F R Gl σ H W).mono fun vs H1 ⟨F1, Gl1, s1, W1, r⟩ => ?_)
  cases r with
  | cons r1 r2 => cases r2; exact ⟨n, by rw [r1.int_inv], hb.1, hb.2, q _ F1 Gl1 H1 s1 W1 yields_rng⟩⟩
theorem gi_range2 {tg a : Expr} {m n : Int} (T : Blt Y.mg) (ha : GE Y a ρ G (.int m)) (he : GE Y e ρ G (.int n)) (hb : -(2 ^ 62) ≤ m ∧ m < 2 ^ 62 ∧ -(2 ^ 62) ≤ n ∧ n < 2 ^ 62) (hg : GlS Y.sc "range" := by rfl) (hs : ∀ env, starEach [a, e] env = (false, eval a env) :: starEach [e] env := by intro _; rfl) (hs' : ∀ env, starEach [e] env = (false, eval e env) :: starEach [] env := by intro _; rfl) :
    GI Y tg (.Call (.Name "range" p) [a, e] [] pos) ρ G (rngD m (n - m).toNat) (fun _ => True) := ⟨fun F R Gl σ H Q W q => by
  refine wI.of (fun i => pi_range2 (gl_i hg i) (mg_i T.at i) (wA.pa i) (by rw [hs, hs']; rfl) (by rw [hs']; rfl)) (((gr_cons ha (gr_cons he gr_nil hs') hs).run F R Gl σ H W).mono fun vs H1 ⟨F1, Gl1, s1, W1, r⟩ => ?_)
  cases r with
  | cons r1 r2 => cases r2 with | cons r2 r3 => cases r3; exact ⟨m, n, by rw [r1.int_inv, r2.int_inv], hb, q _ F1 Gl1 H1 s1 W1 yields_rng⟩⟩
def signsD (x : Str) : List D := x.cps.toList.map fun c => D.str ⟨#[c]⟩
theorem gi_str {tg : Expr} {x : Str} (he : GE Y e ρ G (.str x)) : GI Y tg e ρ G (signsD x) (fun _ => True) := ⟨fun F R Gl σ H Q W q => by
  refine wI.of (fun i => pi_str (wE.pe i)) ((he.run F R Gl σ H W).mono fun v H1 ⟨F1, Gl1, s1, W1, r⟩ => ?_)
  have hl : (signsD x).length = x.cps.size := by simp [signsD]
  refine ⟨x, r.str_inv, q _ F1 Gl1 H1 s1 W1 ⟨fun i F' R Gl G ρ σ H s W hS hi => by rw [hl] at hi; exact hi, fun i F' R Gl G ρ σ H v H2 d' s W hS hi hy => ?_, fun i F' R Gl G ρ σ H s W hS hi => by rw [hl] at hi; exact hi⟩⟩
  obtain ⟨rfl, c, hc, rfl⟩ := hy
  unfold signsD at hi
  rw [List.getElem?_map, Array.getElem?_toList, hc] at hi
  cases hi
  exact ⟨F', Same.refl _, W, .str _⟩⟩
theorem gi_rev {tg : Expr} {xs : List D} (T : Blt Y.mg) (he : GE Y e ρ G d) (hv : ViewD G d (.lst xs)) (hg : GlS Y.sc "reversed" := by rfl) (hs : ∀ env, starEach [e] env = (false, eval e env) :: starEach [] env := by intro _; rfl) :
    GI Y tg (.Call (.Name "reversed" p) [e] [] pos) ρ G xs.reverse (fun G' => ViewD G' d (.lst xs)) := ⟨fun F R Gl σ H Q W q => by
  refine wI.of (fun i => by have := @pi_reversed (Y.X i) tg e _ p pos (gl_i hg i) (mg_i T.at i) (wA.pa i) (hs _); rwa [Y.hK i] at this) (((gr_cons he gr_nil hs).run F R Gl σ H W).mono fun vs0 H1 ⟨F1, Gl1, s1, W1, r0⟩ => ?_)
  cases r0 with
  | cons r r2 =>
  cases r2
  obtain ⟨a, vs, rfl, h1, h2⟩ := W1.lstV (.of r hv)
  have hn : vs.length = xs.length := h2.length
  refine ⟨a, vs, rfl, h1, q _ F1 Gl1 H1 s1 W1 ⟨fun i F' R Gl G ρ σ H s W hS hi => ?_, fun i F' R Gl G ρ σ H x H2 d' s W hS hi hy => ?_, fun i F' R Gl G ρ σ H s W hS hi => ?_⟩⟩
  · obtain ⟨ws, h3, h4⟩ := W.lstAt s r hS
    rw [List.length_reverse] at hi
    exact ⟨by rw [hn]; exact hi, ws, ws[vs.length - 1 - i]'(by rw [h4.length]; omega), h3, List.getElem?_eq_getElem _⟩
  · obtain ⟨ws, h3, h4⟩ := W.lstAt s r hS
    obtain ⟨rfl, hy⟩ := hy
    have hi' := (List.getElem?_eq_some_iff.mp hi).1
    rw [List.length_reverse] at hi'
    rw [List.getElem?_reverse hi'] at hi
    obtain ⟨v, h5, h6⟩ := h4.get hi
    have h7 := hy ws h3
    rw [hn, h5] at h7; cases h7
    exact ⟨F', Same.refl _, W, h6⟩
  · rw [List.length_reverse] at hi
    show vs.length ≤ i
    rw [hn]; exact hi⟩
def enumD (xs : List D) : List D := (xs.zipIdx).map fun p => D.tup [.int (p.2 : Nat), p.1]
theorem enumD_get {xs : List D} {i : Nat} {d : D} (h : (enumD xs)[i]? = some d) : ∃ x, xs[i]? = some x ∧ d = .tup [.int (i : Nat), x] := by
  unfold enumD at h
  rw [List.getElem?_map, List.getElem?_zipIdx] at h
  cases e : xs[i]? with
  | none => rw [e] at h; cases h
  | some x => rw [e] at h; simp at h; exact ⟨x, rfl, h.symm⟩
theorem enumD_length {xs : List D} : (enumD xs).length = xs.length := by simp [enumD]
theorem Wd.newT {F : Hp} {R Gl : Gs} {σ : L2.St} {H : Hp} {vs : List V} {xs : List D} (W : Wd Y F R Gl G ρ σ H) (r : Reps Y.K F vs xs) {T : Addr} (hT : H T = none) : ∃ F2, Same F F2 ∧ Wd Y F2 R Gl G ρ σ (upd H T (.tup vs)) ∧ Rep Y.K F2 (.ref T) (.tup xs) := by
  obtain ⟨W2, s2⟩ := W.newF (o := .tup vs) hT
  exact ⟨_, s2, W2, .tup upd_same (r.mono s2)⟩
theorem gi_enum {elts : List Expr} {kk : Nat} {tpos : Pos} {xs : List D} (T : Blt Y.mg) (he : GE Y e ρ G d) (hv : ViewD G d (.lst xs)) (hg : GlS Y.sc "enumerate" := by rfl) (hs : ∀ env, starEach [e] env = (false, eval e env) :: starEach [] env := by intro _; rfl) :
    GI Y (.Tuple elts kk tpos) (.Call (.Name "enumerate" p) [e] [] pos) ρ G (enumD xs) (fun G' => ViewD G' d (.lst xs)) := ⟨fun F R Gl σ H Q W q => by
  refine wI.of (fun i => by have := @pi_enum (Y.X i) e _ p pos tpos elts kk (gl_i hg i) (mg_i T.at i) (wA.pa i) (hs _); rwa [Y.hK i] at this) (((gr_cons he gr_nil hs).run F R Gl σ H W).mono fun vs0 H1 ⟨F1, Gl1, s1, W1, r0⟩ => ?_)
  cases r0 with
  | cons r r2 =>
  cases r2
  obtain ⟨a, vs, rfl, h1, h2⟩ := W1.lstV (.of r hv)
  refine ⟨a, vs, rfl, h1, q _ F1 Gl1 H1 s1 W1 ⟨fun i F' R Gl G ρ σ H s W hS hi => ?_, fun i F' R Gl G ρ σ H x H2 d' s W hS hi hy => ?_, fun i F' R Gl G ρ σ H s W hS hi => ?_⟩⟩
  · obtain ⟨ws, h3, h4⟩ := W.lstAt s r hS
    rw [enumD_length] at hi
    exact ⟨ws, ws[i]'(by rw [h4.length]; exact hi), h3, List.getElem?_eq_getElem _⟩
  · obtain ⟨ws, h3, h4⟩ := W.lstAt s r hS
    obtain ⟨T, x', rfl, hT, rfl, hy⟩ := hy
    obtain ⟨y, hy1, rfl⟩ := enumD_get hi
    obtain ⟨v, h5, h6⟩ := h4.get hy1
    have h7 := hy ws h3
    rw [h5] at h7; cases h7
    exact W.newT (.cons (.int _) (.cons h6 .nil)) hT
  · obtain ⟨ws, h3, h4⟩ := W.lstAt s r hS
    rw [enumD_length] at hi
    exact ⟨ws, h3, by rw [h4.length]; exact hi⟩⟩
def zipD (xs ys : List D) : List D := (xs.zip ys).map fun p => D.tup [p.1, p.2]
theorem zipD_get {xs ys : List D} {i : Nat} {d : D} (h : (zipD xs ys)[i]? = some d) : ∃ x y, xs[i]? = some x ∧ ys[i]? = some y ∧ d = .tup [x, y] := by
  unfold zipD at h
  rw [List.getElem?_map] at h
  cases e : (xs.zip ys)[i]? with
  | none => rw [e] at h; cases h
  | some q =>
    rw [e] at h; cases h
    obtain ⟨h1, h2⟩ := List.getElem?_zip_eq_some.mp e
    exact ⟨q.1, q.2, h1, h2, rfl⟩
theorem gi_zip {a : Expr} {da : D} {elts : List Expr} {kk : Nat} {tpos : Pos} {xs ys : List D} (T : Blt Y.mg) (ha : GE Y a ρ G da) (hva : ViewD G da (.lst xs)) (he : GE Y e ρ G d) (hv : ViewD G d (.lst ys)) (hg : GlS Y.sc "zip" := by rfl) (hs : ∀ env, starEach [a, e] env = (false, eval a env) :: starEach [e] env := by intro _; rfl) (hs' : ∀ env, starEach [e] env = (false, eval e env) :: starEach [] env := by intro _; rfl)
    (hpl : ∀ env, (backTo pos (starEach [e] env)).any (·.1) = false := by intro _; rfl) :
    GI Y (.Tuple elts kk tpos) (.Call (.Name "zip" p) [a, e] [] pos) ρ G (zipD xs ys) (fun G' => ViewD G' da (.lst xs) ∧ ViewD G' d (.lst ys)) := ⟨fun F R Gl σ H Q W q => by
  refine wI.of (fun i => by have := @pi_zip (Y.X i) a e _ p pos tpos elts kk (gl_i hg i) (mg_i T.at i) (wA.pa i) (hs _) (hpl _); rwa [Y.hK i] at this) (((gr_cons ha (gr_cons he gr_nil hs') hs).run F R Gl σ H W).mono fun vs0 H1 ⟨F1, Gl1, s1, W1, r0⟩ => ?_)
  cases r0 with
  | cons r r2 =>
  cases r2 with
  | cons r' r3 =>
  cases r3
  obtain ⟨a, vs, rfl, h1, h2⟩ := W1.lstV (.of r hva)
  obtain ⟨b, us, rfl, g1, g2⟩ := W1.lstV (.of r' hv)
  refine ⟨a, b, vs, us, rfl, h1, g1, q _ F1 Gl1 H1 s1 W1 ⟨fun i F' R Gl G ρ σ H s W hS hi => ?_, fun i F' R Gl G ρ σ H x H2 d' s W hS hi hy => ?_, fun i F' R Gl G ρ σ H s W hS hi => ?_⟩⟩
  · obtain ⟨ws, h3, h4⟩ := W.lstAt s r hS.1
    obtain ⟨zs, g3, g4⟩ := W.lstAt s r' hS.2
    obtain ⟨x, y, e1, e2, _⟩ := zipD_get (List.getElem?_eq_getElem hi)
    obtain ⟨v, k1, _⟩ := h4.get e1
    obtain ⟨u, k2, _⟩ := g4.get e2
    exact ⟨ws, zs, v, u, h3, g3, k1, k2⟩
  · obtain ⟨ws, h3, h4⟩ := W.lstAt s r hS.1
    obtain ⟨zs, g3, g4⟩ := W.lstAt s r' hS.2
    obtain ⟨T, x', y', rfl, hT, rfl, hx, hy⟩ := hy
    obtain ⟨x, y, e1, e2, rfl⟩ := zipD_get hi
    obtain ⟨v, k1, l1⟩ := h4.get e1
    obtain ⟨u, k2, l2⟩ := g4.get e2
    have h7 := hx ws h3
    rw [k1] at h7; cases h7
    have h8 := hy zs g3
    rw [k2] at h8; cases h8
    exact W.newT (.cons l1 (.cons l2 .nil)) hT
  · obtain ⟨ws, h3, h4⟩ := W.lstAt s r hS.1
    obtain ⟨zs, g3, g4⟩ := W.lstAt s r' hS.2
    refine ⟨ws, zs, h3, g3, ?_⟩
    rw [h4.length, g4.length]
    simp only [zipD, List.length_map, List.length_zip] at hi
    omega⟩
end
end Gh
end

section
set_option Elab.async false
set_option linter.all false
set_option maxRecDepth 100000
set_option maxHeartbeats 4000000
namespace Gh
open PySem PySem.Spec PyProof.Rows L2

section
variable {Y : Ctx} {F F' : Hp} {R Gl Gl' G : Gs} {ρ ρ' : Rho} {σ σ' : L2.St} {H H' : Hp}
theorem Wd.addR (W : Wd Y F R Gl G ρ σ H) {a : Addr} {g : GO} (h : Gl a = some g) (h1 : G a = none) (h2 : R a = none) (h3 : ¬ Owned ρ σ a) : Wd Y F (gupd R a g) Gl G ρ σ H := by
  refine ⟨W.f0, W.len, W.g, fun b u e => ?_, fun b u e => ?_, fun b => ?_, fun i x s e1 e2 => ?_, W.inj, W.abs⟩
  · have q := W.r0 b u e
    have : b ≠ a := gne q h2
    rw [gupd_ne this]; exact q
  · by_cases q : b = a
    · subst q; rw [gupd_same] at e; cases e; exact h
    · rw [gupd_ne q] at e; exact W.r b u e
  · by_cases q : b = a
    · subst q; exact .inl h1
    · rw [gupd_ne q]; exact W.gr b
  · have q := W.sv i x s e1 e2
    cases x with
    | unk => trivial
    | dat d => exact q
    | own ds =>
      obtain ⟨l, z1, z2, z3, z4⟩ := q
      subst z1
      refine ⟨l, rfl, z2, z3, ?_⟩
      have : l ≠ a := fun z => h3 ⟨i, ⟨_, e1, rfl⟩, by rw [← z]; exact e2⟩
      rw [gupd_ne this]; exact z4
    | ownd ds =>
      obtain ⟨l, z1, z2, z3, z4⟩ := q
      subst z1
      refine ⟨l, rfl, z2, z3, ?_⟩
      have : l ≠ a := fun z => h3 ⟨i, ⟨_, e1, rfl⟩, by rw [← z]; exact e2⟩
      rw [gupd_ne this]; exact z4
theorem Wd.subR (W : Wd Y F R Gl G ρ σ H) {R' : Gs} (h0 : GEx Y.R R') (h : GEx R' R) : Wd Y F R' Gl G ρ σ H := by
  refine ⟨W.f0, W.len, W.g, h0, fun b u e => W.r b u (h b u e), fun b => (W.gr b).imp id fun z => h.none z, fun i x s e1 e2 => ?_, W.inj, W.abs⟩
  have q := W.sv i x s e1 e2
  cases x with
  | unk => trivial
  | dat d => exact q
  | own ds => obtain ⟨l, z1, z2, z3, z4⟩ := q; exact ⟨l, z1, z2, z3, h.none z4⟩
  | ownd ds => obtain ⟨l, z1, z2, z3, z4⟩ := q; exact ⟨l, z1, z2, z3, h.none z4⟩
theorem gex_upd {R : Gs} {a : Addr} {g : GO} (h : R a = none) : GEx R (gupd R a g) := fun b u e => by rw [gupd_ne (gne e h)]; exact e
theorem Wd.putR {Dl : Addr} {g : GO} (W : Wd Y F (gupd R Dl g) Gl G ρ σ H) {g' : GO} {o : HO} (h0 : R Dl = none) (h0' : Y.R Dl = none) (hk : g.isLk = false) (r : ORep Y.K F o g') : Wd Y F (gupd R Dl g') (gupd Gl Dl g') G ρ σ (upd H Dl o) := by
  have hG : G Dl = none := (W.gr Dl).resolve_right (by rw [gupd_same]; exact fun z => nomatch z)
  have hl := W.r Dl g gupd_same
  refine ⟨W.f0, W.len, fun b u e => ?_, fun b u e => ?_, fun b u e => ?_, fun b => ?_, fun i x s e1 e2 => ?_, W.inj, W.abs.put hl hk r⟩
  · rw [gupd_ne (gne e hG)]; exact W.g b u e
  · have q : b ≠ Dl := gne e h0'
    have := W.r0 b u e
    rw [gupd_ne q] at this ⊢; exact this
  · by_cases q : b = Dl
    · subst q; rw [gupd_same] at e ⊢; exact e
    · rw [gupd_ne q] at e ⊢; exact W.r b u (by rw [gupd_ne q]; exact e)
  · by_cases q : b = Dl
    · subst q; exact .inl hG
    · have := W.gr b
      rw [gupd_ne q] at this ⊢; exact this
  · have q := W.sv i x s e1 e2
    have key : ∀ l, (gupd R Dl g) l = none → l ≠ Dl := fun l z e => by subst e; rw [gupd_same] at z; cases z
    cases x with
    | unk => trivial
    | dat d => exact q
    | own ds => obtain ⟨l, z1, z2, z3, z4⟩ := q; have := key l z4; exact ⟨l, z1, by rw [gupd_ne this]; exact z2, z3, by rw [gupd_ne this] at z4 ⊢; exact z4⟩
    | ownd ds => obtain ⟨l, z1, z2, z3, z4⟩ := q; have := key l z4; exact ⟨l, z1, by rw [gupd_ne this]; exact z2, z3, by rw [gupd_ne this] at z4 ⊢; exact z4⟩
/-- back from other slots -/
theorem Wd.back {Y' : Ctx} (eK : Y'.K = Y.K) (eF : Y'.F0 = Y.F0) (W : Wd Y F R Gl G ρ σ H) (W' : Wd Y' F' R Gl' G ρ' σ' H') (s : Same F F') (h : ∀ i, OwnAt ρ i → ρ'[i]? = ρ[i]? ∧ σ'[i]? = σ[i]?) : Wd Y F' R Gl' G ρ σ H' := by
  refine ⟨fun a o z => s a o (W.f0 a o z), W.len, W'.g, W.r0, W'.r, W.gr, fun i x t e1 e2 => ?_, W.inj, by have := W'.abs; rwa [eK] at this⟩
  have q := W.sv i x t e1 e2
  cases x with
  | unk => trivial
  | dat d => obtain ⟨v, h3, h4⟩ := q; exact ⟨v, h3, h4.mono s⟩
  | own ds => obtain ⟨h1, h2⟩ := h i ⟨_, e1, rfl⟩; exact W'.sv i _ t (h1.trans e1) (h2.trans e2)
  | ownd ds => obtain ⟨h1, h2⟩ := h i ⟨_, e1, rfl⟩; exact W'.sv i _ t (h1.trans e1) (h2.trans e2)
/-- to another context that agrees -/
theorem Wd.to {Y' : Ctx} (W : Wd Y F R Gl G ρ σ H) (eK : Y'.K = Y.K) (eF : Y'.F0 = Y.F0) (eR : Y'.R = Y.R) : Wd Y' F R Gl G ρ σ H :=
  ⟨by rw [eF]; exact W.f0, W.len, W.g, by rw [eR]; exact W.r0, W.r, W.gr, by rw [eK]; exact W.sv, W.inj, by rw [eK]; exact W.abs⟩
def wipeR (ρ : Rho) : List Nat → Rho
  | [] => ρ
  | v :: vs => (wipeR ρ vs).set v .unk
theorem Wd.wipes (W : Wd Y F R Gl G ρ σ H) : ∀ vs : List Nat, Wd Y F R Gl G (wipeR ρ vs) (wipe σ vs) H
  | [] => W
  | v :: vs => (W.wipes vs).unk v none
theorem wipe_get {σ : L2.St} {i : Nat} : ∀ {vs : List Nat}, i ∉ vs → (wipe σ vs)[i]? = σ[i]?
  | [], _ => rfl
  | v :: vs, h => by
    show ((wipe σ vs).set v none)[i]? = _
    rw [List.getElem?_set_ne (fun e => h (by simp [e])), wipe_get (vs := vs) fun z => h (List.mem_cons_of_mem _ z)]
theorem wipeR_get {ρ : Rho} {i : Nat} : ∀ {vs : List Nat}, i ∉ vs → (wipeR ρ vs)[i]? = ρ[i]?
  | [], _ => rfl
  | v :: vs, h => by
    show ((wipeR ρ vs).set v .unk)[i]? = _
    rw [List.getElem?_set_ne (fun e => h (by simp [e])), wipeR_get (vs := vs) fun z => h (List.mem_cons_of_mem _ z)]
end

/-! ### the context of a comprehension's block -/
theorem relabel_eq (scope : Scope) (env : Env) : relabel scope env = relS scope env.scope := rfl
abbrev Ctx.blk (Y : Ctx) (scope : Scope) : Ctx where
  ι := Y.ι × Shared × Hp × Addr × List (Str × Addr) × List Addr
  X := fun q => (Y.X q.1).blk q.2.1 q.2.2.1 scope (compEnvC scope q.2.2.2.2.1 q.2.2.2.1 (Y.X q.1).env) q.2.2.2.2.2
  P := Y.P
  w := Y.w
  K := Y.K
  mg := Y.mg
  base := Y.base
  N := Y.N
  sc := relS scope Y.sc
  fn := fun x => scope.names.lookup x == some .cell
  k := Y.k
  cm := Y.cm
  F0 := Y.F0
  R := Y.R
  hP := fun q => Y.hP q.1
  hw := fun q => Y.hw q.1
  hK := fun q => Y.hK q.1
  hmg := fun q => Y.hmg q.1
  hbase := fun q => Y.hbase q.1
  hN := fun q => Y.hN q.1
  hsc := fun q => (relabel_eq scope (Y.X q.1).env).trans (by rw [Y.hsc q.1])
  hfn := fun _ => rfl
  hc := fun e q => Y.hc e q.1
  hr := fun q => Y.hr q.1
instance calmBlk {Y : Ctx} [h : Calm Y] {scope : Scope} : Calm (Y.blk scope) := ⟨h.h⟩

/-- what a comprehension walks: nothing changes under way -/
structure GIc (Y : Ctx) (tg e : Expr) (ρ : Rho) (G : Gs) (xs : List D) : Prop where
  run : ∀ F R Gl σ H Q, Wd Y F R Gl G ρ σ H → (∀ J F' Gl' H' S, Same F F' → Wd Y F' R Gl' G ρ σ H' → S ρ σ G → Yields Y F' xs S J → Q J H') → wI Y tg e σ H Q
section
variable {Y : Ctx} {ρ : Rho} {G : Gs} {e iter tg elt : Expr} {ifs : List Expr} {pos p : Pos} {ds : List D} {d : D}
theorem gic {xs : List D} {S : Gs → Prop} (h : GI Y tg e ρ G xs S) (hS : S G) : GIc Y tg e ρ G xs := ⟨fun F R Gl σ H Q W q => h.run F R Gl σ H Q W fun J F' Gl' H' s W' y => q J F' Gl' H' _ s W' hS y⟩
theorem gic_lst {xs : List D} (he : GE Y e ρ G d) (hv : ViewD G d (.lst xs)) : GIc Y tg e ρ G xs := gic (gi_lst he hv) hv
/-- over a list that a slot owns -/
theorem gic_own (j : Nat) {x : Str} (h : ρ[j]? = some (.own ds)) (hN : Y.N[j]? = some x := by rfl) (hv : Vis Y.sc x := by first | exact Or.inl rfl | exact Or.inr (Or.inl rfl) | exact Or.inr (Or.inr rfl)) (hd : (x == ("__debug__" : Str)) = false := by decide) (hcd : (x == ("__classdict__" : Str)) = false := by decide) :
    GIc Y tg (.Name x p) ρ G ds := ⟨fun F R Gl σ H Q W q => by
  obtain ⟨s, h1, l, rfl, h3⟩ := W.get h
  obtain ⟨a, vs, e0, h4, h5⟩ := W.lstV (.ol (l := l) h h1)
  cases e0
  refine wI.of (t := iList Y.K (tVar j)) (fun i => by have := @pi_list (Y.X i) tg (.Name x p) _ (var_pe hN hv hd hcd i); rwa [Y.hK i] at this) ⟨_, h1, l, rfl, ⟨vs, h4⟩, ?_⟩
  have at' : ∀ {F' R Gl G ρ' σ' H}, Wd Y F' R Gl G ρ' σ' H → ρ'[j]? = some (.own ds) ∧ σ'[j]? = some (some (.ref l)) → ∃ vs, SqL Y.K H l vs ∧ Reps Y.K F' vs ds := fun {F' R Gl G ρ' σ' H} W z => by
    obtain ⟨a', vs, e, h1, h2⟩ := W.lstV (.ol (l := l) z.1 z.2)
    cases e
    exact ⟨vs, h1, h2⟩
  refine q _ F Gl H (fun ρ' σ' _ => ρ'[j]? = some (.own ds) ∧ σ'[j]? = some (some (.ref l))) (Same.refl F) W ⟨h, h1⟩ ⟨fun i F' R Gl G ρ σ H s W hS hi => ?_, fun i F' R Gl G ρ σ H x H2 d' s W hS hi hy => ?_, fun i F' R Gl G ρ σ H s W hS hi => ?_⟩
  · obtain ⟨vs, h3, h4⟩ := at' W hS
    exact ⟨vs, vs[i]'(by rw [h4.length]; exact hi), h3, List.getElem?_eq_getElem _⟩
  · obtain ⟨vs, h3, h4⟩ := at' W hS
    obtain ⟨rfl, hy⟩ := hy
    obtain ⟨v, h5, h6⟩ := h4.get hi
    have h7 := hy vs h3
    rw [h5] at h7; cases h7
    exact ⟨F', Same.refl _, W, h6⟩
  · obtain ⟨vs, h3, h4⟩ := at' W hS
    exact ⟨vs, h3, by rw [h4.length]; exact hi⟩⟩

/-! ### list comprehensions of one clause -/
def lcOut {α : Type} (ys : List α) (p : α → Bool) (f : α → D) (i : Nat) : List D := ((ys.take i).filter p).map f
theorem lcOut_len {α : Type} {ys : List α} {p : α → Bool} {f : α → D} {i : Nat} : (lcOut ys p f i).length ≤ ys.length := by
  unfold lcOut
  rw [List.length_map]
  exact Nat.le_trans (List.length_filter_le _ _) (by rw [List.length_take]; omega)
theorem lcOut_yes {α : Type} {ys : List α} {p : α → Bool} {f : α → D} {i : Nat} {y : α} (h : ys[i]? = some y) (hp : p y = true) : lcOut ys p f (i + 1) = lcOut ys p f i ++ [f y] := by
  unfold lcOut
  rw [List.take_add_one, h]
  simp [hp]
theorem lcOut_no {α : Type} {ys : List α} {p : α → Bool} {f : α → D} {i : Nat} {y : α} (h : ys[i]? = some y) (hp : p y = false) : lcOut ys p f (i + 1) = lcOut ys p f i := by
  unfold lcOut
  rw [List.take_add_one, h]
  simp [hp]
theorem lc_goI {α : Type} {ys : List α} {enc : α → D} {pr : α → Bool} {f : α → D} {ρb : α → Rho} {scope : Scope} {js vs : List Nat} {tt : TT} {wi : TI} {F : Hp} {R Gl : Gs} {σ : L2.St} {H : Hp} (hi : ∀ Q : It → Hp → Prop, (∀ J F' Gl' H' S, Same F F' → Wd Y F' R Gl' G ρ σ H' → S ρ σ G → Yields Y F' (ys.map enc) S J → Q J H') → wi σ H Q) (hg : ∀ y ∈ ys, GG (Y.blk scope) tg js (enc y) (wipeR ρ vs) (ρb y)) (hjs : ∀ j ∈ js, j ∈ vs)
    (htt : ∀ y ∈ ys, ∀ F R Gl σ H Q, Wd (Y.blk scope) F R Gl G (ρb y) σ H → (∀ F' Gl' H', Same F F' → Wd (Y.blk scope) F' R Gl' G (ρb y) σ H' → Q (pr y) H') → tt σ H Q) (he : ∀ y ∈ ys, pr y = true → GE (Y.blk scope) elt (ρb y) G (f y))
    (hl : ys.length < 100000) (hown : ∀ j ∈ vs, ¬ OwnAt ρ j) (W : Wd Y F R Gl G ρ σ H) :
    tLc wi (wG (Y.blk scope) tg) tt (wE (Y.blk scope) elt) vs σ H (PN Y F R G ρ σ (.lst ((ys.filter pr).map f))) := by
  have hsz : 100000 ≤ sizeLine := by decide
  refine hi _ fun J F1 Gl1 H1 S s1 W1 hS YJ => fun Dl hD => ?_
  obtain ⟨fF, fGl, fG, fR, fO⟩ := W1.fresh hD
  have fYR : Y.R Dl = none := W1.r0.none fR
  refine ⟨fun i m H => m = ys.length - i ∧ i ≤ ys.length ∧ ∃ F' Gl', Same F1 F' ∧ Wd Y F' (gupd R Dl (.lst (lcOut ys pr f i))) Gl' G ρ σ H, ⟨ys.length, by simp, Nat.zero_le _, F1, _, Same.refl _, (W1.newG hD (.lst .nil)).addR gupd_same fG fR fO⟩, ?_⟩
  rintro i m H2 ⟨rfl, hle, F2, Gl2, s2, W2⟩
  have out : ∀ {F' Gl' ρ' σ' H' Y'}, Wd Y' F' (gupd R Dl (.lst (lcOut ys pr f i))) Gl' G ρ' σ' H' → ∃ acc, H' Dl = some (.lst acc) ∧ Reps Y'.K F' acc (lcOut ys pr f i) := fun {F' Gl' ρ' σ' H' Y'} W => by
    obtain ⟨_, o, ho, r⟩ := W.abs.obj Dl _ (W.r Dl _ gupd_same)
    cases r with | lst r => exact ⟨_, ho, r⟩
  by_cases hlt : i < ys.length
  · refine .inr ⟨YJ.go i F2 _ Gl2 G ρ σ H2 s2 W2 hS (by simpa using hlt), fun H' => ∃ F' Gl', Same F1 F' ∧ Wd Y F' (gupd R Dl (.lst (lcOut ys pr f (i + 1)))) Gl' G ρ σ H', fun H' h => ⟨ys.length - (i + 1), by omega, rfl, hlt, h⟩, fun x H3 hy => ?_⟩
    have hy0 : ys[i]? = some ys[i] := List.getElem?_eq_getElem hlt
    have hmem : ys[i] ∈ ys := List.getElem_mem hlt
    obtain ⟨F3, s3, W3, r3⟩ := YJ.yld i F2 _ Gl2 G ρ σ H2 x H3 (enc ys[i]) s2 W2 hS (by rw [List.getElem?_map, hy0]; rfl) hy
    have W3b : Wd (Y.blk scope) F3 (gupd R Dl (.lst (lcOut ys pr f i))) Gl2 G (wipeR ρ vs) (wipe σ vs) H3 := (W3.wipes vs).to rfl rfl rfl
    refine (hg _ hmem).run F3 _ Gl2 G (wipe σ vs) H3 x _ W3b r3 fun σ4 W4 k4 l4 => ⟨by rw [k4 vs hjs, wipe_wipe], ?_⟩
    have bk : ∀ {F5 Gl5 H5}, Same F3 F5 → Wd (Y.blk scope) F5 (gupd R Dl (.lst (lcOut ys pr f i))) Gl5 G (ρb ys[i]) σ4 H5 → Wd Y F5 (gupd R Dl (.lst (lcOut ys pr f i))) Gl5 G ρ σ H5 := fun {F5 Gl5 H5} s W => by
      refine W3.back (Y' := Y.blk scope) rfl rfl W s fun j hj => ?_
      have hv : j ∉ vs := fun z => hown j z hj
      have hj' : j ∉ js := fun z => hv (hjs j z)
      exact ⟨((hg _ hmem).same j hj').trans (wipeR_get hv), (l4 j hj').trans (wipe_get hv)⟩
    refine htt _ hmem F3 _ Gl2 σ4 H3 _ W4 fun F5 Gl5 H5 s5 W5 => ?_
    by_cases hp : pr ys[i] = true
    · rw [if_pos hp]
      refine ((he _ hmem hp).run F5 _ Gl5 σ4 H5 W5).mono fun v H6 ⟨F6, Gl6, s6, W6, r6⟩ => ?_
      obtain ⟨acc, ha, ra⟩ := out W6
      refine ⟨acc, ha, ?_, F6, _, (s2.trans s3).trans (s5.trans s6), (bk (s5.trans s6) W6).putR fR fYR rfl (g' := .lst (lcOut ys pr f (i + 1))) (.lst ?_)⟩
      · rw [ra.length]
        have := lcOut_len (ys := ys) (p := pr) (f := f) (i := i)
        omega
      · rw [lcOut_yes hy0 hp]
        exact ra.snoc r6
    · rw [if_neg hp]
      refine ⟨F5, Gl5, (s2.trans s3).trans s5, ?_⟩
      have := bk s5 W5
      rw [lcOut_no hy0 (by simpa using hp)]
      exact this
  · have e : i = ys.length := by omega
    subst e
    refine .inl ⟨YJ.stop _ F2 _ Gl2 G ρ σ H2 s2 W2 hS (by simp), F2, Gl2, Dl, rfl, s1.trans s2, W2.subR W.r0 (gex_upd fR), ?_, fG, fR, ?_⟩
    · have := W2.r Dl _ gupd_same
      rw [this]
      unfold lcOut
      rw [List.take_length]
    · exact fO
theorem lc_go {α : Type} {ys : List α} {enc : α → D} {pr : α → Bool} {f : α → D} {ρb : α → Rho} {scope : Scope} {js vs : List Nat} {tt : TT} (hi : GIc Y tg iter ρ G (ys.map enc)) (hg : ∀ y ∈ ys, GG (Y.blk scope) tg js (enc y) (wipeR ρ vs) (ρb y)) (hjs : ∀ j ∈ js, j ∈ vs)
    (htt : ∀ y ∈ ys, ∀ F R Gl σ H Q, Wd (Y.blk scope) F R Gl G (ρb y) σ H → (∀ F' Gl' H', Same F F' → Wd (Y.blk scope) F' R Gl' G (ρb y) σ H' → Q (pr y) H') → tt σ H Q) (he : ∀ y ∈ ys, pr y = true → GE (Y.blk scope) elt (ρb y) G (f y))
    (hl : ys.length < 100000) (hown : ∀ j ∈ vs, ¬ OwnAt ρ j) {F : Hp} {R Gl : Gs} {σ : L2.St} {H : Hp} (W : Wd Y F R Gl G ρ σ H) :
    tLc (wI Y tg iter) (wG (Y.blk scope) tg) tt (wE (Y.blk scope) elt) vs σ H (PN Y F R G ρ σ (.lst ((ys.filter pr).map f))) := lc_goI (fun Q q => hi.run F R Gl σ H Q W q) hg hjs htt he hl hown W
variable {scope : Scope}
theorem blkOk_i {own : List (Str × Nat)} (h : BlkOk Y.N Y.sc scope own) (i : Y.ι) : BlkOk (Y.X i).N (Y.X i).env.scope scope own := by rw [Y.hN i, Y.hsc i]; exact h
/-- [e for t in iter] -/
theorem gn_lc [Calm Y] {α : Type} {ys : List α} {enc : α → D} {f : α → D} {ρb : α → Rho} {js : List Nat} (own : List (Str × Nat)) (hN : Y.N.Nodup) (hi : GIc Y tg iter ρ G (ys.map enc)) (ok : BlkOk Y.N Y.sc scope own)
    (hg : ∀ y ∈ ys, GG (Y.blk scope) tg js (enc y) (wipeR ρ (own.map (·.2))) (ρb y)) (hjs : ∀ j ∈ js, j ∈ own.map (·.2)) (he : ∀ y ∈ ys, GE (Y.blk scope) elt (ρb y) G (f y)) (hl : ys.length < 100000) (hown : ∀ j ∈ own.map (·.2), ¬ OwnAt ρ j)
    (hs : ∀ env x, foldedSetIterable iter env x = pure x := by intro _ _; rfl) : GN Y (.ListComp elt [⟨tg, iter, [], 0⟩] scope pos) ρ G (.lst (ys.map f)) :=
  ⟨fun F R Gl σ H W => by
    have := lc_go (pr := fun _ => true) (tt := tYes) hi hg hjs (fun y _ F R Gl σ H Q W q => q F Gl H (Same.refl F) W) (fun y hy _ => he y hy) hl hown W
    rw [List.filter_eq_self.mpr fun _ _ => rfl] at this
    exact wE.of (fun i => pe_lc (Calm.cm (Y := Y) i) (by rw [Y.hN i]; exact hN) (wI.pi i) (blkOk_i ok i) (fun s H C cl fp => wG.pg (Y := Y.blk scope) (i, s, H, C, cl, fp)) (fun s H C cl fp => pts_nil) (fun s H C cl fp => wE.pe (Y := Y.blk scope) (i, s, H, C, cl, fp)) (hs _)) this⟩
/-- [e for t in iter if c] -/
theorem gn_lcIf [Calm Y] {α : Type} {ys : List α} {enc : α → D} {f : α → D} {pr : α → Bool} {ρb : α → Rho} {js : List Nat} {c : Expr} (own : List (Str × Nat)) (hN : Y.N.Nodup) (hi : GIc Y tg iter ρ G (ys.map enc)) (ok : BlkOk Y.N Y.sc scope own)
    (hg : ∀ y ∈ ys, GG (Y.blk scope) tg js (enc y) (wipeR ρ (own.map (·.2))) (ρb y)) (hjs : ∀ j ∈ js, j ∈ own.map (·.2)) (hc : ∀ y ∈ ys, GT (Y.blk scope) c (ρb y) G (pr y)) (he : ∀ y ∈ ys, pr y = true → GE (Y.blk scope) elt (ρb y) G (f y)) (hl : ys.length < 100000) (hown : ∀ j ∈ own.map (·.2), ¬ OwnAt ρ j)
    (hs : ∀ env x, foldedSetIterable iter env x = pure x := by intro _ _; rfl) : GN Y (.ListComp elt [⟨tg, iter, [c], 0⟩] scope pos) ρ G (.lst ((ys.filter pr).map f)) :=
  ⟨fun F R Gl σ H W => by
    have := lc_go (tt := wT (Y.blk scope) c) hi hg hjs (fun y hy F R Gl σ H Q W q => ((hc y hy).run F R Gl σ H W).mono fun b H' ⟨e, F', Gl', s, W'⟩ => by rw [e]; exact q F' Gl' H' s W') he hl hown W
    exact wE.of (fun i => pe_lc (Calm.cm (Y := Y) i) (by rw [Y.hN i]; exact hN) (wI.pi i) (blkOk_i ok i) (fun s H C cl fp => wG.pg (Y := Y.blk scope) (i, s, H, C, cl, fp)) (fun s H C cl fp => pts_one (wT.pt (Y := Y.blk scope) (i, s, H, C, cl, fp))) (fun s H C cl fp => wE.pe (Y := Y.blk scope) (i, s, H, C, cl, fp)) (hs _)) this⟩
end
end Gh
end

section
set_option Elab.async false
set_option linter.all false
set_option maxRecDepth 100000
set_option maxHeartbeats 4000000
namespace Gh
open PySem PySem.Spec PyProof.Rows L2

structure GEnds where
  nx : Rho → Gs → Prop
  rt : D → Gs → Prop
  bk : Rho → Gs → Prop := fun _ _ => False
  ct : Rho → Gs → Prop := fun _ _ => False
def wS (Y : Ctx) (st : Stmt) : TS := fun D σ H => ∀ i pins s, Inv (Y.X i) pins σ H s → wpAny (model (Y.X i).prog (Y.X i).w) (Y.X i).A (exec st (Y.X i).env) (SP (Y.X i) pins D) (Y.X i).xe s
def wSs (Y : Ctx) (st : List Stmt) : TS := fun D σ H => ∀ i pins s, Inv (Y.X i) pins σ H s → wpAny (model (Y.X i).prog (Y.X i).w) (Y.X i).A (execs st (Y.X i).env) (SP (Y.X i) pins D) (Y.X i).xe s
section
variable {Y : Ctx}
theorem wS.ps {st : Stmt} (i : Y.ι) : PS (Y.X i) st (wS Y st) := ⟨fun pins s σ H D I h => h i pins s I⟩
theorem wS.of {st : Stmt} {t : TS} {σ : L2.St} {H : Hp} {D : Ends} (h : ∀ i, PS (Y.X i) st t) (q : t D σ H) : wS Y st D σ H := fun i pins s I => (h i).run pins s σ H D I q
theorem wSs.pss {st : List Stmt} (i : Y.ι) : PSs (Y.X i) st (wSs Y st) := ⟨fun pins s σ H D I h => h i pins s I⟩
theorem wSs.of {st : List Stmt} {t : TS} {σ : L2.St} {H : Hp} {D : Ends} (h : ∀ i, PSs (Y.X i) st t) (q : t D σ H) : wSs Y st D σ H := fun i pins s I => (h i).run pins s σ H D I q
end
/-- a body's end -/
structure Fin (Y : Ctx) (F : Hp) (R Gl G : Gs) (H : Hp) : Prop where
  f0 : Same Y.F0 F
  g : GEx G Gl
  r0 : GEx Y.R R
  r : GEx R Gl
  gr : ∀ a, G a = none ∨ R a = none
  abs : Abs Y.K F Gl H
theorem Wd.fin {Y : Ctx} {F : Hp} {R Gl G : Gs} {ρ : Rho} {σ : L2.St} {H : Hp} (W : Wd Y F R Gl G ρ σ H) : Fin Y F R Gl G H := ⟨W.f0, W.g, W.r0, W.r, W.gr, W.abs⟩
structure Lift (Y : Ctx) (F : Hp) (R : Gs) (E : GEnds) (D : Ends) : Prop where
  nx : ∀ ρ' G' F' Gl' σ' H', Same F F' → Wd Y F' R Gl' G' ρ' σ' H' → E.nx ρ' G' → D.nx σ' H'
  bk : ∀ ρ' G' F' Gl' σ' H', Same F F' → Wd Y F' R Gl' G' ρ' σ' H' → E.bk ρ' G' → D.bk σ' H'
  ct : ∀ ρ' G' F' Gl' σ' H', Same F F' → Wd Y F' R Gl' G' ρ' σ' H' → E.ct ρ' G' → D.ct σ' H'
  rt : ∀ d G' F' Gl' v H', Same F F' → Fin Y F' R Gl' G' H' → Rep Y.K F' v d → E.rt d G' → D.rt v H'
theorem Lift.up {Y : Ctx} {F F1 : Hp} {R : Gs} {E : GEnds} {D : Ends} (L : Lift Y F R E D) (s : Same F F1) : Lift Y F1 R E D :=
  ⟨fun ρ' G' F' Gl' σ' H' q => L.nx ρ' G' F' Gl' σ' H' (s.trans q), fun ρ' G' F' Gl' σ' H' q => L.bk ρ' G' F' Gl' σ' H' (s.trans q), fun ρ' G' F' Gl' σ' H' q => L.ct ρ' G' F' Gl' σ' H' (s.trans q), fun d G' F' Gl' v H' q => L.rt d G' F' Gl' v H' (s.trans q)⟩
structure GS (Y : Ctx) (st : Stmt) (ρ : Rho) (G : Gs) (E : GEnds) : Prop where
  run : ∀ F R Gl σ H D, Wd Y F R Gl G ρ σ H → Lift Y F R E D → wS Y st D σ H
structure GSs (Y : Ctx) (st : List Stmt) (ρ : Rho) (G : Gs) (E : GEnds) : Prop where
  run : ∀ F R Gl σ H D, Wd Y F R Gl G ρ σ H → Lift Y F R E D → wSs Y st D σ H

section
variable {Y : Ctx} {ρ ρ' : Rho} {G : Gs} {E : GEnds} {st : Stmt} {rest sts a b : List Stmt} {e c o : Expr} {es : List Expr} {d d' : D} {ds : List D} {pos p : Pos}
theorem gss_nil (h : E.nx ρ G) : GSs Y [] ρ G E := ⟨fun F R Gl σ H D W L => wSs.of (fun i => pss_nil) (L.nx _ _ _ _ _ _ (Same.refl F) W h)⟩
theorem gss_cons (h : GS Y st ρ G { E with nx := fun ρ' G' => GSs Y rest ρ' G' E }) : GSs Y (st :: rest) ρ G E := ⟨fun F R Gl σ H D W L =>
  wSs.of (fun i => pss_cons (wS.ps i) (wSs.pss i)) (h.run F R Gl σ H { D with nx := wSs Y rest D } W
    ⟨fun ρ' G' F' Gl' σ' H' s W' q => q.run F' R Gl' σ' H' D W' (L.up s), L.bk, L.ct, L.rt⟩)⟩
theorem gss_one (h : GS Y st ρ G E) : GSs Y [st] ρ G E := ⟨fun F R Gl σ H D W L => wSs.of (fun i => pss_one (wS.ps i)) (h.run F R Gl σ H D W L)⟩
theorem gss_mono {E' : GEnds} (h : GSs Y sts ρ G E) (n : ∀ ρ G, E.nx ρ G → E'.nx ρ G) (r : ∀ d G, E.rt d G → E'.rt d G) (k : ∀ ρ G, E.bk ρ G → E'.bk ρ G) (t : ∀ ρ G, E.ct ρ G → E'.ct ρ G) : GSs Y sts ρ G E' := ⟨fun F R Gl σ H D W L => h.run F R Gl σ H D W
  ⟨fun ρ' G' F' Gl' σ' H' s W' q => L.nx ρ' G' F' Gl' σ' H' s W' (n _ _ q), fun ρ' G' F' Gl' σ' H' s W' q => L.bk ρ' G' F' Gl' σ' H' s W' (k _ _ q), fun ρ' G' F' Gl' σ' H' s W' q => L.ct ρ' G' F' Gl' σ' H' s W' (t _ _ q), fun d G' F' Gl' v H' s f r' q => L.rt d G' F' Gl' v H' s f r' (r _ _ q)⟩⟩
/-- a statement, then the rest, what holds between them said once -/
theorem gss_cut (Mid : Rho → Gs → Prop) (h : GS Y st ρ G { E with nx := Mid }) (k : ∀ ρ' G', Mid ρ' G' → GSs Y rest ρ' G' E) : GSs Y (st :: rest) ρ G E := gss_cons ⟨fun F R Gl σ H D W L => h.run F R Gl σ H D W
  ⟨fun ρ' G' F' Gl' σ' H' s W' q => L.nx ρ' G' F' Gl' σ' H' s W' (k _ _ q), L.bk, L.ct, L.rt⟩⟩
/-- a slot forgotten -/
theorem gss_forget (i : Nat) (h : GSs Y sts (ρ.set i .unk) G E) : GSs Y sts ρ G E := ⟨fun F R Gl σ H D W L => h.run F R Gl σ H D (W.forget i) L⟩
/-- a slot's own list is changed no longer -/
theorem gss_frz (i : Nat) (hi : ρ[i]? = some (.own ds)) (h : GSs Y sts (ρ.set i (.dat (.lst ds))) G E) : GSs Y sts ρ G E := ⟨fun F R Gl σ H D W L => by
  obtain ⟨s, h1, l, rfl, h2, h3, h4⟩ := W.get hi
  obtain ⟨_, o, ho, r⟩ := W.abs.obj l _ h2
  cases r with
  | lst r =>
  have W1 := W.forget i
  have nO : ¬ Owned (ρ.set i .unk) σ l := fun ⟨j, ⟨x, ex, ox⟩, ej⟩ => by
    rcases set_get ex with ⟨_, z⟩ | ⟨z, z2⟩
    · subst z; cases ox
    · exact z (W.inj j i l ⟨x, z2, ox⟩ ⟨_, hi, rfl⟩ ej h1)
  obtain ⟨W2, s2⟩ := W1.frz h2 rfl ho h3 h4 nO
  have W3 := W2.reD h1 (.lst (.inl upd_same) (r.mono s2))
  rw [List.set_set] at W3
  exact h.run _ R _ σ H D W3 (L.up s2)⟩
theorem gss_frzd {ds : List (Key × D)} (i : Nat) (hi : ρ[i]? = some (.ownd ds)) (h : GSs Y sts (ρ.set i (.dat (.dic ds))) G E) : GSs Y sts ρ G E := ⟨fun F R Gl σ H D W L => by
  obtain ⟨s, h1, l, rfl, h2, h3, h4⟩ := W.get hi
  obtain ⟨_, o, ho, r⟩ := W.abs.obj l _ h2
  cases r with
  | dic r =>
  have W1 := W.forget i
  have nO : ¬ Owned (ρ.set i .unk) σ l := fun ⟨j, ⟨x, ex, ox⟩, ej⟩ => by
    rcases set_get ex with ⟨_, z⟩ | ⟨z, z2⟩
    · subst z; cases ox
    · exact z (W.inj j i l ⟨x, z2, ox⟩ ⟨_, hi, rfl⟩ ej h1)
  obtain ⟨W2, s2⟩ := W1.frz h2 rfl ho h3 h4 nO
  have W3 := W2.reD h1 (.dic upd_same (r.mono s2))
  rw [List.set_set] at W3
  exact h.run _ R _ σ H D W3 (L.up s2)⟩
/-- .. is told by its address -/
theorem Wd.pub {F : Hp} {R Gl : Gs} {σ : L2.St} {H : Hp} {i : Nat} {l : Addr} {g : GO} (W : Wd Y F R Gl G ρ σ H) (ho : OwnAt ρ i) (h1 : σ[i]? = some (some (.ref l))) (h2 : Gl l = some g) (h3 : G l = none) (h4 : R l = none) : Wd Y F R Gl (gupd G l g) (ρ.set i (.dat (.ref l))) σ H := by
  have W1 := W.reD (d := .ref l) h1 (.ref l)
  refine ⟨W1.f0, W1.len, fun a u e => ?_, W1.r0, W1.r, fun a => ?_, fun j x s e1 e2 => ?_, W1.inj, W1.abs⟩
  · by_cases q : a = l
    · subst q; rw [gupd_same] at e; cases e; exact h2
    · rw [gupd_ne q] at e; exact W.g a u e
  · by_cases q : a = l
    · subst q; exact .inr h4
    · rw [gupd_ne q]; exact W.gr a
  · have q := W1.sv j x s e1 e2
    have ne : x.isOwn = true → ∀ l', s = some (.ref l') → l' ≠ l := fun ox l' es el => by
      subst el; subst es
      rcases set_get e1 with ⟨_, z⟩ | ⟨z, z2⟩
      · subst z; cases ox
      · exact z (W.inj j i l' ⟨x, z2, ox⟩ ho e2 h1)
    cases x with
    | unk => trivial
    | dat d => exact q
    | own ds => obtain ⟨l', z1, z2, z3, z4⟩ := q; exact ⟨l', z1, z2, by rw [gupd_ne (ne rfl l' z1)]; exact z3, z4⟩
    | ownd ds => obtain ⟨l', z1, z2, z3, z4⟩ := q; exact ⟨l', z1, z2, by rw [gupd_ne (ne rfl l' z1)]; exact z3, z4⟩
theorem gss_pub (i : Nat) (hi : ρ[i]? = some (.own ds)) (h : ∀ l, G l = none → GSs Y sts (ρ.set i (.dat (.ref l))) (gupd G l (.lst ds)) E) : GSs Y sts ρ G E := ⟨fun F R Gl σ H D W L => by
  obtain ⟨s, h1, l, rfl, h2, h3, h4⟩ := W.get hi
  exact (h l h3).run F R Gl σ H D (W.pub ⟨_, hi, rfl⟩ h1 h2 h3 h4) L⟩
theorem gss_pubd {ds : List (Key × D)} (i : Nat) (hi : ρ[i]? = some (.ownd ds)) (h : ∀ l, G l = none → GSs Y sts (ρ.set i (.dat (.ref l))) (gupd G l (.dic ds)) E) : GSs Y sts ρ G E := ⟨fun F R Gl σ H D W L => by
  obtain ⟨s, h1, l, rfl, h2, h3, h4⟩ := W.get hi
  exact (h l h3).run F R Gl σ H D (W.pub ⟨_, hi, rfl⟩ h1 h2 h3 h4) L⟩

/-! ### small statements -/
theorem gs_pass (h : E.nx ρ G) : GS Y (.Pass pos) ρ G E := ⟨fun F R Gl σ H D W L => wS.of (fun i => ps_pass) (L.nx _ _ _ _ _ _ (Same.refl F) W h)⟩
theorem gs_break (h : E.bk ρ G) : GS Y (.Break pos) ρ G E := ⟨fun F R Gl σ H D W L => wS.of (fun i => ps_break) (L.bk _ _ _ _ _ _ (Same.refl F) W h)⟩
theorem gs_continue (h : E.ct ρ G) : GS Y (.Continue pos) ρ G E := ⟨fun F R Gl σ H D W L => wS.of (fun i => ps_continue) (L.ct _ _ _ _ _ _ (Same.refl F) W h)⟩
theorem gs_doc {x : Str} {j : Nat} {pos' : Pos} (h : E.nx ρ G) : GS Y (.Expr (.Constant (.str x) j pos) pos') ρ G E := ⟨fun F R Gl σ H D W L => wS.of (fun i => ps_doc) (L.nx _ _ _ _ _ _ (Same.refl F) W h)⟩
theorem gs_expr (h : GW Y e ρ G fun _ G' => E.nx ρ G') (hs : ∀ i, swapsWith e none pos.line (Y.X i).env = pure false := by intro _; rfl) : GS Y (.Expr e pos) ρ G E := ⟨fun F R Gl σ H D W L =>
  wS.of (fun i => ps_expr (wE.pe i) (hs i)) ((h.run F R Gl σ H W).mono fun v H' ⟨F', Gl', G', d, s, W', r, q⟩ => L.nx _ _ _ _ _ _ s W' q)⟩
theorem gs_never (h : False) : GS Y st ρ G E := h.elim
/-- what is handed back -/
structure GF (Y : Ctx) (e : Expr) (ρ : Rho) (G : Gs) (P : D → Gs → Prop) : Prop where
  run : ∀ F R Gl σ H, Wd Y F R Gl G ρ σ H → wE Y e σ H fun v H' => ∃ F' Gl' G' d, Same F F' ∧ Fin Y F' R Gl' G' H' ∧ Rep Y.K F' v d ∧ P d G'
theorem gf_w {P : D → Gs → Prop} (h : GW Y e ρ G P) : GF Y e ρ G P := ⟨fun F R Gl σ H W => (h.run F R Gl σ H W).mono fun v H' ⟨F', Gl', G', d, s, W', r, q⟩ => ⟨F', Gl', G', d, s, W'.fin, r, q⟩⟩
theorem gf_e {P : D → Gs → Prop} (h : GE Y e ρ G d) (q : P d G) : GF Y e ρ G P := gf_w (gw_ge h q)
theorem gf_own {P : D → Gs → Prop} (j : Nat) {x : Str} (h : ρ[j]? = some (.own ds)) (q : P (.lst ds) G) (hN : Y.N[j]? = some x := by rfl) (hv : Vis Y.sc x := by first | exact Or.inl rfl | exact Or.inr (Or.inl rfl) | exact Or.inr (Or.inr rfl)) (hd : (x == ("__debug__" : Str)) = false := by decide) (hcd : (x == ("__classdict__" : Str)) = false := by decide) :
    GF Y (.Name x p) ρ G P := ⟨fun F R Gl σ H W => by
  obtain ⟨s, h1, l, rfl, h2, h3, h4⟩ := W.get h
  obtain ⟨_, o, ho, r⟩ := W.abs.obj l _ h2
  cases r with
  | lst r =>
  have W1 := W.forget j
  have nO : ¬ Owned (ρ.set j .unk) σ l := fun ⟨k, ⟨x, ex, ox⟩, ej⟩ => by
    rcases set_get ex with ⟨_, z⟩ | ⟨z, z2⟩
    · subst z; cases ox
    · exact z (W.inj k j l ⟨x, z2, ox⟩ ⟨_, h, rfl⟩ ej h1)
  obtain ⟨W2, s2⟩ := W1.frz h2 rfl ho h3 h4 nO
  exact wE.of (var_pe hN hv hd hcd) ⟨_, h1, _, _, G, _, s2, W2.fin, .lst (.inl upd_same) (r.mono s2), q⟩⟩
theorem gf_ownd {P : D → Gs → Prop} {ds : List (Key × D)} (j : Nat) {x : Str} (h : ρ[j]? = some (.ownd ds)) (q : P (.dic ds) G) (hN : Y.N[j]? = some x := by rfl) (hv : Vis Y.sc x := by first | exact Or.inl rfl | exact Or.inr (Or.inl rfl) | exact Or.inr (Or.inr rfl)) (hd : (x == ("__debug__" : Str)) = false := by decide) (hcd : (x == ("__classdict__" : Str)) = false := by decide) :
    GF Y (.Name x p) ρ G P := ⟨fun F R Gl σ H W => by
  obtain ⟨s, h1, l, rfl, h2, h3, h4⟩ := W.get h
  obtain ⟨_, o, ho, r⟩ := W.abs.obj l _ h2
  cases r with
  | dic r =>
  have W1 := W.forget j
  have nO : ¬ Owned (ρ.set j .unk) σ l := fun ⟨k, ⟨x, ex, ox⟩, ej⟩ => by
    rcases set_get ex with ⟨_, z⟩ | ⟨z, z2⟩
    · subst z; cases ox
    · exact z (W.inj k j l ⟨x, z2, ox⟩ ⟨_, h, rfl⟩ ej h1)
  obtain ⟨W2, s2⟩ := W1.frz h2 rfl ho h3 h4 nO
  exact wE.of (var_pe hN hv hd hcd) ⟨_, h1, _, _, G, _, s2, W2.fin, .dic upd_same (r.mono s2), q⟩⟩
/-- an own dict handed back as a thing that may change -/
theorem gf_owndR {P : D → Gs → Prop} {ds : List (Key × D)} (j : Nat) {x : Str} (h : ρ[j]? = some (.ownd ds)) (q : ∀ l, G l = none → P (.ref l) (gupd G l (.dic ds))) (hN : Y.N[j]? = some x := by rfl) (hv : Vis Y.sc x := by first | exact Or.inl rfl | exact Or.inr (Or.inl rfl) | exact Or.inr (Or.inr rfl)) (hd : (x == ("__debug__" : Str)) = false := by decide) (hcd : (x == ("__classdict__" : Str)) = false := by decide) :
    GF Y (.Name x p) ρ G P := ⟨fun F R Gl σ H W => by
  obtain ⟨s, h1, l, rfl, h2, h3, h4⟩ := W.get h
  have W2 := W.pub ⟨_, h, rfl⟩ h1 h2 h3 h4
  exact wE.of (var_pe hN hv hd hcd) ⟨_, h1, F, Gl, _, _, Same.refl F, W2.fin, .ref l, q l h3⟩⟩
theorem gf_ownR {P : D → Gs → Prop} {ds : List D} (j : Nat) {x : Str} (h : ρ[j]? = some (.own ds)) (q : ∀ l, G l = none → P (.ref l) (gupd G l (.lst ds))) (hN : Y.N[j]? = some x := by rfl) (hv : Vis Y.sc x := by first | exact Or.inl rfl | exact Or.inr (Or.inl rfl) | exact Or.inr (Or.inr rfl)) (hd : (x == ("__debug__" : Str)) = false := by decide) (hcd : (x == ("__classdict__" : Str)) = false := by decide) :
    GF Y (.Name x p) ρ G P := ⟨fun F R Gl σ H W => by
  obtain ⟨s, h1, l, rfl, h2, h3, h4⟩ := W.get h
  have W2 := W.pub ⟨_, h, rfl⟩ h1 h2 h3 h4
  exact wE.of (var_pe hN hv hd hcd) ⟨_, h1, F, Gl, _, _, Same.refl F, W2.fin, .ref l, q l h3⟩⟩
theorem gs_ret (h : GF Y e ρ G E.rt) : GS Y (.Return (some e) pos) ρ G E := ⟨fun F R Gl σ H D W L =>
  wS.of (fun i => ps_ret (wE.pe i)) ((h.run F R Gl σ H W).mono fun v H' ⟨F', Gl', G', d, s, f, r, q⟩ => L.rt _ _ _ _ _ _ s f r q)⟩
theorem gs_retE (h : GE Y e ρ G d) (q : E.rt d G) : GS Y (.Return (some e) pos) ρ G E := gs_ret (gf_e h q)
theorem gs_retN (q : E.rt .non G) : GS Y (.Return none pos) ρ G E := ⟨fun F R Gl σ H D W L => wS.of (fun i => ps_retN) (L.rt _ _ _ _ _ _ (Same.refl F) W.fin .non q)⟩
theorem gs_if {x : Bool} (hc : GT Y c ρ G x) (h1 : x = true → GSs Y a ρ G E) (h2 : x = false → GSs Y b ρ G E) : GS Y (.If c a b pos) ρ G E := ⟨fun F R Gl σ H D W L =>
  wS.of (fun i => ps_if (wT.pt i) (wSs.pss i) (wSs.pss i)) ((hc.run F R Gl σ H W).mono fun v H1 ⟨z, F', Gl', s, W'⟩ => by
    subst z
    cases v with
    | true => exact (h1 rfl).run F' R Gl' σ H1 D W' (L.up s)
    | false => exact (h2 rfl).run F' R Gl' σ H1 D W' (L.up s))⟩

/-! ### stores -/
theorem nd_i (hN : Y.N.Nodup) (i : Y.ι) : (Y.X i).N.Nodup := by rw [Y.hN i]; exact hN
theorem set_ps {x : Str} {j : Nat} {pos' : Pos} (hd : Y.N.Nodup) (hN : Y.N[j]? = some x) (hx : Loc Y.sc x) (hs : ∀ i, swapsWith e (some (.Name x pos')) pos.line (Y.X i).env = pure false) (hf : Y.fn x = true ∨ Y.sc.names.lookup x = some .local) (i : Y.ι) :
    PS (Y.X i) (.Assign [.Name x pos'] e pos) (tAsg (wE Y e) (gName j)) := ps_set (nd_i hd i) (nm_i hN) (loc_i hx i) (wE.pe i) (hs i) (fn_i hf i)
theorem gs_set (j : Nat) {x : Str} {pos' : Pos} (hd : Y.N.Nodup) (he : GE Y e ρ G d) (k : E.nx (ρ.set j (.dat d)) G) (hN : Y.N[j]? = some x := by rfl) (hx : Loc Y.sc x := by first | exact .inl rfl | exact .inr rfl) (hs : ∀ i, swapsWith e (some (.Name x pos')) pos.line (Y.X i).env = pure false := by intro _; rfl)
    (hf : Y.fn x = true ∨ Y.sc.names.lookup x = some .local := by first | exact .inl rfl | exact .inr rfl) : GS Y (.Assign [.Name x pos'] e pos) ρ G E := ⟨fun F R Gl σ H D W L =>
  wS.of (set_ps hd hN hx hs hf) ((he.run F R Gl σ H W).mono fun v H' ⟨F', Gl', s, W', r⟩ => L.nx _ _ _ _ _ _ s (W'.setD r) k)⟩
/-- the value told with what it does to G -/
theorem gs_setW (j : Nat) {x : Str} {pos' : Pos} (hd : Y.N.Nodup) (he : GW Y e ρ G fun d G' => E.nx (ρ.set j (.dat d)) G') (hN : Y.N[j]? = some x := by rfl) (hx : Loc Y.sc x := by first | exact .inl rfl | exact .inr rfl) (hs : ∀ i, swapsWith e (some (.Name x pos')) pos.line (Y.X i).env = pure false := by intro _; rfl)
    (hf : Y.fn x = true ∨ Y.sc.names.lookup x = some .local := by first | exact .inl rfl | exact .inr rfl) : GS Y (.Assign [.Name x pos'] e pos) ρ G E := ⟨fun F R Gl σ H D W L =>
  wS.of (set_ps hd hN hx hs hf) ((he.run F R Gl σ H W).mono fun v H' ⟨F', Gl', G', d, s, W', r, k⟩ => L.nx _ _ _ _ _ _ s (W'.setD r) k)⟩
theorem PN.own {F : Hp} {R : Gs} {σ : L2.St} {H : Hp} {v : V} {j : Nat} (h : PN Y F R G ρ σ (.lst ds) v H) : ∃ F' Gl', Same F F' ∧ Wd Y F' R Gl' G (ρ.set j (.own ds)) (σ.set j (some v)) H := by
  obtain ⟨F', Gl', l, rfl, s, W, h1, h2, h3, h4⟩ := h
  refine ⟨F', Gl', s, W.set ⟨l, rfl, h1, h2, h3⟩ fun _ l' e k _ ho hk => ?_⟩
  cases e
  exact h4 ⟨k, ho, hk⟩
theorem PN.ownd {F : Hp} {R : Gs} {σ : L2.St} {H : Hp} {v : V} {j : Nat} {ds : List (Key × D)} (h : PN Y F R G ρ σ (.dic ds) v H) : ∃ F' Gl', Same F F' ∧ Wd Y F' R Gl' G (ρ.set j (.ownd ds)) (σ.set j (some v)) H := by
  obtain ⟨F', Gl', l, rfl, s, W, h1, h2, h3, h4⟩ := h
  refine ⟨F', Gl', s, W.set ⟨l, rfl, h1, h2, h3⟩ fun _ l' e k _ ho hk => ?_⟩
  cases e
  exact h4 ⟨k, ho, hk⟩
theorem gs_own (j : Nat) {x : Str} {pos' : Pos} (hd : Y.N.Nodup) (he : GN Y e ρ G (.lst ds)) (k : E.nx (ρ.set j (.own ds)) G) (hN : Y.N[j]? = some x := by rfl) (hx : Loc Y.sc x := by first | exact .inl rfl | exact .inr rfl) (hs : ∀ i, swapsWith e (some (.Name x pos')) pos.line (Y.X i).env = pure false := by intro _; rfl)
    (hf : Y.fn x = true ∨ Y.sc.names.lookup x = some .local := by first | exact .inl rfl | exact .inr rfl) : GS Y (.Assign [.Name x pos'] e pos) ρ G E := ⟨fun F R Gl σ H D W L =>
  wS.of (set_ps hd hN hx hs hf) ((he.run F R Gl σ H W).mono fun v H' h => by obtain ⟨F', Gl', s, W'⟩ := h.own (j := j); exact L.nx _ _ _ _ _ _ s W' k)⟩
theorem gs_ownd (j : Nat) {x : Str} {pos' : Pos} {ds : List (Key × D)} (hd : Y.N.Nodup) (he : GN Y e ρ G (.dic ds)) (k : E.nx (ρ.set j (.ownd ds)) G) (hN : Y.N[j]? = some x := by rfl) (hx : Loc Y.sc x := by first | exact .inl rfl | exact .inr rfl) (hs : ∀ i, swapsWith e (some (.Name x pos')) pos.line (Y.X i).env = pure false := by intro _; rfl)
    (hf : Y.fn x = true ∨ Y.sc.names.lookup x = some .local := by first | exact .inl rfl | exact .inr rfl) : GS Y (.Assign [.Name x pos'] e pos) ρ G E := ⟨fun F R Gl σ H D W L =>
  wS.of (set_ps hd hN hx hs hf) ((he.run F R Gl σ H W).mono fun v H' h => by obtain ⟨F', Gl', s, W'⟩ := h.ownd (j := j); exact L.nx _ _ _ _ _ _ s W' k)⟩
theorem gs_asg {tg : Expr} {js : List Nat} (he : GE Y e ρ G d) (hg : GG Y tg js d ρ ρ') (k : E.nx ρ' G) (hs : ∀ i, swapsWithSole [tg] e pos.line (Y.X i).env = pure false := by intro _; rfl) (hw : ∀ i, swappedStores [tg] e (Y.X i).env = pure none := by intro _; rfl)
    (h1 : ∀ i, (assignEach [tg] (Y.X i).env).map (·.2) = [assign tg (Y.X i).env] := by intro _; rfl) : GS Y (.Assign [tg] e pos) ρ G E := ⟨fun F R Gl σ H D W L =>
  wS.of (fun i => ps_asg (wE.pe i) (wG.pg i) (hs i) (hw i) (h1 i)) ((he.run F R Gl σ H W).mono fun v H' ⟨F', Gl', s, W', r⟩ => hg.run F' R Gl' G σ H' v _ W' r fun σ' W2 _ _ => L.nx _ _ _ _ _ _ s W2 k)⟩
variable {iter tg elt : Expr} {scope : Scope}
theorem wI.mono {σ : L2.St} {H : Hp} {Q Q' : It → Hp → Prop} (h : wI Y tg iter σ H Q) (q : ∀ J H', Q J H' → Q' J H') : wI Y tg iter σ H Q' := fun i pins s I => thn (h i pins s I) fun v s1 h1 => thn h1 fun u s2 ⟨it, fp, tn, J, H', a, b, c, d, f, r⟩ => ⟨it, fp, tn, J, H', a, b, c, d, f, q _ _ r⟩
theorem tLc_mono {g : TG} {tt : TT} {te : TE} {vs : List Nat} {σ : L2.St} {H : Hp} {Q Q' : VK} (h : tLc (wI Y tg iter) g tt te vs σ H Q) (q : ∀ v H', Q v H' → Q' v H') : tLc (wI Y tg iter) g tt te vs σ H Q' :=
  wI.mono h fun J H1 k Dl hD => by
    obtain ⟨W, h0, ht⟩ := k Dl hD
    exact ⟨W, h0, fun i m H w => (ht i m H w).imp (fun ⟨a, b⟩ => ⟨a, q _ _ b⟩) id⟩
/-- y = [e for t in iter] -/
theorem gs_lc [Calm Y] (j : Nat) {x : Str} {pos' lpos : Pos} {α : Type} {ys : List α} {enc : α → D} {f : α → D} {ρb : α → Rho} {js : List Nat} (own : List (Str × Nat)) (hd : Y.N.Nodup) (hi : GIc Y tg iter ρ G (ys.map enc)) (ok : BlkOk Y.N Y.sc scope own)
    (hg : ∀ y ∈ ys, GG (Y.blk scope) tg js (enc y) (wipeR ρ (own.map (·.2))) (ρb y)) (hjs : ∀ j ∈ js, j ∈ own.map (·.2)) (he : ∀ y ∈ ys, GE (Y.blk scope) elt (ρb y) G (f y)) (hl : ys.length < 100000) (hown : ∀ j ∈ own.map (·.2), ¬ OwnAt ρ j)
    (k : E.nx (ρ.set j (.own (ys.map f))) G) (hN : Y.N[j]? = some x := by rfl) (hx : Y.sc.names.lookup x = some .local := by rfl)
    (hsw : ∀ i, swapsWith (.ListComp elt [⟨tg, iter, [], 0⟩] scope lpos) (some (.Name x pos')) pos.line (Y.X i).env = pure true := by exact fun _ => sw_true rfl rfl rfl (by decide +kernel)) (hs : ∀ env x, foldedSetIterable iter env x = pure x := by intro _ _; rfl) :
    GS Y (.Assign [.Name x pos'] (.ListComp elt [⟨tg, iter, [], 0⟩] scope lpos) pos) ρ G E := ⟨fun F R Gl σ H D W L => by
  have := lc_go (pr := fun _ => true) (tt := tYes) hi hg hjs (fun y _ F R Gl σ H Q W q => q F Gl H (Same.refl F) W) (fun y hy _ => he y hy) hl hown W
  rw [List.filter_eq_self.mpr fun _ _ => rfl] at this
  have h2 : wE Y (.ListComp elt [⟨tg, iter, [], 0⟩] scope lpos) σ H (PN Y F R G ρ σ (.lst (ys.map f))) := wE.of (fun i => pe_lc (Calm.cm (Y := Y) i) (nd_i hd i) (wI.pi i) (blkOk_i ok i) (fun s H C cl fp => wG.pg (Y := Y.blk scope) (i, s, H, C, cl, fp)) (fun s H C cl fp => pts_nil) (fun s H C cl fp => wE.pe (Y := Y.blk scope) (i, s, H, C, cl, fp)) (hs _)) this
  refine wS.of (t := tAsg (tLc (wI Y tg iter) (wG (Y.blk scope) tg) tYes (wE (Y.blk scope) elt) (own.map (·.2))) (gName j)) (fun i => ps_setLc (Calm.cm (Y := Y) i) (nd_i hd i) (nm_i hN) (by rw [Y.hsc i]; exact hx) (hsw i) (wI.pi i) (blkOk_i ok i) (fun s H C cl fp => wG.pg (Y := Y.blk scope) (i, s, H, C, cl, fp)) (fun s H C cl fp => pts_nil) (fun s H C cl fp => wE.pe (Y := Y.blk scope) (i, s, H, C, cl, fp)) (hs _)) ?_
  exact tLc_mono this fun v H' h => by obtain ⟨F', Gl', s, W'⟩ := h.own (j := j); exact L.nx _ _ _ _ _ _ s W' k⟩
theorem gs_lcIf [Calm Y] (j : Nat) {x : Str} {pos' lpos : Pos} {α : Type} {ys : List α} {enc : α → D} {f : α → D} {pr : α → Bool} {ρb : α → Rho} {js : List Nat} {c : Expr} (own : List (Str × Nat)) (hd : Y.N.Nodup) (hi : GIc Y tg iter ρ G (ys.map enc)) (ok : BlkOk Y.N Y.sc scope own)
    (hg : ∀ y ∈ ys, GG (Y.blk scope) tg js (enc y) (wipeR ρ (own.map (·.2))) (ρb y)) (hjs : ∀ j ∈ js, j ∈ own.map (·.2)) (hc : ∀ y ∈ ys, GT (Y.blk scope) c (ρb y) G (pr y)) (he : ∀ y ∈ ys, pr y = true → GE (Y.blk scope) elt (ρb y) G (f y)) (hl : ys.length < 100000) (hown : ∀ j ∈ own.map (·.2), ¬ OwnAt ρ j)
    (k : E.nx (ρ.set j (.own ((ys.filter pr).map f))) G) (hN : Y.N[j]? = some x := by rfl) (hx : Y.sc.names.lookup x = some .local := by rfl)
    (hsw : ∀ i, swapsWith (.ListComp elt [⟨tg, iter, [c], 0⟩] scope lpos) (some (.Name x pos')) pos.line (Y.X i).env = pure true := by exact fun _ => sw_true rfl rfl rfl (by decide +kernel)) (hs : ∀ env x, foldedSetIterable iter env x = pure x := by intro _ _; rfl) :
    GS Y (.Assign [.Name x pos'] (.ListComp elt [⟨tg, iter, [c], 0⟩] scope lpos) pos) ρ G E := ⟨fun F R Gl σ H D W L => by
  have := lc_go (tt := wT (Y.blk scope) c) hi hg hjs (fun y hy F R Gl σ H Q W q => ((hc y hy).run F R Gl σ H W).mono fun b H' ⟨e, F', Gl', s, W'⟩ => by rw [e]; exact q F' Gl' H' s W') he hl hown W
  refine wS.of (t := tAsg (tLc (wI Y tg iter) (wG (Y.blk scope) tg) (wT (Y.blk scope) c) (wE (Y.blk scope) elt) (own.map (·.2))) (gName j)) (fun i => ps_setLc (Calm.cm (Y := Y) i) (nd_i hd i) (nm_i hN) (by rw [Y.hsc i]; exact hx) (hsw i) (wI.pi i) (blkOk_i ok i) (fun s H C cl fp => wG.pg (Y := Y.blk scope) (i, s, H, C, cl, fp)) (fun s H C cl fp => pts_one (wT.pt (Y := Y.blk scope) (i, s, H, C, cl, fp))) (fun s H C cl fp => wE.pe (Y := Y.blk scope) (i, s, H, C, cl, fp)) (hs _)) ?_
  exact tLc_mono this fun v H' h => by obtain ⟨F', Gl', s, W'⟩ := h.own (j := j); exact L.nx _ _ _ _ _ _ s W' k⟩

/-! ### loops -/
theorem Lift.again {F : Hp} {R : Gs} {D : Ends} {Inv' : Rho → Gs → Prop} {N : L2.St → Hp → Prop} (L : Lift Y F R E D) (h : ∀ ρ' G' F' Gl' σ' H', Same F F' → Wd Y F' R Gl' G' ρ' σ' H' → Inv' ρ' G' → N σ' H') :
    Lift Y F R { E with nx := Inv', ct := Inv', bk := E.nx } { D with nx := N, ct := N, bk := D.nx } := ⟨h, L.nx, h, L.rt⟩
/-- for target in iter: over a list, a range .. that gives xs -/
theorem gs_for [Calm Y] {iter tg : Expr} {body : List Stmt} {xs : List D} {S : Gs → Prop} (hp : ∀ i, PassesOwn (model (Y.X i).prog (Y.X i).w) (Y.X i).A (Y.X i).env (Y.X i).xe) (hi : GI Y tg iter ρ G xs S) (Iv : Nat → Rho → Gs → Prop) (h0 : Iv 0 ρ G) (hS : ∀ i ρ' G', Iv i ρ' G' → S G')
    (turn : ∀ i d ρ' G', xs[i]? = some d → Iv i ρ' G' → ∃ js ρ2, GG Y tg js d ρ' ρ2 ∧ GSs Y body ρ2 G' { E with nx := Iv (i + 1), ct := Iv (i + 1), bk := E.nx }) (done : ∀ ρ' G', Iv xs.length ρ' G' → E.nx ρ' G')
    (hs : ∀ env x, foldedSetIterable iter env x = pure x := by intro _ _; rfl) : GS Y (.For tg iter body [] pos) ρ G E := ⟨fun F R Gl σ H D W L => by
  refine wS.of (fun i => ps_for (hp i) (Calm.cm (Y := Y) i) (wI.pi i) (wG.pg i) (wSs.pss i) (hs _)) (hi.run F R Gl σ H _ W fun J F1 Gl1 H1 s1 W1 YJ => ?_)
  refine ⟨fun i m σ' H' => m = xs.length - i ∧ i ≤ xs.length ∧ ∃ F' Gl' ρ' G', Same F1 F' ∧ Wd Y F' R Gl' G' ρ' σ' H' ∧ Iv i ρ' G', ⟨xs.length, by simp, Nat.zero_le _, F1, Gl1, ρ, G, Same.refl _, W1, h0⟩, ?_⟩
  rintro i m σ2 H2 ⟨rfl, hle, F2, Gl2, ρ2, G2, s2, W2, q2⟩
  by_cases hlt : i < xs.length
  · refine .inr ⟨YJ.go i F2 R Gl2 G2 ρ2 σ2 H2 s2 W2 (hS _ _ _ q2) hlt, fun σ' H' => ∃ F' Gl' ρ' G', Same F1 F' ∧ Wd Y F' R Gl' G' ρ' σ' H' ∧ Iv (i + 1) ρ' G', fun σ' H' h => ⟨_, by omega, rfl, hlt, h⟩, fun x H3 hy => ?_⟩
    have hx : xs[i]? = some xs[i] := List.getElem?_eq_getElem hlt
    obtain ⟨F3, s3, W3, r3⟩ := YJ.yld i F2 R Gl2 G2 ρ2 σ2 H2 x H3 _ s2 W2 (hS _ _ _ q2) hx hy
    obtain ⟨js, ρ4, hg, hb⟩ := turn i _ ρ2 G2 hx q2
    refine hg.run F3 R Gl2 G2 σ2 H3 x _ W3 r3 fun σ4 W4 _ _ => ?_
    refine hb.run F3 R Gl2 σ4 H3 _ W4 (((L.up s1).up (s2.trans s3)).again fun ρ' G' F' Gl' σ' H' s W' q => ⟨F', Gl', ρ', G', (s2.trans s3).trans s, W', q⟩)
  · have e : i = xs.length := by omega
    subst e
    exact .inl ⟨YJ.stop _ F2 R Gl2 G2 ρ2 σ2 H2 s2 W2 (hS _ _ _ q2) (Nat.le_refl _), L.nx _ _ _ _ _ _ (s1.trans s2) W2 (done _ _ q2)⟩⟩
/-- while test: the measure falls -/
theorem gs_while {c : Expr} {body : List Stmt} (hp : ∀ i, PassesOwn (model (Y.X i).prog (Y.X i).w) (Y.X i).A (Y.X i).env (Y.X i).xe) (Iv : Nat → Rho → Gs → Prop) (m0 : Nat) (h0 : Iv m0 ρ G)
    (turn : ∀ m ρ' G', Iv m ρ' G' → ∃ x, GT Y c ρ' G' x ∧ (x = true → GSs Y body ρ' G' { E with nx := fun ρ2 G2 => ∃ m', m' < m ∧ Iv m' ρ2 G2, ct := fun ρ2 G2 => ∃ m', m' < m ∧ Iv m' ρ2 G2, bk := E.nx }) ∧ (x = false → E.nx ρ' G')) :
    GS Y (.While c body [] pos) ρ G E := ⟨fun F R Gl σ H D W L => by
  refine wS.of (fun i => ps_while (hp i) (wT.pt i) (wSs.pss i)) ?_
  refine ⟨fun m σ' H' => ∃ F' Gl' ρ' G', Same F F' ∧ Wd Y F' R Gl' G' ρ' σ' H' ∧ Iv m ρ' G', ⟨m0, F, Gl, ρ, G, Same.refl _, W, h0⟩, ?_⟩
  rintro m σ2 H2 ⟨F2, Gl2, ρ2, G2, s2, W2, q2⟩
  obtain ⟨x, hc, ht, hf⟩ := turn m ρ2 G2 q2
  refine (hc.run F2 R Gl2 σ2 H2 W2).mono fun v H3 ⟨z, F3, Gl3, s3, W3⟩ => ?_
  subst z
  cases v with
  | true =>
    refine ⟨fun σ' H' => ∃ m', m' < m ∧ ∃ F' Gl' ρ' G', Same F F' ∧ Wd Y F' R Gl' G' ρ' σ' H' ∧ Iv m' ρ' G', fun σ' H' ⟨m', hm, h⟩ => ⟨m', hm, h⟩, ?_⟩
    exact (ht rfl).run F3 R Gl3 σ2 H3 _ W3 (((L.up s2).up s3).again fun ρ' G' F' Gl' σ' H' s W' ⟨m', hm, q⟩ => ⟨m', hm, F', Gl', ρ', G', (s2.trans s3).trans s, W', q⟩)
  | false => exact L.nx _ _ _ _ _ _ (s2.trans s3) W3 (hf rfl)⟩
end
end Gh
end

section
set_option Elab.async false
set_option linter.all false
set_option maxRecDepth 100000
set_option maxHeartbeats 4000000
namespace Gh
open PySem PySem.Spec PyProof.Rows L2

/-! ### errors whose context is None -/
theorem passLN {X : Cx} : Passes (L2N.CX X.prog X.w) X E0 := fun _ _ _ _ _ _ _ ⟨_, _, _, _, _, _, _, _, _, _, _, _, z⟩ => False.elim z
theorem takesN0 {X : Cx} : L2N.Takes X (fun _ _ _ _ => False) := fun _ _ ⟨_, _, _, _, _, _, _, _, _, _, _, _, _, _, _, _, z⟩ => False.elim z
theorem okXN {P : Program} {w : World} {K : PySem.W.Frag} {mg : Str → Option Value} {base : Heap} {x qual : Str} {st : Stmt} {f : Addr} {fd : FuncData} {N ps : List Str} {k : Nat} {sp : Sp} (F : Fun K x qual st f fd) (S : FnScope N ps (defScope st)) (len : ∀ vs H Q E, sp vs H Q E → vs.length = ps.length) (hb : ∀ (cdv : Value) (A : Around) (outer : List Env) (s : Shared) (H : Hp) (vs : List V) (Q : VK) (E : XK), Room k (A.deeper (envOfC qual (defScope st) s.heap.objs.size f cdv)) → sp vs H Q E → ∃ t, PSs (cxOf (L2N.CX P w) P w K mg base N qual (defScope st) f cdv A outer s H E) (defBody st) t ∧ t { nx := fun _ H' => Q .non H', rt := Q } (start N vs) H) : FnOk P w K mg base (L2N.CX P w) (k + 1) f fd ps sp := by
  obtain ⟨_, _, _, _, _, _, cdv, _, _, rfl, e1, e2⟩ := F.ex
  exact fn_of e1 e2 S len fun A outer s H vs Q E hr q => hb cdv A outer s H vs Q E hr q

/-! ### what a def promises -/
/-- from the arguments' data and what may change: what is wanted of the answer, of an error of a class -/
abbrev GSp := List D → Gs → (D → Gs → Prop) → (Addr → Gs → Prop) → Prop
def toSp (K : PySem.W.Frag) (n : Nat) (g : GSp) : Sp := fun vs H Q E => vs.length = n ∧ ∃ F R G Gl ds P PX, GEx G Gl ∧ GEx R Gl ∧ (∀ a, G a = none ∨ R a = none) ∧ Abs K F Gl H ∧ Reps K F vs ds ∧ g ds G P PX ∧
  (∀ v F' Gl' G' H' d, Same F F' → GEx G' Gl' → GEx R Gl' → (∀ a, G' a = none ∨ R a = none) → Abs K F' Gl' H' → Rep K F' v d → P d G' → Q v H') ∧
  ∀ c F' Gl' G' H', Same F F' → GEx G' Gl' → GEx R Gl' → (∀ a, G' a = none ∨ R a = none) → Abs K F' Gl' H' → PX c G' → E (.ref c) none H'
/-- every parameter is given -/
def AllB (fd : FuncData) (ps : List Str) : Prop := ∀ (s : Shared) (us : List Value), us.length = ps.length → BindsTo s fd ⟨us, []⟩ (ps.zip us)
theorem AllB.binds {K : PySem.W.Frag} {fd : FuncData} {ps : List Str} (h : AllB fd ps) : Binds K fd ps [] := fun s us _ hl => by
  rw [List.append_nil] at hl ⊢
  exact h s us hl
structure HasF (P : Program) (w : World) (K : PySem.W.Frag) (mg : Str → Option Value) (base : Heap) (k : Nat) (x : Str) (ps : List Str) (g : GSp) : Prop where
  ex : ∃ f fd, mg x = some (.ref f) ∧ PySem.W.keepIn K (.ref f) = true ∧ AllB fd ps ∧ FnOk P w K mg base (L2N.CX P w) k f fd ps (toSp K ps.length g) ∧ ∃ oc od osl, K.lookup f = some ⟨oc, od, .func fd, osl⟩
/-- a def of the text -/
structure Dfn (K : PySem.W.Frag) (mg : Str → Option Value) (x : Str) (st : Stmt) (ps : List Str) : Prop where
  ex : ∃ f fd, mg x = some (.ref f) ∧ Fun K x x st f fd ∧ AllB fd ps

section
variable {P : Program} {w : World} {K : PySem.W.Frag} {mg : Str → Option Value} {base : Heap}
theorem HasF.mono {k j : Nat} {x : Str} {ps : List Str} {g : GSp} (h : HasF P w K mg base k x ps g) (le : k ≤ j) : HasF P w K mg base j x ps g := by
  obtain ⟨f, fd, a, b, c, d, e⟩ := h.ex
  exact ⟨f, fd, a, b, c, d.mono le, e⟩
theorem HasF.imp {k : Nat} {x : Str} {ps : List Str} {g g' : GSp} (h : HasF P w K mg base k x ps g) (q : ∀ ds G P PX, g' ds G P PX → g ds G P PX) : HasF P w K mg base k x ps g' := by
  obtain ⟨f, fd, a, b, c, d, e⟩ := h.ex
  exact ⟨f, fd, a, b, c, d.imp (fun vs H Q E ⟨l, F, R, G, Gl, ds, P, PX, z1, z2, z3, z4, z5, z6, z7⟩ => ⟨l, F, R, G, Gl, ds, P, PX, z1, z2, z3, z4, z5, q _ _ _ _ z6, z7⟩), e⟩
def startR (N : List Str) (ds : List D) : Rho := ds.map .dat ++ List.replicate (N.length - ds.length) .unk
abbrev ctx0 (P : Program) (w : World) (K : PySem.W.Frag) (mg : Str → Option Value) (base : Heap) (N : List Str) (qual : Str) (sc : Scope) (f : Addr) (cdv : Value) (A : Around) (outer : List Env) (s : Shared) (H : Hp) (E : XK) (k : Nat) (hr : Room k (A.deeper (envOfC qual sc s.heap.objs.size f cdv))) (F0 : Hp) (R : Gs) : Ctx where
  ι := Unit
  X := fun _ => (cxOf (L2N.CX P w) P w K mg base N qual sc f cdv A outer s H E).nox
  P := P
  w := w
  K := K
  mg := mg
  base := base
  N := N
  sc := sc
  fn := fun _ => true
  k := k
  cm := true
  F0 := F0
  R := R
  hP := fun _ => rfl
  hw := fun _ => rfl
  hK := fun _ => rfl
  hmg := fun _ => rfl
  hbase := fun _ => rfl
  hN := fun _ => rfl
  hsc := fun _ => rfl
  hfn := fun _ => rfl
  hc := fun _ _ => ⟨rfl, hr⟩
  hr := fun _ => L2H.roomH_of hr
instance {P : Program} {w : World} {K : PySem.W.Frag} {mg : Str → Option Value} {base : Heap} {N : List Str} {qual : Str} {sc : Scope} {f : Addr} {cdv : Value} {A : Around} {outer : List Env} {s : Shared} {H : Hp} {E : XK} {k : Nat} {hr : Room k (A.deeper (envOfC qual sc s.heap.objs.size f cdv))} {F0 : Hp} {R : Gs} : Calm (ctx0 P w K mg base N qual sc f cdv A outer s H E k hr F0 R) := ⟨rfl⟩
theorem start_ok {N : List Str} {ds : List D} {vs : List V} {F : Hp} {G R Gl : Gs} (r : Reps K F vs ds) (h : ds.length ≤ N.length) : (start N vs).length = (startR N ds).length ∧ (∀ (i : Nat) (x : SV) (s : Option V), (startR N ds)[i]? = some x → (start N vs)[i]? = some s → SvOk K F G R Gl s x) ∧ ∀ i, ¬ OwnAt (startR N ds) i := by
  have hl := r.length
  refine ⟨by simp [L2.start, startR, hl], fun i x s h1 h2 => ?_, fun i ⟨x, h1, h2⟩ => ?_⟩
  · unfold startR at h1
    unfold L2.start at h2
    by_cases hi : i < ds.length
    · rw [List.getElem?_append_left (by simpa using hi), List.getElem?_map] at h1
      rw [List.getElem?_append_left (by simpa [hl] using hi), List.getElem?_map] at h2
      obtain ⟨v, e1, e2⟩ := r.get (List.getElem?_eq_getElem hi)
      rw [List.getElem?_eq_getElem hi] at h1
      rw [e1] at h2
      cases h1
      cases h2
      exact ⟨v, rfl, e2⟩
    · rw [List.getElem?_append_right (by simpa using hi), List.getElem?_replicate] at h1
      split at h1
      · cases h1; trivial
      · cases h1
  · unfold startR at h1
    by_cases hi : i < ds.length
    · rw [List.getElem?_append_left (by simpa using hi), List.getElem?_map, List.getElem?_eq_getElem hi] at h1
      cases h1; cases h2
    · rw [List.getElem?_append_right (by simpa using hi), List.getElem?_replicate] at h1
      split at h1
      · cases h1; cases h2
      · cases h1
/-- a def keeps its promise, by its body -/
theorem fn_body {x qual : Str} {st : Stmt} {f : Addr} {fd : FuncData} {N ps : List Str} {k : Nat} {g : GSp} (F : Fun K x qual st f fd) (S : FnScope N ps (defScope st)) (hlen : ∀ ds G P PX, g ds G P PX → ds.length = ps.length)
    (hb : ∀ cdv A outer s H E (hr : Room k (A.deeper (envOfC qual (defScope st) s.heap.objs.size f cdv))) F0 R0 ds G PP PX, g ds G PP PX → GSs (ctx0 P w K mg base N qual (defScope st) f cdv A outer s H E k hr F0 R0) (defBody st) (startR N ds) G ⟨fun _ G' => PP .non G', PP, fun _ _ => False, fun _ _ => False⟩) :
    FnOk P w K mg base (L2N.CX P w) (k + 1) f fd ps (toSp K ps.length g) := by
  refine okXN F S (fun vs H Q E h => h.1) (fun cdv A outer s H vs Q E hr h => ?_)
  obtain ⟨hl, F1, R, G, Gl, ds, PP, PX, h1, h2, h3, h4, h5, h6, h7, h8⟩ := h
  have B := hb cdv A outer s H E hr F1 R ds G PP PX h6
  have hN : ds.length ≤ N.length := by
    have := congrArg List.length S.pre
    rw [List.length_take] at this
    have := hlen _ _ _ _ h6
    omega
  obtain ⟨q1, q2, q3⟩ := start_ok (N := N) (G := G) (R := R) (Gl := Gl) h5 hN
  refine ⟨wSs (ctx0 P w K mg base N qual (defScope st) f cdv A outer s H E k hr F1 R) (defBody st), (wSs.pss (Y := ctx0 P w K mg base N qual (defScope st) f cdv A outer s H E k hr F1 R) ()).nox, ?_⟩
  refine B.run F1 R Gl _ H _ ⟨Same.refl _, q1, h1, GEx.refl _, h2, h3, q2, fun i j l o _ _ _ => absurd o (q3 i), h4⟩ ⟨fun ρ' G' F' Gl' σ' H' s' W q => ?_, fun _ _ _ _ _ _ _ _ q => q.elim, fun _ _ _ _ _ _ _ _ q => q.elim, fun d G' F' Gl' v H' s' W r q => ?_⟩
  · exact h7 .non F' Gl' G' H' .non s' W.g W.r W.gr W.abs .non q
  · exact h7 v F' Gl' G' H' d s' W.g W.r W.gr W.abs r q
theorem has_body {x : Str} {st : Stmt} {N ps : List Str} {k : Nat} {g : GSp} (Df : Dfn K mg x st ps) (S : FnScope N ps (defScope st)) (hlen : ∀ ds G P PX, g ds G P PX → ds.length = ps.length)
    (hb : ∀ f cdv A outer s H E (hr : Room k (A.deeper (envOfC x (defScope st) s.heap.objs.size f cdv))) F0 R0 ds G PP PX, g ds G PP PX → GSs (ctx0 P w K mg base N x (defScope st) f cdv A outer s H E k hr F0 R0) (defBody st) (startR N ds) G ⟨fun _ G' => PP .non G', PP, fun _ _ => False, fun _ _ => False⟩) :
    HasF P w K mg base (k + 1) x ps g := by
  obtain ⟨f, fd, a, b, c⟩ := Df.ex
  obtain ⟨oc, od, _, _, _, _, _, _, osl, _, lk, _⟩ := b.ex
  exact ⟨f, fd, a, b.kp, c, fn_body b S hlen (fun cdv A outer s H E hr F0 R0 ds G PP PX h => hb f cdv A outer s H E hr F0 R0 ds G PP PX h), oc, od, osl, lk⟩
end

/-! ### a call -/
section
variable {Y : Ctx} {ρ : Rho} {G : Gs} {e : Expr} {es : List Expr} {ds : List D} {pos p : Pos}
def outOf (Gl G : Gs) : Gs := fun a => match G a with
  | none => Gl a
  | some _ => none
theorem outOf_some {Gl G : Gs} {a : Addr} {g : GO} (h : Gl a = some g) (h' : G a = none) : outOf Gl G a = some g := by unfold outOf; rw [h']; exact h
theorem outOf_dis {Gl G : Gs} (a : Addr) : G a = none ∨ outOf Gl G a = none := by
  unfold outOf
  cases G a with
  | none => exact .inl rfl
  | some _ => exact .inr rfl
theorem outOf_sub {Gl G : Gs} : GEx (outOf Gl G) Gl := fun a g h => by
  unfold outOf at h
  cases q : G a with
  | none => rw [q] at h; exact h
  | some _ => rw [q] at h; cases h
theorem Wd.after {F F' : Hp} {R Gl Gl' G' : Gs} {σ : L2.St} {H H' : Hp} (W : Wd Y F R Gl G ρ σ H) (s : Same F F') (g : GEx G' Gl') (r : GEx (outOf Gl G) Gl') (d : ∀ a, G' a = none ∨ outOf Gl G a = none) (A : Abs Y.K F' Gl' H') : Wd Y F' R Gl' G' ρ σ H' := by
  have hR : ∀ a u, R a = some u → outOf Gl G a = some u := fun a u e => outOf_some (W.r a u e) ((W.gr a).resolve_right fun z => by rw [e] at z; cases z)
  have hO : ∀ l u, Gl l = some u → G l = none → Gl' l = some u ∧ G' l = none := fun l u e n => ⟨r l u (outOf_some e n), (d l).resolve_right fun z => by rw [outOf_some e n] at z; cases z⟩
  refine ⟨fun a o z => s a o (W.f0 a o z), W.len, g, W.r0, fun a u e => r a u (hR a u e), fun a => ?_, fun i x t e1 e2 => ?_, W.inj, A⟩
  · cases q : R a with
    | none => exact .inr rfl
    | some u => exact .inl ((d a).resolve_right fun z => by rw [hR a u q] at z; cases z)
  · have q := W.sv i x t e1 e2
    cases x with
    | unk => trivial
    | dat d => obtain ⟨v, h3, h4⟩ := q; exact ⟨v, h3, h4.mono s⟩
    | own ds => obtain ⟨l, z1, z2, z3, z4⟩ := q; exact ⟨l, z1, (hO l _ z2 z3).1, (hO l _ z2 z3).2, z4⟩
    | ownd ds => obtain ⟨l, z1, z2, z3, z4⟩ := q; exact ⟨l, z1, (hO l _ z2 z3).1, (hO l _ z2 z3).2, z4⟩
theorem gw_call [Calm Y] {k : Nat} {x : Str} {ps : List Str} {g : GSp} {PP : D → Gs → Prop} (hf : HasF Y.P Y.w Y.K Y.mg Y.base k x ps g) (ha : GR Y (e :: es) ρ G ds) (h : g ds G PP fun _ _ => False) (hl : ds.length = ps.length := by rfl) (hk : k ≤ Y.k := by exact Nat.le_of_ble_eq_true rfl) (hg : GlS Y.sc x := by rfl)
    (hdb : (x == ("__debug__" : Str)) = false := by decide) (he : ∀ env, starEach (e :: es) env = (false, eval e env) :: starEach es env := by intro _; rfl) (hpl : ∀ env, (backTo pos (starEach es env)).any (·.1) = false := by intro _; rfl) :
    GW Y (.Call (.Name x p) (e :: es) [] pos) ρ G PP := ⟨fun F R Gl σ H W => by
  obtain ⟨f, fd, hm, kp, hb, ok, _⟩ := hf.ex
  have ok' : ∀ i, FnOk (Y.X i).prog (Y.X i).w (Y.X i).K (Y.X i).mg (Y.X i).base (L2N.CX (Y.X i).prog (Y.X i).w) k f fd ps (toSp Y.K ps.length g) := fun i => by rw [Y.hP i, Y.hw i, Y.hK i, Y.hmg i, Y.hbase i]; exact ok
  refine wE.of (t := tCall (toSp Y.K ps.length g) [] E0 (wA Y (e :: es))) (fun i => pe_call (ok' i) ((Calm.rm (Y := Y) i).mono hk) (gl_i hg i) (mg_i hm i) (by rw [Y.hK i]; exact kp) hb.binds .nil passLN (wA.pa i) hdb (he _) (hpl _)) ?_
  refine (ha.run F R Gl σ H W).mono fun vs H1 ⟨F1, Gl1, s1, W1, r⟩ => ?_
  rw [List.append_nil]
  refine ⟨by rw [r.length]; exact hl, F1, outOf Gl1 G, G, Gl1, ds, PP, fun _ _ => False, W1.g, outOf_sub, outOf_dis, W1.abs, r, h, fun v F' Gl' G' H' d s g r d' A rp q => ⟨F', Gl', G', d, s1.trans s, W1.after s g r d' A, rp, q⟩, fun _ _ _ _ _ _ _ _ _ _ q => q.elim⟩⟩
end
/-! ### the end of a law -/
def sp_true (n : Nat) : GSp := fun ds G PP _ => ∃ ns : List Int, ds = [.lst (ns.map .int)] ∧ ns.length ≤ n ∧ ∀ G', PP (.bl true) G'
theorem top_sp {K : PySem.W.Frag} {H : Hp} {a : Addr} {ns : List Int} {n : Nat} {E : XK} (hn : ns.length ≤ n) (hO : Only H) (hS : SqL K H a (ns.map V.int)) : toSp K 1 (sp_true n) [.ref a] H (fun v _ => v = .bl true) E := by
  have key : ∃ F : Hp, (∀ b o, F b = some o → Rd H b o) ∧ FL K F a (ns.map V.int) := by
    rcases hS with h | h
    · refine ⟨fun b => if b = a then some (.lst (ns.map V.int)) else none, fun b o e => ?_, .inl (if_pos rfl)⟩
      have e : (if b = a then some (HO.lst (ns.map V.int)) else none) = some o := e
      by_cases q : b = a
      · subst q; rw [if_pos rfl] at e; cases e; exact h
      · rw [if_neg q] at e; cases e
    · exact ⟨fun _ => none, fun b o e => (by cases e), .inr h⟩
  obtain ⟨F, h1, h2⟩ := key
  refine ⟨rfl, F, fun _ => none, fun _ => none, fun _ => none, [.lst (ns.map .int)], fun d _ => d = .bl true, fun _ _ => False, fun _ _ z => (by cases z), fun _ _ z => (by cases z), fun _ => .inl rfl, ⟨h1, fun _ _ z => (by cases z)⟩, .cons (.lst h2 (reps_ints ns)) .nil, ⟨ns, rfl, hn, fun _ => rfl⟩, fun v F' Gl' G' H' d _ _ _ _ _ r e => ?_, fun _ _ _ _ _ _ _ _ _ _ z => False.elim z⟩
  subst e
  exact r.bl_inv
theorem top_walk {l : PySem.W.OpenLaw} {q : Program} {loose : List Str} {XP : (Str → Option Value) → Heap → Prop} {YP : World → Heap → Prop} {d : DefRec} {K : Params → PySem.W.Frag} {k : Nat} (hn : l.most = some 63) (hdf : d.params.defaults = []) (hr : Room k callerA) (hd : d.name = "law")
    (hY : ∀ (w : World) (h : Heap), YP w h → (K w.params).In h)
    (F : ∀ (w : World) (mg : Str → Option Value) (h : Heap), (K w.params).In h → h.Ns mainGlobals mg → ∀ base : Heap, HasF l.prog w (K w.params) mg base k "law" ["_law_script"] (sp_true 63)) :
    PySem.W.WalkO q loose XP YP l.row.toRowW d [] (fun f vs => PySem.call f vs) := by
  refine L2.walk_of (n := 63) (k := k) (x := "_law_script") (CX := fun w => L2N.CX l.prog w) (sp := fun w => toSp (K w.params) 1 (sp_true 63)) hn (by decide) hdf hr hY (fun w mg fa h KX G hmg => ?_) (fun w H a ns hl hO hS => top_sp hl hO hS) (fun _ _ _ _ _ h => by obtain ⟨_, _, _, _, _, _, _, _, _, _, _, _, z⟩ := h; exact z.elim)
  rw [hd] at hmg
  obtain ⟨f, fd, e1, _, e2, _, oc, od, osl, lk⟩ := (F w mg h KX G h).ex
  rw [hmg] at e1; cases e1
  refine ⟨fd, fun s u => e2 s [u] rfl, fun base _ _ => ?_⟩
  obtain ⟨f', fd', g1, _, g2, g3, oc', od', osl', lk'⟩ := (F w mg h KX G base).ex
  rw [hmg] at g1; cases g1
  rw [lk] at lk'; cases lk'
  exact g3
end Gh
end

section
set_option Elab.async false
set_option linter.all false
set_option maxRecDepth 100000
set_option maxHeartbeats 4000000
namespace Gh
open PySem PySem.Spec PyProof.Rows L2

/-! ### data as the library tells it -/
mutual
def D.toP : D → PyData
  | .non => .none
  | .bl b => .bool b
  | .int i => .int i
  | .str x => .str x
  | .ref _ => .none
  | .ty _ => .none
  | .lst xs => .list (D.toPs xs)
  | .tup xs => .tuple (D.toPs xs)
  | .dic _ => .none
def D.toPs : List D → List PyData
  | [] => []
  | x :: xs => x.toP :: D.toPs xs
end
mutual
/-- no dicts, no objects within; at most so deep; its texts in order -/
def D.ok : Nat → D → Bool
  | _, .non => true
  | _, .bl _ => true
  | _, .int _ => true
  | _, .str x => PyData.strOk x
  | _, .ref _ => false
  | _, .ty _ => false
  | n, .lst xs => (match n with | 0 => false | n + 1 => D.oks n xs)
  | n, .tup xs => (match n with | 0 => false | n + 1 => D.oks n xs)
  | _, .dic _ => false
def D.oks : Nat → List D → Bool
  | _, [] => true
  | n, x :: xs => D.ok n x && D.oks n xs
end
theorem D.ok_lst {n : Nat} {xs : List D} : D.ok (n + 1) (.lst xs) = D.oks n xs := by rw [D.ok]
theorem D.ok_tup {n : Nat} {xs : List D} : D.ok (n + 1) (.tup xs) = D.oks n xs := by rw [D.ok]
theorem D.oks_cons {n : Nat} {x : D} {xs : List D} : D.oks n (x :: xs) = (D.ok n x && D.oks n xs) := by rw [D.oks]
theorem D.oks_nil {n : Nat} : D.oks n [] = true := by rw [D.oks]
theorem D.oks_map {α : Type} {n : Nat} {f : α → D} : ∀ {xs : List α}, (∀ x ∈ xs, D.ok n (f x) = true) → D.oks n (xs.map f) = true
  | [], _ => D.oks_nil
  | x :: xs, h => by
    rw [List.map_cons, D.oks_cons, h x (List.mem_cons_self ..), Bool.true_and]
    exact D.oks_map fun y hy => h y (List.mem_cons_of_mem _ hy)
theorem D.ok_int {n : Nat} {i : Int} : D.ok n (.int i) = true := by rw [D.ok]
theorem D.ok_bl {n : Nat} {i : Bool} : D.ok n (.bl i) = true := by rw [D.ok]
theorem D.ok_non {n : Nat} : D.ok n .non = true := by rw [D.ok]
theorem D.ok_str {n : Nat} {x : Str} (h : PyData.strOk x = true) : D.ok n (.str x) = true := by rw [D.ok]; exact h
mutual
theorem D.ok_lay : ∀ (n : Nat) (d : D), D.ok n d = true → d.toP.canLay0 = true ∧ d.toP.depth ≤ n
  | n, .non, _ => ⟨rfl, Nat.zero_le _⟩
  | n, .bl _, _ => ⟨rfl, Nat.zero_le _⟩
  | n, .int _, _ => ⟨rfl, Nat.zero_le _⟩
  | n, .str x, h => ⟨by rw [D.ok] at h; exact h, Nat.zero_le _⟩
  | n, .ref _, h => by rw [D.ok] at h; cases h
  | n, .ty _, h => by rw [D.ok] at h; cases h
  | 0, .lst xs, h => by rw [D.ok] at h; cases h
  | n + 1, .lst xs, h => by
    rw [D.ok_lst] at h
    obtain ⟨h1, h2⟩ := D.oks_lay n xs h
    exact ⟨by rw [D.toP]; exact h1, by rw [D.toP]; show PyData.depthAll _ + 1 ≤ _; omega⟩
  | 0, .tup xs, h => by rw [D.ok] at h; cases h
  | n + 1, .tup xs, h => by
    rw [D.ok_tup] at h
    obtain ⟨h1, h2⟩ := D.oks_lay n xs h
    exact ⟨by rw [D.toP]; exact h1, by rw [D.toP]; show PyData.depthAll _ + 1 ≤ _; omega⟩
  | n, .dic _, h => by rw [D.ok] at h; cases h
theorem D.oks_lay : ∀ (n : Nat) (ds : List D), D.oks n ds = true → PyData.canLayAll0 (D.toPs ds) = true ∧ PyData.depthAll (D.toPs ds) ≤ n
  | n, [], _ => ⟨rfl, Nat.zero_le _⟩
  | n, x :: xs, h => by
    rw [D.oks_cons, Bool.and_eq_true] at h
    obtain ⟨h1, h2⟩ := D.ok_lay n x h.1
    obtain ⟨h3, h4⟩ := D.oks_lay n xs h.2
    rw [D.toPs]
    refine ⟨?_, ?_⟩
    · show (PyData.canLay0 _ && PyData.canLayAll0 _) = true
      rw [h1, h3]; rfl
    · show max (PyData.depth _) (PyData.depthAll _) ≤ n
      omega
end
theorem D.shaped {d : D} (h : D.ok 64 d = true) : SeqAt.shaped d.toP = true := by
  obtain ⟨h1, h2⟩ := D.ok_lay 64 d h
  unfold SeqAt.shaped
  rw [h1, decide_eq_true h2]; rfl
mutual
theorem Rep.dp {Y : Ctx} {F : Hp} {Gl : Gs} {H : Hp} (A : Abs Y.K F Gl H) : ∀ (n : Nat) (d : D) (v : V), D.ok n d = true → Rep Y.K F v d → Dp Y.K H v d.toP
  | n, .non, v, _, r => by cases r; exact .non
  | n, .bl _, v, _, r => by cases r; exact .bl _
  | n, .int _, v, _, r => by cases r; exact .int _
  | n, .str x, v, _, r => by cases r; exact .str _
  | n, .ref _, v, h, _ => by rw [D.ok] at h; cases h
  | n, .ty _, v, h, _ => by rw [D.ok] at h; cases h
  | 0, .lst xs, v, h, _ => by rw [D.ok] at h; cases h
  | n + 1, .lst xs, v, h, r => by
    rw [D.ok_lst] at h
    rw [D.toP]
    cases r with | lst a b => exact .lst (FL.sq A a) (Reps.dp A n xs _ h b)
  | 0, .tup xs, v, h, _ => by rw [D.ok] at h; cases h
  | n + 1, .tup xs, v, h, r => by
    rw [D.ok_tup] at h
    rw [D.toP]
    cases r with | tup a b => exact .tup (.inl (A.sub _ _ a)) (Reps.dp A n xs _ h b)
  | n, .dic _, v, h, _ => by rw [D.ok] at h; cases h
theorem Reps.dp {Y : Ctx} {F : Hp} {Gl : Gs} {H : Hp} (A : Abs Y.K F Gl H) : ∀ (n : Nat) (ds : List D) (vs : List V), D.oks n ds = true → Reps Y.K F vs ds → DpAll Y.K H vs (D.toPs ds)
  | n, [], vs, _, r => by cases r; rw [D.toPs]; exact .nil
  | n, x :: xs, vs, h, r => by
    rw [D.oks_cons, Bool.and_eq_true] at h
    rw [D.toPs]
    cases r with | cons a b => exact .cons (Rep.dp A n x _ h.1 a) (Reps.dp A n xs _ h.2 b)
end
theorem Vw.dp {Y : Ctx} {F : Hp} {R Gl G : Gs} {ρ : Rho} {σ : L2.St} {H : Hp} {v : V} {d : D} (W : Wd Y F R Gl G ρ σ H) (h : D.ok 64 d = true) (w : Vw Y F G ρ σ v d) : Dp Y.K H v d.toP := by
  have hl : ∀ {ds : List D} {v : V}, D.ok 64 (.lst ds) = true → Vw Y F G ρ σ v (.lst ds) → Dp Y.K H v (D.lst ds).toP := fun {ds v} h w => by
    rw [D.ok_lst] at h
    obtain ⟨a, vs, rfl, h1, h2⟩ := W.lstV w
    rw [D.toP]
    exact .lst h1 (Reps.dp W.abs 63 ds vs h h2)
  cases w with
  | rep r => exact Rep.dp W.abs 64 d v h r
  | gl e => exact hl h (.gl e)
  | gll e => exact hl h (.gll e)
  | ol e e' => exact hl h (.ol e e')
  | gd e => rw [D.ok] at h; cases h
  | gdl e => rw [D.ok] at h; cases h
  | od e e' => rw [D.ok] at h; cases h
/-- equal as Python says it -/
def D.eqv (d e : D) : Bool := PyData.eqv d.toP e.toP

theorem tChain_mono {Y : Ctx} {a b c : Expr} {f f' : Int → Int → Bool} {σ : L2.St} {H : Hp} {Q Q' : VK} (h : tChain (rI0 fun i j => .bl (f i j)) (rI0 fun i j => .bl (f' i j)) (wE Y a) (wE Y b) (wE Y c) σ H Q) (q : ∀ v H', Q v H' → Q' v H') :
    tChain (rI0 fun i j => .bl (f i j)) (rI0 fun i j => .bl (f' i j)) (wE Y a) (wE Y b) (wE Y c) σ H Q' :=
  wE.mono h fun x H1 h1 => h1.mono fun y H2 ⟨i, j, e1, e2, k, ek, h2⟩ => ⟨i, j, e1, e2, k, ek, by
    cases k with
    | true => exact wE.mono h2 fun z H3 ⟨i', j', e3, e4, h3⟩ => ⟨i', j', e3, e4, q _ _ h3⟩
    | false => exact q _ _ h2⟩
section
variable {Y : Ctx} {ρ : Rho} {G : Gs} {a b c e : Expr} {es : List Expr} {d d' d1 d2 d3 : D} {ds : List D} {pos p : Pos}
theorem gc_eqD (ha : GV Y a ρ G d1) (hb : GV Y b ρ G d2) (h1 : D.ok 64 d1 = true) (h2 : D.ok 64 d2 = true) : GC Y .Eq a b ρ G (.bl (D.eqv d1 d2)) :=
  gc_op (r := rEqD Y.K) (fun i => by have := @op_eqD (Y.X i) (hu_i i); rwa [Y.hK i] at this) ha hb (rr_val fun F R Gl σ H x y Q W v1 v2 q => ⟨_, _, v1.dp W h1, v2.dp W h2, D.shaped h1, D.shaped h2, q _ (.bl _)⟩)
theorem gc_neD (ha : GV Y a ρ G d1) (hb : GV Y b ρ G d2) (h1 : D.ok 64 d1 = true) (h2 : D.ok 64 d2 = true) : GC Y .NotEq a b ρ G (.bl (!D.eqv d1 d2)) :=
  gc_op (r := rNeD Y.K) (fun i => by have := @op_neD (Y.X i) (hu_i i); rwa [Y.hK i] at this) ha hb (rr_val fun F R Gl σ H x y Q W v1 v2 q => ⟨_, _, v1.dp W h1, v2.dp W h2, D.shaped h1, D.shaped h2, q _ (.bl _)⟩)
theorem gc_isB {x y : Bool} (ha : GE Y a ρ G (.bl x)) (hb : GE Y b ρ G (.bl y)) : GC Y .Is a b ρ G (.bl (decide (x = y))) :=
  gc_op (fun i => op_isBl) (gv_ge ha) (gv_ge hb) (rr_val fun F R Gl σ H _ _ Q W v1 v2 q => ⟨x, y, v1.bl_inv, v2.bl_inv, q _ (.bl _)⟩)
theorem gc_notB {x y : Bool} (ha : GE Y a ρ G (.bl x)) (hb : GE Y b ρ G (.bl y)) : GC Y .IsNot a b ρ G (.bl (!decide (x = y))) :=
  gc_op (fun i => op_notBl) (gv_ge ha) (gv_ge hb) (rr_val fun F R Gl σ H _ _ Q W v1 v2 q => ⟨x, y, v1.bl_inv, v2.bl_inv, q _ (.bl _)⟩)

/-! in, not in -/
inductive InD : D → D → Bool → Prop
  | sign {c : Nat} {z : Str} : InD (.str ⟨#[c]⟩) (.str z) (decide (c ∈ z.cps.toList))
  | lstS {x : Str} {ys : List Str} : InD (.str x) (.lst (ys.map .str)) (decide (x ∈ ys))
  | lstI {x : Int} {ys : List Int} : InD (.int x) (.lst (ys.map .int)) (decide (x ∈ ys))
  | tupS {x : Str} {ys : List Str} : InD (.str x) (.tup (ys.map .str)) (decide (x ∈ ys))
  | dicS {k : Str} {ds : List (Key × D)} : InD (.str k) (.dic ds) (valD ds (.inr k)).isSome
  | dicI {k : Int} {ds : List (Key × D)} : InD (.int k) (.dic ds) (valD ds (.inl k)).isSome
theorem inV_strs {x : Str} : ∀ {ys : List Str}, inV (.str x) (ys.map V.str) = decide (x ∈ ys)
  | [] => rfl
  | y :: ys => by
    have ih := inV_strs (x := x) (ys := ys)
    unfold inV at ih ⊢
    rw [List.map_cons, List.any_cons, ih]
    show (y == x || decide (x ∈ ys)) = decide (x ∈ y :: ys)
    by_cases e : x = y
    · subst e; simp
    · have e' : (y == x) = false := by simpa using fun z => e z.symm
      rw [e']; simp [e]
theorem inV_ints {x : Int} : ∀ {ys : List Int}, inV (.int x) (ys.map V.int) = decide (x ∈ ys)
  | [] => rfl
  | y :: ys => by
    have ih := inV_ints (x := x) (ys := ys)
    unfold inV at ih ⊢
    rw [List.map_cons, List.any_cons, ih]
    show (y == x || decide (x ∈ ys)) = decide (x ∈ y :: ys)
    by_cases e : x = y
    · subst e; simp
    · have e' : (y == x) = false := by simpa using fun z => e z.symm
      rw [e']; simp [e]
theorem flat_strs {ys : List Str} : (ys.map V.str).all flatV = true := List.all_eq_true.mpr fun x hx => by obtain ⟨y, _, rfl⟩ := List.mem_map.mp hx; rfl
theorem flat_ints {ys : List Int} : (ys.map V.int).all flatV = true := List.all_eq_true.mpr fun x hx => by obtain ⟨y, _, rfl⟩ := List.mem_map.mp hx; rfl
theorem gc_in {x : Bool} (ha : GE Y a ρ G d1) (hb : GV Y b ρ G d2) (h : InD d1 d2 x) : GC Y .In a b ρ G (.bl x) := by
  cases h with
  | sign => exact gc_op (fun i => op_in_sign) (gv_ge ha) hb (rr_val fun F R Gl σ H _ _ Q W v1 v2 q => ⟨_, _, v1.str_inv, v2.str_inv, q _ (.bl _)⟩)
  | lstS =>
    refine gc_op (r := rIn Y.K false) (fun i => by have := @op_in_seq (Y.X i); rwa [Y.hK i] at this) (gv_ge ha) hb (rr_val fun F R Gl σ H x y Q W v1 v2 q => ?_)
    obtain ⟨p, vs, rfl, h1, h2⟩ := W.lstV v2
    rw [h2.strs_inv] at h1
    rw [v1.str_inv]
    exact ⟨p, _, rfl, .inl h1, rfl, flat_strs, q _ (by rw [inV_strs]; exact .bl _)⟩
  | lstI =>
    refine gc_op (r := rIn Y.K false) (fun i => by have := @op_in_seq (Y.X i); rwa [Y.hK i] at this) (gv_ge ha) hb (rr_val fun F R Gl σ H x y Q W v1 v2 q => ?_)
    obtain ⟨p, vs, rfl, h1, h2⟩ := W.lstV v2
    rw [h2.ints_inv] at h1
    rw [v1.int_inv]
    exact ⟨p, _, rfl, .inl h1, rfl, flat_ints, q _ (by rw [inV_ints]; exact .bl _)⟩
  | tupS =>
    refine gc_op (r := rIn Y.K false) (fun i => by have := @op_in_seq (Y.X i); rwa [Y.hK i] at this) (gv_ge ha) hb (rr_val fun F R Gl σ H x y Q W v1 v2 q => ?_)
    obtain ⟨p, vs, rfl, h1, h2⟩ := W.tupV v2
    rw [h2.strs_inv] at h1
    rw [v1.str_inv]
    exact ⟨p, _, rfl, .inr h1, rfl, flat_strs, q _ (by rw [inV_strs]; exact .bl _)⟩
  | @dicS k kds =>
    refine ⟨fun F R Gl σ H W => wC.of (fun i => pc_din (hu1_i i) (wE.pe i) (wE.pe i)) ((ha.run F R Gl σ H W).mono fun x H1 ⟨F1, Gl1, s1, W1, r1⟩ => (hb.run F1 R Gl1 σ H1 W1).mono fun y H2 ⟨F2, Gl2, s2, W2, v2⟩ => ?_)⟩
    obtain ⟨p, vs, rfl, h1, h2⟩ := W2.dicV v2
    exact ⟨p, _, rfl, .inl ⟨vs, .inr k, h1, r1.str_inv, rfl⟩, F2, Gl2, s1.trans s2, W2, by rw [h2.isSome]; exact .bl _⟩
  | @dicI k kds =>
    refine ⟨fun F R Gl σ H W => wC.of (fun i => pc_din (hu1_i i) (wE.pe i) (wE.pe i)) ((ha.run F R Gl σ H W).mono fun x H1 ⟨F1, Gl1, s1, W1, r1⟩ => (hb.run F1 R Gl1 σ H1 W1).mono fun y H2 ⟨F2, Gl2, s2, W2, v2⟩ => ?_)⟩
    obtain ⟨p, vs, rfl, h1, h2⟩ := W2.dicV v2
    exact ⟨p, _, rfl, .inl ⟨vs, .inl k, h1, r1.int_inv, rfl⟩, F2, Gl2, s1.trans s2, W2, by rw [h2.isSome]; exact .bl _⟩
theorem gc_notIn {x : Bool} (ha : GE Y a ρ G d1) (hb : GV Y b ρ G d2) (h : InD d1 d2 x) : GC Y .NotIn a b ρ G (.bl (!x)) := by
  cases h with
  | sign => exact gc_op (fun i => op_notIn_sign) (gv_ge ha) hb (rr_val fun F R Gl σ H _ _ Q W v1 v2 q => ⟨_, _, v1.str_inv, v2.str_inv, q _ (.bl _)⟩)
  | lstS =>
    refine gc_op (r := rIn Y.K true) (fun i => by have := @op_notIn_seq (Y.X i); rwa [Y.hK i] at this) (gv_ge ha) hb (rr_val fun F R Gl σ H x y Q W v1 v2 q => ?_)
    obtain ⟨p, vs, rfl, h1, h2⟩ := W.lstV v2
    rw [h2.strs_inv] at h1
    rw [v1.str_inv]
    exact ⟨p, _, rfl, .inl h1, rfl, flat_strs, q _ (by rw [inV_strs]; exact .bl _)⟩
  | lstI =>
    refine gc_op (r := rIn Y.K true) (fun i => by have := @op_notIn_seq (Y.X i); rwa [Y.hK i] at this) (gv_ge ha) hb (rr_val fun F R Gl σ H x y Q W v1 v2 q => ?_)
    obtain ⟨p, vs, rfl, h1, h2⟩ := W.lstV v2
    rw [h2.ints_inv] at h1
    rw [v1.int_inv]
    exact ⟨p, _, rfl, .inl h1, rfl, flat_ints, q _ (by rw [inV_ints]; exact .bl _)⟩
  | tupS =>
    refine gc_op (r := rIn Y.K true) (fun i => by have := @op_notIn_seq (Y.X i); rwa [Y.hK i] at this) (gv_ge ha) hb (rr_val fun F R Gl σ H x y Q W v1 v2 q => ?_)
    obtain ⟨p, vs, rfl, h1, h2⟩ := W.tupV v2
    rw [h2.strs_inv] at h1
    rw [v1.str_inv]
    exact ⟨p, _, rfl, .inr h1, rfl, flat_strs, q _ (by rw [inV_strs]; exact .bl _)⟩
  | @dicS k kds =>
    refine ⟨fun F R Gl σ H W => wC.of (fun i => pc_dnotin (hu1_i i) (wE.pe i) (wE.pe i)) ((ha.run F R Gl σ H W).mono fun x H1 ⟨F1, Gl1, s1, W1, r1⟩ => (hb.run F1 R Gl1 σ H1 W1).mono fun y H2 ⟨F2, Gl2, s2, W2, v2⟩ => ?_)⟩
    obtain ⟨p, vs, rfl, h1, h2⟩ := W2.dicV v2
    exact ⟨p, _, rfl, .inl ⟨vs, .inr k, h1, r1.str_inv, rfl⟩, F2, Gl2, s1.trans s2, W2, by rw [h2.isSome]; exact .bl _⟩
  | @dicI k kds =>
    refine ⟨fun F R Gl σ H W => wC.of (fun i => pc_dnotin (hu1_i i) (wE.pe i) (wE.pe i)) ((ha.run F R Gl σ H W).mono fun x H1 ⟨F1, Gl1, s1, W1, r1⟩ => (hb.run F1 R Gl1 σ H1 W1).mono fun y H2 ⟨F2, Gl2, s2, W2, v2⟩ => ?_)⟩
    obtain ⟨p, vs, rfl, h1, h2⟩ := W2.dicV v2
    exact ⟨p, _, rfl, .inl ⟨vs, .inl k, h1, r1.int_inv, rfl⟩, F2, Gl2, s1.trans s2, W2, by rw [h2.isSome]; exact .bl _⟩

/-! chains as tests, chains of texts -/
theorem gt_chain {f f' : Int → Int → Bool} {i j k : Int} {op op' : CmpOp} (ho : ∀ i, OpR (Y.X i) (compareOp op) (rI0 fun i j => .bl (f i j))) (ho' : ∀ i, OpR (Y.X i) (compareOp op') (rI0 fun i j => .bl (f' i j)))
    (ha : GE Y a ρ G (.int i)) (hb : GE Y b ρ G (.int j)) (hc : GE Y c ρ G (.int k)) (hm : lastMarks [op, op'] [b, c] = false := by rfl) : GT Y (.Compare a [op, op'] [b, c] pos) ρ G (f i j && f' j k) :=
  ⟨fun F R Gl σ H W => wT.of (fun i => pt_chain (ho i) (ho' i) (wE.pe i) (wE.pe i) (wE.pe i) hm) (by
    have := chain_go (f := f) (f' := f') (op := op) (op' := op') rfl rfl W ha hb hc
    unfold tTest
    exact tChain_mono this fun v H' ⟨F', Gl', s, W', r⟩ => ⟨_, r.bl_inv, rfl, F', Gl', s, W'⟩)⟩
def leS (x y : Str) : Bool := !decide (y.cps.toList < x.cps.toList)
theorem ge_chainLeS {x y z : Str} (ha : GE Y a ρ G (.str x)) (hb : GE Y b ρ G (.str y)) (hc : GE Y c ρ G (.str z)) (hm : lastMarks [.LtE, .LtE] [b, c] = false := by rfl) : GE Y (.Compare a [.LtE, .LtE] [b, c] pos) ρ G (.bl (leS x y && leS y z)) :=
  ⟨fun F R Gl σ H W => wE.of (fun i => pe_chain op_le_str op_le_str (wE.pe i) (wE.pe i) (wE.pe i) hm) ((ha.run F R Gl σ H W).mono fun v H1 ⟨F1, Gl1, s1, W1, r1⟩ => (hb.run F1 R Gl1 σ H1 W1).mono fun u H2 ⟨F2, Gl2, s2, W2, r2⟩ => by
    refine ⟨x, y, r1.str_inv, r2.str_inv, leS x y, rfl, ?_⟩
    by_cases e : leS x y = true
    · rw [if_pos e]
      refine (hc.run F2 R Gl2 σ H2 W2).mono fun w H3 ⟨F3, Gl3, s3, W3, r3⟩ => ⟨y, z, r2.str_inv, r3.str_inv, F3, Gl3, (s1.trans s2).trans s3, W3, ?_⟩
      rw [e, Bool.true_and]; exact .bl _
    · rw [if_neg e]
      refine ⟨F2, Gl2, s1.trans s2, W2, ?_⟩
      rw [Bool.eq_false_iff.mpr e, Bool.false_and]; exact .bl _)⟩
theorem gt_chainLeS {x y z : Str} (ha : GE Y a ρ G (.str x)) (hb : GE Y b ρ G (.str y)) (hc : GE Y c ρ G (.str z)) (hm : lastMarks [.LtE, .LtE] [b, c] = false := by rfl) : GT Y (.Compare a [.LtE, .LtE] [b, c] pos) ρ G (leS x y && leS y z) :=
  ⟨fun F R Gl σ H W => wT.of (fun i => pt_chain op_le_str op_le_str (wE.pe i) (wE.pe i) (wE.pe i) hm) ((ha.run F R Gl σ H W).mono fun v H1 ⟨F1, Gl1, s1, W1, r1⟩ => (hb.run F1 R Gl1 σ H1 W1).mono fun u H2 ⟨F2, Gl2, s2, W2, r2⟩ => by
    refine ⟨x, y, r1.str_inv, r2.str_inv, leS x y, rfl, ?_⟩
    by_cases e : leS x y = true
    · rw [if_pos e]
      refine (hc.run F2 R Gl2 σ H2 W2).mono fun w H3 ⟨F3, Gl3, s3, W3, r3⟩ => ⟨y, z, r2.str_inv, r3.str_inv, leS y z, rfl, ?_, F3, Gl3, (s1.trans s2).trans s3, W3⟩
      rw [e, Bool.true_and]
    · rw [if_neg e]
      refine ⟨false, rfl, ?_, F2, Gl2, s1.trans s2, W2⟩
      rw [Bool.eq_false_iff.mpr e, Bool.false_and])⟩
end
end Gh
end

section
set_option Elab.async false
set_option linter.all false
set_option maxRecDepth 100000
set_option maxHeartbeats 4000000
namespace Gh
open PySem PySem.Spec PyProof.Rows L2

/-! ### list + list, of any that are read -/
def rCatR (K : PySem.W.Frag) : R2 := fun x y H Q => ∃ l b xs zs, x = .ref l ∧ y = .ref b ∧ SqL K H l xs ∧ SqL K H b zs ∧ xs.length + zs.length ≤ sizeLine ∧ ∀ p, H p = none → Q (.ref p) (upd H p (.lst (xs ++ zs)))
theorem op_catR {X : Cx} : OpR X (binaryOp .Add) (rCatR X.K) := by
  intro pins s σ H x y v u Q I rx ry h
  obtain ⟨l, b, xs, zs, rfl, rfl, hH, hB, hz, q⟩ := h
  cases rx
  cases ry
  obtain ⟨its, r, ⟨⟨c1, d1, dt1, sl1⟩, n1, e1, q1, q2, q3⟩, z1⟩ := I.list hH
  obtain ⟨its2, r2, ⟨⟨c2, d2, dt2, sl2⟩, n2, e2, q4, q5, q6⟩, z2⟩ := I.list hB
  simp only at q1 q2 q3 q4 q5 q6
  subst q1 q2 q3 q4 q5 q6
  have h1 := r.length
  have h2 := r2.length
  have ea : its.toArray ++ its2.toArray = (its ++ its2).toArray := by simp
  refine concat_meets ⟨_, e1, rfl⟩ ⟨_, e2, rfl⟩ noFill_list_add seq_list_add PySem.F.slot_list_add PySem.F.entry_list_add (PySem.F.args_list_add_2 _ _) (list_addW l b its.toArray its2.toArray n1 n2 none none sl1 sl2 (by rw [List.size_toArray, List.size_toArray]; omega)) ⟨e1, e2, ?_⟩
  rw [ea]
  exact ⟨.ref _, _, I.lnew (t' := s.toks) (r.append r2) (by rw [List.length_append]; omega), rfl, q _ I.fresh⟩
section
variable {Y : Ctx} {ρ : Rho} {G : Gs} {E : GEnds} {a b c e o : Expr} {es : List Expr} {d d' d1 d2 d3 : D} {ds xs ys : List D} {pos p apos : Pos}
theorem gn_cat (ha : GV Y a ρ G (.lst xs)) (hb : GV Y b ρ G (.lst ys)) (hl : xs.length + ys.length ≤ 100000) : GN Y (.BinOp a .Add b pos) ρ G (.lst (xs ++ ys)) :=
  gn_op (r := rCatR Y.K) (fun i => by have := @op_catR (Y.X i); rwa [Y.hK i] at this) ha hb fun F R Gl σ H x y Q W v1 v2 q => by
    obtain ⟨p, vs, rfl, h1, h2⟩ := W.lstV v1
    obtain ⟨p', us, rfl, h3, h4⟩ := W.lstV v2
    exact ⟨p, p', vs, us, rfl, rfl, h1, h3, by rw [h2.length, h4.length]; exact Nat.le_trans hl (by decide), fun l hl => q _ _ (new_lst W (h2.append h4) hl)⟩
/-- + by what the operands are -/
inductive AddD : D → D → D → Prop
  | int {i j : Int} : AddD (.int i) (.int j) (.int (i + j))
  | str {x y : Str} (h : x.length + y.length ≤ sizeLine) : AddD (.str x) (.str y) (.str (x ++ y))
  | lst {xs ys : List D} (h : xs.length + ys.length ≤ 100000) : AddD (.lst xs) (.lst ys) (.lst (xs ++ ys))
theorem ge_addD (ha : GV Y a ρ G d1) (hb : GV Y b ρ G d2) (h : AddD d1 d2 d) : GE Y (.BinOp a .Add b pos) ρ G d := by
  cases h with
  | @int i j => exact ge_op (fun _ => op_add) ha hb (rr_val fun F R Gl σ H x y Q W v1 v2 q => ⟨i, j, v1.int_inv, v2.int_inv, q _ (.int _)⟩)
  | @str x y h => exact ge_op (fun _ => op_add_str) ha hb (rr_val fun F R Gl σ H _ _ Q W v1 v2 q => ⟨x, y, v1.str_inv, v2.str_inv, h, q _ (.str _)⟩)
  | lst h => exact ge_n (gn_cat ha hb h)

theorem ge_globI {x : Str} {i : Int} (h : ∃ t, Y.mg x = some (.int i t)) (hg : GlS Y.sc x := by rfl) (hd : (x == ("__debug__" : Str)) = false := by decide) : GE Y (.Name x p) ρ G (.int i) := by
  obtain ⟨t, h⟩ := h
  exact ge_glob h (v := .int i) ⟨t, rfl⟩ (fun _ => .int i) hg hd
theorem ge_globS {x : Str} {i : Str} (h : ∃ t, Y.mg x = some (.str i t)) (hg : GlS Y.sc x := by rfl) (hd : (x == ("__debug__" : Str)) = false := by decide) : GE Y (.Name x p) ρ G (.str i) := by
  obtain ⟨t, h⟩ := h
  exact ge_glob h (v := .str i) ⟨t, rfl⟩ (fun _ => .str i) hg hd
/-! ### texts joined -/
theorem ge_join {x : Str} {ys : List Str} (ho : GE Y o ρ G (.str x)) (he : GV Y e ρ G (.lst (ys.map .str))) (hl : (ys.map (·.length)).sum + ys.length * x.length ≤ 16777216) (hs : ∀ env, starEach [e] env = [(false, eval e env)] := by intro _; rfl)
    (hbase : ∀ env, attributeBase o "join" env (eval o env) = eval o env := by intro _; rfl) (hline : (apos.endLine == pos.line) = true := by rfl) : GE Y (.Call (.Attribute o "join" apos) [e] [] pos) ρ G (.str (Txt.join x ys)) := ⟨fun F R Gl σ H W =>
  wE.of (t := tM1 (fun x xs H Q => ∃ a p, ∃ ys : List Str, x = .str a ∧ xs = [.ref p] ∧ (SqL Y.K H p (ys.map V.str) ∨ SqT Y.K H p (ys.map V.str)) ∧ (ys.map (·.length)).sum + ys.length * a.length ≤ 16777216 ∧ Q (.str (Txt.join a ys)) H) (wE Y o) (wE Y e))
    (fun i => by have := @pe_join (Y.X i) o e _ _ apos pos (wE.pe i) (wE.pe i) (hs _) (hbase _) hline; rwa [Y.hK i] at this) ((ho.run F R Gl σ H W).mono fun v H1 ⟨F1, Gl1, s1, W1, r1⟩ => ⟨⟨x, r1.str_inv⟩, (he.run F1 R Gl1 σ H1 W1).mono fun u H2 ⟨F2, Gl2, s2, W2, r2⟩ => by
      obtain ⟨p, vs, rfl, h1, h2⟩ := W2.lstV r2
      rw [h2.strs_inv] at h1
      exact ⟨x, p, ys, r1.str_inv, rfl, .inl h1, hl, F2, Gl2, s1.trans s2, W2, .str _⟩⟩)⟩

/-! ### append -/
theorem Wd.put {F : Hp} {R Gl : Gs} {ρ : Rho} {σ : L2.St} {H : Hp} {i : Nat} {l : Addr} {x : SV} {g g' : GO} {o : HO} (W : Wd Y F R Gl G ρ σ H) (ho : OwnAt ρ i) (h1 : σ[i]? = some (some (.ref l))) (h2 : Gl l = some g) (hk : g.isLk = false) (h3 : G l = none) (h4 : R l = none)
    (r : ORep Y.K F o g') (hx : SvOk Y.K F G R (gupd Gl l g') (some (.ref l)) x) : Wd Y F R (gupd Gl l g') G (ρ.set i x) σ (upd H l o) := by
  have W1 := W.forget i
  have nO : ¬ Owned (ρ.set i .unk) σ l := fun ⟨j, ⟨x, ex, ox⟩, ej⟩ => by
    rcases set_get ex with ⟨_, z⟩ | ⟨z, z2⟩
    · subst z; cases ox
    · exact z (W.inj j i l ⟨x, z2, ox⟩ ho ej h1)
  have W2 : Wd Y F R (gupd Gl l g') G (ρ.set i .unk) σ (upd H l o) := W1.step (Same.refl F) (fun a u e q => by
    have : a ≠ l := by
      rintro rfl
      rcases q with ⟨u, q⟩ | ⟨u, q⟩ | q
      · rw [h3] at q; cases q
      · rw [h4] at q; cases q
      · exact nO q
    rw [gupd_ne this]; exact e) (W.abs.put h2 hk r)
  have W3 := W2.set (i := i) (x := x) (s := some (.ref l)) hx fun _ l' e j hj oj ej => nO ⟨j, oj, by cases e; exact ej⟩
  rw [List.set_set] at W3
  have e : σ.set i (some (.ref l)) = σ := by
    apply List.ext_getElem?
    intro j
    by_cases q : i = j
    · subst q
      rw [List.getElem?_set_self (List.getElem?_eq_some_iff.mp h1).1, h1]
    · rw [List.getElem?_set_ne q]
  rwa [e] at W3
theorem lt_line {n : Nat} (h : n < 100000) : n < sizeLine := Nat.lt_of_lt_of_le h (by decide)
theorem few_i (i : Y.ι) (h : ∀ env, ((backTo pos (starEach (e :: es) env)).all (fun x => !x.1) && (backToKw pos (keywordEach [] env)).all (fun x => x.1.isSome) && decide ((e :: es).length + ([] : List Keyword).length + (if ([] : List Keyword).isEmpty then 0 else 1) < 30)) = true) :
    ((backTo pos (starEach (e :: es) (Y.X i).env)).all (fun x => !x.1) && (backToKw pos (keywordEach [] (Y.X i).env)).all (fun x => x.1.isSome) && decide ((e :: es).length + ([] : List Keyword).length + (if ([] : List Keyword).isEmpty then 0 else 1) < 30)) = true := h _
/-- x.append(e), x a slot's own list -/
theorem gs_app (j : Nat) {x : Str} {px epos : Pos} (hj : ρ[j]? = some (.own ds)) (he : GE Y e ρ G d) (hl : ds.length < 100000) (k : E.nx (ρ.set j (.own (ds ++ [d]))) G) (hN : Y.N[j]? = some x := by rfl) (hv : Vis Y.sc x := by first | exact Or.inl rfl | exact Or.inr (Or.inl rfl) | exact Or.inr (Or.inr rfl))
    (hd : (x == ("__debug__" : Str)) = false := by decide) (hcd : (x == ("__classdict__" : Str)) = false := by decide) (hbase : ∀ env, attributeBase (.Name x px) "append" env (eval (.Name x px) env) = eval (.Name x px) env := by intro _; rfl)
    (hfew : ∀ env, ((backTo pos (starEach [e] env)).all (fun x => !x.1) && (backToKw pos (keywordEach [] env)).all (fun x => x.1.isSome) && decide ([e].length + ([] : List Keyword).length + (if ([] : List Keyword).isEmpty then 0 else 1) < 30)) = true := by intro _; rfl)
    (hline : (apos.endLine == pos.line) = true := by rfl) (hs : ∀ env, starEach [e] env = (false, eval e env) :: starEach [] env := by intro _; rfl) (hsw : ∀ i, swapsWith (.Call (.Attribute (.Name x px) "append" apos) [e] [] pos) none epos.line (Y.X i).env = pure false := by intro _; rfl) :
    GS Y (.Expr (.Call (.Attribute (.Name x px) "append" apos) [e] [] pos) epos) ρ G E := ⟨fun F R Gl σ H D W L => by
  refine wS.of (t := tDrop (tBM Y.K "list" rAppend (tVar j) (wA Y [e]))) (fun i => ps_expr (by have := @pe_bm (Y.X i) (.Name x px) e [] _ _ _ apos pos _ _ _ PySem.F.plainAttrs_list PySem.F.slot_list_append PySem.F.type_list_append mt_append (var_pe hN hv hd hcd i) (wA.pa i) (hbase _) (hfew _) hline (hs _) rfl; rwa [Y.hK i] at this) (hsw i)) ?_
  obtain ⟨s, h1, l, rfl, h2, h3, h4⟩ := W.get hj
  obtain ⟨_, o, ho, r⟩ := W.abs.obj l _ h2
  cases r with
  | lst r =>
  refine ⟨_, h1, .inl ⟨rfl, _, .inl (.inl ho)⟩, ((gr_cons he gr_nil hs).run F R Gl σ H W).mono fun vs H1 ⟨F1, Gl1, s1, W1, r1⟩ => ?_⟩
  cases r1 with
  | cons r1 r2 =>
  cases r2
  obtain ⟨s', g1, l', e', g2, g3, g4⟩ := W1.get hj
  rw [h1] at g1; cases g1; cases e'
  obtain ⟨_, o', ho', r'⟩ := W1.abs.obj l _ g2
  cases r' with
  | @lst us _ r' =>
  refine ⟨l, us, _, rfl, rfl, ho', lt_line (by rw [r'.length]; exact hl), L.nx _ _ _ _ _ _ s1 (W1.put (x := .own (ds ++ [d])) (g' := .lst (ds ++ [d])) ⟨_, hj, rfl⟩ h1 g2 rfl g3 g4 (.lst (r'.snoc r1)) ⟨l, rfl, gupd_same, g3, g4⟩) k⟩⟩
end
end Gh
end

section
set_option Elab.async false
set_option linter.all false
set_option maxRecDepth 100000
set_option maxHeartbeats 4000000
namespace Gh
open PySem PySem.Spec PyProof.Rows L2

/-! ### what is new is told by address, and back -/
section
variable {Y : Ctx} {F F' : Hp} {R Gl Gl' G G0 : Gs} {ρ : Rho} {σ : L2.St} {H : Hp} {l : Addr} {g : GO} {e : Expr} {d : D} {P : D → Gs → Prop}
theorem Wd.pubN (W : Wd Y F R Gl G ρ σ H) (h : Gl l = some g) (h1 : G l = none) (h2 : R l = none) (h3 : ¬ Owned ρ σ l) : Wd Y F R Gl (gupd G l g) ρ σ H := by
  refine ⟨W.f0, W.len, fun a u e => ?_, W.r0, W.r, fun a => ?_, fun i x s e1 e2 => ?_, W.inj, W.abs⟩
  · by_cases q : a = l
    · subst q; rw [gupd_same] at e; cases e; exact h
    · rw [gupd_ne q] at e; exact W.g a u e
  · by_cases q : a = l
    · subst q; exact .inr h2
    · rw [gupd_ne q]; exact W.gr a
  · have z := W.sv i x s e1 e2
    have ne : ∀ l', s = some (.ref l') → x.isOwn = true → l' ≠ l := by
      rintro l' rfl ox rfl
      exact h3 ⟨i, ⟨_, e1, ox⟩, e2⟩
    cases x with
    | unk => trivial
    | dat d => exact z
    | own ds => obtain ⟨l', a1, a2, a3, a4⟩ := z; exact ⟨l', a1, a2, by rw [gupd_ne (ne _ a1 rfl)]; exact a3, a4⟩
    | ownd ds => obtain ⟨l', a1, a2, a3, a4⟩ := z; exact ⟨l', a1, a2, by rw [gupd_ne (ne _ a1 rfl)]; exact a3, a4⟩
theorem Wd.less (W : Wd Y F R Gl G ρ σ H) (h : GEx G0 G) : Wd Y F R Gl G0 ρ σ H := by
  refine ⟨W.f0, W.len, h.trans W.g, W.r0, W.r, fun a => ?_, fun i x s e1 e2 => ?_, W.inj, W.abs⟩
  · rcases W.gr a with z | z
    · exact .inl (h.none z)
    · exact .inr z
  · have z := W.sv i x s e1 e2
    cases x with
    | unk => trivial
    | dat d => exact z
    | own ds => obtain ⟨l', a1, a2, a3, a4⟩ := z; exact ⟨l', a1, a2, h.none a3, a4⟩
    | ownd ds => obtain ⟨l', a1, a2, a3, a4⟩ := z; exact ⟨l', a1, a2, h.none a3, a4⟩
/-- a new thing g at a new place -/
abbrev Fresh (G : Gs) (g : GO) : D → Gs → Prop := fun d G' => ∃ l, d = .ref l ∧ G l = none ∧ G' = gupd G l g
theorem gw_n (h : GN Y e ρ G g) : GW Y e ρ G (Fresh G g) := ⟨fun F R Gl σ H W => (h.run F R Gl σ H W).mono fun v H' ⟨F', Gl', l, ev, s, W', h1, h2, h3, h4⟩ => by
  subst ev
  exact ⟨F', Gl', _, .ref l, s, W'.pubN h1 h2 h3 h4, .ref l, l, rfl, h2, rfl⟩⟩
theorem gex_new (h : G l = none) : GEx G (gupd G l g) := fun b u e => by rw [gupd_ne (gne e h)]; exact e
theorem gn_gw (h : GW Y e ρ G (Fresh G g)) : GN Y e ρ G g := ⟨fun F R Gl σ H W => (h.run F R Gl σ H W).mono fun v H' ⟨F', Gl', G', d, s, W', r, l, ed, hl, eG⟩ => by
  subst ed eG
  have hg : Gl' l = some g := W'.g l g gupd_same
  refine ⟨F', Gl', l, r.ref_inv, s, W'.less (gex_new hl), hg, hl, ?_, fun o => ?_⟩
  · exact (W'.gr l).resolve_left (by rw [gupd_same]; simp)
  · obtain ⟨u, z1, z2, z3⟩ := W'.owned o
    rw [gupd_same] at z2; cases z2⟩
theorem gf_n (h : GN Y e ρ G g) (q : ∀ l, G l = none → P (.ref l) (gupd G l g)) : GF Y e ρ G P := gf_w (gw_mono (gw_n h) fun d G' ⟨l, ed, hl, eG⟩ => by subst ed eG; exact q l hl)
theorem gw_less (h : GW Y e ρ G fun d G' => ∃ G0, GEx G0 G' ∧ P d G0) : GW Y e ρ G P := ⟨fun F R Gl σ H W => (h.run F R Gl σ H W).mono fun v H' ⟨F', Gl', G', d, s, W', r, G0, l, q⟩ => ⟨F', Gl', G0, d, s, W'.less l, r, q⟩⟩
end

/-! ### an expression that changes slots' things, too -/
section
variable {Y : Ctx} {ρ ρ' : Rho} {G G' : Gs} {E : GEnds} {e o i : Expr} {es : List Expr} {d d' : D} {ds : List D} {pos p apos : Pos}
structure GX (Y : Ctx) (e : Expr) (ρ : Rho) (G : Gs) (P : D → Rho → Gs → Prop) : Prop where
  run : ∀ F R Gl σ H, Wd Y F R Gl G ρ σ H → wE Y e σ H fun v H' => ∃ F' Gl' G' ρ' d, Same F F' ∧ Wd Y F' R Gl' G' ρ' σ H' ∧ Rep Y.K F' v d ∧ P d ρ' G'
theorem gx_w {P : D → Rho → Gs → Prop} (h : GW Y e ρ G fun d G' => P d ρ G') : GX Y e ρ G P := ⟨fun F R Gl σ H W => (h.run F R Gl σ H W).mono fun v H' ⟨F', Gl', G', d, s, W', r, q⟩ => ⟨F', Gl', G', ρ, d, s, W', r, q⟩⟩
theorem gx_mono {P P' : D → Rho → Gs → Prop} (h : GX Y e ρ G P) (q : ∀ d ρ' G', P d ρ' G' → P' d ρ' G') : GX Y e ρ G P' := ⟨fun F R Gl σ H W => (h.run F R Gl σ H W).mono fun v H' ⟨F', Gl', G', ρ', d, s, W', r, z⟩ => ⟨F', Gl', G', ρ', d, s, W', r, q _ _ _ z⟩⟩
theorem gw_x {P : D → Gs → Prop} (h : GX Y e ρ G fun d ρ' G' => ρ' = ρ ∧ P d G') : GW Y e ρ G P := ⟨fun F R Gl σ H W => (h.run F R Gl σ H W).mono fun v H' ⟨F', Gl', G', ρ', d, s, W', r, er, z⟩ => by subst er; exact ⟨F', Gl', G', d, s, W', r, z⟩⟩
theorem gs_exprX (h : GX Y e ρ G fun _ ρ' G' => E.nx ρ' G') (hs : ∀ i, swapsWith e none pos.line (Y.X i).env = pure false := by intro _; rfl) : GS Y (.Expr e pos) ρ G E := ⟨fun F R Gl σ H D W L =>
  wS.of (fun i => ps_expr (wE.pe i) (hs i)) ((h.run F R Gl σ H W).mono fun v H' ⟨F', Gl', G', ρ', d, s, W', r, q⟩ => L.nx _ _ _ _ _ _ s W' q)⟩
theorem gs_setX (j : Nat) {x : Str} {pos' : Pos} (hd : Y.N.Nodup) (he : GX Y e ρ G fun d ρ' G' => E.nx (ρ'.set j (.dat d)) G') (hN : Y.N[j]? = some x := by rfl) (hx : Loc Y.sc x := by first | exact .inl rfl | exact .inr rfl) (hs : ∀ i, swapsWith e (some (.Name x pos')) pos.line (Y.X i).env = pure false := by intro _; rfl)
    (hf : Y.fn x = true ∨ Y.sc.names.lookup x = some .local := by first | exact .inl rfl | exact .inr rfl) : GS Y (.Assign [.Name x pos'] e pos) ρ G E := ⟨fun F R Gl σ H D W L =>
  wS.of (set_ps hd hN hx hs hf) ((he.run F R Gl σ H W).mono fun v H' ⟨F', Gl', G', ρ', d, s, W', r, q⟩ => L.nx _ _ _ _ _ _ s (W'.setD r) q)⟩
theorem gf_x {P : D → Gs → Prop} (h : GX Y e ρ G fun d _ G' => P d G') : GF Y e ρ G P := ⟨fun F R Gl σ H W => (h.run F R Gl σ H W).mono fun v H' ⟨F', Gl', G', ρ', d, s, W', r, q⟩ => ⟨F', Gl', G', d, s, W'.fin, r, q⟩⟩

/-! ### a thing that may be changed: a slot's own, or one told by address -/
inductive Pl where
  | slot (j : Nat) | at (l : Addr)
def Pl.get (ρ : Rho) (G : Gs) : Pl → Option GO
  | .slot j => match ρ[j]? with
    | some (.own ds) => some (.lst ds)
    | some (.ownd kds) => some (.dic kds)
    | _ => none
  | .at l => G l
def Pl.putR (ρ : Rho) : Pl → GO → Rho
  | .slot j, .lst ds => ρ.set j (.own ds)
  | .slot j, .dic kds => ρ.set j (.ownd kds)
  | _, _ => ρ
def Pl.putG (G : Gs) : Pl → GO → Gs
  | .at l, g => gupd G l g
  | _, _ => G
def Pl.Is (ρ : Rho) (σ : L2.St) : Pl → Addr → Prop
  | .slot j, a => OwnAt ρ j ∧ σ[j]? = some (some (.ref a))
  | .at l, a => a = l
structure GP (Y : Ctx) (o : Expr) (ρ : Rho) (G : Gs) (p : Pl) : Prop where
  run : ∀ F R Gl σ H, Wd Y F R Gl G ρ σ H → wE Y o σ H fun v H' => ∃ F' Gl' l, v = .ref l ∧ Same F F' ∧ Wd Y F' R Gl' G ρ σ H' ∧ p.Is ρ σ l
theorem gp_at {l : Addr} (h : GE Y o ρ G (.ref l)) : GP Y o ρ G (.at l) := ⟨fun F R Gl σ H W => (h.run F R Gl σ H W).mono fun v H' ⟨F', Gl', s, W', r⟩ => ⟨F', Gl', l, r.ref_inv, s, W', rfl⟩⟩
theorem gp_own (j : Nat) {x : Str} (h : ρ[j]? = some (.own ds)) (hN : Y.N[j]? = some x := by rfl) (hv : Vis Y.sc x := by first | exact Or.inl rfl | exact Or.inr (Or.inl rfl) | exact Or.inr (Or.inr rfl)) (hd : (x == ("__debug__" : Str)) = false := by decide) (hcd : (x == ("__classdict__" : Str)) = false := by decide) :
    GP Y (.Name x p) ρ G (.slot j) := ⟨fun F R Gl σ H W => by
  obtain ⟨s, h1, l, rfl, h2, h3, h4⟩ := W.get h
  exact wE.of (var_pe hN hv hd hcd) ⟨_, h1, F, Gl, l, rfl, Same.refl F, W, ⟨_, h, rfl⟩, h1⟩⟩
theorem gp_ownd (j : Nat) {x : Str} {kds : List (Key × D)} (h : ρ[j]? = some (.ownd kds)) (hN : Y.N[j]? = some x := by rfl) (hv : Vis Y.sc x := by first | exact Or.inl rfl | exact Or.inr (Or.inl rfl) | exact Or.inr (Or.inr rfl)) (hd : (x == ("__debug__" : Str)) = false := by decide) (hcd : (x == ("__classdict__" : Str)) = false := by decide) :
    GP Y (.Name x p) ρ G (.slot j) := ⟨fun F R Gl σ H W => by
  obtain ⟨s, h1, l, rfl, h2, h3, h4⟩ := W.get h
  exact wE.of (var_pe hN hv hd hcd) ⟨_, h1, F, Gl, l, rfl, Same.refl F, W, ⟨_, h, rfl⟩, h1⟩⟩
theorem Wd.pget {F R Gl G ρ σ H} {p : Pl} {l : Addr} {g : GO} (W : Wd Y F R Gl G ρ σ H) (i : p.Is ρ σ l) (h : p.get ρ G = some g) : Gl l = some g := by
  cases p with
  | «at» l' => cases i; exact W.g _ _ h
  | slot j =>
    obtain ⟨⟨x, e, ox⟩, ej⟩ := i
    obtain ⟨s, z1, z2⟩ := W.get e
    rw [ej] at z1; cases z1
    cases x with
    | unk => cases ox
    | dat d => cases ox
    | own ds => obtain ⟨l', a1, a2, a3, a4⟩ := z2; cases a1; simp only [Pl.get, e] at h; cases h; exact a2
    | ownd ds => obtain ⟨l', a1, a2, a3, a4⟩ := z2; cases a1; simp only [Pl.get, e] at h; cases h; exact a2
def GO.isB : GO → Bool
  | .lst _ => true
  | .dic _ => true
  | _ => false
/-- a thing told by address is changed -/
theorem Wd.putG {F : Hp} {R Gl G : Gs} {ρ : Rho} {σ : L2.St} {H : Hp} {l : Addr} {g g' : GO} {ob : HO} (W : Wd Y F R Gl G ρ σ H) (h : G l = some g) (hk : g.isLk = false) (r : ORep Y.K F ob g') : Wd Y F R (gupd Gl l g') (gupd G l g') ρ σ (upd H l ob) := by
  have hR : R l = none := (W.gr l).resolve_left (by rw [h]; simp)
  refine ⟨W.f0, W.len, fun a u e => ?_, W.r0, fun a u e => ?_, fun a => ?_, fun j x s e1 e2 => ?_, W.inj, W.abs.put (W.g _ _ h) hk r⟩
  · by_cases q : a = l
    · subst q; rw [gupd_same] at e ⊢; exact e
    · rw [gupd_ne q] at e ⊢; exact W.g a u e
  · rw [gupd_ne (gne e hR)]; exact W.r a u e
  · by_cases q : a = l
    · subst q; exact .inr hR
    · rw [gupd_ne q]; exact W.gr a
  · have z := W.sv j x s e1 e2
    have ne : ∀ l', G l' = none → l' ≠ l := fun l' z q => by subst q; rw [h] at z; cases z
    cases x with
    | unk => trivial
    | dat d => exact z
    | own ds => obtain ⟨l', a1, a2, a3, a4⟩ := z; exact ⟨l', a1, by rw [gupd_ne (ne _ a3)]; exact a2, by rw [gupd_ne (ne _ a3)]; exact a3, a4⟩
    | ownd ds => obtain ⟨l', a1, a2, a3, a4⟩ := z; exact ⟨l', a1, by rw [gupd_ne (ne _ a3)]; exact a2, by rw [gupd_ne (ne _ a3)]; exact a3, a4⟩
theorem Wd.pput {F : Hp} {R Gl G : Gs} {ρ : Rho} {σ : L2.St} {H : Hp} {p : Pl} {l : Addr} {g g' : GO} {ob : HO} (W : Wd Y F R Gl G ρ σ H) (i : p.Is ρ σ l) (h : p.get ρ G = some g) (hk : g.isLk = false) (hb : g'.isB = true) (r : ORep Y.K F ob g') :
    Wd Y F R (gupd Gl l g') (p.putG G g') (p.putR ρ g') σ (upd H l ob) := by
  have hg := W.pget i h
  cases p with
  | «at» l' => cases i; exact W.putG h hk r
  | slot j =>
    obtain ⟨⟨x, e, ox⟩, ej⟩ := i
    obtain ⟨s, z1, z2⟩ := W.get e
    rw [ej] at z1; cases z1
    have q : G l = none ∧ R l = none := by
      cases x with
      | unk => cases ox
      | dat d => cases ox
      | own ds => obtain ⟨l', a1, a2, a3, a4⟩ := z2; cases a1; exact ⟨a3, a4⟩
      | ownd ds => obtain ⟨l', a1, a2, a3, a4⟩ := z2; cases a1; exact ⟨a3, a4⟩
    cases g' with
    | lst ds => exact W.put (x := .own ds) ⟨x, e, ox⟩ ej hg hk q.1 q.2 r ⟨l, rfl, gupd_same, q.1, q.2⟩
    | dic ds => exact W.put (x := .ownd ds) ⟨x, e, ox⟩ ej hg hk q.1 q.2 r ⟨l, rfl, gupd_same, q.1, q.2⟩
    | ins C dx fs => cases hb
    | own x => cases hb
    | lk ob g => cases hb
theorem Wd.plst {F : Hp} {R Gl G : Gs} {ρ : Rho} {σ : L2.St} {H : Hp} {p : Pl} {l : Addr} (W : Wd Y F R Gl G ρ σ H) (i : p.Is ρ σ l) (h : p.get ρ G = some (.lst ds)) : ∃ vs, H l = some (.lst vs) ∧ Reps Y.K F vs ds := by
  obtain ⟨_, o, ho, r⟩ := W.abs.obj l _ (W.pget i h)
  cases r with | lst r => exact ⟨_, ho, r⟩
theorem Wd.pdic {F : Hp} {R Gl G : Gs} {ρ : Rho} {σ : L2.St} {H : Hp} {p : Pl} {l : Addr} {kds : List (Key × D)} (W : Wd Y F R Gl G ρ σ H) (i : p.Is ρ σ l) (h : p.get ρ G = some (.dic kds)) : ∃ vs, H l = some (.dK vs) ∧ KReps Y.K F vs kds := by
  obtain ⟨_, o, ho, r⟩ := W.abs.obj l _ (W.pget i h)
  cases r with | dic r => exact ⟨_, ho, r⟩

abbrev FewB (e : Expr) (pos : Pos) : Prop := ∀ env, ((backTo pos (starEach [e] env)).all (fun x => !x.1) && (backToKw pos (keywordEach [] env)).all (fun x => x.1.isSome) && decide ([e].length + ([] : List Keyword).length + (if ([] : List Keyword).isEmpty then 0 else 1) < 30)) = true
abbrev BaseB (o : Expr) (m : Str) : Prop := ∀ env, attributeBase o m env (eval o env) = eval o env
abbrev StarB (e : Expr) : Prop := ∀ env, starEach [e] env = (false, eval e env) :: starEach [] env
section
variable {pl : Pl}
/-- o.append(e) -/
theorem gx_app {P : D → Rho → Gs → Prop} (ho : GP Y o ρ G pl) (hg : pl.get ρ G = some (.lst ds)) (he : GE Y e ρ G d) (hl : ds.length < 100000) (k : P .non (pl.putR ρ (.lst (ds ++ [d]))) (pl.putG G (.lst (ds ++ [d]))))
    (hbase : BaseB o "append" := by intro _; rfl) (hfew : FewB e pos := by intro _; rfl) (hline : (apos.endLine == pos.line) = true := by rfl) (hs : StarB e := by intro _; rfl) :
    GX Y (.Call (.Attribute o "append" apos) [e] [] pos) ρ G P := ⟨fun F R Gl σ H W => by
  refine wE.of (t := tBM Y.K "list" rAppend (wE Y o) (wA Y [e])) (fun i => (by have := @pe_bm (Y.X i) o e [] _ _ _ apos pos _ _ _ PySem.F.plainAttrs_list PySem.F.slot_list_append PySem.F.type_list_append mt_append (wE.pe i) (wA.pa i) (hbase _) (hfew _) hline (hs _) rfl; rwa [Y.hK i] at this)) ?_
  refine (ho.run F R Gl σ H W).mono fun v H1 ⟨F1, Gl1, l, ev, s1, W1, is⟩ => ?_
  subst ev
  obtain ⟨vs, h1, r1⟩ := W1.plst is hg
  refine ⟨.inl ⟨rfl, _, .inl (.inl h1)⟩, ((gr_cons he gr_nil hs).run F1 R Gl1 σ H1 W1).mono fun us H2 ⟨F2, Gl2, s2, W2, r2⟩ => ?_⟩
  cases r2 with
  | cons r2 r3 =>
  cases r3
  obtain ⟨ws, h2, r4⟩ := W2.plst is hg
  exact ⟨l, ws, _, rfl, rfl, h2, lt_line (by rw [r4.length]; exact hl), F2, _, _, _, .non, s1.trans s2, W2.pput is hg rfl rfl (.lst (r4.snoc r2)), .non, k⟩⟩
/-- o.pop(i) -/
theorem gx_popAt {P : D → Rho → Gs → Prop} {i : Int} {k : Nat} (ho : GP Y o ρ G pl) (hg : pl.get ρ G = some (.lst ds)) (he : GE Y e ρ G (.int i)) (hi : -(2 ^ 63) ≤ i ∧ i < 2 ^ 63) (hk : seqIndex? i ds.length = some k) (hd : ds[k]? = some d) (q : P d (pl.putR ρ (.lst (ds.eraseIdx k))) (pl.putG G (.lst (ds.eraseIdx k))))
    (hbase : BaseB o "pop" := by intro _; rfl) (hfew : FewB e pos := by intro _; rfl) (hline : (apos.endLine == pos.line) = true := by rfl) (hs : StarB e := by intro _; rfl) :
    GX Y (.Call (.Attribute o "pop" apos) [e] [] pos) ρ G P := ⟨fun F R Gl σ H W => by
  refine wE.of (t := tBM Y.K "list" rPopAt (wE Y o) (wA Y [e])) (fun i => (by have := @pe_bm (Y.X i) o e [] _ _ _ apos pos _ _ _ PySem.F.plainAttrs_list PySem.F.slot_list_pop PySem.F.type_list_pop mt_popAt (wE.pe i) (wA.pa i) (hbase _) (hfew _) hline (hs _) rfl; rwa [Y.hK i] at this)) ?_
  refine (ho.run F R Gl σ H W).mono fun v H1 ⟨F1, Gl1, l, ev, s1, W1, is⟩ => ?_
  subst ev
  obtain ⟨vs, h1, r1⟩ := W1.plst is hg
  refine ⟨.inl ⟨rfl, _, .inl (.inl h1)⟩, ((gr_cons he gr_nil hs).run F1 R Gl1 σ H1 W1).mono fun us H2 ⟨F2, Gl2, s2, W2, r2⟩ => ?_⟩
  cases r2 with
  | cons r2 r3 =>
  cases r3
  cases r2.int_inv
  obtain ⟨ws, h2, r4⟩ := W2.plst is hg
  obtain ⟨y, hy, ry⟩ := r4.get hd
  exact ⟨l, ws, i, k, y, rfl, rfl, h2, hi.1, hi.2, by rw [r4.length]; exact hk, hy, F2, _, _, _, d, s1.trans s2, W2.pput is hg rfl rfl (.lst (r4.eraseIdx k)), ry, q⟩⟩
/-- o.pop() -/
theorem gx_pop {P : D → Rho → Gs → Prop} (ho : GP Y o ρ G pl) (hg : pl.get ρ G = some (.lst ds)) (hd : ds[ds.length - 1]? = some d) (q : P d (pl.putR ρ (.lst ds.dropLast)) (pl.putG G (.lst ds.dropLast)))
    (hbase : BaseB o "pop" := by intro _; rfl) (hline : (apos.endLine == pos.line) = true := by rfl) :
    GX Y (.Call (.Attribute o "pop" apos) [] [] pos) ρ G P := ⟨fun F R Gl σ H W => by
  refine wE.of (t := tBM0 Y.K "list" rPop (wE Y o)) (fun i => (by have := pe_bm0 (X := Y.X i) (o := o) (apos := apos) PySem.F.plainAttrs_list PySem.F.slot_list_pop PySem.F.type_list_pop mt_pop (wE.pe i) (hbase _) hline; rwa [Y.hK i] at this)) ?_
  refine (ho.run F R Gl σ H W).mono fun v H1 ⟨F1, Gl1, l, ev, s1, W1, is⟩ => ?_
  subst ev
  obtain ⟨vs, h1, r1⟩ := W1.plst is hg
  obtain ⟨y, hy, ry⟩ := r1.get hd
  exact ⟨.inl ⟨rfl, _, .inl (.inl h1)⟩, l, vs, y, rfl, rfl, h1, by rw [r1.length]; exact hy, F1, _, _, _, d, s1, W1.pput is hg rfl rfl (.lst r1.dropLast), ry, q⟩⟩
/-- o.clear() -/
theorem gx_clear {P : D → Rho → Gs → Prop} (ho : GP Y o ρ G pl) (hg : pl.get ρ G = some (.lst ds)) (q : P .non (pl.putR ρ (.lst [])) (pl.putG G (.lst [])))
    (hbase : BaseB o "clear" := by intro _; rfl) (hline : (apos.endLine == pos.line) = true := by rfl) :
    GX Y (.Call (.Attribute o "clear" apos) [] [] pos) ρ G P := ⟨fun F R Gl σ H W => by
  refine wE.of (t := tBM0 Y.K "list" rClear (wE Y o)) (fun i => (by have := pe_bm0 (X := Y.X i) (o := o) (apos := apos) PySem.F.plainAttrs_list PySem.F.slot_list_clear PySem.F.type_list_clear mt_clear (wE.pe i) (hbase _) hline; rwa [Y.hK i] at this)) ?_
  refine (ho.run F R Gl σ H W).mono fun v H1 ⟨F1, Gl1, l, ev, s1, W1, is⟩ => ?_
  subst ev
  obtain ⟨vs, h1, r1⟩ := W1.plst is hg
  exact ⟨.inl ⟨rfl, _, .inl (.inl h1)⟩, l, vs, rfl, rfl, h1, F1, _, _, _, .non, s1, W1.pput is hg rfl rfl (.lst .nil), .non, q⟩⟩
/-- a key's data -/
def kD : Key → D
  | .inl i => .int i
  | .inr x => .str x
theorem Rep.key {K : PySem.W.Frag} {F : Hp} {v : V} {k : Key} (h : Rep K F v (kD k)) : v = kV k := by
  cases k with
  | inl i => exact h.int_inv
  | inr x => exact h.str_inv
abbrev M1B (o : Expr) (m : Str) (apos : Pos) (e : Expr) (pos : Pos) : Prop := ∀ env, backTo pos (starEach [e] env) = [(false, eval e env)]
/-- o.pop(k), o a dict -/
theorem gx_dpop {P : D → Rho → Gs → Prop} {kds : List (Key × D)} (k : Key) (ho : GP Y o ρ G pl) (hg : pl.get ρ G = some (.dic kds)) (he : GE Y e ρ G (kD k)) (hd : valD kds k = some d) (q : P d (pl.putR ρ (.dic (dropD kds k))) (pl.putG G (.dic (dropD kds k))))
    (hbase : BaseB o "pop" := by intro _; rfl) (hfew : FewB e pos := by intro _; rfl) (hline : (apos.endLine == pos.line) = true := by rfl) (hs : M1B o "pop" apos e pos := by intro _; rfl) :
    GX Y (.Call (.Attribute o "pop" apos) [e] [] pos) ρ G P := ⟨fun F R Gl σ H W => by
  refine wE.of (t := tDPop1 (wE Y o) (wE Y e)) (fun i => pe_dpop1 (wE.pe i) (wE.pe i) ⟨hbase _, hfew _, hline, hs _⟩) ?_
  refine (ho.run F R Gl σ H W).mono fun v H1 ⟨F1, Gl1, l, ev, s1, W1, is⟩ => ?_
  subst ev
  obtain ⟨vs, h1, r1⟩ := W1.pdic is hg
  refine ⟨l, rfl, .inl ⟨_, .inl h1⟩, (he.run F1 R Gl1 σ H1 W1).mono fun y H2 ⟨F2, Gl2, s2, W2, r2⟩ => ?_⟩
  obtain ⟨ws, h2, r3⟩ := W2.pdic is hg
  rcases r3.val k with ⟨_, z⟩ | ⟨v, d', z1, z2, z3⟩
  · rw [hd] at z; cases z
  · rw [hd] at z2; cases z2
    exact ⟨ws, k, v, h2, r2.key, z1, F2, _, _, _, d, s1.trans s2, W2.pput is hg rfl rfl (.dic (r3.drop k)), z3, q⟩⟩
/-- o.get(k, x), o a dict -/
theorem ge_dget2 {f : Expr} {kds : List (Key × D)} (k : Key) (ho : GV Y o ρ G (.dic kds)) (he : GE Y e ρ G (kD k)) (hf : GE Y f ρ G d)
    (hbase : BaseB o "get" := by intro _; rfl) (hfew : ∀ env, ((backTo pos (starEach [e, f] env)).all (fun x => !x.1) && (backToKw pos (keywordEach [] env)).all (fun x => x.1.isSome) && decide ([e, f].length + ([] : List Keyword).length + (if ([] : List Keyword).isEmpty then 0 else 1) < 30)) = true := by intro _; rfl) (hline : (apos.endLine == pos.line) = true := by rfl)
    (hs : ∀ env, backTo pos (starEach [e, f] env) = [(false, eval e env), (false, eval f env)] := by intro _; rfl) :
    GE Y (.Call (.Attribute o "get" apos) [e, f] [] pos) ρ G ((valD kds k).getD d) := ⟨fun F R Gl σ H W => by
  refine wE.of (t := tDGet2 (wE Y o) (wE Y e) (wE Y f)) (fun i => pe_dget2 (hu1_i i) (wE.pe i) (wE.pe i) (wE.pe i) ⟨hbase _, hfew _, hline, hs _⟩) ?_
  refine (ho.run F R Gl σ H W).mono fun v H1 ⟨F1, Gl1, s1, W1, v1⟩ => ?_
  obtain ⟨p, vs, rfl, h1, h2⟩ := W1.dicV v1
  refine ⟨p, rfl, .inl ⟨_, h1⟩, (he.run F1 R Gl1 σ H1 W1).mono fun y H2 ⟨F2, Gl2, s2, W2, r2⟩ => (hf.run F2 R Gl2 σ H2 W2).mono fun z H3 ⟨F3, Gl3, s3, W3, r3⟩ => ?_⟩
  obtain ⟨p', ws, e', h3, h4⟩ := W3.dicV (v1.mono (s2.trans s3))
  cases e'
  refine ⟨valV ws k, .inl ⟨ws, k, h3, r2.key, rfl⟩, F3, Gl3, (s1.trans s2).trans s3, W3, ?_⟩
  rcases h4.val k with ⟨z1, z2⟩ | ⟨v, d', z1, z2, z3⟩
  · rw [z1, z2]; exact r3
  · rw [z1, z2]; exact z3⟩
/-- o[i] = value, o a dict -/
theorem gs_dput {value : Expr} {pos' : Pos} (k : Key) (hv : GW Y value ρ G fun d G' => ∃ pl kds, GP Y o ρ G' pl ∧ GE Y i ρ G' (kD k) ∧ pl.get ρ G' = some (.dic kds) ∧ kds.length < 100000 ∧ E.nx (pl.putR ρ (.dic (putD kds k d))) (pl.putG G' (.dic (putD kds k d))))
    (hs : ∀ j, swapsWith value (some (.Subscript o i pos')) pos.line (Y.X j).env = pure false := by intro _; rfl) : GS Y (.Assign [.Subscript o i pos'] value pos) ρ G E := ⟨fun F R Gl σ H D W L => by
  refine wS.of (fun j => ps_dput (hu1_i j) (wE.pe j) (wE.pe j) (wE.pe j) (hs j)) ?_
  refine (hv.run F R Gl σ H W).mono fun v H1 ⟨F1, Gl1, G', d, s1, W1, r1, pl, kds, ho, hi, hg, hl, q⟩ => (ho.run F1 R Gl1 σ H1 W1).mono fun x H2 ⟨F2, Gl2, l, ev, s2, W2, is⟩ => (hi.run F2 R Gl2 σ H2 W2).mono fun y H3 ⟨F3, Gl3, s3, W3, r3⟩ => ?_
  subst ev
  obtain ⟨ws, h2, r4⟩ := W3.pdic is hg
  refine ⟨l, _, rfl, .inl ⟨ws, k, h2, r3.key, lt_line (by rw [r4.length]; exact hl), rfl⟩, ?_⟩
  exact L.nx _ _ _ _ _ _ ((s1.trans s2).trans s3) (W3.pput is hg rfl rfl (.dic (r4.put k (r1.mono (s2.trans s3))))) q⟩
end
end
end Gh
end

section
set_option Elab.async false
set_option linter.all false
set_option maxRecDepth 100000
set_option maxHeartbeats 4000000
namespace Gh
open PySem PySem.Spec PyProof.Rows L2

/-! ### errors let out -/
/-- where one stands, errors of a class are let out as xg wishes -/
structure XOk (Y : Ctx) (xg : Addr → Gs → Prop) : Prop where
  ex : ∃ E : XK, (∀ i, L2N.Takes (Y.X i) (fun cls d _ H => E cls d H)) ∧ ∀ c F R Gl G ρ σ H, Wd Y F R Gl G ρ σ H → xg c G → E (.ref c) none H
abbrev ctxX (P : Program) (w : World) (K : PySem.W.Frag) (mg : Str → Option Value) (base : Heap) (N : List Str) (qual : Str) (sc : Scope) (f : Addr) (cdv : Value) (A : Around) (outer : List Env) (s : Shared) (H : Hp) (E : XK) (k : Nat) (hr : Room k (A.deeper (envOfC qual sc s.heap.objs.size f cdv))) (F0 : Hp) (R : Gs) : Ctx where
  ι := Unit
  X := fun _ => cxOf (L2N.CX P w) P w K mg base N qual sc f cdv A outer s H E
  P := P
  w := w
  K := K
  mg := mg
  base := base
  N := N
  sc := sc
  fn := fun _ => true
  k := k
  cm := true
  F0 := F0
  R := R
  hP := fun _ => rfl
  hw := fun _ => rfl
  hK := fun _ => rfl
  hmg := fun _ => rfl
  hbase := fun _ => rfl
  hN := fun _ => rfl
  hsc := fun _ => rfl
  hfn := fun _ => rfl
  hc := fun _ _ => ⟨rfl, hr⟩
  hr := fun _ => L2H.roomH_of hr
instance {P : Program} {w : World} {K : PySem.W.Frag} {mg : Str → Option Value} {base : Heap} {N : List Str} {qual : Str} {sc : Scope} {f : Addr} {cdv : Value} {A : Around} {outer : List Env} {s : Shared} {H : Hp} {E : XK} {k : Nat} {hr : Room k (A.deeper (envOfC qual sc s.heap.objs.size f cdv))} {F0 : Hp} {R : Gs} : Calm (ctxX P w K mg base N qual sc f cdv A outer s H E k hr F0 R) := ⟨rfl⟩
/-- loops may stand here -/
abbrev Owns (Y : Ctx) : Prop := ∀ i, PassesOwn (model (Y.X i).prog (Y.X i).w) (Y.X i).A (Y.X i).env (Y.X i).xe

/-- a method of the text, of the class at C -/
structure DfnM (K : PySem.W.Frag) (C : Addr) (m qual : Str) (st : Stmt) (ps : List Str) : Prop where
  ex : ∃ f fd, Meth K C m f ∧ Fun K m qual st f fd ∧ AllB fd ps
structure HasM (P : Program) (w : World) (K : PySem.W.Frag) (mg : Str → Option Value) (base : Heap) (k : Nat) (C : Addr) (m : Str) (ps : List Str) (g : GSp) : Prop where
  ex : ∃ f fd, Meth K C m f ∧ AllB fd ps ∧ FnOk P w K mg base (L2N.CX P w) k f fd ps (toSp K ps.length g)

section
variable {P : Program} {w : World} {K : PySem.W.Frag} {mg : Str → Option Value} {base : Heap}
theorem HasM.mono {k j : Nat} {C : Addr} {x : Str} {ps : List Str} {g : GSp} (h : HasM P w K mg base k C x ps g) (le : k ≤ j) : HasM P w K mg base j C x ps g := by
  obtain ⟨f, fd, a, b, c⟩ := h.ex
  exact ⟨f, fd, a, b, c.mono le⟩
/-- a def that may raise -/
theorem fn_bodyX {x qual : Str} {st : Stmt} {f : Addr} {fd : FuncData} {N ps : List Str} {k : Nat} {g : GSp} (F : Fun K x qual st f fd) (S : FnScope N ps (defScope st)) (hlen : ∀ ds G P PX, g ds G P PX → ds.length = ps.length)
    (hb : ∀ cdv A outer s H E (hr : Room k (A.deeper (envOfC qual (defScope st) s.heap.objs.size f cdv))) F0 R0 ds G PP PX, g ds G PP PX → XOk (ctxX P w K mg base N qual (defScope st) f cdv A outer s H E k hr F0 R0) PX → Owns (ctxX P w K mg base N qual (defScope st) f cdv A outer s H E k hr F0 R0) →
      GSs (ctxX P w K mg base N qual (defScope st) f cdv A outer s H E k hr F0 R0) (defBody st) (startR N ds) G ⟨fun _ G' => PP .non G', PP, fun _ _ => False, fun _ _ => False⟩) :
    FnOk P w K mg base (L2N.CX P w) (k + 1) f fd ps (toSp K ps.length g) := by
  refine okXN F S (fun vs H Q E h => h.1) (fun cdv A outer s H vs Q E hr h => ?_)
  obtain ⟨hl, F1, R, G, Gl, ds, PP, PX, h1, h2, h3, h4, h5, h6, h7, h8⟩ := h
  have B := hb cdv A outer s H E hr F1 R ds G PP PX h6
    ⟨E, fun _ => L2N.takes_of rfl rfl rfl rfl, fun c F' R' Gl' G' ρ σ H' W z => h8 c F' Gl' G' H' W.f0 W.g (W.r0.trans W.r) (fun a => (W.gr a).imp_right fun q => W.r0.none q) W.abs z⟩ (fun _ => passes_of rfl)
  have hN : ds.length ≤ N.length := by
    have := congrArg List.length S.pre
    rw [List.length_take] at this
    have := hlen _ _ _ _ h6
    omega
  obtain ⟨q1, q2, q3⟩ := start_ok (N := N) (G := G) (R := R) (Gl := Gl) h5 hN
  refine ⟨wSs (ctxX P w K mg base N qual (defScope st) f cdv A outer s H E k hr F1 R) (defBody st), (wSs.pss (Y := ctxX P w K mg base N qual (defScope st) f cdv A outer s H E k hr F1 R) ()), ?_⟩
  refine B.run F1 R Gl _ H _ ⟨Same.refl _, q1, h1, GEx.refl _, h2, h3, q2, fun i j l o _ _ _ => absurd o (q3 i), h4⟩ ⟨fun ρ' G' F' Gl' σ' H' s' W q => ?_, fun _ _ _ _ _ _ _ _ q => q.elim, fun _ _ _ _ _ _ _ _ q => q.elim, fun d G' F' Gl' v H' s' W r q => ?_⟩
  · exact h7 .non F' Gl' G' H' .non s' W.g W.r W.gr W.abs .non q
  · exact h7 v F' Gl' G' H' d s' W.g W.r W.gr W.abs r q
theorem has_bodyX {x : Str} {st : Stmt} {N ps : List Str} {k : Nat} {g : GSp} (Df : Dfn K mg x st ps) (S : FnScope N ps (defScope st)) (hlen : ∀ ds G P PX, g ds G P PX → ds.length = ps.length)
    (hb : ∀ f cdv A outer s H E (hr : Room k (A.deeper (envOfC x (defScope st) s.heap.objs.size f cdv))) F0 R0 ds G PP PX, g ds G PP PX → XOk (ctxX P w K mg base N x (defScope st) f cdv A outer s H E k hr F0 R0) PX → Owns (ctxX P w K mg base N x (defScope st) f cdv A outer s H E k hr F0 R0) →
      GSs (ctxX P w K mg base N x (defScope st) f cdv A outer s H E k hr F0 R0) (defBody st) (startR N ds) G ⟨fun _ G' => PP .non G', PP, fun _ _ => False, fun _ _ => False⟩) :
    HasF P w K mg base (k + 1) x ps g := by
  obtain ⟨f, fd, a, b, c⟩ := Df.ex
  obtain ⟨oc, od, _, _, _, _, _, _, osl, _, lk, _⟩ := b.ex
  exact ⟨f, fd, a, b.kp, c, fn_bodyX b S hlen (fun cdv A outer s H E hr F0 R0 ds G PP PX h => hb f cdv A outer s H E hr F0 R0 ds G PP PX h), oc, od, osl, lk⟩
theorem mth_body {C : Addr} {m qual : Str} {st : Stmt} {N ps : List Str} {k : Nat} {g : GSp} (Df : DfnM K C m qual st ps) (S : FnScope N ps (defScope st)) (hlen : ∀ ds G P PX, g ds G P PX → ds.length = ps.length)
    (hb : ∀ f cdv A outer s H E (hr : Room k (A.deeper (envOfC qual (defScope st) s.heap.objs.size f cdv))) F0 R0 ds G PP PX, g ds G PP PX → GSs (ctx0 P w K mg base N qual (defScope st) f cdv A outer s H E k hr F0 R0) (defBody st) (startR N ds) G ⟨fun _ G' => PP .non G', PP, fun _ _ => False, fun _ _ => False⟩) :
    HasM P w K mg base (k + 1) C m ps g := by
  obtain ⟨f, fd, a, b, c⟩ := Df.ex
  exact ⟨f, fd, a, c, fn_body b S hlen (fun cdv A outer s H E hr F0 R0 ds G PP PX h => hb f cdv A outer s H E hr F0 R0 ds G PP PX h)⟩
theorem mth_bodyX {C : Addr} {m qual : Str} {st : Stmt} {N ps : List Str} {k : Nat} {g : GSp} (Df : DfnM K C m qual st ps) (S : FnScope N ps (defScope st)) (hlen : ∀ ds G P PX, g ds G P PX → ds.length = ps.length)
    (hb : ∀ f cdv A outer s H E (hr : Room k (A.deeper (envOfC qual (defScope st) s.heap.objs.size f cdv))) F0 R0 ds G PP PX, g ds G PP PX → XOk (ctxX P w K mg base N qual (defScope st) f cdv A outer s H E k hr F0 R0) PX → Owns (ctxX P w K mg base N qual (defScope st) f cdv A outer s H E k hr F0 R0) →
      GSs (ctxX P w K mg base N qual (defScope st) f cdv A outer s H E k hr F0 R0) (defBody st) (startR N ds) G ⟨fun _ G' => PP .non G', PP, fun _ _ => False, fun _ _ => False⟩) :
    HasM P w K mg base (k + 1) C m ps g := by
  obtain ⟨f, fd, a, b, c⟩ := Df.ex
  exact ⟨f, fd, a, c, fn_bodyX b S hlen (fun cdv A outer s H E hr F0 R0 ds G PP PX h => hb f cdv A outer s H E hr F0 R0 ds G PP PX h)⟩
end

section
variable {Y : Ctx} {ρ ρ' : Rho} {G G' : Gs} {E : GEnds} {e o i : Expr} {es : List Expr} {d d' : D} {ds : List D} {pos p apos : Pos}
/-! ### arguments with what they do -/
structure GRe (Y : Ctx) (es : List Expr) (ρ : Rho) (G : Gs) (P : List D → Gs → Prop) : Prop where
  run : ∀ F R Gl σ H, Wd Y F R Gl G ρ σ H → wA Y es σ H fun vs H' => ∃ F' Gl' G' ds, Same F F' ∧ Wd Y F' R Gl' G' ρ σ H' ∧ Reps Y.K F' vs ds ∧ P ds G'
theorem gre_r {P : List D → Gs → Prop} (h : GR Y es ρ G ds) (q : P ds G) : GRe Y es ρ G P := ⟨fun F R Gl σ H W => (h.run F R Gl σ H W).mono fun vs H' ⟨F', Gl', s, W', r⟩ => ⟨F', Gl', G, ds, s, W', r, q⟩⟩
theorem gre_cons {P : List D → Gs → Prop} {P1 : D → Gs → Prop} (h : GW Y e ρ G P1) (hr : ∀ d G', P1 d G' → GRe Y es ρ G' fun ds G'' => P (d :: ds) G'') (hs : ∀ env, starEach (e :: es) env = (false, eval e env) :: starEach es env := by intro _; rfl) : GRe Y (e :: es) ρ G P :=
  ⟨fun F R Gl σ H W => wA.of (fun i => pa_cons (wE.pe i) (wA.pa i) (hs _)) ((h.run F R Gl σ H W).mono fun v H1 ⟨F1, Gl1, G1, d, s1, W1, r1, q1⟩ => ((hr d G1 q1).run F1 R Gl1 σ H1 W1).mono fun vs H2 ⟨F2, Gl2, G2, ds, s2, W2, r2, q2⟩ => ⟨F2, Gl2, G2, d :: ds, s1.trans s2, W2, .cons (r1.mono s2) r2, q2⟩)⟩
/-- (..) -/
theorem gw_tup {k : Nat} {P : D → Gs → Prop} (h : GRe Y es ρ G fun ds G' => ds.length ≤ 1000 ∧ P (.tup ds) G') : GW Y (.Tuple es k pos) ρ G P := ⟨fun F R Gl σ H W => by
  refine wE.of (t := tTup (wA Y es)) (fun i => pe_tup (wA.pa i)) ((h.run F R Gl σ H W).mono fun vs H' ⟨F', Gl', G', ds, s, W', r, hl, q⟩ => ⟨by rw [r.length]; exact sz_small hl, fun p hp => ?_⟩)
  obtain ⟨W2, s2⟩ := W'.newF (o := .tup vs) hp
  exact ⟨_, Gl', G', .tup ds, s.trans s2, W2, .tup upd_same (r.mono s2), q⟩⟩
/-- [..], changed no longer -/
theorem gw_lst {P : D → Gs → Prop} (h : GRe Y es ρ G fun ds G' => ds.length ≤ 1000 ∧ P (.lst ds) G') : GW Y (.List es pos) ρ G P := ⟨fun F R Gl σ H W => by
  refine wE.of (t := tLst (wA Y es)) (fun i => pe_lst (wA.pa i)) ((h.run F R Gl σ H W).mono fun vs H' ⟨F', Gl', G', ds, s, W', r, hl, q⟩ => ⟨by rw [r.length]; exact sz_small hl, fun p hp => ?_⟩)
  obtain ⟨W2, s2⟩ := W'.newF (o := .lst vs) hp
  exact ⟨_, Gl', G', .lst ds, s.trans s2, W2, .lst (.inl upd_same) (r.mono s2), q⟩⟩

/-! ### calls -/
theorem Wd.callee {F : Hp} {R Gl G : Gs} {σ : L2.St} {H : Hp} {vs : List V} {n : Nat} {g : GSp} {PP : D → Gs → Prop} {PX : Addr → Gs → Prop} {Ex : XK} (W : Wd Y F R Gl G ρ σ H) (r : Reps Y.K F vs ds) (h : g ds G PP PX) (hl : ds.length = n)
    (hx : ∀ c F' Gl' G' H', Same F F' → Wd Y F' R Gl' G' ρ σ H' → PX c G' → Ex (.ref c) none H') {Fs : Hp} (s0 : Same Fs F) : toSp Y.K n g vs H (PG2 Y Fs R ρ σ PP) Ex :=
  ⟨by rw [r.length]; exact hl, F, outOf Gl G, G, Gl, ds, PP, PX, W.g, outOf_sub, outOf_dis, W.abs, r, h, fun v F' Gl' G' H' d s g r d' A rp q => ⟨F', Gl', G', d, s0.trans s, W.after s g r d' A, rp, q⟩, fun c F' Gl' G' H' s g r d' A q => hx c F' Gl' G' H' s (W.after s g r d' A) q⟩
/-- f(..), f may raise -/
theorem gw_callX [Calm Y] {k : Nat} {x : Str} {ps : List Str} {g : GSp} {PP : D → Gs → Prop} {xg : Addr → Gs → Prop} (hx : XOk Y xg) (hf : HasF Y.P Y.w Y.K Y.mg Y.base k x ps g) (ha : GRe Y (e :: es) ρ G fun ds G' => ds.length = ps.length ∧ g ds G' PP xg) (hk : k ≤ Y.k := by exact Nat.le_of_ble_eq_true rfl) (hg : GlS Y.sc x := by rfl)
    (hdb : (x == ("__debug__" : Str)) = false := by decide) (he : ∀ env, starEach (e :: es) env = (false, eval e env) :: starEach es env := by intro _; rfl) (hpl : ∀ env, (backTo pos (starEach es env)).any (·.1) = false := by intro _; rfl) :
    GW Y (.Call (.Name x p) (e :: es) [] pos) ρ G PP := ⟨fun F R Gl σ H W => by
  obtain ⟨f, fd, hm, kp, hb, ok, _⟩ := hf.ex
  obtain ⟨Ex, tk, hE⟩ := hx.ex
  have ok' : ∀ i, FnOk (Y.X i).prog (Y.X i).w (Y.X i).K (Y.X i).mg (Y.X i).base (L2N.CX (Y.X i).prog (Y.X i).w) k f fd ps (toSp Y.K ps.length g) := fun i => by rw [Y.hP i, Y.hw i, Y.hK i, Y.hmg i, Y.hbase i]; exact ok
  refine wE.of (t := tCall (toSp Y.K ps.length g) [] Ex (wA Y (e :: es))) (fun i => pe_call (ok' i) ((Calm.rm (Y := Y) i).mono hk) (gl_i hg i) (mg_i hm i) (by rw [Y.hK i]; exact kp) hb.binds .nil (L2N.passes_call (tk i) fun _ _ _ _ z => z) (wA.pa i) hdb (he _) (hpl _)) ?_
  refine (ha.run F R Gl σ H W).mono fun vs H1 ⟨F1, Gl1, G1, ds, s1, W1, r, hl, h⟩ => ?_
  rw [List.append_nil]
  exact W1.callee r h hl (fun c F' Gl' G' H' _ W' q => hE c _ _ _ _ _ _ _ W' q) s1⟩
/-- f(..), nothing is raised; the arguments with what they do -/
theorem gw_callE [Calm Y] {k : Nat} {x : Str} {ps : List Str} {g : GSp} {PP : D → Gs → Prop} (hf : HasF Y.P Y.w Y.K Y.mg Y.base k x ps g) (ha : GRe Y (e :: es) ρ G fun ds G' => ds.length = ps.length ∧ g ds G' PP fun _ _ => False) (hk : k ≤ Y.k := by exact Nat.le_of_ble_eq_true rfl) (hg : GlS Y.sc x := by rfl)
    (hdb : (x == ("__debug__" : Str)) = false := by decide) (he : ∀ env, starEach (e :: es) env = (false, eval e env) :: starEach es env := by intro _; rfl) (hpl : ∀ env, (backTo pos (starEach es env)).any (·.1) = false := by intro _; rfl) :
    GW Y (.Call (.Name x p) (e :: es) [] pos) ρ G PP := ⟨fun F R Gl σ H W => by
  obtain ⟨f, fd, hm, kp, hb, ok, _⟩ := hf.ex
  have ok' : ∀ i, FnOk (Y.X i).prog (Y.X i).w (Y.X i).K (Y.X i).mg (Y.X i).base (L2N.CX (Y.X i).prog (Y.X i).w) k f fd ps (toSp Y.K ps.length g) := fun i => by rw [Y.hP i, Y.hw i, Y.hK i, Y.hmg i, Y.hbase i]; exact ok
  refine wE.of (t := tCall (toSp Y.K ps.length g) [] E0 (wA Y (e :: es))) (fun i => pe_call (ok' i) ((Calm.rm (Y := Y) i).mono hk) (gl_i hg i) (mg_i hm i) (by rw [Y.hK i]; exact kp) hb.binds .nil passLN (wA.pa i) hdb (he _) (hpl _)) ?_
  refine (ha.run F R Gl σ H W).mono fun vs H1 ⟨F1, Gl1, G1, ds, s1, W1, r, hl, h⟩ => ?_
  rw [List.append_nil]
  exact W1.callee r h hl (fun _ _ _ _ _ _ _ q => q.elim) s1⟩
theorem FReps.look {K : PySem.W.Frag} {F : Hp} {fs : List (Str × V)} {gs : List (Str × D)} (h : FReps K F fs gs) (f : Str) : (fs.lookup f = none ∧ gs.lookup f = none) ∨ ∃ v d, fs.lookup f = some v ∧ gs.lookup f = some d ∧ Rep K F v d := by
  induction gs generalizing fs with
  | nil => cases h; exact .inl ⟨rfl, rfl⟩
  | cons g gs ih =>
    cases h with
    | @cons k v r d s a b =>
      by_cases e : f = k
      · subst e
        exact .inr ⟨v, d, by simp [List.lookup], by simp [List.lookup], a⟩
      · have e' : (f == k) = false := by simpa using e
        rcases ih b with ⟨h1, h2⟩ | ⟨v', d', h1, h2, h3⟩
        · exact .inl ⟨by simp [List.lookup, e', h1], by simp [List.lookup, e', h2]⟩
        · exact .inr ⟨v', d', by simp [List.lookup, e', h1], by simp [List.lookup, e', h2], h3⟩
theorem FReps.length {K : PySem.W.Frag} {F : Hp} {fs : List (Str × V)} {gs : List (Str × D)} (h : FReps K F fs gs) : fs.length = gs.length := by
  induction gs generalizing fs with
  | nil => cases h; rfl
  | cons g gs ih => cases h with | cons a b => simp [ih b]
theorem Wd.insAt {F : Hp} {R Gl G : Gs} {σ : L2.St} {H : Hp} {a C dx : Addr} {gs : List (Str × D)} (W : Wd Y F R Gl G ρ σ H) (h : G a = some (.ins C dx gs)) : ∃ fs, H a = some (.ins C dx fs) ∧ FReps Y.K F fs gs := by
  obtain ⟨_, o, ho, r⟩ := W.abs.obj a _ (W.g _ _ h)
  cases r with | ins r => exact ⟨_, ho, r⟩
abbrev MCall (o : Expr) (m : Str) (es : List Expr) (apos pos : Pos) (pl : Env → Sem Bool) : Prop := ∀ env, eval (.Call (.Attribute o m apos) es [] pos) env = (do
      let ov ← eval o env
      standAt apos.atName
      let (f, first) ← holding [ov] (getMethod ov m (pl env))
      callWith pos f first (backTo pos (starEach es env)) (backToKw pos (keywordEach [] env)))
/-- o.m(..), m may raise -/
theorem gw_methX [Calm Y] {k : Nat} {C a dx : Addr} {m : Str} {gs : List (Str × D)} {ps : List Str} {g : GSp} {PP : D → Gs → Prop} {xg : Addr → Gs → Prop} {pl : Env → Sem Bool} (hx : XOk Y xg) (c : Cls Y.K C) (hf : HasM Y.P Y.w Y.K Y.mg Y.base k C m ps g) (ho : GE Y o ρ G (.ref a)) (hi : G a = some (.ins C dx gs)) (hm : gs.lookup m = none)
    (ha : GRe Y (e :: es) ρ G fun ds G' => (D.ref a :: ds).length = ps.length ∧ g (.ref a :: ds) G' PP xg) (hk : k ≤ Y.k := by exact Nat.le_of_ble_eq_true rfl)
    (hst : ∀ env, starEach (e :: es) env = (false, eval e env) :: starEach es env := by intro _; rfl) (hpl : ∀ env, (backTo pos (starEach es env)).any (·.1) = false := by intro _; rfl) (ht : MCall o m (e :: es) apos pos pl := by intro _; rfl) :
    GW Y (.Call (.Attribute o m apos) (e :: es) [] pos) ρ G PP := ⟨fun F R Gl σ H W => by
  obtain ⟨f, fd, mt, hb, ok⟩ := hf.ex
  obtain ⟨Ex, tk, hE⟩ := hx.ex
  have ok' : ∀ i, FnOk (Y.X i).prog (Y.X i).w (Y.X i).K (Y.X i).mg (Y.X i).base (L2N.CX (Y.X i).prog (Y.X i).w) k f fd ps (toSp Y.K ps.length g) := fun i => by rw [Y.hP i, Y.hw i, Y.hK i, Y.hmg i, Y.hbase i]; exact ok
  refine wE.of (t := tMeth C m (toSp Y.K ps.length g) [] Ex (wE Y o) (wA Y (e :: es))) (fun i => pe_meth (pl := pl (Y.X i).env) (wE.pe i) (by rw [Y.hK i]; exact c) (by rw [Y.hK i]; exact mt) (ok' i) ((Calm.rm (Y := Y) i).mono hk) hb.binds .nil (L2N.passes_call (tk i) fun _ _ _ _ z => z) (wA.pa i) (hst _) (hpl _) (ht _)) ?_
  refine (ho.run F R Gl σ H W).mono fun v H1 ⟨F1, Gl1, s1, W1, r1⟩ => ?_
  obtain ⟨fs, h1, h2⟩ := W1.insAt hi
  obtain rfl := r1.ref_inv
  refine ⟨a, dx, fs, rfl, h1, ?_, (ha.run F1 R Gl1 σ H1 W1).mono fun vs H2 ⟨F2, Gl2, G2, ds, s2, W2, r2, hl, h⟩ => ?_⟩
  · rcases h2.look m with z | ⟨_, _, _, z, _⟩
    · exact z.1
    · rw [hm] at z; cases z
  · rw [List.append_nil]
    exact W2.callee (.cons (.ref a) r2) h hl (fun c F' Gl' G' H' _ W' q => hE c _ _ _ _ _ _ _ W' q) (s1.trans s2)⟩
theorem gw_meth0X [Calm Y] {k : Nat} {C a dx : Addr} {m : Str} {gs : List (Str × D)} {ps : List Str} {g : GSp} {PP : D → Gs → Prop} {xg : Addr → Gs → Prop} {pl : Env → Sem Bool} (hx : XOk Y xg) (c : Cls Y.K C) (hf : HasM Y.P Y.w Y.K Y.mg Y.base k C m ps g) (ho : GE Y o ρ G (.ref a)) (hi : G a = some (.ins C dx gs)) (hm : gs.lookup m = none)
    (h : g [.ref a] G PP xg) (hl : 1 = ps.length := by rfl) (hk : k ≤ Y.k := by exact Nat.le_of_ble_eq_true rfl) (ht : MCall o m [] apos pos pl := by intro _; rfl) :
    GW Y (.Call (.Attribute o m apos) [] [] pos) ρ G PP := ⟨fun F R Gl σ H W => by
  obtain ⟨f, fd, mt, hb, ok⟩ := hf.ex
  obtain ⟨Ex, tk, hE⟩ := hx.ex
  have ok' : ∀ i, FnOk (Y.X i).prog (Y.X i).w (Y.X i).K (Y.X i).mg (Y.X i).base (L2N.CX (Y.X i).prog (Y.X i).w) k f fd ps (toSp Y.K ps.length g) := fun i => by rw [Y.hP i, Y.hw i, Y.hK i, Y.hmg i, Y.hbase i]; exact ok
  refine wE.of (t := tMeth C m (toSp Y.K ps.length g) [] Ex (wE Y o) tNil) (fun i => pe_meth0 (pl := pl (Y.X i).env) (wE.pe i) (by rw [Y.hK i]; exact c) (by rw [Y.hK i]; exact mt) (ok' i) ((Calm.rm (Y := Y) i).mono hk) hb.binds .nil (L2N.passes_call (tk i) fun _ _ _ _ z => z) (ht _)) ?_
  refine (ho.run F R Gl σ H W).mono fun v H1 ⟨F1, Gl1, s1, W1, r1⟩ => ?_
  obtain ⟨fs, h1, h2⟩ := W1.insAt hi
  obtain rfl := r1.ref_inv
  refine ⟨a, dx, fs, rfl, h1, ?_, ?_⟩
  · rcases h2.look m with z | ⟨_, _, _, z, _⟩
    · exact z.1
    · rw [hm] at z; cases z
  · show toSp Y.K ps.length g [V.ref a] H1 (PG2 Y F R ρ σ PP) Ex
    exact W1.callee (.cons (.ref a) .nil) h hl (fun c F' Gl' G' H' _ W' q => hE c _ _ _ _ _ _ _ W' q) s1⟩
theorem xok_none : XOk Y fun _ _ => False := ⟨E0, fun i => (takesN0 (X := Y.X i)).imp fun _ _ _ _ z => z, fun _ _ _ _ _ _ _ _ _ z => z.elim⟩
/-- o.m(..), nothing is raised -/
theorem gw_meth [Calm Y] {k : Nat} {C a dx : Addr} {m : Str} {gs : List (Str × D)} {ps : List Str} {g : GSp} {PP : D → Gs → Prop} {pl : Env → Sem Bool} (c : Cls Y.K C) (hf : HasM Y.P Y.w Y.K Y.mg Y.base k C m ps g) (ho : GE Y o ρ G (.ref a)) (hi : G a = some (.ins C dx gs)) (hm : gs.lookup m = none)
    (ha : GR Y (e :: es) ρ G ds) (h : g (.ref a :: ds) G PP fun _ _ => False) (hl : (D.ref a :: ds).length = ps.length := by rfl) (hk : k ≤ Y.k := by exact Nat.le_of_ble_eq_true rfl)
    (hst : ∀ env, starEach (e :: es) env = (false, eval e env) :: starEach es env := by intro _; rfl) (hpl : ∀ env, (backTo pos (starEach es env)).any (·.1) = false := by intro _; rfl) (ht : MCall o m (e :: es) apos pos pl := by intro _; rfl) :
    GW Y (.Call (.Attribute o m apos) (e :: es) [] pos) ρ G PP := gw_methX (pl := pl) xok_none c hf ho hi hm (gre_r ha ⟨hl, h⟩) hk hst hpl ht
theorem gw_meth0 [Calm Y] {k : Nat} {C a dx : Addr} {m : Str} {gs : List (Str × D)} {ps : List Str} {g : GSp} {PP : D → Gs → Prop} {pl : Env → Sem Bool} (c : Cls Y.K C) (hf : HasM Y.P Y.w Y.K Y.mg Y.base k C m ps g) (ho : GE Y o ρ G (.ref a)) (hi : G a = some (.ins C dx gs)) (hm : gs.lookup m = none)
    (h : g [.ref a] G PP fun _ _ => False) (hl : 1 = ps.length := by rfl) (hk : k ≤ Y.k := by exact Nat.le_of_ble_eq_true rfl) (ht : MCall o m [] apos pos pl := by intro _; rfl) :
    GW Y (.Call (.Attribute o m apos) [] [] pos) ρ G PP := gw_meth0X (pl := pl) xok_none c hf ho hi hm h hl hk ht
end
end Gh
end

section
set_option Elab.async false
set_option linter.all false
set_option maxRecDepth 100000
set_option maxHeartbeats 4000000
namespace Gh
open PySem PySem.Spec PyProof.Rows L2

/-! ### instances -/
def fputD (f : Str) (v : D) : List (Str × D) → List (Str × D)
  | [] => [(f, v)]
  | (g, x) :: r => if g = f then (g, v) :: r else (g, x) :: fputD f v r
theorem FReps.put {K : PySem.W.Frag} {F : Hp} {f : Str} {v : V} {d : D} (r : Rep K F v d) : ∀ {fs : List (Str × V)} {gs : List (Str × D)}, FReps K F fs gs → FReps K F (putF f v fs) (fputD f d gs)
  | _, _, .nil => .cons r .nil
  | _, _, .cons (k := k) a b => by
    unfold putF fputD
    by_cases e : k = f
    · rw [if_pos e, if_pos e]; exact .cons r b
    · rw [if_neg e, if_neg e]; exact .cons a (FReps.put r b)
/-- a class whose instances are made by a call -/
structure Kls (K : PySem.W.Frag) (mg : Str → Option Value) (x : Str) (C : Addr) : Prop where
  cls : Cls K C
  makes : PySem.W.makesIn K C = true
  kp : PySem.W.keepIn K (.ref C) = true
  gC : mg x = some (.ref C)
/-- an error's class of the program, under ValueError -/
structure Exc (K : PySem.W.Frag) (mg : Str → Option Value) (x : Str) (C : Addr) : Prop where
  q : PySem.W.excIn K C [.type "ValueError", .type "Exception", .type "BaseException", .type "object"] "ValueError.__new__" = true
  kp : PySem.W.keepIn K (.ref C) = true
  gC : mg x = some (.ref C)
  sub : PySem.W.subIn K (.ref C) (.type "BaseException") = some true
  ty : PySem.W.typeIn K (.ref C) = some (.type "type")
section
variable {Y : Ctx} {ρ ρ' : Rho} {G G' : Gs} {E : GEnds} {e o i a b c : Expr} {es : List Expr} {d d' : D} {ds : List D} {pos p apos : Pos}
theorem ge_fld {l C dx : Addr} {gs : List (Str × D)} {f : Str} (c : Cls Y.K C) (n : NoAttr Y.K C f) (h : GE Y e ρ G (.ref l)) (hi : G l = some (.ins C dx gs)) (hf : gs.lookup f = some d) (hb : BaseB e f := by intro _; rfl) : GE Y (.Attribute e f pos) ρ G d := ⟨fun F R Gl σ H W => by
  refine wE.of (t := tFld Y.K (wE Y e) f) (fun i => (by have := @pe_fld (Y.X i) e f pos _ (wE.pe i) (hb _); rwa [Y.hK i] at this)) ?_
  refine (h.run F R Gl σ H W).mono fun v H1 ⟨F1, Gl1, s1, W1, r1⟩ => ?_
  obtain ⟨fs, h1, h2⟩ := W1.insAt hi
  rcases h2.look f with ⟨_, z⟩ | ⟨v, d', z1, z2, z3⟩
  · rw [hf] at z; cases z
  · rw [hf] at z2; cases z2
    exact ⟨l, C, dx, fs, v, r1.ref_inv, h1, c, n, z1, F1, Gl1, s1, W1, z3⟩⟩
/-- o.f = value -/
theorem gs_fld {value : Expr} {pos' : Pos} {f : Str} (hv : GW Y value ρ G fun d G' => ∃ l C dx gs, GE Y o ρ G' (.ref l) ∧ G' l = some (.ins C dx gs) ∧ Cls Y.K C ∧ NoAttr Y.K C f ∧ gs.length < 1000 ∧ E.nx ρ (gupd G' l (.ins C dx (fputD f d gs))))
    (hs : ∀ j, swapsWith value (some (.Attribute o f pos')) pos.line (Y.X j).env = pure false := by intro _; rfl) : GS Y (.Assign [.Attribute o f pos'] value pos) ρ G E := ⟨fun F R Gl σ H D W L => by
  refine wS.of (t := sFld Y.K (wE Y o) (wE Y value) f) (fun i => (by have := @ps_fld (Y.X i) o value f pos pos' _ _ (wE.pe i) (wE.pe i) (hs i); rwa [Y.hK i] at this)) ?_
  refine (hv.run F R Gl σ H W).mono fun v H1 ⟨F1, Gl1, G', d, s1, W1, r1, l, C, dx, gs, ho, hi, hc, hn, hl, q⟩ => (ho.run F1 R Gl1 σ H1 W1).mono fun x H2 ⟨F2, Gl2, s2, W2, r2⟩ => ?_
  obtain ⟨fs, h1, h2⟩ := W2.insAt hi
  refine ⟨l, C, dx, fs, r2.ref_inv, h1, hc, hn, by rw [h2.length]; exact hl, ?_⟩
  exact L.nx _ _ _ _ _ _ (s1.trans s2) (W2.putG hi rfl (.ins (h2.put (r1.mono s2)))) q⟩
/-- C() -/
theorem gw_make0 [Calm Y] {k : Nat} {x : Str} {C : Addr} {ps : List Str} {g : GSp} {PP : D → Gs → Prop} (c : Kls Y.K Y.mg x C) (hf : HasM Y.P Y.w Y.K Y.mg Y.base k C "__init__" ps g)
    (h : ∀ l dx, G l = none → G dx = none → dx ≠ l → g [.ref l] (gupd (gupd G dx (.own l)) l (.ins C dx [])) (fun d G' => d = .non ∧ PP (.ref l) G') fun _ _ => False) (hl : 1 = ps.length := by rfl) (hk : k + 1 ≤ Y.k := by exact Nat.le_of_ble_eq_true rfl) (hg : GlS Y.sc x := by rfl) (hdb : (x == ("__debug__" : Str)) = false := by decide) :
    GW Y (.Call (.Name x p) [] [] pos) ρ G PP := ⟨fun F R Gl σ H W => by
  obtain ⟨f, fd, mt, hb, ok⟩ := hf.ex
  have ok' : ∀ i, FnOk (Y.X i).prog (Y.X i).w (Y.X i).K (Y.X i).mg (Y.X i).base (L2N.CX (Y.X i).prog (Y.X i).w) k f fd ps (toSp Y.K ps.length g) := fun i => by rw [Y.hP i, Y.hw i, Y.hK i, Y.hmg i, Y.hbase i]; exact ok
  have mk : ∀ i, Mk (Y.X i).K C f := fun i => by rw [Y.hK i]; exact ⟨c.makes, mt.at_, mt.fn, c.kp⟩
  refine wE.of (t := tMake C (toSp Y.K ps.length g) [] E0 tNil) (fun i => pe_make0 (mk i) (ok' i) ((Calm.rm (Y := Y) i).mono hk) (gl_i hg i) (mg_i c.gC i) hb.binds .nil passLN hdb) ?_
  intro l dx hx hdx ne
  have hl2 : (upd H dx (.own l)) l = none := by rw [upd_ne (Ne.symm ne)]; exact hx
  obtain ⟨_, b1, b2, b3, b4⟩ := W.fresh hdx
  obtain ⟨_, a1, a2, a3, a4⟩ := W.fresh hx
  have W1 : Wd Y F R (gupd Gl dx (.own l)) (gupd G dx (.own l)) ρ σ (upd H dx (.own l)) := (W.newG hdx (.own l)).pubN gupd_same b2 b3 b4
  have a2' : (gupd G dx (.own l)) l = none := by rw [gupd_ne (Ne.symm ne)]; exact a2
  have a4' : ¬ Owned ρ σ l := a4
  have W2 : Wd Y F R (gupd (gupd Gl dx (.own l)) l (.ins C dx [])) (gupd (gupd G dx (.own l)) l (.ins C dx [])) ρ σ (upd (upd H dx (.own l)) l (.ins C dx [])) := (W1.newG hl2 (.ins .nil)).pubN gupd_same a2' a3 a4'
  have := W2.callee (Ex := E0) (.cons (.ref l) .nil) (h l dx a2 b2 ne) hl (fun _ _ _ _ _ _ _ q => q.elim) (Same.refl F)
  obtain ⟨h1, F1, R1, G1, Gl1, ds1, P1, PX1, z1, z2, z3, z4, z5, z6, z7, z8⟩ := this
  refine ⟨h1, F1, R1, G1, Gl1, ds1, P1, PX1, z1, z2, z3, z4, z5, z6, fun v F' Gl' G' H' d y1 y2 y3 y4 y5 y6 y7 => ?_, z8⟩
  obtain ⟨F2, Gl2, G2, d2, s2, W3, r2, ed, q2⟩ := z7 v F' Gl' G' H' d y1 y2 y3 y4 y5 y6 y7
  subst ed
  exact ⟨r2.non_inv, F2, Gl2, G2, .ref l, s2, W3, .ref l, q2⟩⟩

/-! ### raise -/
theorem gs_raise [Calm Y] {x m : Str} {C : Addr} {j : Nat} {p2 pos' : Pos} {xg : Addr → Gs → Prop} (hx : XOk Y xg) (c : Exc Y.K Y.mg x C) (h : xg C G) (hg : GlS Y.sc x := by rfl) (hdb : (x == ("__debug__" : Str)) = false := by decide) : GS Y (.Raise (some (.Call (.Name x p) [.Constant (.str m) j p2] [] pos)) none pos') ρ G E := ⟨fun F R Gl σ H D W L => by
  obtain ⟨Ex, tk, hE⟩ := hx.ex
  refine wS.of (t := fun _ σ H => Ex (.ref C) none H) (fun i => L2N.ps_raise (Calm.cm (Y := Y) i) (tk i) (L2N.pmk_own PySem.F.excBase_ValueError (by rw [Y.hK i]; exact c.q) (mg_i c.gC i) (by rw [Y.hK i]; exact c.kp) (raises_own (by rw [Y.hK i]; exact c.sub) (by rw [Y.hK i]; exact c.ty)) (gl_i hg i) hdb)) ?_
  exact hE C F R Gl G ρ σ H W h⟩

/-! ### tests with what they do -/
structure GTe (Y : Ctx) (e : Expr) (ρ : Rho) (G : Gs) (P : Bool → Gs → Prop) : Prop where
  run : ∀ F R Gl σ H, Wd Y F R Gl G ρ σ H → wT Y e σ H fun b H' => ∃ F' Gl' G', Same F F' ∧ Wd Y F' R Gl' G' ρ σ H' ∧ P b G'
theorem gte_t {x : Bool} {P : Bool → Gs → Prop} (h : GT Y e ρ G x) (q : P x G) : GTe Y e ρ G P := ⟨fun F R Gl σ H W => (h.run F R Gl σ H W).mono fun b H' ⟨eb, F', Gl', s, W'⟩ => ⟨F', Gl', G, s, W', by rw [eb]; exact q⟩⟩
theorem gte_val {P : Bool → Gs → Prop} (h : GW Y e ρ G fun d G' => ∃ x, d = .bl x ∧ P x G') (he : ∀ i whole, isTrue e (Y.X i).env whole = (do let v ← whole; standAt e.pos; holding [v] (truthy v)) := by intro _ _; rfl) : GTe Y e ρ G P := ⟨fun F R Gl σ H W =>
  wT.of (fun i => pt_val (wE.pe i) (he i)) ((h.run F R Gl σ H W).mono fun v H' ⟨F', Gl', G', d, s, W', r, x, ed, q⟩ => by subst ed; exact ⟨x, r.bl_inv, F', Gl', G', s, W', q⟩)⟩
theorem gte_not {P : Bool → Gs → Prop} (h : GTe Y e ρ G fun x G' => P (!x) G') : GTe Y (.UnaryOp .Not e pos) ρ G P := ⟨fun F R Gl σ H W =>
  wT.of (fun i => pt_not (wT.pt i)) (h.run F R Gl σ H W)⟩
theorem gs_ifE {a b : List Stmt} (hc : GTe Y c ρ G fun x G' => (x = true → GSs Y a ρ G' E) ∧ (x = false → GSs Y b ρ G' E)) : GS Y (.If c a b pos) ρ G E := ⟨fun F R Gl σ H D W L =>
  wS.of (fun i => ps_if (wT.pt i) (wSs.pss i) (wSs.pss i)) ((hc.run F R Gl σ H W).mono fun v H1 ⟨F', Gl', G', s, W', h1, h2⟩ => by
    cases v with
    | true => exact (h1 rfl).run F' R Gl' σ H1 D W' (L.up s)
    | false => exact (h2 rfl).run F' R Gl' σ H1 D W' (L.up s))⟩
end
end Gh
end

section
set_option Elab.async false
set_option linter.all false
set_option maxRecDepth 100000
set_option maxHeartbeats 4000000
namespace Gh
open PySem PySem.Spec PyProof.Rows L2

/-! ### sorted -/
def sortI (ns : List Int) : List Int := ns.mergeSort fun a b => decide (a ≤ b)
def leCp (a b : Str) : Bool := !ltCps b.cps.toList a.cps.toList
def sortS (xs : List Str) : List Str := xs.mergeSort leCp
theorem leCp_iff {a b : Str} : leCp a b = true ↔ a.cps.toList ≤ b.cps.toList := by
  unfold leCp; rw [ltCps_eq]; simp [List.not_lt]
theorem leCp_trans (a b c : Str) (h : leCp a b = true) (h' : leCp b c = true) : leCp a c = true := by
  rw [leCp_iff] at *; exact List.le_trans h h'
theorem leCp_total (a b : Str) : (leCp a b || leCp b a) = true := by
  rw [Bool.or_eq_true, leCp_iff, leCp_iff]; exact List.le_total _ _
theorem leCp_anti {a b : Str} (h : leCp a b = true) (h' : leCp b a = true) : a = b := by
  rw [leCp_iff] at *
  have := List.le_antisymm h h'
  obtain ⟨⟨l⟩⟩ := a; obtain ⟨⟨m⟩⟩ := b
  simp at this; rw [this]
theorem risingS_pw : ∀ (l : List Str) (p : Str), risingS p l = true → (p :: l).Pairwise fun a b => leCp a b = true
  | [], p, _ => by simp
  | x :: r, p, h => by
    have h : (!ltCps x.cps.toList p.cps.toList && risingS x r) = true := h
    rw [Bool.and_eq_true] at h
    have ih := risingS_pw r x h.2
    refine List.pairwise_cons.mpr ⟨fun y hy => ?_, ih⟩
    rcases List.mem_cons.mp hy with rfl | hy
    · exact h.1
    · exact leCp_trans _ _ _ h.1 (List.rel_of_pairwise_cons ih hy)
theorem sortedS_pw {l : List Str} (h : sortedS l = true) : l.Pairwise fun a b => leCp a b = true := by
  cases l with
  | nil => exact .nil
  | cons x r => exact risingS_pw r x h
theorem sortS_uniq {ys xs : List Str} (h : ys.Perm xs) (hs : sortedS ys = true) : ys = sortS xs :=
  (h.trans (List.mergeSort_perm xs leCp).symm).eq_of_pairwise (le := fun a b => leCp a b = true) (fun _ _ _ _ h h' => leCp_anti h h') (sortedS_pw hs) (List.pairwise_mergeSort leCp_trans leCp_total xs)
theorem sortS_perm {ys xs : List Str} (h : ys.Perm xs) : sortS ys = sortS xs :=
  ((List.mergeSort_perm ys leCp).trans (h.trans (List.mergeSort_perm xs leCp).symm)).eq_of_pairwise (le := fun a b => leCp a b = true) (fun _ _ _ _ h h' => leCp_anti h h') (List.pairwise_mergeSort leCp_trans leCp_total ys) (List.pairwise_mergeSort leCp_trans leCp_total xs)
theorem leI_trans (a b c : Int) (h : decide (a ≤ b) = true) (h' : decide (b ≤ c) = true) : decide (a ≤ c) = true := by
  simp at *; omega
theorem leI_total (a b : Int) : (decide (a ≤ b) || decide (b ≤ a)) = true := by
  simp; omega
theorem sortI_pw (ns : List Int) : (sortI ns).Pairwise (· ≤ ·) := (List.pairwise_mergeSort leI_trans leI_total ns).imp fun h => by simpa using h
theorem sortI_uniq {ys xs : List Int} (h : ys.Perm xs) (hs : ys.Pairwise (· ≤ ·)) : ys = sortI xs :=
  (h.trans (List.mergeSort_perm xs _).symm).eq_of_pairwise (le := (· ≤ ·)) (fun _ _ _ _ h h' => by omega) hs (sortI_pw xs)
theorem sortI_perm {ys xs : List Int} (h : ys.Perm xs) : sortI ys = sortI xs :=
  ((List.mergeSort_perm ys _).trans (h.trans (List.mergeSort_perm xs _).symm)).eq_of_pairwise (le := (· ≤ ·)) (fun _ _ _ _ h h' => by omega) (sortI_pw ys) (sortI_pw xs)
/-- what sorted may be asked of -/
inductive SortD : D → List D → Prop
  | lI (ns : List Int) : SortD (.lst (ns.map .int)) ((sortI ns).map .int)
  | lS (xs : List Str) (h : xs.length < 64) : SortD (.lst (xs.map .str)) ((sortS xs).map .str)
  | dicS {kds : List (Key × D)} (xs : List Str) (h : kds.map (·.1) = xs.map Sum.inr) (hl : xs.length < 64) : SortD (.dic kds) ((sortS xs).map .str)
  | dicI {kds : List (Key × D)} (xs : List Int) (h : kds.map (·.1) = xs.map Sum.inl) (hl : xs.length < 64) : SortD (.dic kds) ((sortI xs).map .int)
section
variable {Y : Ctx} {ρ ρ' : Rho} {G G' : Gs} {E : GEnds} {e o i a b c : Expr} {es : List Expr} {d d' : D} {ds : List D} {pos p apos : Pos}
theorem gn_sorted [Calm Y] (T : Blt Y.mg) (ha : GV Y e ρ G d) (h : SortD d ds) (hg : GlS Y.sc "sorted" := by rfl) (he : ∀ env, starEach [e] env = (false, eval e env) :: starEach [] env := by intro _; rfl) : GN Y (.Call (.Name "sorted" p) [e] [] pos) ρ G (.lst ds) := ⟨fun F R Gl σ H W => by
  cases h with
  | lI ns =>
    refine cb_go (P := PNd Y G ρ _) PN.up W (fun i => by have := @cr_sortedI (Y.X i); rwa [Y.hK i] at this) hg T.at (by decide +kernel) (ga_cons ha ga_nil he) (fun F R Gl σ H vs Q W v q => ?_) (by decide) (by decide) he (fun _ => rfl)
    obtain ⟨v, rfl, w⟩ := v.one_inv
    obtain ⟨a, vs, rfl, h1, h2⟩ := W.lstV w
    rw [h2.ints_inv] at h1
    refine ⟨a, ns, rfl, h1, fun ys p hp hs hn => q _ _ ?_⟩
    rw [← sortI_uniq hp hs]
    exact new_lst W (reps_ints ys) hn
  | lS xs hl =>
    refine cb_go (P := PNd Y G ρ _) PN.up W (fun i => by have := @cr_sortedS (Y.X i); rwa [Y.hK i] at this) hg T.at (by decide +kernel) (ga_cons ha ga_nil he) (fun F R Gl σ H vs Q W v q => ?_) (by decide) (by decide) he (fun _ => rfl)
    obtain ⟨v, rfl, w⟩ := v.one_inv
    obtain ⟨a, vs, rfl, h1, h2⟩ := W.lstV w
    rw [h2.strs_inv] at h1
    refine ⟨a, xs, rfl, h1, hl, fun ys p hp hs hn => q _ _ ?_⟩
    rw [← sortS_uniq hp hs]
    exact new_lst W (reps_strs ys) hn
  | dicS xs hk hl =>
    refine cb_go (P := PNd Y G ρ _) PN.up W (fun i => call_sortedD (Calm.cm (Y := Y) i)) hg T.at (by decide +kernel) (ga_cons ha ga_nil he) (fun F R Gl σ H vs Q W v q => ?_) (by decide) (by decide) he (fun _ => rfl)
    obtain ⟨v, rfl, w⟩ := v.one_inv
    obtain ⟨a, vs, rfl, h1, h2⟩ := W.dicV w
    refine ⟨a, vs, xs, rfl, h1, h2.keys.trans hk, hl, fun ys p hp hs hn => q _ _ ?_⟩
    rw [← sortS_uniq hp hs]
    exact new_lst W (reps_strs ys) hn
  | dicI xs hk hl =>
    refine cb_go (P := PNd Y G ρ _) PN.up W (fun i => call_sortedDI (Calm.cm (Y := Y) i)) hg T.at (by decide +kernel) (ga_cons ha ga_nil he) (fun F R Gl σ H vs Q W v q => ?_) (by decide) (by decide) he (fun _ => rfl)
    obtain ⟨v, rfl, w⟩ := v.one_inv
    obtain ⟨a, vs, rfl, h1, h2⟩ := W.dicV w
    refine ⟨a, vs, xs, rfl, h1, h2.keys.trans hk, hl, fun ys p hp hs hn => q _ _ ?_⟩
    rw [← sortI_uniq hp hs]
    exact new_lst W (reps_ints ys) hn⟩

/-! ### list(d), dict(pairs) -/
theorem reps_keys {K : PySem.W.Frag} {F : Hp} {vs : List (Key × V)} {kds : List (Key × D)} (h : KReps K F vs kds) : Reps K F (vs.map fun kv => kV kv.1) (kds.map fun kv => kD kv.1) := by
  induction kds generalizing vs with
  | nil => cases h; exact .nil
  | cons kv kds ih =>
    cases h with
    | @cons k v r d s a b =>
      refine .cons ?_ (ih b)
      cases k with
      | inl i => exact .int i
      | inr x => exact .str x
theorem gn_listD [Calm Y] {kds : List (Key × D)} (T : Blt Y.mg) (ha : GV Y e ρ G (.dic kds)) (hg : GlS Y.sc "list" := by rfl) (he : ∀ env, starEach [e] env = (false, eval e env) :: starEach [] env := by intro _; rfl) : GN Y (.Call (.Name "list" p) [e] [] pos) ρ G (.lst (kds.map fun kv => kD kv.1)) := ⟨fun F R Gl σ H W => by
  refine ct_go (P := PNd Y G ρ _) PN.up W (fun i => call_listD (Calm.cm (Y := Y) i)) hg T.at (by decide +kernel) (ga_cons ha ga_nil he) (fun F R Gl σ H vs Q W v q => ?_) (by decide) (by decide) he (fun _ => rfl)
  obtain ⟨v, rfl, w⟩ := v.one_inv
  obtain ⟨a, vs, rfl, h1, h2⟩ := W.dicV w
  exact ⟨a, vs, rfl, h1, fun l hl => q _ _ (new_lst W (reps_keys h2) hl)⟩⟩
def mergeD (kds more : List (Key × D)) : List (Key × D) := more.foldl (fun acc kv => putD acc kv.1 kv.2) kds
theorem KReps.merge {K : PySem.W.Frag} {F : Hp} : ∀ {ws : List (Key × V)} {more : List (Key × D)} {vs : List (Key × V)} {kds : List (Key × D)}, KReps K F ws more → KReps K F vs kds → KReps K F (mergeK vs ws) (mergeD kds more)
  | _, _, _, _, .nil, h => h
  | _, _, _, _, .cons (k := k) a b, h => by have := KReps.merge b (h.put k a); exact this
def pairK (kv : Key × D) : D := .tup [kD kv.1, kv.2]
theorem pairs_paired {F : Hp} {R Gl : Gs} {σ : L2.St} {H : Hp} (W : Wd Y F R Gl G ρ σ H) : ∀ {kds : List (Key × D)} {vs : List V}, Reps Y.K F vs (kds.map pairK) → ∃ (ps : List Addr) (kvs : List (Key × V)), vs = ps.map V.ref ∧ Paired (fun p kv => SqT Y.K H p [kV kv.1, kv.2]) ps kvs ∧ KReps Y.K F kvs kds
  | [], _, h => by cases h; exact ⟨[], [], rfl, .nil, .nil⟩
  | (k, d) :: kds, _, h => by
    cases h with
    | cons a b =>
      obtain ⟨ps, kvs, rfl, h2, h3⟩ := pairs_paired W b
      cases a with
      | @tup l us _ h4 h5 =>
        cases h5 with
        | cons r1 r2 =>
          cases r2 with
          | cons r2 r3 =>
            cases r3
            refine ⟨l :: ps, (k, _) :: kvs, rfl, .cons ?_ h2, .cons r2 h3⟩
            have := r1.key
            subst this
            exact .inl (W.abs.sub _ _ h4)
theorem gn_dictP [Calm Y] {kds : List (Key × D)} (T : Blt Y.mg) (ha : GV Y e ρ G (.lst (kds.map pairK))) (hg : GlS Y.sc "dict" := by rfl) (he : ∀ env, starEach [e] env = (false, eval e env) :: starEach [] env := by intro _; rfl) : GN Y (.Call (.Name "dict" p) [e] [] pos) ρ G (.dic (mergeD [] kds)) := ⟨fun F R Gl σ H W => by
  refine ct_go (P := PNd Y G ρ _) PN.up W (fun i => by have := @call_dictP (Y.X i) (Calm.cm (Y := Y) i); rwa [Y.hK i] at this) hg T.at (by decide +kernel) (ga_cons ha ga_nil he) (fun F R Gl σ H vs Q W v q => ?_) (by decide) (by decide) he (fun _ => rfl)
  obtain ⟨v, rfl, w⟩ := v.one_inv
  obtain ⟨a, vs, rfl, h1, h2⟩ := W.lstV w
  obtain ⟨ps, kvs, rfl, h3, h4⟩ := pairs_paired W h2
  exact ⟨a, ps, kvs, rfl, h1, h3, fun l hl => q _ _ (new_dic W (h4.merge .nil) hl)⟩⟩

/-! ### list * int -/
theorem Reps.rep {K : PySem.W.Frag} {F : Hp} {vs : List V} (h : Reps K F vs ds) (n : Nat) : Reps K F (List.replicate n vs).flatten (List.replicate n ds).flatten := by
  induction n with
  | zero => exact .nil
  | succ n ih => rw [List.replicate_succ, List.replicate_succ, List.flatten_cons, List.flatten_cons]; exact h.append ih
theorem gn_rep {k : Int} (ha : GN Y a ρ G (.lst ds)) (hb : GE Y b ρ G (.int k)) (h1 : 0 ≤ k) (h2 : k < 1000) (hl : ds.length ≤ 1000) : GN Y (.BinOp a .Mult b pos) ρ G (.lst (List.replicate k.toNat ds).flatten) := ⟨fun F R Gl σ H W =>
  wE.of (fun i => pe_op op_rep (wE.pe i) (wE.pe i)) ((ha.run F R Gl σ H W).mono fun v H1 ⟨F1, Gl1, l, ev, s1, W1, a1, a2, a3, a4⟩ => (hb.run F1 _ Gl1 σ H1 (W1.addR a1 a2 a3 a4)).mono fun y H2 ⟨F2, Gl2, s2, W2, r2⟩ => by
    subst ev
    obtain ⟨_, o, ho, r⟩ := W2.abs.obj l _ (W2.r l _ gupd_same)
    cases r with
    | @lst vs _ r =>
      refine ⟨l, k, vs, rfl, r2.int_inv, ho, by omega, by omega, ?_, fun p hp => ?_⟩
      · rw [r.length]
        have : ds.length * k.toNat ≤ 1000 * 1000 := Nat.mul_le_mul hl (by omega)
        exact Nat.le_trans this (by decide)
      · have W3 := W2.subR W1.r0 (gex_upd a3)
        exact (new_lst W3 (r.rep k.toNat) hp).up (s1.trans s2))⟩

/-! ### == of dicts: where the lengths differ, or all is found again -/
def rDE (f : Bool → Bool) : R2 := fun x y H Q => ∃ a b ks ls, x = .ref a ∧ y = .ref b ∧ Rd H a (.dK ks) ∧ Rd H b (.dK ls) ∧ (ks.length = ls.length → ∀ p ∈ ks, valV ls p.1 = some p.2 ∧ flatB p.2 = true) ∧ Q (.bl (f (ks.length == ls.length))) H
theorem op_eqDE {X : Cx} (hu : X.A.units < cLine) : OpR X (compareOp .Eq) (rDE id) := by
  intro pins s σ H x y v u Q I rx ry h
  obtain ⟨a, b, ks, ls, rfl, rfl, ea, eb, hp, q⟩ := h
  obtain rfl : v = Value.ref a := rx
  obtain rfl : u = Value.ref b := ry
  obtain ⟨_, ya, va, ra, da⟩ := dk_rd I.hok ea
  obtain ⟨_, yb, vb, rb, db⟩ := dk_rd I.hok eb
  refine PySem.W.keq_eq (knd := mixKind X.prog X.w) (r := true) ya yb da db hu (fun hl => hits_all rb ra (hp ?_)) (fin_bl I q (by simp [ra.length, rb.length]))
  rw [ra.length, rb.length]; exact hl
theorem op_neDE {X : Cx} (hu : X.A.units < cLine) : OpR X (compareOp .NotEq) (rDE not) := by
  intro pins s σ H x y v u Q I rx ry h
  obtain ⟨a, b, ks, ls, rfl, rfl, ea, eb, hp, q⟩ := h
  obtain rfl : v = Value.ref a := rx
  obtain rfl : u = Value.ref b := ry
  obtain ⟨_, ya, va, ra, da⟩ := dk_rd I.hok ea
  obtain ⟨_, yb, vb, rb, db⟩ := dk_rd I.hok eb
  refine PySem.W.keq_ne (knd := mixKind X.prog X.w) (r := true) ya yb da db hu (fun hl => hits_all rb ra (hp ?_)) (fin_bl I q (by simp [ra.length, rb.length]))
  rw [ra.length, rb.length]; exact hl
/-- a number or a text -/
def D.flat : D → Bool
  | .int _ => true
  | .str _ => true
  | .bl _ => true
  | _ => false
theorem Rep.flat {K : PySem.W.Frag} {F : Hp} {v : V} (h : Rep K F v d) (q : d.flat = true) : flatB v = true := by
  cases h <;> first | rfl | cases q
theorem Rep.fun_flat {K : PySem.W.Frag} {F : Hp} {v v' : V} (h : Rep K F v d) (h' : Rep K F v' d) (q : d.flat = true) : v = v' := by
  cases d with
  | int i => rw [h.int_inv, h'.int_inv]
  | str i => rw [h.str_inv, h'.str_inv]
  | bl i => rw [h.bl_inv, h'.bl_inv]
  | _ => cases q
/-- dicts to be compared -/
def DEq (ks ls : List (Key × D)) : Prop := ks.length = ls.length → ∀ p ∈ ks, valD ls p.1 = some p.2 ∧ p.2.flat = true
theorem KReps.mem {K : PySem.W.Frag} {F : Hp} {vs : List (Key × V)} {kds : List (Key × D)} (h : KReps K F vs kds) {p : Key × V} (hp : p ∈ vs) : ∃ d, (p.1, d) ∈ kds ∧ Rep K F p.2 d := by
  induction kds generalizing vs with
  | nil => cases h; cases hp
  | cons kv kds ih =>
    cases h with
    | @cons k v r d s a b =>
      rcases List.mem_cons.mp hp with rfl | hp
      · exact ⟨d, List.mem_cons_self .., a⟩
      · obtain ⟨d', h1, h2⟩ := ih b hp
        exact ⟨d', List.mem_cons_of_mem _ h1, h2⟩
theorem deq_go {f : Bool → Bool} {ks ls : List (Key × D)} (h : DEq ks ls) : RR Y (rDE f) ρ G (.dic ks) (.dic ls) (PRd Y G ρ (.bl (f (ks.length == ls.length)))) := rr_val fun F R Gl σ H x y Q W v1 v2 q => by
  obtain ⟨p, vs, rfl, h1, h2⟩ := W.dicV v1
  obtain ⟨p', us, rfl, h3, h4⟩ := W.dicV v2
  refine ⟨p, p', vs, us, rfl, rfl, h1, h3, fun hl kv hm => ?_, ?_⟩
  · rw [h2.length, h4.length] at hl
    obtain ⟨d, hd, rd⟩ := h2.mem hm
    obtain ⟨z1, z2⟩ := h hl _ hd
    rcases h4.val kv.1 with ⟨_, z⟩ | ⟨v, d', y1, y2, y3⟩
    · rw [z1] at z; cases z
    · rw [z1] at y2; cases y2
      exact ⟨by rw [y1, y3.fun_flat rd z2], rd.flat z2⟩
  · rw [h2.length, h4.length]; exact q _ (.bl _)
theorem hu0_i (i : Y.ι) : (Y.X i).A.units < cLine := by have := hu1_i i; omega
theorem gc_eqDic {ks ls : List (Key × D)} (ha : GV Y a ρ G (.dic ks)) (hb : GV Y b ρ G (.dic ls)) (h : DEq ks ls) : GC Y .Eq a b ρ G (.bl (ks.length == ls.length)) := gc_op (fun i => op_eqDE (hu0_i i)) ha hb (deq_go h)
theorem gc_neDic {ks ls : List (Key × D)} (ha : GV Y a ρ G (.dic ks)) (hb : GV Y b ρ G (.dic ls)) (h : DEq ks ls) : GC Y .NotEq a b ρ G (.bl (!(ks.length == ls.length))) := gc_op (fun i => op_neDE (hu0_i i)) ha hb (deq_go h)
theorem deq_nil {ks : List (Key × D)} : DEq ks [] := fun h p hp => by
  have : ks = [] := List.length_eq_zero_iff.mp h
  rw [this] at hp; cases hp

/-! ### None asked of what a call does -/
theorem gw_isN {j : Nat} {pos' : Pos} {P : D → Gs → Prop} (ha : GW Y a ρ G fun d G' => P (.bl d.isNon) G') : GW Y (.Compare a [.Is] [.Constant .none j pos'] pos) ρ G P := ⟨fun F R Gl σ H W =>
  wE.of (fun i => pe_cmp (pc_isN (wE.pe i)) (nomark _)) ((ha.run F R Gl σ H W).mono fun v H' ⟨F', Gl', G', d, s, W', r, q⟩ => ⟨F', Gl', G', _, s, W', by rw [(Vw.rep (Y := Y) (G := G') (ρ := ρ) (σ := σ) r).non_iff]; exact .bl _, q⟩)⟩
theorem gte_notN {j : Nat} {pos' : Pos} {P : Bool → Gs → Prop} (ha : GW Y a ρ G fun d G' => P (!d.isNon) G') : GTe Y (.Compare a [.IsNot] [.Constant .none j pos'] pos) ρ G P := ⟨fun F R Gl σ H W =>
  wT.of (fun i => pt_cmp (pc_notN (wE.pe i)) (nomark _)) ((ha.run F R Gl σ H W).mono fun v H' ⟨F', Gl', G', d, s, W', r, q⟩ => ⟨_, rfl, F', Gl', G', s, W', by rw [(Vw.rep (Y := Y) (G := G') (ρ := ρ) (σ := σ) r).non_iff]; exact q⟩)⟩
theorem gte_isN {j : Nat} {pos' : Pos} {P : Bool → Gs → Prop} (ha : GW Y a ρ G fun d G' => P d.isNon G') : GTe Y (.Compare a [.Is] [.Constant .none j pos'] pos) ρ G P := ⟨fun F R Gl σ H W =>
  wT.of (fun i => pt_cmp (pc_isN (wE.pe i)) (nomark _)) ((ha.run F R Gl σ H W).mono fun v H' ⟨F', Gl', G', d, s, W', r, q⟩ => ⟨_, rfl, F', Gl', G', s, W', by rw [(Vw.rep (Y := Y) (G := G') (ρ := ρ) (σ := σ) r).non_iff]; exact q⟩)⟩
end
end Gh
end

section
set_option Elab.async false
set_option linter.all false
set_option maxRecDepth 100000
set_option maxHeartbeats 4000000
namespace Gh
open PySem PySem.Spec PyProof.Rows L2

section
variable {Y : Ctx} {F F' : Hp} {R Gl Gl' G G' : Gs} {ρ ρ' : Rho} {σ σ' : L2.St} {H H' : Hp} {e iter tg elt : Expr} {pos p : Pos} {ds : List D} {d : D} {scope : Scope}
theorem Wd.backG {Y' : Ctx} (eK : Y'.K = Y.K) (eF : Y'.F0 = Y.F0) (W : Wd Y F R Gl G ρ σ H) (W' : Wd Y' F' R Gl' G' ρ' σ' H') (s : Same F F') (h : ∀ i, OwnAt ρ i → ρ'[i]? = ρ[i]? ∧ σ'[i]? = σ[i]?) : Wd Y F' R Gl' G' ρ σ H' := by
  refine ⟨fun a o z => s a o (W.f0 a o z), W.len, W'.g, W.r0, W'.r, W'.gr, fun i x t e1 e2 => ?_, W.inj, by have := W'.abs; rwa [eK] at this⟩
  have q := W.sv i x t e1 e2
  cases x with
  | unk => trivial
  | dat d => obtain ⟨v, h3, h4⟩ := q; exact ⟨v, h3, h4.mono s⟩
  | own ds => obtain ⟨h1, h2⟩ := h i ⟨_, e1, rfl⟩; exact W'.sv i _ t (h1.trans e1) (h2.trans e2)
  | ownd ds => obtain ⟨h1, h2⟩ := h i ⟨_, e1, rfl⟩; exact W'.sv i _ t (h1.trans e1) (h2.trans e2)
theorem lc_goW {xs : List D} {S : Gs → Prop} {ρb : D → Rho} {js : List Nat} {P : D → Gs → Prop} (own : List (Str × Nat)) (hi : GI Y tg iter ρ G xs S) (Iv : Nat → List D → Gs → Prop) (h0 : Iv 0 [] G) (hS : ∀ i out G', Iv i out G' → S G')
    (hg : ∀ y ∈ xs, GG (Y.blk scope) tg js y (wipeR ρ (own.map (·.2))) (ρb y)) (hjs : ∀ j ∈ js, j ∈ own.map (·.2)) (hl : xs.length < 100000) (hown : ∀ j ∈ own.map (·.2), ¬ OwnAt ρ j)
    (he : ∀ i y out G', xs[i]? = some y → Iv i out G' → out.length = i → GW (Y.blk scope) elt (ρb y) G' fun d G'' => Iv (i + 1) (out ++ [d]) G'')
    (hP : ∀ out G', Iv xs.length out G' → out.length = xs.length → P (.lst out) G') (W : Wd Y F R Gl G ρ σ H) : tLc (wI Y tg iter) (wG (Y.blk scope) tg) tYes (wE (Y.blk scope) elt) (own.map (·.2)) σ H (PG2 Y F R ρ σ P) := by
  have hsz : 100000 ≤ sizeLine := by decide
  refine hi.run F R Gl σ H _ W fun J F1 Gl1 H1 s1 W1 YJ => fun Dl hD => ?_
  obtain ⟨fF, fGl, fG, fR, fO⟩ := W1.fresh hD
  have fYR : Y.R Dl = none := W1.r0.none fR
  refine ⟨fun i m H => m = xs.length - i ∧ i ≤ xs.length ∧ ∃ F' Gl' G' out, Same F1 F' ∧ Wd Y F' (gupd R Dl (.lst out)) Gl' G' ρ σ H ∧ Iv i out G' ∧ out.length = i, ⟨xs.length, by simp, Nat.zero_le _, F1, _, G, [], Same.refl _, (W1.newG hD (.lst .nil)).addR gupd_same fG fR fO, h0, rfl⟩, ?_⟩
  rintro i m H2 ⟨rfl, hle, F2, Gl2, G2, out, s2, W2, iv, lo⟩
  have outOf : ∀ {F' Gl' G' ρ' σ' H' Y'}, Wd Y' F' (gupd R Dl (.lst out)) Gl' G' ρ' σ' H' → ∃ acc, H' Dl = some (.lst acc) ∧ Reps Y'.K F' acc out := fun {F' Gl' G' ρ' σ' H' Y'} W => by
    obtain ⟨_, o, ho, r⟩ := W.abs.obj Dl _ (W.r Dl _ gupd_same)
    cases r with | lst r => exact ⟨_, ho, r⟩
  by_cases hlt : i < xs.length
  · refine .inr ⟨YJ.go i F2 _ Gl2 G2 ρ σ H2 s2 W2 (hS _ _ _ iv) hlt, fun H' => ∃ F' Gl' G' out', Same F1 F' ∧ Wd Y F' (gupd R Dl (.lst out')) Gl' G' ρ σ H' ∧ Iv (i + 1) out' G' ∧ out'.length = i + 1, fun H' h => ⟨xs.length - (i + 1), by omega, rfl, hlt, h⟩, fun x H3 hy => ?_⟩
    have hy0 : xs[i]? = some xs[i] := List.getElem?_eq_getElem hlt
    have hmem : xs[i] ∈ xs := List.getElem_mem hlt
    obtain ⟨F3, s3, W3, r3⟩ := YJ.yld i F2 _ Gl2 G2 ρ σ H2 x H3 xs[i] s2 W2 (hS _ _ _ iv) hy0 hy
    have W3b : Wd (Y.blk scope) F3 (gupd R Dl (.lst out)) Gl2 G2 (wipeR ρ (own.map (·.2))) (wipe σ (own.map (·.2))) H3 := (W3.wipes _).to rfl rfl rfl
    refine (hg _ hmem).run F3 _ Gl2 G2 (wipe σ (own.map (·.2))) H3 x _ W3b r3 ?_
    intro σ4 W4 k4 l4
    refine ⟨by rw [k4 _ hjs, wipe_wipe], ?_⟩
    have bk : ∀ {F5 Gl5 G5 H5}, Same F3 F5 → Wd (Y.blk scope) F5 (gupd R Dl (.lst out)) Gl5 G5 (ρb xs[i]) σ4 H5 → Wd Y F5 (gupd R Dl (.lst out)) Gl5 G5 ρ σ H5 := fun {F5 Gl5 G5 H5} s W => by
      refine W3.backG (Y' := Y.blk scope) rfl rfl W s fun j hj => ?_
      have hv : j ∉ own.map (·.2) := fun z => hown j z hj
      have hj' : j ∉ js := fun z => hv (hjs j z)
      exact ⟨((hg _ hmem).same j hj').trans (wipeR_get hv), (l4 j hj').trans (wipe_get hv)⟩
    show wE (Y.blk scope) elt σ4 H3 _
    refine ((he i _ out G2 hy0 iv lo).run F3 _ Gl2 σ4 H3 W4).mono fun v H6 ⟨F6, Gl6, G6, d6, s6, W6, r6, q6⟩ => ?_
    obtain ⟨acc, ha, ra⟩ := outOf W6
    refine ⟨acc, ha, ?_, F6, _, G6, out ++ [d6], (s2.trans s3).trans s6, (bk s6 W6).putR fR fYR rfl (g' := .lst (out ++ [d6])) (.lst (ra.snoc r6)), q6, by simp [lo]⟩
    rw [ra.length]
    omega
  · have e : i = xs.length := by omega
    subst e
    refine .inl ⟨YJ.stop _ F2 _ Gl2 G2 ρ σ H2 s2 W2 (hS _ _ _ iv) (Nat.le_refl _), ?_⟩
    have hGl := W2.r Dl _ gupd_same
    have hG2 : G2 Dl = none := (W2.gr Dl).resolve_right (by rw [gupd_same]; simp)
    have hO : ¬ Owned ρ σ Dl := fun o => by
      obtain ⟨u, z1, z2, z3⟩ := W2.owned o
      rw [gupd_same] at z3; cases z3
    have W3 := W2.subR W.r0 (gex_upd fR)
    obtain ⟨acc, ha, ra⟩ := outOf W2
    obtain ⟨W4, s4⟩ := W3.frz hGl rfl ha hG2 fR hO
    exact ⟨_, _, G2, .lst out, (s1.trans s2).trans s4, W4, .lst (.inl upd_same) (ra.mono s4), hP _ _ iv lo⟩
/-- [e for t in iter], with what each turn does -/
theorem gn_lcW [Calm Y] {xs : List D} {S : Gs → Prop} {ρb : D → Rho} {js : List Nat} {P : D → Gs → Prop} (own : List (Str × Nat)) (hN : Y.N.Nodup) (hi : GI Y tg iter ρ G xs S) (ok : BlkOk Y.N Y.sc scope own) (Iv : Nat → List D → Gs → Prop) (h0 : Iv 0 [] G) (hS : ∀ i out G', Iv i out G' → S G')
    (hg : ∀ y ∈ xs, GG (Y.blk scope) tg js y (wipeR ρ (own.map (·.2))) (ρb y)) (hjs : ∀ j ∈ js, j ∈ own.map (·.2)) (hl : xs.length < 100000) (hown : ∀ j ∈ own.map (·.2), ¬ OwnAt ρ j)
    (he : ∀ i y out G', xs[i]? = some y → Iv i out G' → out.length = i → GW (Y.blk scope) elt (ρb y) G' fun d G'' => Iv (i + 1) (out ++ [d]) G'')
    (hP : ∀ out G', Iv xs.length out G' → out.length = xs.length → P (.lst out) G')
    (hs : ∀ env x, foldedSetIterable iter env x = pure x := by intro _ _; rfl) : GW Y (.ListComp elt [⟨tg, iter, [], 0⟩] scope pos) ρ G P := ⟨fun F R Gl σ H W =>
  wE.of (t := tLc (wI Y tg iter) (wG (Y.blk scope) tg) tYes (wE (Y.blk scope) elt) (own.map (·.2))) (fun i => pe_lc (Calm.cm (Y := Y) i) (by rw [Y.hN i]; exact hN) (wI.pi i) (blkOk_i ok i) (fun s H C cl fp => wG.pg (Y := Y.blk scope) (i, s, H, C, cl, fp)) (fun s H C cl fp => pts_nil) (fun s H C cl fp => wE.pe (Y := Y.blk scope) (i, s, H, C, cl, fp)) (hs _)) (lc_goW own hi Iv h0 hS hg hjs hl hown he hP W)⟩
/-- x = [e for t in iter], with what each turn does -/
theorem gs_lcW [Calm Y] {E : GEnds} (j : Nat) {x : Str} {pos' lpos : Pos} {xs : List D} {S : Gs → Prop} {ρb : D → Rho} {js : List Nat} (own : List (Str × Nat)) (hd : Y.N.Nodup) (hi : GI Y tg iter ρ G xs S) (ok : BlkOk Y.N Y.sc scope own) (Iv : Nat → List D → Gs → Prop) (h0 : Iv 0 [] G) (hS : ∀ i out G', Iv i out G' → S G')
    (hg : ∀ y ∈ xs, GG (Y.blk scope) tg js y (wipeR ρ (own.map (·.2))) (ρb y)) (hjs : ∀ j ∈ js, j ∈ own.map (·.2)) (hl : xs.length < 100000) (hown : ∀ j ∈ own.map (·.2), ¬ OwnAt ρ j)
    (he : ∀ i y out G', xs[i]? = some y → Iv i out G' → out.length = i → GW (Y.blk scope) elt (ρb y) G' fun d G'' => Iv (i + 1) (out ++ [d]) G'')
    (hP : ∀ out G', Iv xs.length out G' → out.length = xs.length → E.nx (ρ.set j (.dat (.lst out))) G') (hN : Y.N[j]? = some x := by rfl) (hx : Y.sc.names.lookup x = some .local := by rfl)
    (hsw : ∀ i, swapsWith (.ListComp elt [⟨tg, iter, [], 0⟩] scope lpos) (some (.Name x pos')) pos.line (Y.X i).env = pure true := by exact fun _ => sw_true rfl rfl rfl (by decide +kernel)) (hs : ∀ env x, foldedSetIterable iter env x = pure x := by intro _ _; rfl) :
    GS Y (.Assign [.Name x pos'] (.ListComp elt [⟨tg, iter, [], 0⟩] scope lpos) pos) ρ G E := ⟨fun F R Gl σ H D W L => by
  refine wS.of (t := tAsg (tLc (wI Y tg iter) (wG (Y.blk scope) tg) tYes (wE (Y.blk scope) elt) (own.map (·.2))) (gName j)) (fun i => ps_setLc (Calm.cm (Y := Y) i) (nd_i hd i) (nm_i hN) (by rw [Y.hsc i]; exact hx) (hsw i) (wI.pi i) (blkOk_i ok i) (fun s H C cl fp => wG.pg (Y := Y.blk scope) (i, s, H, C, cl, fp)) (fun s H C cl fp => pts_nil) (fun s H C cl fp => wE.pe (Y := Y.blk scope) (i, s, H, C, cl, fp)) (hs _)) ?_
  exact tLc_mono (lc_goW (P := fun d G' => ∃ out, d = .lst out ∧ E.nx (ρ.set j (.dat (.lst out))) G') own hi Iv h0 hS hg hjs hl hown he (fun out G' a b => ⟨out, rfl, hP out G' a b⟩) W) fun v H' ⟨F', Gl', G', d, s, W', r, out, ed, q⟩ => by
    subst ed
    exact L.nx _ _ _ _ _ _ s (W'.setD r) q⟩
end

/-! ### xs[::step], step 1 or -1 -/
def StepQ (K : PySem.W.Frag) (x : V) (Q : VK) : Option Int → Hp → Prop := fun o H4 => ∃ a xs, x = .ref a ∧ SqL K H4 a xs ∧ (o = some 1 ∨ o = some (-1)) ∧ ∀ p, H4 p = none → Q (.ref p) (upd H4 p (.lst (if o = some (1 : Int) then xs else xs.reverse)))
def tStepL (K : PySem.W.Frag) (te ts : TE) : TE := fun σ H Q => te σ H fun x H1 => ts σ H1 fun y H2 => ∃ i, y = .int i ∧ StepQ K x Q (some i) H2
theorem step_bounds (n : Nat) : sliceBounds none none (some 1) n = (0, (n : Int), 1) := by
  first
  | rfl
  | simp [sliceBounds]
theorem step_range (n : Nat) : sliceRange 0 (n : Int) 1 = List.range n := by
  unfold sliceRange
  have h1 : ((1 : Int) > 0) := by decide
  by_cases h : (n : Int) > 0
  · have e : ((n : Int) - 0 + 1 - 1) / 1 = (n : Int) := by
      rw [Int.ediv_one]; omega
    have h' : 0 < n := by omega
    simp [h']
  · have e : n = 0 := by omega
    subst e
    simp
theorem step_pick (items : Array Value) : slicePick items none none (some 1) = items := by
  unfold slicePick
  rw [step_bounds]
  show ((sliceRange 0 (items.size : Int) 1).filterMap (items[·]?)).toArray = _
  rw [step_range, PySem.W.krv_all]
theorem pe_stepL {X : Cx} {e st : Expr} {te ts : TE} {p3 pos : Pos} (he : PE X e te) (hst : PE X st ts) : PE X (.Subscript e (.Slice none none (some st) p3) pos) (tStepL X.K te ts) := by
  refine ⟨fun pins s σ H Q I h => ?_⟩
  refine Subscript_ (thn (he.run pins s σ H _ I h) fun v s1 ⟨x, H1, I1, r1, q1⟩ => ?_)
  refine wpAny_Slice (thn (po_none.run pins s1 σ H1 (fun o H2 => o = none ∧ H2 = H1) I1 ⟨rfl, rfl⟩) fun vl s2 ⟨l, H2, I2, pl, el, e2⟩ => ?_)
  subst el e2
  refine thn (po_none.run pins s2 σ H2 (fun o H3 => o = none ∧ H3 = H2) I2 ⟨rfl, rfl⟩) fun vu s3 ⟨u, H3, I3, pu, eu, e3⟩ => ?_
  subst eu e3
  refine thn ((po_some hst).run pins s3 σ H3 (StepQ X.K x Q) I3 q1) fun vs s4 ⟨o, H4, I4, ps, a, xs, ex, hx, hi, q⟩ => ?_
  subst ex
  cases r1
  have I5 : Inv X pins σ H4 { s4 with heap := s4.heap.push { cls := .type "slice", data := .fields #[vl, vu, vs] } } := I4.kept (t' := s4.toks) fun b ob q => Heap.get?_push_of_some _ q
  obtain ⟨its, r, ht, hz⟩ := I5.list hx
  have hlen := r.length
  show wpAny (model X.prog X.w) X.A (subscriptTail e (.Slice none none (some st) p3) (.ref a) (.ref s4.heap.objs.size)) (EP X pins σ Q) X.xe { s4 with heap := s4.heap.push { cls := .type "slice", data := .fields #[vl, vu, vs] } }
  refine tail_any (ops := [.ref a, .ref s4.heap.objs.size]) ht.isList.typeIs (PySem.slot_list_getitem.lookup) ?_ (by with_unfolding_all rfl)
  refine wpAny_getItem_list_slice ht.isList (Heap.IsSliceOf.new _ vl vu vs) pl pu ps (by rcases hi with rfl | rfl <;> decide) ?_ (by rw [List.size_toArray]; omega)
  rcases hi with rfl | rfl
  · rw [step_pick]
    rw [if_pos rfl] at q
    refine ⟨.ref _, _, I5.laid (t' := s4.toks) (o := .lst xs) (fun b ob q => Heap.get?_push_of_some _ q) (Nat.le_refl _) ?_, rfl, q _ (I5.hok.fresh (Nat.le_refl _))⟩
    exact ⟨hz, _, 0, r, Heap.get?_push_size _ rfl⟩
  · rw [PySem.W.krv_pick]
    rw [if_neg (by decide)] at q
    refine ⟨.ref _, _, I5.laid (t' := s4.toks) (o := .lst xs.reverse) (fun b ob q => Heap.get?_push_of_some _ q) (Nat.le_refl _) ?_, rfl, q _ (I5.hok.fresh (Nat.le_refl _))⟩
    exact ⟨by rw [List.length_reverse]; exact hz, _, 0, r.reverse, Heap.get?_push_size _ rfl⟩
section
variable {Y : Ctx} {ρ : Rho} {G : Gs} {a st : Expr} {ds : List D} {p3 pos : Pos} {i : Int}
theorem gn_step (ha : GV Y a ρ G (.lst ds)) (hs : GE Y st ρ G (.int i)) (hi : i = 1 ∨ i = -1) : GN Y (.Subscript a (.Slice none none (some st) p3) pos) ρ G (.lst (if i = 1 then ds else ds.reverse)) := ⟨fun F R Gl σ H W => by
  refine wE.of (t := tStepL Y.K (wE Y a) (wE Y st)) (fun i => by have := @pe_stepL (Y.X i) a st _ _ p3 pos (wE.pe i) (wE.pe i); rwa [Y.hK i] at this) ?_
  refine (ha.run F R Gl σ H W).mono fun x H1 ⟨F1, Gl1, s1, W1, v1⟩ => (hs.run F1 R Gl1 σ H1 W1).mono fun y H2 ⟨F2, Gl2, s2, W2, r2⟩ => ?_
  obtain ⟨p, vs, rfl, h1, h2⟩ := W2.lstV (v1.mono s2)
  refine ⟨i, r2.int_inv, p, vs, rfl, h1, by rcases hi with rfl | rfl <;> simp, fun l hl => ?_⟩
  by_cases e : i = 1
  · subst e
    rw [if_pos rfl, if_pos rfl]
    exact (new_lst W2 h2 hl).up (s1.trans s2)
  · have e' : ¬ (some i = some (1 : Int)) := by simpa using e
    rw [if_neg e, if_neg e']
    exact (new_lst W2 h2.reverse hl).up (s1.trans s2)⟩
end
section
variable {Y : Ctx} {ρ : Rho} {G : Gs} {a b : Expr} {d : D} {pos : Pos}
/-- {k: v} -/
theorem gn_d1 (k : Key) (ha : GE Y a ρ G (kD k)) (hb : GE Y b ρ G d) : GN Y (.Dict [some a] [b] pos) ρ G (.dic [(k, d)]) := ⟨fun F R Gl σ H W => by
  refine wE.of (t := tDisp [(wE Y a, wE Y b)]) (fun i => pe_disp (pps_cons (wE.pe i) (wE.pe i) pps_nil) rfl rfl (by simp) (Nat.le_of_ble_eq_true rfl)) ?_
  intro p hp
  obtain ⟨fF, fGl, fG, fR, fO⟩ := W.fresh hp
  have fYR : Y.R p = none := W.r0.none fR
  have W0 := (W.newG hp (.dic .nil)).addR gupd_same fG fR fO
  refine (ha.run F _ _ σ _ W0).mono fun x H1 ⟨F1, Gl1, s1, W1, r1⟩ => (hb.run F1 _ Gl1 σ H1 W1).mono fun y H2 ⟨F2, Gl2, s2, W2, r2⟩ => ?_
  obtain ⟨_, o, ho, r⟩ := W2.abs.obj p _ (W2.r p _ gupd_same)
  cases r with
  | dic r =>
  cases r
  have ek := (r1.mono s2).key
  subst ek
  refine ⟨ho, [(k, y)], rfl, Nat.le_of_ble_eq_true rfl, ?_⟩
  have W3 := W2.putR fR fYR rfl (g' := .dic [(k, d)]) (o := .dK [(k, y)]) (.dic (.cons r2 .nil))
  refine ⟨F2, _, p, rfl, s1.trans s2, W3.subR W.r0 (gex_upd fR), gupd_same, fG, fR, fO⟩⟩
end
section
variable {Y : Ctx} {ρ : Rho} {G : Gs} {E : GEnds} {e : Expr} {d : D} {ds ds' : List D} {pos p apos : Pos}
/-- as gs_app, what the list is then told -/
theorem gs_appI (j : Nat) {x : Str} {px epos : Pos} (hj : ρ[j]? = some (.own ds)) (he : GE Y e ρ G d) (hl : ds.length < 100000) (eq : ds ++ [d] = ds') (k : E.nx (ρ.set j (.own ds')) G) (hN : Y.N[j]? = some x := by rfl) (hv : Vis Y.sc x := by first | exact Or.inl rfl | exact Or.inr (Or.inl rfl) | exact Or.inr (Or.inr rfl))
    (hd : (x == ("__debug__" : Str)) = false := by decide) (hcd : (x == ("__classdict__" : Str)) = false := by decide) (hbase : ∀ env, attributeBase (.Name x px) "append" env (eval (.Name x px) env) = eval (.Name x px) env := by intro _; rfl)
    (hfew : ∀ env, ((backTo pos (starEach [e] env)).all (fun x => !x.1) && (backToKw pos (keywordEach [] env)).all (fun x => x.1.isSome) && decide ([e].length + ([] : List Keyword).length + (if ([] : List Keyword).isEmpty then 0 else 1) < 30)) = true := by intro _; rfl)
    (hline : (apos.endLine == pos.line) = true := by rfl) (hs : ∀ env, starEach [e] env = (false, eval e env) :: starEach [] env := by intro _; rfl) (hsw : ∀ i, swapsWith (.Call (.Attribute (.Name x px) "append" apos) [e] [] pos) none epos.line (Y.X i).env = pure false := by intro _; rfl) :
    GS Y (.Expr (.Call (.Attribute (.Name x px) "append" apos) [e] [] pos) epos) ρ G E := by
  subst eq
  exact gs_app j hj he hl k hN hv hd hcd hbase hfew hline hs hsw
end
end Gh
end

section
set_option Elab.async false
set_option linter.all false
set_option maxRecDepth 100000
set_option maxHeartbeats 4000000
namespace Gh
open PySem PySem.Spec PyProof.Rows L2

/-! ### a dict is walked: it is locked meanwhile -/
section
variable {Y : Ctx} {F F' : Hp} {R Gl Gl' G G' : Gs} {ρ ρ' : Rho} {σ σ' : L2.St} {H H' : Hp} {l : Addr} {kds : List (Key × D)} {kvs : List (Key × V)} {od : Obj} {ob : Obj × HO}
theorem gupd_comm {a b : Addr} {g g' : GO} (h : a ≠ b) : gupd (gupd G a g) b g' = gupd (gupd G b g') a g := by
  funext c
  unfold gupd
  by_cases e : c = a
  · subst e; simp [h]
  · simp [e]
theorem Wd.lkAt (W : Wd Y F R Gl G ρ σ H) (h : G l = some (.lk (od, .dK kvs) (.dic kds))) : H l = some (.frz od (.dK kvs)) ∧ KReps Y.K F kvs kds := by
  obtain ⟨_, o, ho, r⟩ := W.abs.obj l _ (W.g _ _ h)
  cases r with | lk r => cases r with | dic r => exact ⟨ho, r⟩
theorem Wd.dicAt (W : Wd Y F R Gl G ρ σ H) (h : G l = some (.dic kds)) : ∃ kvs, H l = some (.dK kvs) ∧ KReps Y.K F kvs kds := by
  obtain ⟨_, o, ho, r⟩ := W.abs.obj l _ (W.g _ _ h)
  cases r with | dic r => exact ⟨_, ho, r⟩
theorem Wd.lock (W : Wd Y F R Gl G ρ σ H) (h : G l = some (.dic kds)) (r : KReps Y.K F kvs kds) (od : Obj) : Wd Y F R (gupd Gl l (.lk (od, .dK kvs) (.dic kds))) (gupd G l (.lk (od, .dK kvs) (.dic kds))) ρ σ (upd H l (.frz od (.dK kvs))) := W.putG h rfl (.lk (.dic r))
theorem Wd.unlock (W : Wd Y F R Gl G ρ σ H) (h : G l = some (.lk (od, .dK kvs) (.dic kds))) : H l = some (.frz od (.dK kvs)) ∧ Wd Y F R (gupd Gl l (.dic kds)) (gupd G l (.dic kds)) ρ σ (upd H l (.dK kvs)) := by
  obtain ⟨h1, h2⟩ := W.lkAt h
  exact ⟨h1, W.putG h rfl (.dic h2)⟩
theorem Fin.unlock (W : Fin Y F R Gl G H) (h : G l = some (.lk (od, .dK kvs) (.dic kds))) : H l = some (.frz od (.dK kvs)) ∧ Fin Y F R (gupd Gl l (.dic kds)) (gupd G l (.dic kds)) (upd H l (.dK kvs)) := by
  have e : ∃ σ : L2.St, Wd Y F R Gl G [] σ H := ⟨[], W.f0, rfl, W.g, W.r0, W.r, W.gr, fun i x s e _ => by simp at e, fun i j l o _ _ _ => by obtain ⟨x, e, _⟩ := o; simp at e, W.abs⟩
  obtain ⟨σ, W⟩ := e
  obtain ⟨h1, W2⟩ := W.unlock h
  exact ⟨h1, W2.fin⟩
theorem gupd_back {g : GO} (h : G l = some g) {u : GO} : gupd (gupd G l u) l g = G := by rw [gupd_gupd, gupd_self h]
variable {tg e iter elt : Expr} {pos : Pos} {ds : List D} {scope : Scope} {E : GEnds} {st : Stmt}
theorem yields_keys {F1 : Hp} (W1 : Wd Y F1 R Gl G ρ σ H) (h : G l = some (.lk (od, .dK kvs) (.dic kds))) : Yields Y F1 (kds.map fun kv => kD kv.1) (fun _ _ G' => G' l = some (.lk (od, .dK kvs) (.dic kds))) (Itk l od kvs) := by
  have kk := (W1.lkAt h).2
  refine ⟨fun i F' R Gl G ρ σ H s W hS hi => ⟨(W.lkAt hS).1, ?_⟩, fun i F' R Gl G ρ σ H x H2 d' s W hS hi hy => ?_, fun i F' R Gl G ρ σ H s W hS hi => ⟨(W.lkAt hS).1, ?_⟩⟩
  · rw [List.length_map, ← kk.length] at hi; exact hi
  · obtain ⟨rfl, k, v, e1, rfl⟩ := hy
    refine ⟨F', Same.refl _, W, ?_⟩
    rw [List.getElem?_map] at hi
    cases e2 : kds[i]? with
    | none => rw [e2] at hi; cases hi
    | some kd =>
      rw [e2] at hi; cases hi
      obtain ⟨k2, d2⟩ := kd
      obtain ⟨v2, e3, _⟩ := kk.get' e2
      rw [e1] at e3; cases e3
      show Rep Y.K F' (kV k) (kD k)
      cases k with
      | inl i => exact .int i
      | inr x => exact .str x
  · rw [List.length_map, ← kk.length] at hi; exact hi
/-- over the keys of a dict that is locked -/
theorem gi_keys (he : GE Y e ρ G (.ref l)) (h : G l = some (.lk (od, .dK kvs) (.dic kds))) : GI Y tg e ρ G (kds.map fun kv => kD kv.1) (fun G' => G' l = some (.lk (od, .dK kvs) (.dic kds))) := ⟨fun F R Gl σ H Q W q => by
  refine wI.of (fun i => pi_keys (wE.pe i)) ((he.run F R Gl σ H W).mono fun v H1 ⟨F1, Gl1, s1, W1, r⟩ => ?_)
  exact ⟨l, od, r.ref_inv, .inl ⟨kvs, (W1.lkAt h).1, q _ F1 Gl1 H1 s1 W1 (yields_keys W1 h)⟩⟩⟩
theorem PN.unlock {v : V} {g : GO} (hl : G l = some (.dic kds)) (h : PN Y F R (gupd G l (.lk (od, .dK kvs) (.dic kds))) ρ σ g v H) : H l = some (.frz od (.dK kvs)) ∧ PN Y F R G ρ σ g v (upd H l (.dK kvs)) := by
  obtain ⟨F', Gl', p, rfl, s, W, h1, h2, h3, h4⟩ := h
  obtain ⟨a1, a2⟩ := W.unlock gupd_same
  rw [gupd_back hl] at a2
  have ne : p ≠ l := by rintro rfl; rw [gupd_same] at h2; cases h2
  rw [gupd_ne ne] at h2
  exact ⟨a1, F', _, p, rfl, s, a2, by rw [gupd_ne ne]; exact h1, h2, h3, h4⟩
/-- [elt for t in d if c] -/
theorem gn_lcIfD [Calm Y] {α : Type} {ys : List α} {enc : α → D} {f : α → D} {pr : α → Bool} {ρb : α → Rho} {js : List Nat} {c : Expr} (own : List (Str × Nat)) (hN : Y.N.Nodup) (hl : G l = some (.dic kds)) (hit : ∀ ob, GE Y iter ρ (gupd G l (.lk ob (.dic kds))) (.ref l)) (hys : (kds.map fun kv => kD kv.1) = ys.map enc) (ok : BlkOk Y.N Y.sc scope own)
    (hg : ∀ y ∈ ys, GG (Y.blk scope) tg js (enc y) (wipeR ρ (own.map (·.2))) (ρb y)) (hjs : ∀ j ∈ js, j ∈ own.map (·.2)) (hc : ∀ ob, ∀ y ∈ ys, GT (Y.blk scope) c (ρb y) (gupd G l (.lk ob (.dic kds))) (pr y)) (he : ∀ ob, ∀ y ∈ ys, pr y = true → GE (Y.blk scope) elt (ρb y) (gupd G l (.lk ob (.dic kds))) (f y)) (hlen : ys.length < 100000) (hown : ∀ j ∈ own.map (·.2), ¬ OwnAt ρ j)
    (hs : ∀ env x, foldedSetIterable iter env x = pure x := by intro _ _; rfl) : GN Y (.ListComp elt [⟨tg, iter, [c], 0⟩] scope pos) ρ G (.lst ((ys.filter pr).map f)) := ⟨fun F R Gl σ H W => by
  obtain ⟨kvs, hH, hk⟩ := W.dicAt hl
  refine wE.of (fun i => pe_lock (pe_lc (Calm.cm (Y := Y) i) (by rw [Y.hN i]; exact hN) (wI.pi i) (blkOk_i ok i) (fun s H C cl fp => wG.pg (Y := Y.blk scope) (i, s, H, C, cl, fp)) (fun s H C cl fp => pts_one (wT.pt (Y := Y.blk scope) (i, s, H, C, cl, fp))) (fun s H C cl fp => wE.pe (Y := Y.blk scope) (i, s, H, C, cl, fp)) (hs _))) ?_
  refine ⟨l, .dK kvs, hH, trivial, fun od => ?_⟩
  have hi : GIc Y tg iter ρ (gupd G l (.lk (od, .dK kvs) (.dic kds))) (ys.map enc) := by
    rw [← hys]
    exact gic (gi_keys (hit _) gupd_same) gupd_same
  have := lc_go (tt := wT (Y.blk scope) c) hi hg hjs (fun y hy F R Gl σ H Q W q => ((hc (od, .dK kvs) y hy).run F R Gl σ H W).mono fun b H' ⟨e, F', Gl', s, W'⟩ => by rw [e]; exact q F' Gl' H' s W') (he (od, .dK kvs)) hlen hown (W.lock hl hk od)
  exact tLc_mono this fun v H' h => h.unlock hl⟩
/-- [elt for t in d] -/
theorem gn_lcD [Calm Y] {α : Type} {ys : List α} {enc : α → D} {f : α → D} {ρb : α → Rho} {js : List Nat} (own : List (Str × Nat)) (hN : Y.N.Nodup) (hl : G l = some (.dic kds)) (hit : ∀ ob, GE Y iter ρ (gupd G l (.lk ob (.dic kds))) (.ref l)) (hys : (kds.map fun kv => kD kv.1) = ys.map enc) (ok : BlkOk Y.N Y.sc scope own)
    (hg : ∀ y ∈ ys, GG (Y.blk scope) tg js (enc y) (wipeR ρ (own.map (·.2))) (ρb y)) (hjs : ∀ j ∈ js, j ∈ own.map (·.2)) (he : ∀ ob, ∀ y ∈ ys, GE (Y.blk scope) elt (ρb y) (gupd G l (.lk ob (.dic kds))) (f y)) (hlen : ys.length < 100000) (hown : ∀ j ∈ own.map (·.2), ¬ OwnAt ρ j)
    (hs : ∀ env x, foldedSetIterable iter env x = pure x := by intro _ _; rfl) : GN Y (.ListComp elt [⟨tg, iter, [], 0⟩] scope pos) ρ G (.lst (ys.map f)) := ⟨fun F R Gl σ H W => by
  obtain ⟨kvs, hH, hk⟩ := W.dicAt hl
  refine wE.of (fun i => pe_lock (pe_lc (Calm.cm (Y := Y) i) (by rw [Y.hN i]; exact hN) (wI.pi i) (blkOk_i ok i) (fun s H C cl fp => wG.pg (Y := Y.blk scope) (i, s, H, C, cl, fp)) (fun s H C cl fp => pts_nil) (fun s H C cl fp => wE.pe (Y := Y.blk scope) (i, s, H, C, cl, fp)) (hs _))) ?_
  refine ⟨l, .dK kvs, hH, trivial, fun od => ?_⟩
  have hi : GIc Y tg iter ρ (gupd G l (.lk (od, .dK kvs) (.dic kds))) (ys.map enc) := by
    rw [← hys]
    exact gic (gi_keys (hit _) gupd_same) gupd_same
  have := lc_go (pr := fun _ => true) (tt := tYes) hi hg hjs (fun y _ F R Gl σ H Q W q => q F Gl H (Same.refl F) W) (fun y hy _ => he (od, .dK kvs) y hy) hlen hown (W.lock hl hk od)
  rw [List.filter_eq_self.mpr fun _ _ => rfl] at this
  exact tLc_mono this fun v H' h => h.unlock hl⟩
/-- what is wished behind a statement under which the dict is locked -/
abbrev GEnds.lkd (E : GEnds) (l : Addr) (kds : List (Key × D)) (ob : Obj × HO) : GEnds where
  nx := fun ρ' G' => ∃ G3, G' = gupd G3 l (.lk ob (.dic kds)) ∧ G3 l = some (.dic kds) ∧ E.nx ρ' G3
  rt := fun d G' => ∃ G3, G' = gupd G3 l (.lk ob (.dic kds)) ∧ G3 l = some (.dic kds) ∧ E.rt d G3
theorem gs_lock (l : Addr) (hl : G l = some (.dic kds)) (h : ∀ od kvs, GS Y st ρ (gupd G l (.lk (od, .dK kvs) (.dic kds))) (E.lkd l kds (od, .dK kvs))) : GS Y st ρ G E := ⟨fun F R Gl σ H D W L => by
  obtain ⟨kvs, hH, hk⟩ := W.dicAt hl
  refine wS.of (fun i => ps_lock (wS.ps i)) ⟨l, .dK kvs, hH, trivial, fun od => ?_⟩
  refine (h od kvs).run F R _ σ _ _ (W.lock hl hk od) ⟨fun ρ' G' F' Gl' σ' H' s W' ⟨G3, e, h3, q⟩ => ?_, fun _ _ _ _ _ _ _ _ q => q.elim, fun _ _ _ _ _ _ _ _ q => q.elim, fun d G' F' Gl' v H' s f r ⟨G3, e, h3, q⟩ => ?_⟩
  · subst e
    obtain ⟨a1, a2⟩ := W'.unlock gupd_same
    rw [gupd_back h3] at a2
    exact ⟨a1, L.nx _ _ _ _ _ _ s a2 q⟩
  · subst e
    obtain ⟨a1, a2⟩ := f.unlock gupd_same
    rw [gupd_back h3] at a2
    exact ⟨a1, L.rt _ _ _ _ _ _ s a2 r q⟩⟩
/-- for t in d, d told by address: what holds is told of the dict unlocked -/
theorem gs_forD [Calm Y] {body : List Stmt} (hp : Owns Y) (hl : G l = some (.dic kds)) (hit : ∀ ob, GE Y iter ρ (gupd G l (.lk ob (.dic kds))) (.ref l)) (Iv : Nat → Rho → Gs → Prop) (h0 : Iv 0 ρ G)
    (turn : ∀ ob i d ρ' G3, (kds.map fun kv => kD kv.1)[i]? = some d → Iv i ρ' G3 → G3 l = some (.dic kds) → ∃ js ρ2, GG Y tg js d ρ' ρ2 ∧ GSs Y body ρ2 (gupd G3 l (.lk ob (.dic kds))) { (GEnds.lkd { E with nx := Iv (i + 1) } l kds ob) with ct := (GEnds.lkd { E with nx := Iv (i + 1) } l kds ob).nx, bk := (E.lkd l kds ob).nx })
    (done : ∀ ρ' G3, Iv kds.length ρ' G3 → G3 l = some (.dic kds) → E.nx ρ' G3) (hs : ∀ env x, foldedSetIterable iter env x = pure x := by intro _ _; rfl) : GS Y (.For tg iter body [] pos) ρ G E := by
  refine gs_lock l hl fun od kvs => gs_for hp (gi_keys (hit _) gupd_same) (fun i ρ' G' => ∃ G3, G' = gupd G3 l (.lk (od, .dK kvs) (.dic kds)) ∧ G3 l = some (.dic kds) ∧ Iv i ρ' G3) ⟨G, rfl, hl, h0⟩ (fun i ρ' G' ⟨G3, e, _, _⟩ => by subst e; exact gupd_same) (fun i d ρ' G' hi ⟨G3, e, h3, q⟩ => ?_) (fun ρ' G' ⟨G3, e, h3, q⟩ => ⟨G3, e, h3, done _ _ (by rw [List.length_map] at q; exact q) h3⟩) hs
  subst e
  exact turn _ i d ρ' G3 hi q h3
end
section
variable {Y : Ctx} {ρ : Rho} {G : Gs} {e : Expr} {pos p : Pos}
/-- dict(pairs), the pairs with what they do -/
theorem gw_dictP [Calm Y] {P : D → Gs → Prop} (T : Blt Y.mg) (ha : GW Y e ρ G fun d G' => ∃ kds : List (Key × D), d = .lst (kds.map pairK) ∧ ∀ l, G' l = none → P (.ref l) (gupd G' l (.dic (mergeD [] kds)))) (hg : GlS Y.sc "dict" := by rfl) (he : ∀ env, starEach [e] env = (false, eval e env) :: starEach [] env := by intro _; rfl) : GW Y (.Call (.Name "dict" p) [e] [] pos) ρ G P := ⟨fun F R Gl σ H W => by
  refine wE.of (fun i => pe_callTy (by have := @call_dictP (Y.X i) (Calm.cm (Y := Y) i); rwa [Y.hK i] at this) (gl_i hg i) (mg_i T.at i) (by decide +kernel) (pa_cons (wE.pe i) pa_nil (he _)) (by decide) (by decide) (he _) rfl) ?_
  refine (ha.run F R Gl σ H W).mono fun v H1 ⟨F1, Gl1, G1, d, s1, W1, r1, kds, ed, q⟩ => ?_
  subst ed
  obtain ⟨a, vs, ev, h1, h2⟩ := W1.lstV (.rep r1)
  subst ev
  obtain ⟨ps, kvs, ep, h3, h4⟩ := pairs_paired W1 h2
  subst ep
  refine ⟨a, ps, kvs, rfl, h1, h3, fun l hl => ?_⟩
  obtain ⟨_, b1, b2, b3, b4⟩ := W1.fresh hl
  have W2 : Wd Y F1 R (gupd Gl1 l (.dic (mergeD [] kds))) (gupd G1 l (.dic (mergeD [] kds))) ρ σ (upd H1 l (.dK (mergeK [] kvs))) := (W1.newG hl (.dic (h4.merge .nil))).pubN gupd_same b2 b3 b4
  exact ⟨F1, _, _, .ref l, s1, W2, .ref l, q l b2⟩⟩
end
section
variable {Y : Ctx} {ρ : Rho} {G : Gs} {e o : Expr} {d : D} {ds : List D} {pos p apos : Pos}
/-- o.append(e), o a new list of nobody else -/
theorem gw_appN {P : D → Gs → Prop} (ho : GN Y o ρ G (.lst ds)) (he : GE Y e ρ G d) (hl : ds.length < 100000) (k : P .non G)
    (hbase : BaseB o "append" := by intro _; rfl) (hfew : FewB e pos := by intro _; rfl) (hline : (apos.endLine == pos.line) = true := by rfl) (hs : StarB e := by intro _; rfl) :
    GW Y (.Call (.Attribute o "append" apos) [e] [] pos) ρ G P := ⟨fun F R Gl σ H W => by
  refine wE.of (t := tBM Y.K "list" rAppend (wE Y o) (wA Y [e])) (fun i => (by have := @pe_bm (Y.X i) o e [] _ _ _ apos pos _ _ _ PySem.F.plainAttrs_list PySem.F.slot_list_append PySem.F.type_list_append mt_append (wE.pe i) (wA.pa i) (hbase _) (hfew _) hline (hs _) rfl; rwa [Y.hK i] at this)) ?_
  refine (ho.run F R Gl σ H W).mono fun v H1 ⟨F1, Gl1, l, ev, s1, W1, a1, a2, a3, a4⟩ => ?_
  subst ev
  have fYR : Y.R l = none := W1.r0.none a3
  obtain ⟨_, ob, hob, r1⟩ := W1.abs.obj l _ a1
  cases r1 with
  | @lst vs _ r1 =>
  refine ⟨.inl ⟨rfl, _, .inl (.inl hob)⟩, ((gr_cons he gr_nil hs).run F1 _ Gl1 σ H1 (W1.addR a1 a2 a3 a4)).mono fun us H2 ⟨F2, Gl2, s2, W2, r2⟩ => ?_⟩
  cases r2 with
  | cons r2 r3 =>
  cases r3
  obtain ⟨_, o2, ho2, r4⟩ := W2.abs.obj l _ (W2.r l _ gupd_same)
  cases r4 with
  | @lst ws _ r4 =>
  refine ⟨l, ws, _, rfl, rfl, ho2, lt_line (by rw [r4.length]; exact hl), F2, _, G, .non, s1.trans s2, (W2.putR a3 fYR rfl (g' := .lst (ds ++ [d])) (.lst (r4.snoc r2))).subR W1.r0 (gex_upd a3), .non, k⟩⟩
end
end Gh
end

section
set_option Elab.async false
set_option linter.all false
set_option maxRecDepth 100000
set_option maxHeartbeats 4000000
namespace L2
open PySem PySem.Spec PyProof.Rows

/-! ### enumerate(d), d a dict that is locked -/
section
variable {prog : Program} {w : World} {A : Around} {E : Value → Shared → Prop} {s : Shared}
theorem nextOf_key_item {it d : Addr} {i n ep : Nat} {od : Obj} {es : Array DictEntry} {en : DictEntry} {Q : Value → Shared → Prop} (hit : s.heap.IsKeyIter it d i n ep) (hod : s.heap.get? d = some od) (hdd : od.data = .dict es ep)
    (hsz : es.size = n) (hx : es[i]? = some en) (hQ : ∀ h', h'.IsKeyIter it d (i + 1) n ep → Heap.SameBut it s.heap h' → Q en.key { s with heap := h' }) : wpAny (model prog w) A (Builtin.SmallTypes.nextOf (.ref it)) Q E s := by
  obtain ⟨o, ho, hc, hd⟩ := id hit
  unfold Builtin.SmallTypes.nextOf
  refine wpAny_bind (wpAny_callSpecial?_slot (name := Str.ofString "__next__") hit.typeIs F.slot_dict_keyiterator_next
    (wpAny_call_entry F.slot_dict_keyiterator_next hit.typeIs F.entry_dict_keyiterator_next ?_ (F.args_dict_keyiterator_next_1 _)))
  refine wpAny_bind (wpAny_pure ?_)
  refine wpAny_bind ?_
  refine wpAny_bind ?_
  first | refine wpAny_bind (wpAny_typeNameOfWhole_keyiter hit.typeIs (wpAny_pure ?_)) | refine wpAny_bind (wpAny_typeNameOf_keyiter hit.typeIs (wpAny_pure ?_))
  refine wpAny_bind (wpAny_fieldsOf ho hd ?_)
  have hown : Builtin.Dict_items.ownsTuple "dict_keyiterator" = false := by decide
  simp only [hown, Bool.false_eq_true, if_false]
  show wpAny _ _ (if (Value.ref d == Value.none) = true then _ else _) _ _ s
  rw [if_neg (show ¬ ((Value.ref d == Value.none) = true) from Bool.false_ne_true)]
  refine wpAny_bind (wpAny_pure ?_)
  refine wpAny_bind (wpAny_dictEntries hod hdd ?_)
  rw [if_neg (by rw [hsz]; simp)]
  refine wpAny_bind (wpAny_pure ?_)
  refine wpAny_bind (wpAny_dictEpoch hod hdd ?_)
  rw [if_neg (by simp)]
  refine wpAny_pure ?_
  obtain ⟨hlt', hen⟩ := Array.getElem?_eq_some_iff.mp hx
  simp only [show ¬ ((i : Int) < 0) from by omega, if_false, Int.toNat_natCast, Array.getElem?_eq_getElem hlt']
  refine wpAny_bind ?_
  first | refine wpAny_bind (wpAny_typeNameOfWhole_keyiter hit.typeIs (wpAny_pure ?_)) | refine wpAny_bind (wpAny_typeNameOf_keyiter hit.typeIs (wpAny_pure ?_))
  refine wpAny_bind (wpAny_isOneOf_keyiter hit.typeIs ?_)
  show wpAny _ _ (setField (.ref it) 1 (rawInt ((i : Int) + 1)) >>= _) _ _ s
  refine wpAny_bind (wpAny_setField ho hd (by simp) ?_)
  have hit' : (s.heap.update it (Obj.mapFields (·.setIfInBounds 1 (rawInt ((i : Int) + 1))))).IsKeyIter it d (i + 1) n ep :=
    ⟨_, Heap.get?_update_self _ ho (Obj.isFreed_of_fields (Obj.data_mapFields hd _)), (Obj.cls_mapFields ..).trans hc, by rw [Obj.data_mapFields hd]; simp [rawInt]⟩
  refine wpAny_bind (wpAny_holding ?_)
  refine wpAny_bind (wpAny_isOneOf_keyiter (s := { s with heap := s.heap.update it (Obj.mapFields (·.setIfInBounds 1 (rawInt ((i : Int) + 1)))) }) hit'.typeIs ?_)
  show wpAny _ _ (pure es[i].key) _ _ _
  rw [hen]
  exact wpAny_pure (wpAny_pure ⟨_, rfl, wpAny_pure (hQ _ hit' (Heap.SameBut.update ..))⟩)
theorem nextOf_key_end {it d : Addr} {i n ep : Nat} {od : Obj} {es : Array DictEntry} {Q : Value → Shared → Prop} (hh : A.handled = none) (hit : s.heap.IsKeyIter it d i n ep) (hod : s.heap.get? d = some od) (hdd : od.data = .dict es ep)
    (hsz : es.size = n) (hge : n ≤ i) (hE : ∀ h' e, Heap.ExtBut it s.heap h' → (∃ o, h'.get? e = some o ∧ o.cls = .type "StopIteration") → E (.ref e) { s with heap := h' }) : wpAny (model prog w) A (Builtin.SmallTypes.nextOf (.ref it)) Q E s := by
  obtain ⟨o, ho, hc, hd⟩ := id hit
  unfold Builtin.SmallTypes.nextOf
  refine wpAny_bind (wpAny_callSpecial?_slot (name := Str.ofString "__next__") hit.typeIs F.slot_dict_keyiterator_next
    (wpAny_call_entry F.slot_dict_keyiterator_next hit.typeIs F.entry_dict_keyiterator_next ?_ (F.args_dict_keyiterator_next_1 _)))
  refine wpAny_bind (wpAny_pure ?_)
  refine wpAny_bind ?_
  refine wpAny_bind ?_
  first | refine wpAny_bind (wpAny_typeNameOfWhole_keyiter hit.typeIs (wpAny_pure ?_)) | refine wpAny_bind (wpAny_typeNameOf_keyiter hit.typeIs (wpAny_pure ?_))
  refine wpAny_bind (wpAny_fieldsOf ho hd ?_)
  have hown : Builtin.Dict_items.ownsTuple "dict_keyiterator" = false := by decide
  simp only [hown, Bool.false_eq_true, if_false]
  show wpAny _ _ (if (Value.ref d == Value.none) = true then _ else _) _ _ s
  rw [if_neg (show ¬ ((Value.ref d == Value.none) = true) from Bool.false_ne_true)]
  refine wpAny_bind (wpAny_pure ?_)
  refine wpAny_bind (wpAny_dictEntries hod hdd ?_)
  rw [if_neg (by rw [hsz]; simp)]
  refine wpAny_bind (wpAny_pure ?_)
  refine wpAny_bind (wpAny_dictEpoch hod hdd ?_)
  rw [if_neg (by simp)]
  refine wpAny_pure ?_
  have hge' : es.size ≤ i := by rw [hsz]; exact hge
  simp only [show ¬ ((i : Int) < 0) from by omega, if_false, Int.toNat_natCast, Array.getElem?_eq_none hge']
  refine wpAny_bind ?_
  first | refine wpAny_bind (wpAny_typeNameOfWhole_keyiter hit.typeIs (wpAny_pure ?_)) | refine wpAny_bind (wpAny_typeNameOf_keyiter hit.typeIs (wpAny_pure ?_))
  show wpAny _ _ (setField (.ref it) 0 .none >>= _) _ _ s
  refine wpAny_bind (wpAny_setField ho hd (by simp) ?_)
  show wpAny _ _ (newExc (.type "StopIteration") [] >>= _) _ _ _
  refine wpAny_bind ?_
  simp only [newExc, newTuple]
  refine wpAny_bind (wpAny_newObj_type ?_ (by size_fits))
  refine wpAny_bind (m := firstArgMember _ _) (wpAny_of_eq (a := Value.none) (by first | rfl | (simp only [firstArgMember]; rfl)) ?_)
  refine wpAny_newObj_type ?_ (by size_fits)
  simp only [raiseNew]
  refine wpAny_bind (wpAny_handled ?_)
  first | rw [show A.in1.handled = none from hh] | rw [hh]
  refine wpAny_bind (wpAny_pure (wpAny_throw ?_))
  exact hE _ _ (((Heap.SameBut.update ..).extBut.push _).push _) ⟨_, Heap.get?_push_size _ rfl, rfl⟩
theorem draws_keys (hh : A.handled = none) (it d : Addr) (hne : d ≠ it) {od : Obj} {es : Array DictEntry} {ep : Nat} (hdd : od.data = .dict es ep) :
    Draws prog w A it [it, d] es.size (fun i v => ∃ en, es[i]? = some en ∧ v = en.key) (fun i h => h.IsKeyIter it d i es.size ep ∧ h.get? d = some od) where
  live := fun _ _ st => let ⟨o, ho, _⟩ := st.1; ⟨o, ho⟩
  frame := fun _ _ _ st hk => ⟨(let ⟨o, ho, r⟩ := st.1; ⟨o, hk it (by simp) o ho, r⟩), hk d (by simp) _ st.2⟩
  item := fun i s Q E hi st hQ => by
    refine nextOf_key_item st.1 st.2 hdd rfl (en := es[i]) (by simp [hi]) fun h' hit' hs' => ?_
    exact hQ _ h' s.toks ⟨_, by simp [hi], rfl⟩ ⟨hit', (hs'.2 d hne).trans st.2⟩ hs'
  done := fun s Q E st hE => nextOf_key_end hh st.1 st.2 hdd rfl (Nat.le_refl _) hE
end
theorem meets_enumerate_newD (d : Addr) (od : Obj) (es : Array DictEntry) (ep : Nat) (hd : (d == sysModules) = false) (hc : od.ExactDict) (hdat : od.data = .dict es ep) :
    Meets (Builtin.«enumerate.__new__» ⟨[.type "enumerate", .ref d], []⟩) (fun _ R s => s.heap.get? d = some od ∧
      R (.ok (.ret (.ref (s.heap.push { cls := .type "dict_keyiterator", data := .fields #[.ref d, .int 0 0, .int es.size 0, .int ep 0] }).objs.size)))
        { s with heap := (s.heap.push { cls := .type "dict_keyiterator", data := .fields #[.ref d, .int 0 0, .int es.size 0, .int ep 0] }).push { cls := .type "enumerate", data := .fields #[.none, .bool false, .ref s.heap.objs.size, rawInt 0, .none, .none] } }) :=
  .of_wp fun prog w A R s h => by
    obtain ⟨hp, g, dd, tk, os⟩ := s; obtain ⟨hl, h⟩ := h
    have hsub := sub_enumerate
    wp_walk using AutoSeq1.wpAny_loadPart' hl
    refine wpAny_stack_any fun st => wpAny_pure ?_
    split
    · rename_i c _ _ _ _ _
      cases (c == Value.type "enumerate")
      · wp_walk using AutoSeq1.wpAny_loadPart' hl, iter_keys hd hl hc hdat
        exact ⟨_, rfl, h⟩
      · wp_walk using AutoSeq1.wpAny_loadPart' hl, iter_keys hd hl hc hdat
        exact ⟨_, rfl, h⟩
    · wp_walk using AutoSeq1.wpAny_loadPart' hl, iter_keys hd hl hc hdat
      exact ⟨_, rfl, h⟩
section
variable {prog : Program} {w : World} {A : Around} {E : Value → Shared → Prop} {s : Shared}
theorem call_enumerate_dict {d : Addr} {od : Obj} {es : Array DictEntry} {ep : Nat} {Q : Value → Shared → Prop} (hd : (d == sysModules) = false) (ho : s.heap.get? d = some od) (hc : od.ExactDict) (hdat : od.data = .dict es ep)
    (h : ∀ h', IsEnum h' (s.heap.objs.size + 1) s.heap.objs.size 0 .none → h'.IsKeyIter s.heap.objs.size d 0 es.size ep → h'.objs.size = s.heap.objs.size + 2 →
      (∀ b o, s.heap.get? b = some o → h'.get? b = some o) → Q (.ref (s.heap.objs.size + 1)) { s with heap := h' }) :
    wpAny (model prog w) A (call (.type "enumerate") [.ref d]) Q E s := by
  refine callType_new F.called_enumerate (by decide) (F.typeCall_enumerate_1 _) (F.newCall_enumerate_1 _) (fun obj => F.args_object_init_2 obj _) F.entry_enumerate_new
    (meets_enumerate_newD d od es ep hd hc hdat) ⟨ho, ?_⟩
  have hz : (s.heap.push { cls := .type "dict_keyiterator", data := .fields #[.ref d, .int 0 0, .int es.size 0, .int ep 0] }).objs.size = s.heap.objs.size + 1 := Heap.size_push ..
  show _ ∧ _
  rw [hz]
  have he : IsEnum ((s.heap.push { cls := .type "dict_keyiterator", data := .fields #[.ref d, .int 0 0, .int es.size 0, .int ep 0] }).push
      { cls := .type "enumerate", data := .fields #[.none, .bool false, .ref s.heap.objs.size, rawInt 0, .none, .none] }) (s.heap.objs.size + 1) s.heap.objs.size 0 .none := by
    have := Heap.get?_push_size (s.heap.push { cls := .type "dict_keyiterator", data := .fields #[.ref d, .int 0 0, .int es.size 0, .int ep 0] })
      (o := { cls := .type "enumerate", data := .fields #[.none, .bool false, .ref s.heap.objs.size, rawInt 0, .none, .none] }) rfl
    rw [hz] at this; exact this
  refine ⟨⟨_, he, rfl⟩, h _ he ⟨_, Heap.get?_push_of_some _ (Heap.get?_push_size _ rfl), rfl, rfl⟩ (by rw [Heap.size_push, hz]) fun b o x => Heap.get?_push_of_some _ (Heap.get?_push_of_some _ x)⟩
end
/-- a locked dict, its keys in new pairs with their number -/
def Itek (d : Addr) (o : Obj) (kvs : List (Key × V)) : It :=
  ⟨fun i H => H d = some (.frz o (.dK kvs)) ∧ i < kvs.length, fun i H x H' => ∃ T k v, kvs[i]? = some (k, v) ∧ x = .ref T ∧ H T = none ∧ H' = upd H T (.tup [.int (i : Nat), kV k]), fun i H => H d = some (.frz o (.dK kvs)) ∧ kvs.length ≤ i⟩
theorem turn_enumD {P : Program} {w : World} {K : PySem.W.Frag} {elts : List Expr} {kk : Nat} {tpos : Pos} {d : Addr} {o : Obj} {es : Array DictEntry} {ep : Nat} {kvs : List (Key × V)} (e it : Addr) (hod : o.data = .dict es ep) :
    Turn P w K (.Tuple elts kk tpos) (Itek d o kvs) [e, it] e (fun i h => (∃ old, IsEnum h e it ((i : Nat) : Int) old) ∧ h.IsKeyIter it d i es.size ep ∧ e ≠ it) where
  mem := by simp
  obj := fun i h st b hb => by
    obtain ⟨⟨old, he⟩, ⟨o, ho, hc, hd⟩, _⟩ := st
    have e' : b = e ∨ b = it := by simpa using hb
    rcases e' with z | z
    · rw [z]; exact ⟨_, he, fun v q => nomatch q⟩
    · rw [z]; exact ⟨o, ho, fun v q => by rw [hd] at q; cases q⟩
  keep := fun i h h' st k => let ⟨⟨old, he⟩, ⟨oi, q, r⟩, hne⟩ := st; ⟨⟨old, k e (by simp) _ he⟩, ⟨oi, k it (by simp) oi q, r⟩, hne⟩
  item := by
    intro X hP hw hK hc i pins s σ H E I hf st hg
    subst hP hw hK
    obtain ⟨⟨old, he⟩, hit, hne⟩ := st
    obtain ⟨hd, hi⟩ := hg
    obtain ⟨hs, hgd, hx, es', ep', vs, hdt, hsz, kv, hm⟩ := I.frzK hd
    obtain ⟨rfl, rfl⟩ := dict_ep hod hdt
    have hel : e < s.heap.objs.size := Heap.lt_size he
    have hil : it < s.heap.objs.size := by obtain ⟨_, q, _⟩ := hit; exact Heap.lt_size q
    have hed : e ≠ d := fun z => by
      subst z
      have q := hgd.symm.trans he
      cases q
      have q2 : Value.type "enumerate" = Value.type "dict" := hx.1
      injection q2 with q2
      exact absurd q2 (by decide)
    have hdi : d ≠ it := fun z => by
      subst z
      obtain ⟨oi, q, _, q2⟩ := hit
      rw [hgd] at q; cases q
      rw [hod] at q2; cases q2
    obtain ⟨⟨k, v⟩, hkv⟩ : ∃ p, kvs[i]? = some p := ⟨kvs[i], List.getElem?_eq_getElem hi⟩
    obtain ⟨u, hu, ru⟩ := kv_get kv hkv
    refine wpAny_pyNext_enum_itemD (draws_keys (A := X.A.in1) (I.ok.hd hc) it d hdi hod) he ⟨hit, hgd⟩ (by omega) hne (by simp [hne, hed]) fun x h' tk hPx ho ⟨hit', _⟩ hT hsz2 hk => ?_
    obtain ⟨en, hen, rfl⟩ := hPx
    have hkey : (mixKind X.prog X.w).is k en.key = true := by
      obtain ⟨o2, es2, q1, _, q3, _, q5, _⟩ := hm
      rw [hgd] at q1; cases q1
      obtain ⟨rfl, _⟩ := dict_ep hod q3
      exact (q5.get? (by simpa using hen) hu).1
    refine ⟨_, rfl, wpAny_letOwnedTupleGo_enum (s := { s with heap := h', toks := tk + 1 }) ho fun h'' he' sb => ?_⟩
    have hT2 : h''.get? s.heap.objs.size = some { cls := .type "tuple", data := .seq #[.int i tk, en.key] } := (sb.2 _ (Nat.ne_of_gt hel)).trans hT
    have new : ObjOk X.prog X.w (upd H s.heap.objs.size (.tup [.int (i : Nat), kV k])) h'' s.heap.objs.size (.tup [.int (i : Nat), kV k]) :=
      ⟨by show 2 ≤ sizeLine; decide, [.int i tk, en.key], .cons ⟨_, rfl⟩ (.cons (relV_key (show keyIs k en.key = true from hkey)) .nil), ⟨_, hT2, rfl, _, rfl⟩⟩
    have I1 : Inv X pins σ (upd H s.heap.objs.size (.tup [.int (i : Nat), kV k])) { s with heap := h'', toks := tk + 1 } :=
      I.turnedNew (ch := [e, it]) (fun b ob hb q => (sb.2 b (fun z => hb (by simp [z]))).trans (hk b ob (fun z => hb (by simp [z])) (fun z => hb (by simp [z])) q)) hf (Nat.le_refl _) new
    refine ⟨.ref s.heap.objs.size, _, I1, rfl, ⟨_, k, v, hkv, rfl, I.hok.fresh (Nat.le_refl _), rfl⟩, ⟨⟨en.key, ?_⟩, (let ⟨oi, q, r⟩ := hit'; ⟨oi, (sb.2 it (Ne.symm hne)).trans q, r⟩), hne⟩, fun b hb => ?_⟩
    · have e1 : ((i + 1 : Nat) : Int) = (i : Int) + 1 := by omega
      rw [e1]; exact he'
    · have hb' : b < s.heap.objs.size := by
        have e' : b = e ∨ b = it := by simpa using hb
        rcases e' with z | z
        · rw [z]; exact hel
        · rw [z]; exact hil
      rw [upd_ne (Nat.ne_of_lt hb')]
      exact (hf b hb).1
  done := by
    intro X hP hw hK hc i pins s σ H E I hf st hg
    subst hP hw hK
    obtain ⟨⟨old, he⟩, hit, hne⟩ := st
    obtain ⟨hd, hi⟩ := hg
    obtain ⟨hs, hgd, hx, es', ep', vs, hdt, hsz, kv, hm⟩ := I.frzK hd
    obtain ⟨rfl, rfl⟩ := dict_ep hod hdt
    obtain ⟨f0, f1, f2, f3, f4, f5⟩ := hf it (by simp)
    have hT : s.TypeIs (.ref e) "enumerate" := ⟨_, he, rfl⟩
    unfold pyNext
    refine wpAny_bind (wpAny_attempt (wpAny_callSpecial?_slot (name := Str.ofString "__next__") hT F.slot_enumerate_next
      (wpAny_call_entry F.slot_enumerate_next hT F.entry_enumerate_next ?_ (F.args_enumerate_next_1 _))))
    show wpAny _ _ (field (.ref e) 2 >>= _) _ _ _
    refine wpAny_bind (wpAny_field he rfl (x := .ref it) rfl ?_)
    refine wpAny_bind (nextOf_key_end (A := X.A.in1) (I.ok.hd hc) hit hgd hod rfl (by omega) fun h' x he' hx' => ?_)
    obtain ⟨ox, ho, hcx⟩ := hx'
    refine wpAny_bind (wpAny_isInstance (T := "StopIteration") (b := true) ⟨ox, ho, hcx⟩ isSubtype_stop ?_)
    exact wpAny_pure ⟨rfl, I.turned (t' := s.toks) (fun b o hb q => he' b o hb q) f0 f1 f3 f4 f5⟩
  self := fun A i s Q E st h => let ⟨⟨_, he⟩, _⟩ := st; wpAny_pyIter_enum he h
/-- the dict is locked -/
def iEnumD (ta : TA) : TI := fun σ H R => ta σ H fun vs H1 => ∃ d o kvs, vs = [.ref d] ∧ H1 d = some (.frz o (.dK kvs)) ∧ R (Itek d o kvs) H1
theorem pi_enumD {X : Cx} {e : Expr} {ta : TA} {p pos tpos : Pos} {elts : List Expr} {kk : Nat} (hg : Gl X "enumerate") (hm : X.mg "enumerate" = none) (ha : PA X [e] ta) (hs : starEach [e] X.env = [(false, eval e X.env)] := by rfl) :
    PI X (.Tuple elts kk tpos) (.Call (.Name "enumerate" p) [e] [] pos) (iEnumD ta) := by
  refine ⟨fun pins s σ H R I h => ?_⟩
  refine Call_ (ld_blt I hg hm boot_enumerate (PyProof.Rows.callWith_type1 (thn (ha.run pos pins s σ H _ I h) fun us s1 ⟨vs, H1, I1, r1, q1⟩ => ?_) hs rfl))
  obtain ⟨d, o, kvs, ex, hd, q⟩ := q1
  subst ex
  cases r1 with
  | cons r rr =>
    cases rr
    cases r
    obtain ⟨hsm, hgd, hx, es, ep, vs, hdt, hsz, kv, hm⟩ := I1.frzK hd
    refine call_enumerate_dict hsm hgd hx hdt fun h' he hit hsz hk => wpAny_pyIter_enum he ?_
    have I2 : Inv X pins σ H1 { s1 with heap := h' } := I1.kept (t' := s1.toks) hk
    refine ⟨s1.heap.objs.size + 1, [s1.heap.objs.size + 1, s1.heap.objs.size], _, _, H1, rfl, I2, turn_enumD (s1.heap.objs.size + 1) s1.heap.objs.size hdt, ⟨⟨.none, he⟩, hit, Nat.succ_ne_self _⟩, fun b hb => ?_, q⟩
    have e' : b = s1.heap.objs.size + 1 ∨ b = s1.heap.objs.size := by simpa using hb
    have hle : s1.heap.objs.size ≤ b := by
      rcases e' with z | z
      · rw [z]; exact Nat.le_add_right _ _
      · rw [z]; exact Nat.le_refl _
    exact I1.fpOk hle (I1.hok.fresh hle)
end L2
namespace Gh
open PySem PySem.Spec PyProof.Rows L2
section
variable {Y : Ctx} {F F' : Hp} {R Gl Gl' G G' : Gs} {ρ ρ' : Rho} {σ σ' : L2.St} {H H' : Hp} {l : Addr} {kds : List (Key × D)} {kvs : List (Key × V)} {od : Obj} {e : Expr} {p pos : Pos}
/-- enumerate over the keys of a dict that is locked -/
theorem gi_enumK {elts : List Expr} {kk : Nat} {tpos : Pos} (T : Blt Y.mg) (he : GE Y e ρ G (.ref l)) (h : G l = some (.lk (od, .dK kvs) (.dic kds))) (hg : GlS Y.sc "enumerate" := by rfl) (hs : ∀ env, starEach [e] env = (false, eval e env) :: starEach [] env := by intro _; rfl) :
    GI Y (.Tuple elts kk tpos) (.Call (.Name "enumerate" p) [e] [] pos) ρ G (enumD (kds.map fun kv => kD kv.1)) (fun G' => G' l = some (.lk (od, .dK kvs) (.dic kds))) := ⟨fun F R Gl σ H Q W q => by
  refine wI.of (fun i => pi_enumD (gl_i hg i) (mg_i T.at i) (wA.pa i) (hs _)) (((gr_cons he gr_nil hs).run F R Gl σ H W).mono fun vs0 H1 ⟨F1, Gl1, s1, W1, r0⟩ => ?_)
  cases r0 with
  | cons r r2 =>
  cases r2
  have kk := (W1.lkAt h).2
  obtain rfl := r.ref_inv
  refine ⟨l, od, kvs, rfl, (W1.lkAt h).1, q _ F1 Gl1 H1 s1 W1 ⟨fun i F' R Gl G ρ σ H s W hS hi => ⟨(W.lkAt hS).1, ?_⟩, fun i F' R Gl G ρ σ H x H2 d' s W hS hi hy => ?_, fun i F' R Gl G ρ σ H s W hS hi => ⟨(W.lkAt hS).1, ?_⟩⟩⟩
  · rw [enumD_length, List.length_map, ← kk.length] at hi; exact hi
  · obtain ⟨T, k, v, e1, rfl, hT, rfl⟩ := hy
    obtain ⟨y, hy1, rfl⟩ := enumD_get hi
    rw [List.getElem?_map] at hy1
    cases e2 : kds[i]? with
    | none => rw [e2] at hy1; cases hy1
    | some kd =>
      rw [e2] at hy1; cases hy1
      obtain ⟨k2, d2⟩ := kd
      obtain ⟨v2, e3, _⟩ := kk.get' e2
      rw [e1] at e3; cases e3
      refine W.newT (.cons (.int _) (.cons ?_ .nil)) hT
      show Rep Y.K F' (kV k) (kD k)
      cases k with
      | inl i => exact .int i
      | inr x => exact .str x
  · rw [enumD_length, List.length_map, ← kk.length] at hi; exact hi⟩
end
/-! ### or, the first with what it does -/
structure GTWe (Y : Ctx) (e : Expr) (ρ : Rho) (G : Gs) (P : Bool → Gs → Prop) : Prop where
  run : ∀ F R Gl σ H, Wd Y F R Gl G ρ σ H → wW Y e σ H fun b H' => ∃ F' Gl' G', Same F F' ∧ Wd Y F' R Gl' G' ρ σ H' ∧ P b G'
section
variable {Y : Ctx} {ρ : Rho} {G : Gs} {a b e : Expr} {es : List Expr} {pos : Pos} {P : Bool → Gs → Prop}
theorem gte_w (h : GTWe Y e ρ G P) : GTe Y e ρ G P := ⟨fun F R Gl σ H W => wT.of (fun i => (wW.pw i).pt) (h.run F R Gl σ H W)⟩
theorem gtwe_or1 (h : GTe Y e ρ G P) : GTWe Y (.BoolOp .Or [e] pos) ρ G P := ⟨fun F R Gl σ H W => wW.of (fun i => pw_or1 (wT.pt i)) (h.run F R Gl σ H W)⟩
theorem gtwe_or (h : GTe Y a ρ G fun x G' => (x = true → P true G') ∧ (x = false → GTWe Y (.BoolOp .Or (b :: es) pos) ρ G' P)) : GTWe Y (.BoolOp .Or (a :: b :: es) pos) ρ G P :=
  ⟨fun F R Gl σ H W => wW.of (fun i => pw_or (wT.pt i) (wW.pw i)) ((h.run F R Gl σ H W).mono fun v H1 ⟨F', Gl', G', s, W', h1, h2⟩ => by
    cases v with
    | true => exact ⟨F', Gl', G', s, W', h1 rfl⟩
    | false => exact ((h2 rfl).run F' R Gl' σ H1 W').mono fun v H2 ⟨F2, Gl2, G2, s2, W2, q⟩ => ⟨F2, Gl2, G2, s.trans s2, W2, q⟩)⟩
end
end Gh
end

section
set_option Elab.async false
set_option linter.all false
set_option maxRecDepth 100000
set_option maxHeartbeats 4000000
namespace Gh
open PySem PySem.Spec PyProof.Rows L2
def topS (i : Nat) : Stmt := PySem.Challenge.pw_pickfloor_k07_reasons_looked_at.main.body.getD i (.Pass ⟨0, 0, 0, 0⟩)
abbrev s_is_whole : Stmt := topS 14
abbrev N_is_whole : List Str := ["thing"]
theorem sc_is_whole : FnScope N_is_whole ["thing"] (defScope s_is_whole) := ⟨rfl, rfl, rfl, by decide +kernel, rfl, by decide +kernel, by decide +kernel⟩
theorem nd_is_whole : N_is_whole.Nodup := sc_is_whole.nd
abbrev s_is_ware : Stmt := topS 15
abbrev N_is_ware : List Str := ["thing", "sign"]
theorem sc_is_ware : FnScope N_is_ware ["thing"] (defScope s_is_ware) := ⟨rfl, rfl, rfl, by decide +kernel, rfl, by decide +kernel, by decide +kernel⟩
theorem nd_is_ware : N_is_ware.Nodup := sc_is_ware.nd
abbrev s_is_make : Stmt := topS 16
abbrev N_is_make : List Str := ["thing"]
theorem sc_is_make : FnScope N_is_make ["thing"] (defScope s_is_make) := ⟨rfl, rfl, rfl, by decide +kernel, rfl, by decide +kernel, by decide +kernel⟩
theorem nd_is_make : N_is_make.Nodup := sc_is_make.nd
abbrev s_is_need : Stmt := topS 17
abbrev N_is_need : List Str := ["thing"]
theorem sc_is_need : FnScope N_is_need ["thing"] (defScope s_is_need) := ⟨rfl, rfl, rfl, by decide +kernel, rfl, by decide +kernel, by decide +kernel⟩
theorem nd_is_need : N_is_need.Nodup := sc_is_need.nd
abbrev s_joined : Stmt := topS 18
abbrev N_joined : List Str := ["one", "other", "low", "high"]
theorem sc_joined : FnScope N_joined ["one", "other"] (defScope s_joined) := ⟨rfl, rfl, rfl, by decide +kernel, rfl, by decide +kernel, by decide +kernel⟩
theorem nd_joined : N_joined.Nodup := sc_joined.nd
abbrev s_within : Stmt := topS 19
abbrev N_within : List Str := ["make", "low", "high"]
theorem sc_within : FnScope N_within ["make", "low", "high"] (defScope s_within) := ⟨rfl, rfl, rfl, by decide +kernel, rfl, by decide +kernel, by decide +kernel⟩
theorem nd_within : N_within.Nodup := sc_within.nd
abbrev s_need_wish : Stmt := topS 22
abbrev N_need_wish : List Str := ["wish", "need"]
theorem sc_need_wish : FnScope N_need_wish ["wish"] (defScope s_need_wish) := ⟨rfl, rfl, rfl, by decide +kernel, rfl, by decide +kernel, by decide +kernel⟩
theorem nd_need_wish : N_need_wish.Nodup := sc_need_wish.nd
abbrev s_agenda_of : Stmt := topS 23
abbrev N_agenda_of : List Str := ["shop", "wish", "pick", "found", "need", "at", "ware"]
theorem sc_agenda_of : FnScope N_agenda_of ["shop", "wish", "pick"] (defScope s_agenda_of) := ⟨rfl, rfl, rfl, by decide +kernel, rfl, by decide +kernel, by decide +kernel⟩
theorem nd_agenda_of : N_agenda_of.Nodup := sc_agenda_of.nd
abbrev s_need_pairs : Stmt := topS 25
abbrev N_need_pairs : List Str := ["shop", "pairs", "granted", "pair"]
theorem sc_need_pairs : FnScope N_need_pairs ["shop", "pairs"] (defScope s_need_pairs) := ⟨rfl, rfl, rfl, by decide +kernel, rfl, by decide +kernel, by decide +kernel⟩
theorem nd_need_pairs : N_need_pairs.Nodup := sc_need_pairs.nd
abbrev s_need_at : Stmt := topS 26
abbrev N_need_at : List Str := ["row", "place"]
theorem sc_need_at : FnScope N_need_at ["row", "place"] (defScope s_need_at) := ⟨rfl, rfl, rfl, by decide +kernel, rfl, by decide +kernel, by decide +kernel⟩
theorem nd_need_at : N_need_at.Nodup := sc_need_at.nd
abbrev s_stretch_of : Stmt := topS 27
abbrev N_stretch_of : List Str := ["shop", "wish", "granted", "ware", "source", "need"]
theorem sc_stretch_of : FnScope N_stretch_of ["shop", "wish", "granted", "ware", "source"] (defScope s_stretch_of) := ⟨rfl, rfl, rfl, by decide +kernel, rfl, by decide +kernel, by decide +kernel⟩
theorem nd_stretch_of : N_stretch_of.Nodup := sc_stretch_of.nd
abbrev s_left_of : Stmt := topS 28
abbrev N_left_of : List Str := ["shop", "ware", "stretches", "whole", "stretch", "make"]
theorem sc_left_of : FnScope N_left_of ["shop", "ware", "stretches"] (defScope s_left_of) := ⟨rfl, rfl, rfl, by decide +kernel, rfl, by decide +kernel, by decide +kernel⟩
theorem nd_left_of : N_left_of.Nodup := sc_left_of.nd
abbrev s_is_shaped : Stmt := topS 29
abbrev N_is_shaped : List Str := ["thing"]
theorem sc_is_shaped : FnScope N_is_shaped ["thing"] (defScope s_is_shaped) := ⟨rfl, rfl, rfl, by decide +kernel, rfl, by decide +kernel, by decide +kernel⟩
theorem nd_is_shaped : N_is_shaped.Nodup := sc_is_shaped.nd
abbrev s_is_reason : Stmt := topS 30
abbrev N_is_reason : List Str := ["shop", "wish", "granted", "thing", "ware", "sources", "branches", "stretches", "left", "make", "branch", "beside", "source"]
theorem sc_is_reason : FnScope N_is_reason ["shop", "wish", "granted", "thing"] (defScope s_is_reason) := ⟨rfl, rfl, rfl, by decide +kernel, rfl, by decide +kernel, by decide +kernel⟩
theorem nd_is_reason : N_is_reason.Nodup := sc_is_reason.nd
abbrev s_holds : Stmt := topS 31
abbrev N_holds : List Str := ["shop", "wish", "pairs", "thing"]
theorem sc_holds : FnScope N_holds ["shop", "wish", "pairs", "thing"] (defScope s_holds) := ⟨rfl, rfl, rfl, by decide +kernel, rfl, by decide +kernel, by decide +kernel⟩
theorem nd_holds : N_holds.Nodup := sc_holds.nd
abbrev s_sources_for : Stmt := topS 33
abbrev N_sources_for : List Str := ["shop", "wish", "granted", "ware", "found", "k", "need", "other"]
theorem sc_sources_for : FnScope N_sources_for ["shop", "wish", "granted", "ware"] (defScope s_sources_for) := ⟨rfl, rfl, rfl, by decide +kernel, rfl, by decide +kernel, by decide +kernel⟩
theorem nd_sources_for : N_sources_for.Nodup := sc_sources_for.nd
abbrev s_left_by : Stmt := topS 34
abbrev N_left_by : List Str := ["shop", "ware", "sources", "found", "make", "source", "low", "high"]
theorem sc_left_by : FnScope N_left_by ["shop", "ware", "sources"] (defScope s_left_by) := ⟨rfl, rfl, rfl, by decide +kernel, rfl, by decide +kernel, by decide +kernel⟩
theorem nd_left_by : N_left_by.Nodup := sc_left_by.nd
abbrev s_few_sources : Stmt := topS 35
abbrev N_few_sources : List Str := ["shop", "ware", "sources", "left", "kept", "one", "others", "other", "source", "low", "high"]
theorem sc_few_sources : FnScope N_few_sources ["shop", "ware", "sources"] (defScope s_few_sources) := ⟨rfl, rfl, rfl, by decide +kernel, rfl, by decide +kernel, by decide +kernel⟩
theorem nd_few_sources : N_few_sources.Nodup := sc_few_sources.nd
abbrev s_rests_on : Stmt := topS 36
abbrev N_rests_on : List Str := ["reason", "ware", "source", "make", "branch"]
theorem sc_rests_on : FnScope N_rests_on ["reason", "ware"] (defScope s_rests_on) := ⟨rfl, rfl, rfl, by decide +kernel, rfl, by decide +kernel, by decide +kernel⟩
theorem nd_rests_on : N_rests_on.Nodup := sc_rests_on.nd
abbrev s_dead_end : Stmt := topS 37
abbrev N_dead_end : List Str := ["shop", "wish", "granted", "wares", "ware", "sources"]
theorem sc_dead_end : FnScope N_dead_end ["shop", "wish", "granted", "wares"] (defScope s_dead_end) := ⟨rfl, rfl, rfl, by decide +kernel, rfl, by decide +kernel, by decide +kernel⟩
theorem nd_dead_end : N_dead_end.Nodup := sc_dead_end.nd
abbrev s_search : Stmt := topS 38
abbrev N_search : List Str := ["shop", "wish", "granted", "wares", "reason", "open_wares", "ware", "sources", "branches", "against", "make", "beside", "found"]
theorem sc_search : FnScope N_search ["shop", "wish", "granted"] (defScope s_search) := ⟨rfl, rfl, rfl, by decide +kernel, rfl, by decide +kernel, by decide +kernel⟩
theorem nd_search : N_search.Nodup := sc_search.nd
abbrev s_settle : Stmt := topS 39
abbrev N_settle : List Str := ["shop", "wish", "found", "ware"]
theorem sc_settle : FnScope N_settle ["shop", "wish"] (defScope s_settle) := ⟨rfl, rfl, rfl, by decide +kernel, rfl, by decide +kernel, by decide +kernel⟩
theorem nd_settle : N_settle.Nodup := sc_settle.nd
abbrev s_need_ware : Stmt := topS 44
abbrev N_need_ware : List Str := ["thing"]
theorem sc_need_ware : FnScope N_need_ware ["thing"] (defScope s_need_ware) := ⟨rfl, rfl, rfl, by decide +kernel, rfl, by decide +kernel, by decide +kernel⟩
theorem nd_need_ware : N_need_ware.Nodup := sc_need_ware.nd
abbrev s_need_needs : Stmt := topS 45
abbrev N_need_needs : List Str := ["ware", "needs", "seen", "need"]
theorem sc_need_needs : FnScope N_need_needs ["ware", "needs"] (defScope s_need_needs) := ⟨rfl, rfl, rfl, by decide +kernel, rfl, by decide +kernel, by decide +kernel⟩
theorem nd_need_needs : N_need_needs.Nodup := sc_need_needs.nd
abbrev s_Shopu_initu : Stmt := inClass (topS 46) 0
abbrev N_Shopu_initu : List Str := ["self"]
theorem sc_Shopu_initu : FnScope N_Shopu_initu ["self"] (defScope s_Shopu_initu) := ⟨rfl, rfl, rfl, by decide +kernel, rfl, by decide +kernel, by decide +kernel⟩
theorem nd_Shopu_initu : N_Shopu_initu.Nodup := sc_Shopu_initu.nd
abbrev s_Shop_put : Stmt := inClass (topS 46) 1
abbrev N_Shop_put : List Str := ["self", "ware", "make", "needs", "row"]
theorem sc_Shop_put : FnScope N_Shop_put ["self", "ware", "make", "needs"] (defScope s_Shop_put) := ⟨rfl, rfl, rfl, by decide +kernel, rfl, by decide +kernel, by decide +kernel⟩
theorem nd_Shop_put : N_Shop_put.Nodup := sc_Shop_put.nd
abbrev s_Shop_has : Stmt := inClass (topS 46) 2
abbrev N_Shop_has : List Str := ["self", "ware", "make"]
theorem sc_Shop_has : FnScope N_Shop_has ["self", "ware", "make"] (defScope s_Shop_has) := ⟨rfl, rfl, rfl, by decide +kernel, rfl, by decide +kernel, by decide +kernel⟩
theorem nd_Shop_has : N_Shop_has.Nodup := sc_Shop_has.nd
abbrev s_Shop_take : Stmt := inClass (topS 46) 3
abbrev N_Shop_take : List Str := ["self", "ware", "make", "row"]
theorem sc_Shop_take : FnScope N_Shop_take ["self", "ware", "make"] (defScope s_Shop_take) := ⟨rfl, rfl, rfl, by decide +kernel, rfl, by decide +kernel, by decide +kernel⟩
theorem nd_Shop_take : N_Shop_take.Nodup := sc_Shop_take.nd
abbrev s_Shop_makes : Stmt := inClass (topS 46) 4
abbrev N_Shop_makes : List Str := ["self", "ware"]
theorem sc_Shop_makes : FnScope N_Shop_makes ["self", "ware"] (defScope s_Shop_makes) := ⟨rfl, rfl, rfl, by decide +kernel, rfl, by decide +kernel, by decide +kernel⟩
theorem nd_Shop_makes : N_Shop_makes.Nodup := sc_Shop_makes.nd
abbrev s_Shop_needs : Stmt := inClass (topS 46) 5
abbrev N_Shop_needs : List Str := ["self", "ware", "make"]
theorem sc_Shop_needs : FnScope N_Shop_needs ["self", "ware", "make"] (defScope s_Shop_needs) := ⟨rfl, rfl, rfl, by decide +kernel, rfl, by decide +kernel, by decide +kernel⟩
theorem nd_Shop_needs : N_Shop_needs.Nodup := sc_Shop_needs.nd
abbrev s_Shop_wares : Stmt := inClass (topS 46) 6
abbrev N_Shop_wares : List Str := ["self"]
theorem sc_Shop_wares : FnScope N_Shop_wares ["self"] (defScope s_Shop_wares) := ⟨rfl, rfl, rfl, by decide +kernel, rfl, by decide +kernel, by decide +kernel⟩
theorem nd_Shop_wares : N_Shop_wares.Nodup := sc_Shop_wares.nd
abbrev s__law_mixed : Stmt := topS 48
abbrev N__law_mixed : List Str := ["_law_script", "_law_k", "_law_cell", "_law_number"]
theorem sc__law_mixed : FnScope N__law_mixed ["_law_script", "_law_k"] (defScope s__law_mixed) := ⟨rfl, rfl, rfl, by decide +kernel, rfl, by decide +kernel, by decide +kernel⟩
theorem nd__law_mixed : N__law_mixed.Nodup := sc__law_mixed.nd
abbrev s__law_names : Stmt := topS 49
abbrev N__law_names : List Str := ["_law_script", "_law_many", "_law_letters", "_law_number", "_law_step", "_law_frame", "_law_at", "_law_names_here", "_law_k", "_law_sign", "_law_j"]
theorem sc__law_names : FnScope N__law_names ["_law_script", "_law_many"] (defScope s__law_names) := ⟨rfl, rfl, rfl, by decide +kernel, rfl, by decide +kernel, by decide +kernel⟩
theorem nd__law_names : N__law_names.Nodup := sc__law_names.nd
abbrev s__law_stretch : Stmt := topS 50
abbrev N__law_stretch : List Str := ["_law_number", "_law_makes", "_law_one", "_law_other_here", "_law_way"]
theorem sc__law_stretch : FnScope N__law_stretch ["_law_number", "_law_makes"] (defScope s__law_stretch) := ⟨rfl, rfl, rfl, by decide +kernel, rfl, by decide +kernel, by decide +kernel⟩
theorem nd__law_stretch : N__law_stretch.Nodup := sc__law_stretch.nd
abbrev s__law_needs : Stmt := topS 51
abbrev N__law_needs : List Str := ["_law_script", "_law_names_here", "_law_makes", "_law_k", "_law_at", "_law_found", "_law_first", "_law_turn", "_law_number", "_law_other_here", "_law_low", "_law_high", "_law_need"]
theorem sc__law_needs : FnScope N__law_needs ["_law_script", "_law_names_here", "_law_makes", "_law_k", "_law_at"] (defScope s__law_needs) := ⟨rfl, rfl, rfl, by decide +kernel, rfl, by decide +kernel, by decide +kernel⟩
theorem nd__law_needs : N__law_needs.Nodup := sc__law_needs.nd
abbrev s__law_rows : Stmt := topS 52
abbrev N__law_rows : List Str := ["_law_script", "_law_most", "_law_many_makes", "_law_many", "_law_names_here", "_law_makes", "_law_k", "_law_number", "_law_first", "_law_rows_here", "_law_j"]
theorem sc__law_rows : FnScope N__law_rows ["_law_script", "_law_most", "_law_many_makes"] (defScope s__law_rows) := ⟨rfl, rfl, rfl, by decide +kernel, rfl, by decide +kernel, by decide +kernel⟩
theorem nd__law_rows : N__law_rows.Nodup := sc__law_rows.nd
abbrev s__law_wish : Stmt := topS 53
abbrev N__law_wish : List Str := ["_law_script", "_law_rows_here", "_law_most", "_law_names_here", "_law_found", "_law_number", "_law_turn", "_law_name", "_law_low", "_law_high"]
theorem sc__law_wish : FnScope N__law_wish ["_law_script", "_law_rows_here", "_law_most"] (defScope s__law_wish) := ⟨rfl, rfl, rfl, by decide +kernel, rfl, by decide +kernel, by decide +kernel⟩
theorem nd__law_wish : N__law_wish.Nodup := sc__law_wish.nd
abbrev s__law_shop : Stmt := topS 54
abbrev N__law_shop : List Str := ["_law_rows_here", "_law_shop_here", "_law_ware", "_law_make"]
theorem sc__law_shop : FnScope N__law_shop ["_law_rows_here"] (defScope s__law_shop) := ⟨rfl, rfl, rfl, by decide +kernel, rfl, by decide +kernel, by decide +kernel⟩
theorem nd__law_shop : N__law_shop.Nodup := sc__law_shop.nd
abbrev s__law_place : Stmt := topS 55
abbrev N__law_place : List Str := ["_law_thing", "_law_many"]
theorem sc__law_place : FnScope N__law_place ["_law_thing", "_law_many"] (defScope s__law_place) := ⟨rfl, rfl, rfl, by decide +kernel, rfl, by decide +kernel, by decide +kernel⟩
theorem nd__law_place : N__law_place.Nodup := sc__law_place.nd
abbrev s__law_granted : Stmt := topS 56
abbrev N__law_granted : List Str := ["_law_granted_here", "_law_source_here"]
theorem sc__law_granted : FnScope N__law_granted ["_law_granted_here", "_law_source_here"] (defScope s__law_granted) := ⟨rfl, rfl, rfl, by decide +kernel, rfl, by decide +kernel, by decide +kernel⟩
theorem nd__law_granted : N__law_granted.Nodup := sc__law_granted.nd
abbrev s__law_source : Stmt := topS 57
abbrev N__law_source : List Str := ["_law_rows_here", "_law_wish_here", "_law_granted_here", "_law_ware", "_law_source_here", "_law_need", "_law_needs_here"]
theorem sc__law_source : FnScope N__law_source ["_law_rows_here", "_law_wish_here", "_law_granted_here", "_law_ware", "_law_source_here"] (defScope s__law_source) := ⟨rfl, rfl, rfl, by decide +kernel, rfl, by decide +kernel, by decide +kernel⟩
theorem nd__law_source : N__law_source.Nodup := sc__law_source.nd
abbrev s__law_holds : Stmt := topS 58
abbrev N__law_holds : List Str := ["_law_rows_here", "_law_wish_here", "_law_granted_here", "_law_thing", "_law_left", "_law_source_here", "_law_stretch_here", "_law_make", "_law_branch", "_law_beside"]
theorem sc__law_holds : FnScope N__law_holds ["_law_rows_here", "_law_wish_here", "_law_granted_here", "_law_thing"] (defScope s__law_holds) := ⟨rfl, rfl, rfl, by decide +kernel, rfl, by decide +kernel, by decide +kernel⟩
theorem nd__law_holds : N__law_holds.Nodup := sc__law_holds.nd
abbrev s__law_told : Stmt := topS 59
abbrev N__law_told : List Str := ["_law_shop_here", "_law_wish_here", "_law_number", "_law_found", "_law_rows_here", "_law_k", "_law_make", "_law_reason"]
theorem sc__law_told : FnScope N__law_told ["_law_shop_here", "_law_wish_here", "_law_number"] (defScope s__law_told) := ⟨rfl, rfl, rfl, by decide +kernel, rfl, by decide +kernel, by decide +kernel⟩
theorem nd__law_told : N__law_told.Nodup := sc__law_told.nd
abbrev s__law_odd_source : Stmt := topS 60
abbrev N__law_odd_source : List Str := ["_law_wares", "_law_number", "_law_ware", "_law_make", "_law_some"]
theorem sc__law_odd_source : FnScope N__law_odd_source ["_law_wares", "_law_number"] (defScope s__law_odd_source) := ⟨rfl, rfl, rfl, by decide +kernel, rfl, by decide +kernel, by decide +kernel⟩
theorem nd__law_odd_source : N__law_odd_source.Nodup := sc__law_odd_source.nd
abbrev s__law_truths : Stmt := topS 61
abbrev N__law_truths : List Str := ["_law_thing", "_law_found", "_law_part"]
theorem sc__law_truths : FnScope N__law_truths ["_law_thing"] (defScope s__law_truths) := ⟨rfl, rfl, rfl, by decide +kernel, rfl, by decide +kernel, by decide +kernel⟩
theorem nd__law_truths : N__law_truths.Nodup := sc__law_truths.nd
abbrev s__law_other_sources : Stmt := topS 62
abbrev N__law_other_sources : List Str := ["_law_sources", "_law_wares", "_law_number", "_law_at"]
theorem sc__law_other_sources : FnScope N__law_other_sources ["_law_sources", "_law_wares", "_law_number"] (defScope s__law_other_sources) := ⟨rfl, rfl, rfl, by decide +kernel, rfl, by decide +kernel, by decide +kernel⟩
theorem nd__law_other_sources : N__law_other_sources.Nodup := sc__law_other_sources.nd
abbrev s__law_other_branches : Stmt := topS 63
abbrev N__law_other_branches : List Str := ["_law_branches", "_law_number", "_law_at", "_law_make", "_law_reason", "_law_way", "_law_odd"]
theorem sc__law_other_branches : FnScope N__law_other_branches ["_law_branches", "_law_number"] (defScope s__law_other_branches) := ⟨rfl, rfl, rfl, by decide +kernel, rfl, by decide +kernel, by decide +kernel⟩
theorem nd__law_other_branches : N__law_other_branches.Nodup := sc__law_other_branches.nd
abbrev s__law_other : Stmt := topS 64
abbrev N__law_other : List Str := ["_law_reason", "_law_wares", "_law_number", "_law_ware", "_law_sources", "_law_branches", "_law_at", "_law_make", "_law_branch", "_law_odd"]
theorem sc__law_other : FnScope N__law_other ["_law_reason", "_law_wares", "_law_number"] (defScope s__law_other) := ⟨rfl, rfl, rfl, by decide +kernel, rfl, by decide +kernel, by decide +kernel⟩
theorem nd__law_other : N__law_other.Nodup := sc__law_other.nd
abbrev s__law_copy : Stmt := topS 65
abbrev N__law_copy : List Str := ["_law_thing", "_law_parts", "_law_part"]
theorem sc__law_copy : FnScope N__law_copy ["_law_thing"] (defScope s__law_copy) := ⟨rfl, rfl, rfl, by decide +kernel, rfl, by decide +kernel, by decide +kernel⟩
theorem nd__law_copy : N__law_copy.Nodup := sc__law_copy.nd
abbrev s__law_shop_changed : Stmt := topS 66
abbrev N__law_shop_changed : List Str := ["_law_shop_here", "_law_rows_here", "_law_number", "_law_wares", "_law_ware", "_law_make", "_law_needs_here", "_law_other_here"]
theorem sc__law_shop_changed : FnScope N__law_shop_changed ["_law_shop_here", "_law_rows_here", "_law_number"] (defScope s__law_shop_changed) := ⟨rfl, rfl, rfl, by decide +kernel, rfl, by decide +kernel, by decide +kernel⟩
theorem nd__law_shop_changed : N__law_shop_changed.Nodup := sc__law_shop_changed.nd
abbrev s__law_there : Stmt := topS 67
abbrev N__law_there : List Str := ["_law_rows_here", "_law_pairs", "_law_ware", "_law_make"]
theorem sc__law_there : FnScope N__law_there ["_law_rows_here", "_law_pairs"] (defScope s__law_there) := ⟨rfl, rfl, rfl, by decide +kernel, rfl, by decide +kernel, by decide +kernel⟩
theorem nd__law_there : N__law_there.Nodup := sc__law_there.nd
abbrev s__law_spoilt : Stmt := topS 68
abbrev N__law_spoilt : List Str := ["_law_shop_here", "_law_wish_here", "_law_pairs", "_law_thing"]
theorem sc__law_spoilt : FnScope N__law_spoilt ["_law_shop_here", "_law_wish_here", "_law_pairs", "_law_thing"] (defScope s__law_spoilt) := ⟨rfl, rfl, rfl, by decide +kernel, rfl, by decide +kernel, by decide +kernel⟩
theorem nd__law_spoilt : N__law_spoilt.Nodup := sc__law_spoilt.nd
abbrev s_law : Stmt := topS 69
abbrev N_law : List Str := ["_law_script", "_law_rows_here", "_law_wish_here", "_law_shop_here", "_law_pairs", "_law_reason", "_law_asked", "_law_handed", "_law_turn", "_law_number", "_law_thing", "_law_some", "_law_at", "_law_makes", "_law_due", "_law_kept", "_law_found", "_law_one"]
theorem sc_law : FnScope N_law ["_law_script"] (defScope s_law) := ⟨rfl, rfl, rfl, by decide +kernel, rfl, by decide +kernel, by decide +kernel⟩
theorem nd_law : N_law.Nodup := sc_law.nd
/-- where the classes lie -/
structure Ads where
  PickError : Addr
  BadWare : Addr
  BadMake : Addr
  BadNeed : Addr
  Twice : Addr
  Full : Addr
  NoMake : Addr
  BadWish : Addr
  BadPick : Addr
  Shop : Addr
structure Tx (K : PySem.W.Frag) (mg : Str → Option Value) (A : Ads) : Prop where
  blt : Blt mg
  c_MOST_MAKE : ∃ t, mg "MOST_MAKE" = some (.int 999 t)
  c_MOST_SIGNS : ∃ t, mg "MOST_SIGNS" = some (.int 8 t)
  c_LETTERS : ∃ t, mg "LETTERS" = some (.str "abcdefghijklmnopqrstuvwxyz" t)
  c_MOST_WISHES : ∃ t, mg "MOST_WISHES" = some (.int 8 t)
  c_MOST_WARES : ∃ t, mg "MOST_WARES" = some (.int 12 t)
  c_MOST_MAKES : ∃ t, mg "MOST_MAKES" = some (.int 8 t)
  c_MOST_NEEDS : ∃ t, mg "MOST_NEEDS" = some (.int 6 t)
  d_is_whole : Dfn K mg "is_whole" s_is_whole ["thing"]
  d_is_ware : Dfn K mg "is_ware" s_is_ware ["thing"]
  d_is_make : Dfn K mg "is_make" s_is_make ["thing"]
  d_is_need : Dfn K mg "is_need" s_is_need ["thing"]
  d_joined : Dfn K mg "joined" s_joined ["one", "other"]
  d_within : Dfn K mg "within" s_within ["make", "low", "high"]
  d_need_wish : Dfn K mg "need_wish" s_need_wish ["wish"]
  d_agenda_of : Dfn K mg "agenda_of" s_agenda_of ["shop", "wish", "pick"]
  d_need_pairs : Dfn K mg "need_pairs" s_need_pairs ["shop", "pairs"]
  d_need_at : Dfn K mg "need_at" s_need_at ["row", "place"]
  d_stretch_of : Dfn K mg "stretch_of" s_stretch_of ["shop", "wish", "granted", "ware", "source"]
  d_left_of : Dfn K mg "left_of" s_left_of ["shop", "ware", "stretches"]
  d_is_shaped : Dfn K mg "is_shaped" s_is_shaped ["thing"]
  d_is_reason : Dfn K mg "is_reason" s_is_reason ["shop", "wish", "granted", "thing"]
  d_holds : Dfn K mg "holds" s_holds ["shop", "wish", "pairs", "thing"]
  d_sources_for : Dfn K mg "sources_for" s_sources_for ["shop", "wish", "granted", "ware"]
  d_left_by : Dfn K mg "left_by" s_left_by ["shop", "ware", "sources"]
  d_few_sources : Dfn K mg "few_sources" s_few_sources ["shop", "ware", "sources"]
  d_rests_on : Dfn K mg "rests_on" s_rests_on ["reason", "ware"]
  d_dead_end : Dfn K mg "dead_end" s_dead_end ["shop", "wish", "granted", "wares"]
  d_search : Dfn K mg "search" s_search ["shop", "wish", "granted"]
  d_settle : Dfn K mg "settle" s_settle ["shop", "wish"]
  d_need_ware : Dfn K mg "need_ware" s_need_ware ["thing"]
  d_need_needs : Dfn K mg "need_needs" s_need_needs ["ware", "needs"]
  m_Shopu_initu : DfnM K A.Shop "__init__" "Shop.__init__" s_Shopu_initu ["self"]
  m_Shop_put : DfnM K A.Shop "put" "Shop.put" s_Shop_put ["self", "ware", "make", "needs"]
  m_Shop_has : DfnM K A.Shop "has" "Shop.has" s_Shop_has ["self", "ware", "make"]
  m_Shop_take : DfnM K A.Shop "take" "Shop.take" s_Shop_take ["self", "ware", "make"]
  m_Shop_makes : DfnM K A.Shop "makes" "Shop.makes" s_Shop_makes ["self", "ware"]
  m_Shop_needs : DfnM K A.Shop "needs" "Shop.needs" s_Shop_needs ["self", "ware", "make"]
  m_Shop_wares : DfnM K A.Shop "wares" "Shop.wares" s_Shop_wares ["self"]
  d__law_mixed : Dfn K mg "_law_mixed" s__law_mixed ["_law_script", "_law_k"]
  d__law_names : Dfn K mg "_law_names" s__law_names ["_law_script", "_law_many"]
  d__law_stretch : Dfn K mg "_law_stretch" s__law_stretch ["_law_number", "_law_makes"]
  d__law_needs : Dfn K mg "_law_needs" s__law_needs ["_law_script", "_law_names_here", "_law_makes", "_law_k", "_law_at"]
  d__law_rows : Dfn K mg "_law_rows" s__law_rows ["_law_script", "_law_most", "_law_many_makes"]
  d__law_wish : Dfn K mg "_law_wish" s__law_wish ["_law_script", "_law_rows_here", "_law_most"]
  d__law_shop : Dfn K mg "_law_shop" s__law_shop ["_law_rows_here"]
  d__law_place : Dfn K mg "_law_place" s__law_place ["_law_thing", "_law_many"]
  d__law_granted : Dfn K mg "_law_granted" s__law_granted ["_law_granted_here", "_law_source_here"]
  d__law_source : Dfn K mg "_law_source" s__law_source ["_law_rows_here", "_law_wish_here", "_law_granted_here", "_law_ware", "_law_source_here"]
  d__law_holds : Dfn K mg "_law_holds" s__law_holds ["_law_rows_here", "_law_wish_here", "_law_granted_here", "_law_thing"]
  d__law_told : Dfn K mg "_law_told" s__law_told ["_law_shop_here", "_law_wish_here", "_law_number"]
  d__law_odd_source : Dfn K mg "_law_odd_source" s__law_odd_source ["_law_wares", "_law_number"]
  d__law_truths : Dfn K mg "_law_truths" s__law_truths ["_law_thing"]
  d__law_other_sources : Dfn K mg "_law_other_sources" s__law_other_sources ["_law_sources", "_law_wares", "_law_number"]
  d__law_other_branches : Dfn K mg "_law_other_branches" s__law_other_branches ["_law_branches", "_law_number"]
  d__law_other : Dfn K mg "_law_other" s__law_other ["_law_reason", "_law_wares", "_law_number"]
  d__law_copy : Dfn K mg "_law_copy" s__law_copy ["_law_thing"]
  d__law_shop_changed : Dfn K mg "_law_shop_changed" s__law_shop_changed ["_law_shop_here", "_law_rows_here", "_law_number"]
  d__law_there : Dfn K mg "_law_there" s__law_there ["_law_rows_here", "_law_pairs"]
  d__law_spoilt : Dfn K mg "_law_spoilt" s__law_spoilt ["_law_shop_here", "_law_wish_here", "_law_pairs", "_law_thing"]
  d_law : Dfn K mg "law" s_law ["_law_script"]
  k_Shop : Kls K mg "Shop" A.Shop
  n_Shop_rows : NoAttr K A.Shop "rows"
  e_PickError : Exc K mg "PickError" A.PickError
  e_BadWare : Exc K mg "BadWare" A.BadWare
  e_BadMake : Exc K mg "BadMake" A.BadMake
  e_BadNeed : Exc K mg "BadNeed" A.BadNeed
  e_Twice : Exc K mg "Twice" A.Twice
  e_Full : Exc K mg "Full" A.Full
  e_NoMake : Exc K mg "NoMake" A.NoMake
  e_BadWish : Exc K mg "BadWish" A.BadWish
  e_BadPick : Exc K mg "BadPick" A.BadPick
end Gh
end

section
set_option Elab.async false
set_option linter.all false
set_option maxRecDepth 100000
set_option maxHeartbeats 4000000
namespace Gh
open PySem PySem.Spec PyProof.Rows L2
/-! texts as lists of codes -/
def cs (x : Str) : List Nat := x.cps.toList
def mkS (l : List Nat) : Str := ⟨l.toArray⟩
theorem cs_mk (l : List Nat) : cs (mkS l) = l := rfl
theorem mk_cs (x : Str) : mkS (cs x) = x := by cases x; simp [mkS, cs]
theorem cs_inj {x y : Str} (h : cs x = cs y) : x = y := by rw [← mk_cs x, ← mk_cs y, h]
theorem cs_len (x : Str) : x.length = (cs x).length := by show x.cps.size = x.cps.toList.length; rw [Array.length_toList]
theorem cs_app (x y : Str) : cs (x ++ y) = cs x ++ cs y := TL.tl_append x y
theorem len_app (x y : Str) : (x ++ y).length = x.length + y.length := by rw [cs_len, cs_len, cs_len, cs_app, List.length_append]
theorem cs_cut (z : Str) (lo hi : Option Int) : cs (cutS z lo hi) = ((cs z).drop (HT.sIx z.length 0 lo)).take (HT.sIx z.length z.length hi - HT.sIx z.length 0 lo) := rfl
theorem cs_cut_to (z : Str) (k : Nat) : cs (cutS z none (some (k : Int))) = (cs z).take k := by
  rw [cs_cut, HT.sIx_none, HT.sIx_nat, List.drop_zero, Nat.sub_zero, cs_len]
  rw [List.take_eq_take_iff]
  omega
theorem cs_cut_from (z : Str) (k : Nat) : cs (cutS z (some (k : Int)) none) = (cs z).drop k := by
  rw [cs_cut, HT.sIx_none, HT.sIx_nat, cs_len]
  by_cases h : k ≤ (cs z).length
  · rw [Nat.min_eq_left h, List.take_of_length_le (by rw [List.length_drop]; omega)]
  · rw [Nat.min_eq_right (by omega)]
    rw [List.drop_eq_nil_of_le (Nat.le_refl _), List.drop_eq_nil_of_le (by omega)]
    simp
theorem cs_sign (c : Nat) : cs ⟨#[c]⟩ = [c] := rfl
theorem cs_empty : cs ("" : Str) = [] := by decide +kernel
theorem joinL_nil : ∀ l : List (List Nat), TL.joinL [] l = l.flatten
  | [] => rfl
  | [p] => by simp [TL.joinL]
  | p :: q :: r => by
    show p ++ ([] ++ TL.joinL [] (q :: r)) = _
    rw [joinL_nil (q :: r)]
    simp
theorem cs_join0 (ys : List Str) : cs (Txt.join ("" : Str) ys) = (ys.map cs).flatten := by
  rw [TL.join_eq]
  refine (TL.tl_join _ ys).trans ?_
  have e : TL.tl ("" : Str) = [] := cs_empty
  rw [e, joinL_nil]
  rfl
/-- signs joined -/
theorem cs_joinSigns {α : Type} (f : α → Nat) (l : List α) : cs (Txt.join ("" : Str) (l.map fun a => (⟨#[f a]⟩ : Str))) = l.map f := by
  rw [cs_join0, List.map_map]
  induction l with
  | nil => rfl
  | cons a l ih => rw [List.map_cons, List.flatten_cons, ih]; rfl
theorem joinSigns_len {α : Type} (f : α → Nat) (l : List α) (h : l.length ≤ 1000) : ((l.map fun a => (⟨#[f a]⟩ : Str)).map (·.length)).sum + (l.map fun a => (⟨#[f a]⟩ : Str)).length * ("" : Str).length ≤ 16777216 := by
  have e0 : ("" : Str).length = 0 := by decide +kernel
  rw [e0, Nat.mul_zero, Nat.add_zero, List.map_map]
  have : (l.map ((fun x => x.length) ∘ fun a => (⟨#[f a]⟩ : Str))).sum = l.length := by
    induction l with
    | nil => rfl
    | cons a l ih =>
      rw [List.map_cons, List.sum_cons, ih (by simp at h; omega), List.length_cons]
      show 1 + l.length = l.length + 1
      omega
  rw [this]
  omega
theorem strOk_cs {x : Str} : PyData.strOk x = (cs x).all fun c => decide (c < 0x110000) := by
  show x.cps.all _ = x.cps.toList.all _
  rw [Array.all_toList]
theorem strOk_small {x : Str} (h : ∀ c ∈ cs x, c < 1000) : PyData.strOk x = true := by
  rw [strOk_cs]
  refine List.all_eq_true.mpr fun c hc => decide_eq_true ?_
  have := h c hc
  omega
/-- the 26 letters at a place -/
theorem alphabet_at {i : Int} (h0 : 0 ≤ i) (h1 : i < 26) : atI (("abcdefghijklmnopqrstuvwxyz" : Str)).cps.toList i = some (97 + i.toNat) := by
  have e : (("abcdefghijklmnopqrstuvwxyz" : Str)).cps.toList = [97, 98, 99, 100, 101, 102, 103, 104, 105, 106, 107, 108, 109, 110, 111, 112, 113, 114, 115, 116, 117, 118, 119, 120, 121, 122] := by decide +kernel
  rw [e]
  obtain ⟨n, rfl⟩ : ∃ n : Nat, i = n := ⟨i.toNat, by omega⟩
  have hn : n < 26 := by omega
  rw [atI_nat (v := 97 + n)]
  · simp
  · have : ∀ n, n < 26 → ([97, 98, 99, 100, 101, 102, 103, 104, 105, 106, 107, 108, 109, 110, 111, 112, 113, 114, 115, 116, 117, 118, 119, 120, 121, 122] : List Nat)[n]? = some (97 + n) := by decide
    exact this n hn
theorem alphabet_len : (("abcdefghijklmnopqrstuvwxyz" : Str)).length = 26 := by decide +kernel
/-- an item of a list at a reckoned place -/
theorem at_in {α : Type} {xs : List α} {i : Int} (h0 : 0 ≤ i) (h1 : i < xs.length) : ∃ x, atI xs i = some x ∧ x ∈ xs := by
  obtain ⟨n, rfl⟩ : ∃ n : Nat, i = n := ⟨i.toNat, by omega⟩
  have hn : n < xs.length := by omega
  exact ⟨xs[n], atI_nat (List.getElem?_eq_getElem hn), List.getElem_mem hn⟩
theorem at_mod {α : Type} {xs : List α} {i m : Int} (hm : m = xs.length) (h : 0 < m) : ∃ x, atI xs (i % m) = some x ∧ x ∈ xs :=
  at_in (Int.emod_nonneg _ (by omega)) (by rw [← hm]; exact Int.emod_lt_of_pos _ h)
end Gh
end

section
set_option Elab.async false
set_option linter.all false
set_option maxRecDepth 100000
set_option maxHeartbeats 4000000
namespace Gh
open PySem PySem.Spec PyProof.Rows L2
/-! the defs of pickfloor/stretches.py -/
def D.isI : D → Bool
  | .int _ => true
  | _ => false
def D.toI : D → Int
  | .int i => i
  | _ => 0
/-- texts within are short enough to be measured -/
def D.fit : D → Bool
  | .str x => decide (x.length ≤ 100000) && PyData.strOk x
  | _ => true
def letter (c : Nat) : Bool := decide (97 ≤ c ∧ c ≤ 122)
def wareS (x : Str) : Bool := decide (1 ≤ x.length ∧ x.length ≤ 8) && x.cps.toList.all letter
def D.ware : D → Bool
  | .str x => wareS x
  | _ => false
def D.make : D → Bool
  | .int i => decide (1 ≤ i) && decide (i ≤ 999)
  | _ => false
def D.need : D → Bool
  | .tup [a, b, c] => a.ware && (b.make && (c.make && decide (b.toI ≤ c.toI)))
  | _ => false
theorem fit_line {n : Nat} (h : n ≤ 100000) : n ≤ sizeLine := Nat.le_trans h (by decide)
theorem letters_eq : (("abcdefghijklmnopqrstuvwxyz" : Str)).cps.toList = [97, 98, 99, 100, 101, 102, 103, 104, 105, 106, 107, 108, 109, 110, 111, 112, 113, 114, 115, 116, 117, 118, 119, 120, 121, 122] := by decide +kernel
theorem in_letters (c : Nat) : decide (c ∈ (("abcdefghijklmnopqrstuvwxyz" : Str)).cps.toList) = letter c := by
  rw [letters_eq]
  unfold letter
  refine decide_eq_decide.mpr ?_
  simp only [List.mem_cons, List.not_mem_nil, or_false]
  omega
theorem ViewD.int {G : Gs} {d : D} {i : Int} (h : ViewD G d (.int i)) : d = .int i := by
  rcases h with h | ⟨l, ds, _, _, h⟩ | ⟨l, ds, _, _, h⟩
  · exact h
  · cases h
  · cases h
theorem ViewD.str {G : Gs} {d : D} {i : Str} (h : ViewD G d (.str i)) : d = .str i := by
  rcases h with h | ⟨l, ds, _, _, h⟩ | ⟨l, ds, _, _, h⟩
  · exact h
  · cases h
  · cases h
theorem ViewD.tup {G : Gs} {d : D} {i : List D} (h : ViewD G d (.tup i)) : d = .tup i := by
  rcases h with h | ⟨l, ds, _, _, h⟩ | ⟨l, ds, _, _, h⟩
  · exact h
  · cases h
  · cases h
def sp_is_whole : GSp := fun ds G PP _ => ∃ d' d, ds = [d'] ∧ ViewD G d' d ∧ d.isD = true ∧ PP (.bl d.isI) G
def sp_is_ware : GSp := fun ds G PP _ => ∃ d' d, ds = [d'] ∧ ViewD G d' d ∧ d.isD = true ∧ d.fit = true ∧ PP (.bl d.ware) G
def sp_is_make : GSp := fun ds G PP _ => ∃ d' d, ds = [d'] ∧ ViewD G d' d ∧ d.isD = true ∧ PP (.bl d.make) G
/-- what stands in a tuple can be looked at -/
def D.seen : D → Bool
  | .tup xs => xs.all fun x => x.isD && x.fit
  | _ => true
def sp_is_need : GSp := fun ds G PP _ => ∃ d' d, ds = [d'] ∧ ViewD G d' d ∧ d.isD = true ∧ d.seen = true ∧ PP (.bl d.need) G
section
variable {P : Program} {w : World} {K : PySem.W.Frag} {mg : Str → Option Value} {base : Heap} {A : Ads}
theorem has_is_whole (T : Tx K mg A) : HasF P w K mg base 1 "is_whole" ["thing"] sp_is_whole := by
  refine has_body T.d_is_whole sc_is_whole (fun ds G P PX h => ?_) (fun f cdv A outer s H E hr F0 R0 ds G PP PX h => ?_)
  · obtain ⟨_, _, rfl, _⟩ := h; rfl
  have nd := nd_is_whole
  obtain ⟨d', d, rfl, hv, hd, q⟩ := h
  refine gss_one (gs_retE (ge_and (ge_isiD T.blt (gv_view (ge_var 0 rfl) hv) (ge_ty T.blt.at (by decide +kernel)) (.int hd)) fun _ => (ge_one (ge_not (ge_isiD T.blt (gv_view (ge_var 0 rfl) hv) (ge_ty T.blt.at (by decide +kernel)) (.bl hd))))) ?_)
  have e : (d.isInt && !d.isBl) = d.isI := by cases d <;> rfl
  rw [e]; exact q
theorem has_is_ware (T : Tx K mg A) : HasF P w K mg base 1 "is_ware" ["thing"] sp_is_ware := by
  refine has_body T.d_is_ware sc_is_ware (fun ds G P PX h => ?_) (fun f cdv A outer s H E hr F0 R0 ds G PP PX h => ?_)
  · obtain ⟨_, _, rfl, _⟩ := h; rfl
  have nd := nd_is_ware
  obtain ⟨d', d, rfl, hv, hd, hf, q⟩ := h
  -- if not isinstance(thing, str) or not 1 <= len(thing) <= MOST_SIGNS: return False
  cases d with
  | str x =>
    have hx : x.length ≤ 100000 := by simp [D.fit] at hf; exact hf.1
    cases hv.str
    refine gss_cons (gs_if (gt_w (gtw_or (gt_not (gt_val (ge_isiD T.blt (gv_view (ge_var 0 rfl) hv) (ge_ty T.blt.at (by decide +kernel)) (.str hd)))) fun _ => (gtw_or1 (gt_not (gt_chain (f := fun i j => decide (i ≤ j)) (f' := fun i j => decide (i ≤ j)) (fun _ => op_le) (fun _ => op_le) ge_int (ge_len T.blt (gv_view (ge_var 0 rfl) hv) (.str (fit_line hx))) (ge_globI T.c_MOST_SIGNS)))))) (fun hc => ?_) (fun hc => ?_))
    · refine gss_one (gs_retE ge_bl ?_)
      have e : D.ware (.str x) = false := by
        have h1 : ¬ (1 ≤ x.length ∧ x.length ≤ 8) := fun z => by
          obtain ⟨z1, z2⟩ := z
          simp [D.isStr] at hc
          omega
        show wareS x = false
        unfold wareS
        rw [decide_eq_false h1]; rfl
      rw [e] at q; exact q
    · refine gss_nil ?_
      have h1 : 1 ≤ x.length ∧ x.length ≤ 8 := by
        simp [D.isStr] at hc
        omega
      have e : D.ware (.str x) = x.cps.toList.all letter := by
        show wareS x = _
        unfold wareS
        rw [decide_eq_true h1]; rfl
      rw [e] at q
      -- for sign in thing: if sign not in LETTERS: return False
      refine gss_cons (gs_for (fun _ => PassesOwn.never) (gi_str (ge_var 0 rfl)) (fun i ρ' G' => ∃ y, ρ' = [.dat (.str x), y] ∧ G' = G ∧ (x.cps.toList.take i).all letter = true) ⟨_, rfl, rfl, rfl⟩ (fun _ _ _ _ => trivial) (fun i d ρ' G' hi h => ?_) (fun ρ' G' h => ?_))
      · obtain ⟨y, rfl, rfl, ha⟩ := h
        unfold signsD at hi
        rw [List.getElem?_map] at hi
        cases e2 : x.cps.toList[i]? with
        | none => rw [e2] at hi; cases hi
        | some c =>
        rw [e2] at hi; cases hi
        refine ⟨_, _, gg_name 1 nd, gss_one (gs_if (gt_cmp (gc_notIn (ge_var 1 rfl) (gv_ge (ge_globS T.c_LETTERS)) .sign)) (fun hc => ?_) (fun hc => ?_))⟩
        · refine gss_one (gs_retE ge_bl ?_)
          rw [in_letters] at hc
          have e3 : x.cps.toList.all letter = false := by
            rw [Bool.eq_false_iff]
            intro z
            have := List.all_eq_true.mp z c (List.mem_of_getElem? e2)
            rw [this] at hc; cases hc
          rw [e3] at q; exact q
        · refine gss_nil ⟨_, rfl, rfl, ?_⟩
          rw [in_letters] at hc
          rw [List.take_add_one, e2, List.all_append, ha]
          simpa using hc
      · obtain ⟨y, rfl, rfl, ha⟩ := h
        have hl : (signsD x).length = x.cps.toList.length := by simp [signsD]
        rw [hl, List.take_length] at ha
        rw [ha] at q
        exact gss_one (gs_retE ge_bl q)
  | _ =>
    refine gss_cons (gs_if (x := true) (gt_is (gt_w (gtw_or (y := true) (gt_not (gt_val (ge_isiD T.blt (gv_view (ge_var 0 rfl) hv) (ge_ty T.blt.at (by decide +kernel)) (.str hd)))) fun h => (by cases h))) (by simp)) (fun hc => gss_one (gs_retE ge_bl q)) (fun hc => by cases hc))
theorem ViewD.isI {G : Gs} {d d' : D} (h : ViewD G d' d) (q : d.isI = true) : d' = .int d.toI ∧ d = .int d.toI := by
  cases d with
  | int i => exact ⟨h.int, Eq.refl _⟩
  | _ => cases q
theorem has_is_make (T : Tx K mg A) : HasF P w K mg base 2 "is_make" ["thing"] sp_is_make := by
  refine has_body T.d_is_make sc_is_make (fun ds G P PX h => ?_) (fun f cdv A outer s H E hr F0 R0 ds G PP PX h => ?_)
  · obtain ⟨_, _, rfl, _⟩ := h; rfl
  have nd := nd_is_make
  obtain ⟨d', d, rfl, hv, hd, q⟩ := h
  refine gss_one (gs_retE (ge_and (y := decide (1 ≤ d.toI) && decide (d.toI ≤ 999)) (ge_gw (gw_call (has_is_whole T) (gr_cons (ge_var 0 rfl) gr_nil) ⟨d', d, rfl, hv, hd, rfl, rfl⟩)) fun h => (ge_one (ge_chain (f := fun i j => decide (i ≤ j)) (f' := fun i j => decide (i ≤ j)) (fun _ => op_le) (fun _ => op_le) ge_int (ge_is (ge_var 0 rfl) (hv.isI h).1) (ge_globI T.c_MOST_MAKE)))) ?_)
  have e : (d.isI && (decide (1 ≤ d.toI) && decide (d.toI ≤ 999))) = d.make := by
    cases d <;> rfl
  rw [e]; exact q
theorem seen_at {xs : List D} {x : D} (h : (D.tup xs).seen = true) (m : x ∈ xs) : x.isD = true ∧ x.fit = true := by
  have := List.all_eq_true.mp h x m
  simpa using this
theorem has_is_need (T : Tx K mg A) : HasF P w K mg base 3 "is_need" ["thing"] sp_is_need := by
  refine has_body T.d_is_need sc_is_need (fun ds G P PX h => ?_) (fun f cdv A outer s H E hr F0 R0 ds G PP PX h => ?_)
  · obtain ⟨_, _, rfl, _⟩ := h; rfl
  have nd := nd_is_need
  obtain ⟨d', d, rfl, hv, hd, hs, q⟩ := h
  cases d with
  | tup xs =>
    cases hv.tup
    by_cases hl : xs.length = 3
    · obtain ⟨a, b, c, rfl⟩ : ∃ a b c, xs = [a, b, c] := by
        match xs, hl with
        | [a, b, c], _ => exact ⟨a, b, c, rfl⟩
      obtain ⟨a1, a2⟩ := seen_at (x := a) hs (by simp)
      obtain ⟨b1, b2⟩ := seen_at (x := b) hs (by simp)
      obtain ⟨c1, c2⟩ := seen_at (x := c) hs (by simp)
      refine gss_cons (gs_if (gt_w (gtw_or (gt_not (gt_val (ge_isiD T.blt (gv_ge (ge_var 0 rfl)) (ge_ty T.blt.at (by decide +kernel)) (.tup hd)))) fun _ => (gtw_or (gt_cmp (gc_neI (ge_len T.blt (gv_ge (ge_var 0 rfl)) .tup) ge_int)) fun _ => (gtw_or1 (gt_not (gt_val (ge_gw (gw_call (has_is_ware T) (gr_cons (ge_ix (gv_ge (ge_var 0 rfl)) ge_int (.tup rfl)) gr_nil) ⟨a, a, rfl, .rfl, a1, a2, rfl, rfl⟩)))))))) (fun hc => ?_) (fun hc => ?_))
      · refine gss_one (gs_retE ge_bl ?_)
        have e : (D.tup [a, b, c]).need = false := by
          have h1 : a.ware = false := by simpa [D.isTup] using hc
          show (a.ware && _) = false
          rw [h1]; rfl
        rw [e] at q; exact q
      · have h1 : a.ware = true := by simpa [D.isTup] using hc
        refine gss_nil (gss_one (gs_retE (ge_and (ge_gw (gw_call (has_is_make T) (gr_cons (ge_ix (gv_ge (ge_var 0 rfl)) ge_int (.tup rfl)) gr_nil) ⟨b, b, rfl, .rfl, b1, rfl, rfl⟩)) fun hb => (ge_and (y := decide (b.toI ≤ c.toI)) (ge_gw (gw_call (has_is_make T) (gr_cons (ge_ix (gv_ge (ge_var 0 rfl)) ge_int (.tup rfl)) gr_nil) ⟨c, c, rfl, .rfl, c1, rfl, rfl⟩)) fun hc' => (ge_one (ge_cmp (gc_le (i := b.toI) (j := c.toI) (ge_ix (gv_ge (ge_var 0 rfl)) ge_int (.tup ?_)) (ge_ix (gv_ge (ge_var 0 rfl)) ge_int (.tup ?_))))))) ?_))
        · cases b <;> first | (cases hb; done) | rfl
        · cases c <;> first | (cases hc'; done) | rfl
        · have e : (D.tup [a, b, c]).need = (b.make && (c.make && decide (b.toI ≤ c.toI))) := by
            show (a.ware && _) = _
            rw [h1]; rfl
          rw [e] at q; exact q
    · have e : (D.tup xs).need = false := by
        match xs, hl with
        | [], _ => rfl
        | [_], _ => rfl
        | [_, _], _ => rfl
        | [_, _, _], h => exact absurd rfl h
        | _ :: _ :: _ :: _ :: _, _ => rfl
      rw [e] at q
      refine gss_cons (gs_if (x := true) (gt_is (gt_w (gtw_or (gt_not (gt_val (ge_isiD T.blt (gv_ge (ge_var 0 rfl)) (ge_ty T.blt.at (by decide +kernel)) (.tup hd)))) fun _ => (gtw_or (y := true) (gt_cmp (gc_neI (ge_len T.blt (gv_ge (ge_var 0 rfl)) .tup) ge_int)) fun h => absurd h ?_))) ?_) (fun hc => gss_one (gs_retE ge_bl q)) (fun hc => by cases hc))
      · simp; omega
      · simp
  | _ =>
    refine gss_cons (gs_if (x := true) (gt_is (gt_w (gtw_or (y := true) (gt_not (gt_val (ge_isiD T.blt (gv_view (ge_var 0 rfl) hv) (ge_ty T.blt.at (by decide +kernel)) (.tup hd)))) fun h => (by cases h))) (by simp)) (fun hc => gss_one (gs_retE ge_bl q)) (fun hc => by cases hc))
end
end Gh
end

section
set_option Elab.async false
set_option linter.all false
set_option maxRecDepth 100000
set_option maxHeartbeats 4000000
namespace Gh
open PySem PySem.Spec PyProof.Rows L2
/-! the laws' own numbers and names -/
def cellI (ns : List Int) (k : Int) : Int := if 0 < ns.length then (atI ns (k % ns.length)).getD 0 else 0
def mixedI (ns : List Int) (k : Int) : Int := (cellI ns k + 7919 * k) * 48271 % 2147483647 * (16807 + k * k) % 2147483629
theorem mixedI_nn {ns : List Int} {k : Int} : 0 ≤ mixedI ns k := Int.emod_nonneg _ (by decide)
theorem mixedI_lt {ns : List Int} {k : Int} : mixedI ns k < 2147483629 := Int.emod_lt_of_pos _ (by decide)
def sp_mixed : GSp := fun ds G PP _ => ∃ (ns : List Int) (k : Int), ds = [.lst (ns.map .int), .int k] ∧ 0 ≤ k ∧ k < 100000 ∧ PP (.int (mixedI ns k)) G
def sp_mixedV : GSp := fun ds G PP _ => ∃ (d : D) (ns : List Int) (k : Int), ds = [d, .int k] ∧ ViewD G d (.lst (ns.map .int)) ∧ 0 ≤ k ∧ k < 100000 ∧ PP (.int (mixedI ns k)) G
theorem atI_map {α β : Type} {f : α → β} {xs : List α} {i : Int} : atI (xs.map f) i = (atI xs i).map f := by
  unfold atI
  rw [List.length_map]
  cases ixN xs.length i with
  | none => rfl
  | some j => simp
section
variable {P : Program} {w : World} {K : PySem.W.Frag} {mg : Str → Option Value} {base : Heap} {A : Ads}
theorem has__law_mixed (T : Tx K mg A) : HasF P w K mg base 1 "_law_mixed" ["_law_script", "_law_k"] sp_mixed := by
  refine has_body T.d__law_mixed sc__law_mixed (fun ds G P PX h => ?_) (fun f cdv _ outer s H E hr F0 R0 ds G PP PX h => ?_)
  · obtain ⟨_, _, rfl, _⟩ := h; rfl
  have nd := nd__law_mixed
  obtain ⟨ns, k, rfl, h0, h1, q⟩ := h
  have hk : k * k < 10000000000 := by
    have : k * k ≤ 99999 * 99999 := Int.mul_le_mul (by omega) (by omega) h0 (by omega)
    omega
  have hk0 : 0 ≤ k * k := Int.mul_nonneg h0 h0
  refine gss_cons (gs_set 2 nd ge_int ?_)
  -- the cell, then the rest
  refine gss_cut (fun ρ' G' => ρ' = [.dat (.lst (ns.map .int)), .dat (.int k), .dat (.int (cellI ns k)), .unk] ∧ G' = G) (gs_if (gt_cmp (gc_gt (ge_len T.blt (gv_ge (ge_var 0 rfl)) .lst) ge_int)) (fun hc => ?_) (fun hc => ?_)) (fun ρ' G' ⟨eρ, eG⟩ => ?_)
  · have hl : 0 < ns.length := by simpa using hc
    obtain ⟨x, e1, e2⟩ := at_mod (xs := ns) (i := k) (m := (ns.length : Int)) rfl (by omega)
    refine gss_one (gs_set 2 nd (d := .int x) (ge_ix (gv_ge (ge_var 0 rfl)) (ge_mod (ge_var 1 rfl) (ge_len T.blt (gv_ge (ge_var 0 rfl)) .lst) (by simp; omega)) (.lst ?_)) ⟨?_, rfl⟩)
    · rw [List.length_map, atI_map, e1]; rfl
    · unfold cellI
      rw [if_pos hl, e1]; rfl
  · have hl : ¬ 0 < ns.length := by simpa using hc
    refine gss_nil ⟨?_, rfl⟩
    unfold cellI
    rw [if_neg hl]; rfl
  · subst eρ eG
    refine gss_cons (gs_set 3 nd (ge_mod (ge_mul (ge_add (ge_var 2 rfl) (ge_mul ge_int (ge_var 1 rfl) (.inl ⟨by decide, by decide⟩))) ge_int (.inr ⟨by decide, by decide⟩)) ge_int (by decide)) ?_)
    exact gss_one (gs_retE (ge_mod (ge_mul (ge_var 3 rfl) (ge_add ge_int (ge_mul (ge_var 1 rfl) (ge_var 1 rfl) (.inl ⟨by omega, by omega⟩))) (.inr ⟨by omega, by omega⟩)) ge_int (by decide)) q)
end

/-! names -/
def letL : List Nat := [97, 98, 99, 100, 101, 102, 103, 104, 105, 106, 107, 108, 109, 110, 111, 112, 113, 114, 115, 116, 117, 118, 119, 120, 121, 122]
theorem cs_abc : cs ("abcdefghijklmnopqrstuvwxyz" : Str) = letL := by decide +kernel
def sgn (i : Int) : Nat := 97 + (i % 26).toNat
theorem sgn_letter (i : Int) : letter (sgn i) = true := by
  have h1 : 0 ≤ i % 26 := Int.emod_nonneg _ (by decide)
  have h2 : i % 26 < 26 := Int.emod_lt_of_pos _ (by decide)
  unfold sgn letter
  simp
  omega
def frameL (n : Int) : List Nat := (List.range (n / 2 % 8).toNat).map fun (j : Nat) => sgn (n / 7 + 5 * (j : Nat))
def nameA (n : Int) (k : Nat) : List Nat := (frameL n).take (n / 56 % ((frameL n).length + 1)).toNat ++ [sgn (n / 504 + (if n % 2 = 0 then 3 else 23) * (k : Nat))] ++ (frameL n).drop (n / 56 % ((frameL n).length + 1)).toNat
def nameB (n : Int) (k : Nat) : List Nat := (frameL n ++ letL.drop (n / 504 % 26).toNat ++ letL).take (1 + k)
def namesP (ns : List Int) (many : Nat) : List Str :=
  let n := mixedI ns 1
  let base := (List.range many).map fun k => mkS (if n / 16 % 3 = 1 ∧ many < 9 then nameB n k else nameA n k)
  if n / 48 % 2 = 0 then base else base.reverse
theorem frameL_len {n : Int} (h : 0 ≤ n) : (frameL n).length < 8 := by
  unfold frameL
  rw [List.length_map, List.length_range]
  omega
theorem frameL_letters {n : Int} : (frameL n).all letter = true := by
  unfold frameL
  rw [List.all_map, List.all_eq_true]
  intro j _
  exact sgn_letter _
theorem letL_letters : letL.all letter = true := by decide
theorem all_take {l : List Nat} {k : Nat} (h : l.all letter = true) : (l.take k).all letter = true := List.all_eq_true.mpr fun x hx => List.all_eq_true.mp h x (List.mem_of_mem_take hx)
theorem all_drop {l : List Nat} {k : Nat} (h : l.all letter = true) : (l.drop k).all letter = true := List.all_eq_true.mpr fun x hx => List.all_eq_true.mp h x (List.mem_of_mem_drop hx)
theorem nameA_letters {n : Int} {k : Nat} : (nameA n k).all letter = true := by
  unfold nameA
  rw [List.all_append, List.all_append, all_take frameL_letters, all_drop frameL_letters, List.all_cons, sgn_letter]; rfl
theorem nameB_letters {n : Int} {k : Nat} : (nameB n k).all letter = true := by
  unfold nameB
  refine all_take ?_
  rw [List.all_append, List.all_append, frameL_letters, all_drop letL_letters, letL_letters]; rfl
theorem nameA_len {n : Int} {k : Nat} (h : 0 ≤ n) : 1 ≤ (nameA n k).length ∧ (nameA n k).length ≤ 8 := by
  have := frameL_len h
  unfold nameA
  simp only [List.length_append, List.length_take, List.length_drop, List.length_cons, List.length_nil]
  omega
theorem nameB_len {n : Int} {k : Nat} (hk : k < 8) : (nameB n k).length = 1 + k := by
  unfold nameB
  rw [List.length_take, List.length_append, List.length_append]
  have : letL.length = 26 := rfl
  omega
theorem nameA_inj {n : Int} {j k : Nat} (hj : j < 26) (hk : k < 26) (h : nameA n j = nameA n k) : j = k := by
  unfold nameA at h
  have h1 := List.append_cancel_right h
  have h2 := List.append_cancel_left h1
  simp only [List.cons.injEq, and_true] at h2
  unfold sgn at h2
  have h3 : ((n / 504 + (if n % 2 = 0 then 3 else 23) * (j : Nat)) % 26).toNat = ((n / 504 + (if n % 2 = 0 then 3 else 23) * (k : Nat)) % 26).toNat := by omega
  split at h3 <;> omega
theorem nameB_inj {n : Int} {j k : Nat} (hj : j < 8) (hk : k < 8) (h : nameB n j = nameB n k) : j = k := by
  have := congrArg List.length h
  rw [nameB_len hj, nameB_len hk] at this
  omega
theorem mkS_inj {l m : List Nat} (h : mkS l = mkS m) : l = m := by have := congrArg cs h; rwa [cs_mk, cs_mk] at this
theorem namesP_len {ns : List Int} {many : Nat} : (namesP ns many).length = many := by
  unfold namesP
  simp only
  split <;> simp
theorem wareS_mk {l : List Nat} (h : l.all letter = true) (h1 : 1 ≤ l.length) (h2 : l.length ≤ 8) : wareS (mkS l) = true := by
  unfold wareS
  have e : (mkS l).length = l.length := by rw [cs_len, cs_mk]
  rw [e, decide_eq_true ⟨h1, h2⟩, Bool.true_and]
  exact h
theorem namesP_ware {ns : List Int} {many : Nat} {x : Str} (h : x ∈ namesP ns many) : wareS x = true := by
  have hn := mixedI_nn (ns := ns) (k := 1)
  have key : ∀ k, k < many → wareS (mkS (if mixedI ns 1 / 16 % 3 = 1 ∧ many < 9 then nameB (mixedI ns 1) k else nameA (mixedI ns 1) k)) = true := by
    intro k hk
    split
    · rename_i hc
      have := nameB_len (n := mixedI ns 1) (k := k) (by omega)
      exact wareS_mk nameB_letters (by omega) (by omega)
    · have := nameA_len (n := mixedI ns 1) (k := k) hn
      exact wareS_mk nameA_letters this.1 this.2
  unfold namesP at h
  simp only at h
  have h : x ∈ (List.range many).map fun k => mkS (if mixedI ns 1 / 16 % 3 = 1 ∧ many < 9 then nameB (mixedI ns 1) k else nameA (mixedI ns 1) k) := by
    split at h
    · exact h
    · exact List.mem_reverse.mp h
  obtain ⟨k, hk, rfl⟩ := List.mem_map.mp h
  exact key k (List.mem_range.mp hk)
theorem nodup_map_range {α : Type} {f : Nat → α} {n : Nat} (h : ∀ i j, i < n → j < n → f i = f j → i = j) : ((List.range n).map f).Nodup := by
  rw [List.nodup_iff_pairwise_ne, List.pairwise_map]
  refine List.Pairwise.imp_of_mem (fun {a b} ha hb hab e => hab (h a b (List.mem_range.mp ha) (List.mem_range.mp hb) e)) (List.nodup_iff_pairwise_ne.mp (List.nodup_range))
theorem namesP_nodup {ns : List Int} {many : Nat} (hm : many ≤ 26) : (namesP ns many).Nodup := by
  have key : ((List.range many).map fun k => mkS (if mixedI ns 1 / 16 % 3 = 1 ∧ many < 9 then nameB (mixedI ns 1) k else nameA (mixedI ns 1) k)).Nodup := by
    refine nodup_map_range fun i j hi hj e => ?_
    have e := mkS_inj e
    split at e
    · rename_i hc
      exact nameB_inj (by omega) (by omega) e
    · exact nameA_inj (by omega) (by omega) e
  unfold namesP
  simp only
  split
  · exact key
  · exact (List.reverse_perm _).nodup_iff.mpr key
theorem ware_ok {x : Str} (h : wareS x = true) : x.length ≤ 8 ∧ PyData.strOk x = true ∧ 1 ≤ x.length := by
  unfold wareS at h
  rw [Bool.and_eq_true] at h
  have h1 := of_decide_eq_true h.1
  refine ⟨h1.2, strOk_small fun c hc => ?_, h1.1⟩
  have := List.all_eq_true.mp h.2 c hc
  unfold letter at this
  have := of_decide_eq_true this
  omega
end Gh
end

section
set_option Elab.async false
set_option linter.all false
set_option maxRecDepth 100000
set_option maxHeartbeats 4000000
namespace Gh
open PySem PySem.Spec PyProof.Rows L2
def sp_names : GSp := fun ds G PP _ => ∃ (ns : List Int) (many : Nat), ds = [.lst (ns.map .int), .int many] ∧ many ≤ 26 ∧ PP (.lst ((namesP ns many).map .str)) G
theorem rngD_eq {lo : Int} {n : Nat} : rngD lo n = (List.range n).map fun i => D.int (lo + (i : Nat)) := rfl
theorem range_take {n i : Nat} (h : i < n) : (List.range n).take (i + 1) = (List.range n).take i ++ [i] := by
  rw [List.take_add_one, List.getElem?_range h]; rfl
theorem mod_int {a : Int} {m : Nat} (h : 0 < (m : Int)) : ∃ n : Nat, a % m = (n : Int) ∧ n < m := by
  refine ⟨(a % m).toNat, ?_, ?_⟩
  · have := Int.emod_nonneg a (b := m) (by omega)
    omega
  · have := Int.emod_lt_of_pos a h
    have := Int.emod_nonneg a (b := m) (by omega)
    omega
section
variable {P : Program} {w : World} {K : PySem.W.Frag} {mg : Str → Option Value} {base : Heap} {A : Ads}
theorem has__law_names (T : Tx K mg A) : HasF P w K mg base 2 "_law_names" ["_law_script", "_law_many"] sp_names := by
  refine has_body T.d__law_names sc__law_names (fun ds G P PX h => ?_) (fun f cdv _ outer s H E hr F0 R0 ds G PP PX h => ?_)
  · obtain ⟨_, _, rfl, _⟩ := h; rfl
  have nd := nd__law_names
  obtain ⟨ns, many, rfl, hmany, q⟩ := h
  have hn := mixedI_nn (ns := ns) (k := 1)
  have hn2 := mixedI_lt (ns := ns) (k := 1)
  generalize en : mixedI ns 1 = n at *
  refine gss_cons (gs_set 2 nd ge_str ?_)
  refine gss_cons (gs_set 3 nd (ge_gw (gw_call (has__law_mixed T) (gr_cons (ge_var 0 rfl) (gr_cons ge_int gr_nil)) ⟨ns, 1, rfl, by decide, by decide, rfl, rfl⟩)) ?_)
  rw [en]
  refine gss_cons (gs_set 4 nd (d := .int (if n % 2 = 0 then 3 else 23)) (ge_ix (gv_ge (ge_n (gn_lst (gr_cons ge_int (gr_cons ge_int gr_nil))))) (ge_mod (ge_var 3 rfl) ge_int (by decide)) (.lst ?_)) ?_)
  · have : n % 2 = 0 ∨ n % 2 = 1 := by omega
    rcases this with e | e <;> rw [e] <;> rfl
  -- the frame
  have hfl := frameL_len hn
  have efr : Txt.join ("" : Str) ((List.range (n / 2 % 8).toNat).map fun (j : Nat) => (⟨#[sgn (n / 7 + 5 * (j : Nat))]⟩ : Str)) = mkS (frameL n) := cs_inj (by rw [cs_joinSigns, cs_mk]; rfl)
  refine gss_cons (gs_set 5 nd (d := .str (mkS (frameL n))) (ge_is (ge_join (ys := (List.range (n / 2 % 8).toNat).map fun (j : Nat) => (⟨#[sgn (n / 7 + 5 * (j : Nat))]⟩ : Str)) ge_str (gv_ge (ge_is (ge_n (gn_lc (ys := List.range (n / 2 % 8).toNat) (enc := fun (j : Nat) => .int (0 + (j : Nat))) (f := fun (j : Nat) => .str ⟨#[sgn (n / 7 + 5 * (j : Nat))]⟩) [("_law_j", 10)] nd (gic (gi_range1 T.blt (ge_mod (ge_fdiv (ge_var 3 rfl) ge_int ⟨by decide, by decide⟩) ge_int (by decide)) (by omega)) trivial) (blkOk_by (N := N__law_names) (sc := defScope s__law_names) (by decide +kernel)) (fun y hy => gg_name 10 nd) (by decide) (fun y hy => (ge_ix (gv_ge (ge_var 2 rfl)) (ge_mod (ge_add (ge_fdiv (ge_var 3 rfl) ge_int ⟨by decide, by decide⟩) (ge_mul ge_int (ge_var 10 rfl) (.inl ⟨by decide, by decide⟩))) ge_int (by decide)) (.str (by decide +kernel) ?_))) ?_ ?_)) ?_)) ?_) (congrArg D.str efr)) ?_)
  · rw [alphabet_at (Int.emod_nonneg _ (by decide)) (Int.emod_lt_of_pos _ (by decide)), Int.zero_add]; rfl
  · rw [List.length_range]; omega
  · rintro j hj ⟨x, e1, e2⟩
    have : j = 10 := by simpa using hj
    subst this
    cases e1; cases e2
  · rw [List.map_map]; rfl
  · exact joinSigns_len _ _ (by rw [List.length_range]; omega)
  have eL : (mkS (frameL n)).length = (frameL n).length := by rw [cs_len, cs_mk]
  obtain ⟨at', ea, hat⟩ := mod_int (a := n / 56) (m := (frameL n).length + 1) (by omega)
  refine gss_cons (gs_set 6 nd (d := .int at') (ge_is (ge_mod (ge_fdiv (ge_var 3 rfl) ge_int ⟨by decide, by decide⟩) (ge_add (ge_len T.blt (gv_ge (ge_var 5 rfl)) (.str ?_)) ge_int) ?_) ?_) ?_)
  · rw [eL]; exact Nat.le_trans (Nat.le_of_lt hfl) (by decide)
  · omega
  · rw [eL]
    exact congrArg D.int (by push_cast at ea; exact ea)
  refine gss_cons (gs_own 7 nd (gn_lst gr_nil) ?_)
  -- the names with one sign put in
  refine gss_cons (gs_for (fun _ => PassesOwn.never) (gi_range1 T.blt (ge_var 1 rfl) (by omega)) (fun i ρ' G' => G' = G ∧ ∃ y z, ρ' = [.dat (.lst (ns.map .int)), .dat (.int many), .dat (.str "abcdefghijklmnopqrstuvwxyz"), .dat (.int n), .dat (.int (if n % 2 = 0 then 3 else 23)), .dat (.str (mkS (frameL n))), .dat (.int at'), .own (((List.range many).take i).map fun k => .str (mkS (nameA n k))), y, z, .unk]) ⟨rfl, _, _, rfl⟩ (fun _ _ _ _ => trivial) (fun i d ρ' G' hi h => ?_) (fun ρ' G' h => ?_))
  · obtain ⟨rfl, y, z, rfl⟩ := h
    obtain ⟨rfl, hlt⟩ := rngD_get hi
    have hlt : i < many := by omega
    refine ⟨_, _, gg_name 8 nd, ?_⟩
    refine gss_cons (gs_set 9 nd (d := .str ⟨#[sgn (n / 504 + (if n % 2 = 0 then 3 else 23) * (i : Nat))]⟩) (ge_ix (gv_ge (ge_var 2 rfl)) (ge_mod (ge_add (ge_fdiv (ge_var 3 rfl) ge_int ⟨by decide, by decide⟩) (ge_mul (ge_var 4 rfl) (ge_var 8 rfl) (.inr ⟨by omega, by omega⟩))) ge_int (by decide)) (.str (by decide +kernel) ?_)) ?_)
    · rw [alphabet_at (Int.emod_nonneg _ (by decide)) (Int.emod_lt_of_pos _ (by decide)), Int.zero_add]; rfl
    have e1 : cutS (mkS (frameL n)) none (some (at' : Int)) = mkS ((frameL n).take at') := cs_inj (by rw [cs_cut_to, cs_mk, cs_mk])
    have e2 : cutS (mkS (frameL n)) (some (at' : Int)) none = mkS ((frameL n).drop at') := cs_inj (by rw [cs_cut_from, cs_mk, cs_mk])
    have fl : (mkS (frameL n)).length ≤ sizeLine := by rw [eL]; exact Nat.le_trans (Nat.le_of_lt hfl) (by decide)
    refine gss_one (gs_appI 7 rfl (d := .str (mkS (nameA n i))) (ds' := ((List.range many).take (i + 1)).map fun k => .str (mkS (nameA n k))) (ge_is (ge_addD (gv_ge (ge_addD (gv_ge (ge_sliceS (ge_var 5 rfl) go_none (go_some (ge_var 6 rfl)) fl)) (gv_ge (ge_var 9 rfl)) (.str ?_))) (gv_ge (ge_sliceS (ge_var 5 rfl) (go_some (ge_var 6 rfl)) go_none fl)) (.str ?_)) ?_) ?_ ?_ ⟨rfl, _, _, rfl⟩)
    · rw [e1, cs_len, cs_len, cs_mk, cs_sign, List.length_take]
      exact Nat.le_trans (show _ ≤ 100 by simp; omega) (by decide)
    · rw [e1, e2, cs_len, cs_len, cs_app, cs_mk, cs_mk, cs_sign, List.length_append, List.length_take, List.length_drop]
      exact Nat.le_trans (show _ ≤ 100 by simp; omega) (by decide)
    · rw [e1, e2]
      refine congrArg D.str (cs_inj ?_)
      rw [cs_app, cs_app, cs_mk, cs_mk, cs_mk, cs_sign]
      unfold nameA
      have ea' : n / 56 % (((frameL n).length : Int) + 1) = at' := by push_cast at ea; exact ea
      rw [ea']; rfl
    · rw [List.length_map, List.length_take, List.length_range]; omega
    · rw [range_take hlt, List.map_append]; rfl
  · obtain ⟨rfl, y, z, rfl⟩ := h
    rw [rngD_length, List.take_of_length_le (by rw [List.length_range]; omega)]
    refine gss_frz 7 rfl (gss_forget 8 ?_)
    refine gss_cut (fun ρ' G'' => ρ' = [.dat (.lst (ns.map .int)), .dat (.int many), .dat (.str "abcdefghijklmnopqrstuvwxyz"), .dat (.int n), .dat (.int (if n % 2 = 0 then 3 else 23)), .dat (.str (mkS (frameL n))), .dat (.int at'), .dat (.lst (((List.range many).map fun k => mkS (if n / 16 % 3 = 1 ∧ many < 9 then nameB n k else nameA n k)).map .str)), .unk, z, .unk] ∧ G'' = G') (gs_if (gt_w (gtw_and (gt_cmp (gc_eqI (ge_mod (ge_fdiv (ge_var 3 rfl) ge_int ⟨by decide, by decide⟩) ge_int (by decide)) ge_int)) fun _ => (gtw_and1 (gt_cmp (gc_lt (ge_var 1 rfl) ge_int))))) (fun hc => ?_) (fun hc => ?_)) (fun ρ' G'' ⟨eρ, eG⟩ => ?_)
    · have hc : n / 16 % 3 = 1 ∧ many < 9 := by
        simp at hc
        exact ⟨hc.1, by omega⟩
      have eB : ∀ k : Nat, cutS (mkS (frameL n) ++ cutS ("abcdefghijklmnopqrstuvwxyz" : Str) (some (n / 504 % 26)) none ++ ("abcdefghijklmnopqrstuvwxyz" : Str)) none (some (1 + (0 + (k : Nat)))) = mkS (nameB n k) := fun k => by
        have e1 : (1 : Int) + (0 + (k : Nat)) = ((1 + k : Nat) : Int) := by omega
        obtain ⟨m, e2, _⟩ := mod_int (a := n / 504) (m := 26) (by decide)
        have e2 : n / 504 % 26 = (m : Int) := e2
        refine cs_inj ?_
        rw [e1, cs_cut_to, cs_app, cs_app, e2, cs_cut_from, cs_mk, cs_mk, cs_abc]
        unfold nameB
        rw [e2]; rfl
      have fl : (mkS (frameL n)).length ≤ 8 := by rw [eL]; omega
      have cl : (cutS ("abcdefghijklmnopqrstuvwxyz" : Str) (some (n / 504 % 26)) none).length ≤ 26 := by
        obtain ⟨m, e2, _⟩ := mod_int (a := n / 504) (m := 26) (by decide)
        have e2 : n / 504 % 26 = (m : Int) := e2
        rw [e2, cs_len, cs_cut_from, cs_abc, List.length_drop]
        have : letL.length = 26 := rfl
        omega
      refine gss_cons (gs_lc 7 (ys := List.range ((many : Nat) : Int).toNat) (enc := fun (k : Nat) => .int (0 + (k : Nat))) (f := fun (k : Nat) => .str (mkS (nameB n k))) [("_law_k", 8)] nd (gic (gi_range1 T.blt (ge_var 1 rfl) (by omega)) trivial) (blkOk_by (N := N__law_names) (sc := defScope s__law_names) (by decide +kernel)) (fun y hy => gg_name 8 nd) (by decide) (fun k hy => (ge_is (ge_sliceS (ge_addD (gv_ge (ge_addD (gv_ge (ge_var 5 rfl)) (gv_ge (ge_sliceS (ge_var 2 rfl) (go_some (ge_mod (ge_fdiv (ge_var 3 rfl) ge_int ⟨by decide, by decide⟩) ge_int (by decide))) go_none (by decide +kernel))) (.str ?_))) (gv_ge (ge_var 2 rfl)) (.str ?_)) go_none (go_some (ge_add ge_int (ge_var 8 rfl))) ?_) (congrArg D.str (eB k)))) ?_ ?_ ?_)
      · exact Nat.le_trans (show _ ≤ 100 by omega) (by decide)
      · rw [len_app, alphabet_len]; exact Nat.le_trans (show _ ≤ 100 by omega) (by decide)
      · rw [len_app, len_app, alphabet_len]; exact Nat.le_trans (show _ ≤ 100 by omega) (by decide)
      · rw [List.length_range]; omega
      · rintro j hj ⟨x, e1, e2⟩
        have : j = 8 := by simpa using hj
        subst this
        cases e1; cases e2
      · refine gss_frz 7 rfl (gss_nil ⟨?_, rfl⟩)
        simp only [if_pos hc, List.map_map]
        rfl
    · have hc : ¬ (n / 16 % 3 = 1 ∧ many < 9) := by
        rintro ⟨h1, h2⟩
        simp [h1] at hc
        omega
      refine gss_nil ⟨?_, rfl⟩
      simp only [if_neg hc, List.map_map]
      rfl
    · subst eρ eG
      refine gss_one (gs_retE (ge_n (gn_step (ds := ((List.range many).map fun k => mkS (if n / 16 % 3 = 1 ∧ many < 9 then nameB n k else nameA n k)).map .str) (i := if n / 48 % 2 = 0 then 1 else -1) (gv_ge (ge_var 7 rfl)) (ge_ix (gv_ge (ge_n (gn_lst (gr_cons ge_int (gr_cons (ge_neg ge_int) gr_nil))))) (ge_mod (ge_fdiv (ge_var 3 rfl) ge_int ⟨by decide, by decide⟩) ge_int (by decide)) (.lst ?_)) ?_)) ?_)
      · have : n / 48 % 2 = 0 ∨ n / 48 % 2 = 1 := by omega
        rcases this with e | e <;> rw [e] <;> rfl
      · split <;> simp
      · have e : (if (if n / 48 % 2 = 0 then (1 : Int) else -1) = 1 then ((List.range many).map fun k => mkS (if n / 16 % 3 = 1 ∧ many < 9 then nameB n k else nameA n k)).map D.str else (((List.range many).map fun k => mkS (if n / 16 % 3 = 1 ∧ many < 9 then nameB n k else nameA n k)).map D.str).reverse) = (namesP ns many).map .str := by
          unfold namesP
          simp only [en]
          by_cases e : n / 48 % 2 = 0
          · simp only [if_pos e, if_true]
          · simp only [if_neg e]
            rw [if_neg (by decide), ← List.map_reverse]
        rw [e]
        exact q
end
end Gh
end

section
set_option Elab.async false
set_option linter.all false
set_option maxRecDepth 100000
set_option maxHeartbeats 4000000
namespace Gh
open PySem PySem.Spec PyProof.Rows L2
/-! pickfloor/shop.py: what it keeps, in plain lists -/
section
variable {α β : Type} [DecidableEq α]
def look (l : List (α × β)) (k : α) : Option β := (l.find? fun p => decide (p.1 = k)).map (·.2)
def lput (l : List (α × β)) (k : α) (v : β) : List (α × β) := if l.any (fun p => decide (p.1 = k)) then l.map (fun p => if p.1 = k then (p.1, v) else p) else l ++ [(k, v)]
def ldrop (l : List (α × β)) (k : α) : List (α × β) := l.filter fun p => decide (p.1 ≠ k)
theorem look_nil {k : α} : look ([] : List (α × β)) k = none := rfl
theorem look_cons {p : α × β} {l : List (α × β)} {k : α} : look (p :: l) k = if p.1 = k then some p.2 else look l k := by
  unfold look
  rw [List.find?_cons]
  by_cases e : p.1 = k <;> simp [e]
theorem look_mem {l : List (α × β)} {k : α} {v : β} (h : look l k = some v) : (k, v) ∈ l := by
  induction l with
  | nil => cases h
  | cons p l ih =>
    rw [look_cons] at h
    split at h
    · rename_i e; cases h; subst e; exact List.mem_cons_self ..
    · exact List.mem_cons_of_mem _ (ih h)
theorem look_isSome {l : List (α × β)} {k : α} : (look l k).isSome = l.any fun p => decide (p.1 = k) := by
  induction l with
  | nil => rfl
  | cons p l ih =>
    rw [look_cons, List.any_cons, ← ih]
    by_cases e : p.1 = k <;> simp [e]
theorem look_none {l : List (α × β)} {k : α} (h : look l k = none) : ∀ p ∈ l, p.1 ≠ k := by
  intro p hp e
  have : (look l k).isSome = true := by rw [look_isSome, List.any_eq_true]; exact ⟨p, hp, by simpa using e⟩
  rw [h] at this; cases this
theorem lput_new {l : List (α × β)} {k : α} {v : β} (h : look l k = none) : lput l k v = l ++ [(k, v)] := by
  unfold lput
  rw [← look_isSome, h]; rfl
theorem look_append {l m : List (α × β)} {k : α} : look (l ++ m) k = (look l k).or (look m k) := by
  induction l with
  | nil => rfl
  | cons p l ih =>
    rw [List.cons_append, look_cons, look_cons, ih]
    split <;> rfl
theorem look_lput {l : List (α × β)} {k j : α} {v : β} : look (lput l k v) j = if k = j then some v else look l j := by
  unfold lput
  split
  · rename_i h
    have key : ∀ m : List (α × β), look (m.map fun p => if p.1 = k then (p.1, v) else p) j = if k = j then (if (look m k).isSome then some v else none) else look m j := by
      intro m
      induction m with
      | nil => simp [look_nil]
      | cons p m ih =>
        rw [List.map_cons, look_cons, ih, look_cons, look_cons]
        by_cases e : p.1 = k
        · subst e; by_cases e2 : p.1 = j <;> simp [e2]
        · by_cases e2 : p.1 = j
          · have : ¬ k = j := fun z => e (e2.trans z.symm)
            simp only [if_neg e, if_pos e2, if_neg this]
          · simp [e, e2]
    rw [key, look_isSome, h]; rfl
  · rename_i h
    rw [look_append, look_cons, look_nil]
    by_cases e : k = j
    · subst e
      have : look l k = none := by
        cases q : look l k with
        | none => rfl
        | some v => have := look_isSome (l := l) (k := k); rw [q] at this; exact absurd this.symm h
      rw [this]; rfl
    · simp [e]
theorem look_ldrop {l : List (α × β)} {k j : α} : look (ldrop l k) j = if k = j then none else look l j := by
  unfold ldrop
  induction l with
  | nil => simp [look_nil]
  | cons p l ih =>
    rw [List.filter_cons]
    by_cases e : p.1 = k
    · subst e
      simp only [ne_eq, not_true_eq_false, decide_false, Bool.false_eq_true, if_false]
      rw [ih, look_cons]
      by_cases e2 : p.1 = j <;> simp [e2]
    · simp only [ne_eq, e, not_false_eq_true, decide_true, if_true]
      rw [look_cons, ih, look_cons]
      by_cases e2 : p.1 = j
      · have : ¬ k = j := fun z => e (e2.trans z.symm)
        simp [e2, this]
      · simp [e2]
theorem lput_length {l : List (α × β)} {k : α} {v : β} : (lput l k v).length = if (look l k).isSome then l.length else l.length + 1 := by
  unfold lput
  rw [look_isSome]
  split <;> simp
theorem ldrop_length {l : List (α × β)} {k : α} : (ldrop l k).length ≤ l.length := List.length_filter_le ..
/-- the keys, coded -/
def codeL (f : α → Key) (g : β → D) (l : List (α × β)) : List (Key × D) := l.map fun p => (f p.1, g p.2)
theorem codeL_length {f : α → Key} {g : β → D} {l : List (α × β)} : (codeL f g l).length = l.length := by simp [codeL]
theorem valD_code {f : α → Key} (hf : ∀ a b, f a = f b → a = b) {g : β → D} {l : List (α × β)} {k : α} : valD (codeL f g l) (f k) = (look l k).map g := by
  unfold valD codeL
  induction l with
  | nil => rfl
  | cons p l ih =>
    rw [List.map_cons, List.find?_cons, look_cons]
    by_cases e : p.1 = k
    · subst e; simp
    · have : ¬ f p.1 = f k := fun z => e (hf _ _ z)
      simp only [this, decide_false, if_neg e]
      exact ih
theorem any_code {f : α → Key} (hf : ∀ a b, f a = f b → a = b) {g : β → D} {l : List (α × β)} {k : α} : ((codeL f g l).any fun p => decide (p.1 = f k)) = l.any fun p => decide (p.1 = k) := by
  unfold codeL
  rw [List.any_map]
  congr 1
  funext p
  show decide (f p.1 = f k) = _
  by_cases e : p.1 = k
  · simp [e]
  · have : ¬ f p.1 = f k := fun z => e (hf _ _ z)
    simp [e, this]
theorem putD_code {f : α → Key} (hf : ∀ a b, f a = f b → a = b) {g : β → D} {l : List (α × β)} {k : α} {v : β} : putD (codeL f g l) (f k) (g v) = codeL f g (lput l k v) := by
  unfold putD lput
  rw [any_code hf]
  split
  · unfold codeL
    rw [List.map_map, List.map_map]
    apply List.map_congr_left
    intro p _
    show (if f p.1 = f k then (f p.1, g v) else (f p.1, g p.2)) = _
    by_cases e : p.1 = k
    · simp [e]
    · have : ¬ f p.1 = f k := fun z => e (hf _ _ z)
      simp [e, this]
  · simp [codeL]
theorem dropD_code {f : α → Key} (hf : ∀ a b, f a = f b → a = b) {g : β → D} {l : List (α × β)} {k : α} : dropD (codeL f g l) (f k) = codeL f g (ldrop l k) := by
  unfold dropD ldrop codeL
  rw [List.filter_map]
  congr 1
  apply List.filter_congr
  intro p _
  show decide (f p.1 ≠ f k) = decide (p.1 ≠ k)
  by_cases e : p.1 = k
  · simp [e]
  · have : ¬ f p.1 = f k := fun z => e (hf _ _ z)
    simp [e, this]
end
abbrev kI : Int → Key := .inl
abbrev kS : Str → Key := .inr
theorem kI_inj : ∀ a b, kI a = kI b → a = b := fun _ _ h => Sum.inl.inj h
theorem kS_inj : ∀ a b, kS a = kS b → a = b := fun _ _ h => Sum.inr.inj h
/-- makes and what they need; wares and their makes -/
abbrev Row := List (Int × List D)
abbrev Rows := List (Str × Row)
def rowK (r : Row) : List (Key × D) := codeL kI D.lst r
def rowD (r : Row) : D := .dic (rowK r)
def rowsK (rows : Rows) : List (Key × D) := codeL kS rowD rows
def rowOf (rows : Rows) (x : Str) : Row := (look rows x).getD []
theorem rowOf_get {rows : Rows} {x : Str} : (valD (rowsK rows) (.inr x)).getD (.dic []) = rowD (rowOf rows x) := by
  have := valD_code kS_inj (g := rowD) (l := rows) (k := x)
  show (valD (codeL kS rowD rows) (kS x)).getD (.dic []) = _
  rw [this]
  unfold rowOf
  cases look rows x <;> rfl
theorem rowK_val {r : Row} {m : Int} : valD (rowK r) (.inl m) = (look r m).map D.lst := valD_code kI_inj
theorem rowsK_val {rows : Rows} {x : Str} : valD (rowsK rows) (.inr x) = (look rows x).map rowD := valD_code kS_inj
def D.toS : D → Str
  | .str x => x
  | _ => ⟨#[]⟩
def D.toL : D → List D
  | .lst xs => xs
  | _ => []
def D.nm : D → Str
  | .tup (a :: _) => a.toS
  | _ => ⟨#[]⟩
/-- needs of other wares, each once -/
def needsIn (seen : List Str) : List D → Bool
  | [] => true
  | x :: xs => x.need && (!decide (x.nm ∈ seen) && needsIn (seen ++ [x.nm]) xs)
def needsOk (x : Str) : D → Bool
  | .lst xs => decide (xs.length ≤ 6) && needsIn [x] xs
  | _ => false
def D.seenAll : D → Bool
  | .lst xs => xs.all fun x => x.isD && x.seen
  | _ => true
/-- the shop at s, its rows at rd -/
structure ShopAt (A : Ads) (G : Gs) (s dx rd : Addr) (rows : Rows) : Prop where
  ins : G s = some (.ins A.Shop dx [("rows", .ref rd)])
  dic : G rd = some (.dic (rowsK rows))
def Small (rows : Rows) : Prop := rows.length ≤ 12 ∧ ∀ p ∈ rows, p.2.length ≤ 8
theorem Small.row {rows : Rows} (h : Small rows) (x : Str) : (rowOf rows x).length ≤ 8 := by
  unfold rowOf
  cases e : look rows x with
  | none => exact Nat.zero_le _
  | some r => exact h.2 _ (look_mem e)
def putR (rows : Rows) (x : Str) (m : Int) (ns : List D) : Rows := lput rows x (lput (rowOf rows x) m ns)
def takeR (rows : Rows) (x : Str) (m : Int) : Rows := if (ldrop (rowOf rows x) m).length = 0 then ldrop rows x else lput rows x (ldrop (rowOf rows x) m)
def hasB (rows : Rows) (w m : D) : Bool := w.ware && (m.isI && (look (rowOf rows w.toS) m.toI).isSome)
def putErr (A : Ads) (rows : Rows) (w m n : D) : Option Addr :=
  if w.ware = false then some A.BadWare else if m.make = false then some A.BadMake else if needsOk w.toS n = false then some A.BadNeed else
  if (look (rowOf rows w.toS) m.toI).isSome = true then some A.Twice else if (look rows w.toS).isSome = false ∧ rows.length = 12 then some A.Full else
  if (rowOf rows w.toS).length = 8 then some A.Full else none
end Gh
end

section
set_option Elab.async false
set_option linter.all false
set_option maxRecDepth 100000
set_option maxHeartbeats 4000000
namespace Gh
open PySem PySem.Spec PyProof.Rows L2
/-! pickfloor/shop.py: the walk -/
theorem rowsK_put {rows : Rows} {x : Str} {r : Row} : putD (rowsK rows) (.inr x) (rowD r) = rowsK (lput rows x r) := putD_code kS_inj
theorem rowsK_drop {rows : Rows} {x : Str} : dropD (rowsK rows) (.inr x) = rowsK (ldrop rows x) := dropD_code kS_inj
theorem rowK_put {r : Row} {m : Int} {ns : List D} : putD (rowK r) (.inl m) (.lst ns) = rowK (lput r m ns) := putD_code kI_inj
theorem rowK_drop {r : Row} {m : Int} : dropD (rowK r) (.inl m) = rowK (ldrop r m) := dropD_code kI_inj
theorem rowK_len {r : Row} : (rowK r).length = r.length := codeL_length
theorem rowsK_len {r : Rows} : (rowsK r).length = r.length := codeL_length
theorem rowK_keys {r : Row} : (rowK r).map (·.1) = (r.map (·.1)).map Sum.inl := by unfold rowK codeL; rw [List.map_map, List.map_map]; rfl
theorem rowsK_keys {r : Rows} : (rowsK r).map (·.1) = (r.map (·.1)).map Sum.inr := by unfold rowsK codeL; rw [List.map_map, List.map_map]; rfl
theorem ViewD.dicR {G : Gs} {l : Addr} {kds : List (Key × D)} (h : G l = some (.dic kds)) : ViewD G (.ref l) (.dic kds) := .inr (.inr ⟨l, kds, Eq.refl _, .inl h, Eq.refl _⟩)
theorem ViewD.lstR {G : Gs} {l : Addr} {ds : List D} (h : G l = some (.lst ds)) : ViewD G (.ref l) (.lst ds) := .inr (.inl ⟨l, ds, Eq.refl _, .inl h, Eq.refl _⟩)
theorem ware_str {d : D} (h : d.ware = true) : d = .str d.toS := by cases d <;> first | rfl | cases h
theorem make_int {d : D} (h : d.make = true) : d = .int d.toI := by cases d <;> first | rfl | cases h
theorem make_isI {d : D} (h : d.make = true) : d.isI = true := by cases d <;> first | rfl | cases h

def sp_need_ware (A : Ads) : GSp := fun ds G PP PX => ∃ d' d, ds = [d'] ∧ ViewD G d' d ∧ d.isD = true ∧ d.fit = true ∧ (d.ware = true → PP .non G) ∧ (d.ware = false → PX A.BadWare G)
def sp_need_needs (A : Ads) : GSp := fun ds G PP PX => ∃ x dn' dn, ds = [.str x, dn'] ∧ ViewD G dn' dn ∧ dn.isD = true ∧ dn.seenAll = true ∧ (needsOk x dn = true → PP .non G) ∧ (needsOk x dn = false → PX A.BadNeed G)
def sp_Shop_init (A : Ads) : GSp := fun ds G PP _ => ∃ s dx, ds = [.ref s] ∧ G s = some (.ins A.Shop dx []) ∧ ∀ l, G l = none → PP .non (gupd (gupd G l (.dic [])) s (.ins A.Shop dx [("rows", .ref l)]))
def sp_Shop_put (A : Ads) : GSp := fun ds G PP PX => ∃ s dx rd rows dw' dw dm' dm dn' dn, ds = [.ref s, dw', dm', dn'] ∧ ShopAt A G s dx rd rows ∧ Small rows ∧ ViewD G dw' dw ∧ dw.isD = true ∧ dw.fit = true ∧ ViewD G dm' dm ∧ dm.isD = true ∧ ViewD G dn' dn ∧ dn.isD = true ∧ dn.seenAll = true ∧
  (∀ c, putErr A rows dw dm dn = some c → PX c G) ∧ (putErr A rows dw dm dn = none → PP .non (gupd G rd (.dic (rowsK (putR rows dw.toS dm.toI dn.toL)))))
def sp_Shop_has (A : Ads) : GSp := fun ds G PP _ => ∃ s dx rd rows dw' dw dm' dm, ds = [.ref s, dw', dm'] ∧ ShopAt A G s dx rd rows ∧ ViewD G dw' dw ∧ dw.isD = true ∧ dw.fit = true ∧ ViewD G dm' dm ∧ dm.isD = true ∧ PP (.bl (hasB rows dw dm)) G
def sp_Shop_take (A : Ads) : GSp := fun ds G PP PX => ∃ s dx rd rows dw' dw dm' dm, ds = [.ref s, dw', dm'] ∧ ShopAt A G s dx rd rows ∧ Small rows ∧ ViewD G dw' dw ∧ dw.isD = true ∧ dw.fit = true ∧ ViewD G dm' dm ∧ dm.isD = true ∧
  (hasB rows dw dm = false → PX A.NoMake G) ∧ (hasB rows dw dm = true → PP .non (gupd G rd (.dic (rowsK (takeR rows dw.toS dm.toI)))))
def sp_Shop_makes (A : Ads) : GSp := fun ds G PP PX => ∃ s dx rd rows dw' dw, ds = [.ref s, dw'] ∧ ShopAt A G s dx rd rows ∧ Small rows ∧ ViewD G dw' dw ∧ dw.isD = true ∧ dw.fit = true ∧
  (dw.ware = false → PX A.BadWare G) ∧ (dw.ware = true → ∀ l, G l = none → PP (.ref l) (gupd G l (.lst ((sortI ((rowOf rows dw.toS).map (·.1))).map .int))))
def sp_Shop_needs (A : Ads) : GSp := fun ds G PP PX => ∃ s dx rd rows dw' dw dm' dm, ds = [.ref s, dw', dm'] ∧ ShopAt A G s dx rd rows ∧ ViewD G dw' dw ∧ dw.isD = true ∧ dw.fit = true ∧ ViewD G dm' dm ∧ dm.isD = true ∧
  (hasB rows dw dm = false → PX A.NoMake G) ∧ (hasB rows dw dm = true → ∀ l ns, look (rowOf rows dw.toS) dm.toI = some ns → G l = none → PP (.ref l) (gupd G l (.lst ns)))
def sp_Shop_wares (A : Ads) : GSp := fun ds G PP _ => ∃ s dx rd rows, ds = [.ref s] ∧ ShopAt A G s dx rd rows ∧ Small rows ∧ ∀ l, G l = none → PP (.ref l) (gupd G l (.lst ((sortS (rows.map (·.1))).map .str)))

theorem seenD_val {nms : List Str} {x : Str} : (valD (nms.map fun y => ((.inr y : Key), D.bl true)) (.inr x)).isSome = decide (x ∈ nms) := by
  unfold valD
  induction nms with
  | nil => rfl
  | cons y nms ih =>
    rw [List.map_cons, List.find?_cons]
    by_cases e : y = x
    · subst e; simp
    · have e1 : ¬ ((.inr y : Key) = .inr x) := fun z => e (Sum.inr.inj z)
      have e2 : ¬ x = y := fun z => e z.symm
      simp only [e1, decide_false]
      rw [ih]
      simp [e2]
theorem seenD_put {nms : List Str} {x : Str} (h : x ∉ nms) : putD (nms.map fun y => ((.inr y : Key), D.bl true)) (.inr x) (.bl true) = (nms ++ [x]).map fun y => ((.inr y : Key), D.bl true) := by
  unfold putD
  rw [if_neg]
  · simp
  · intro z
    rw [List.any_map, List.any_eq_true] at z
    obtain ⟨y, hy, e⟩ := z
    have : y = x := Sum.inr.inj (α := Int) (by simpa using e)
    subst this
    exact h hy
theorem need_form {d : D} (h : d.need = true) : ∃ a b c, d = .tup [.str a, b, c] := by
  cases d with
  | tup xs =>
    match xs, h with
    | [a, b, c], h =>
      have h : (a.ware && _) = true := h
      rw [Bool.and_eq_true] at h
      exact ⟨a.toS, b, c, by rw [← ware_str h.1]⟩
    | [], h => cases h
    | [_], h => cases h
    | [_, _], h => cases h
    | _ :: _ :: _ :: _ :: _, h => cases h
  | _ => cases h
section
variable {P : Program} {w : World} {K : PySem.W.Frag} {mg : Str → Option Value} {base : Heap} {A : Ads}
theorem has_need_ware (T : Tx K mg A) : HasF P w K mg base 2 "need_ware" ["thing"] (sp_need_ware A) := by
  refine has_bodyX T.d_need_ware sc_need_ware (fun ds G P PX h => ?_) (fun f cdv _ outer s H E hr F0 R0 ds G PP PX h hx ow => ?_)
  · obtain ⟨_, _, rfl, _⟩ := h; rfl
  have nd := nd_need_ware
  obtain ⟨d', d, rfl, hv, hd, hf, q1, q2⟩ := h
  refine gss_one (gs_if (gt_not (gt_val (ge_gw (gw_call (has_is_ware T) (gr_cons (ge_var 0 rfl) gr_nil) ⟨d', d, rfl, hv, hd, hf, rfl, rfl⟩)))) (fun hc => ?_) (fun hc => ?_))
  · exact gss_one (gs_raise hx T.e_BadWare (q2 (by simpa using hc)))
  · exact gss_nil (q1 (by simpa using hc))
theorem has_need_needs (T : Tx K mg A) : HasF P w K mg base 4 "need_needs" ["ware", "needs"] (sp_need_needs A) := by
  refine has_bodyX T.d_need_needs sc_need_needs (fun ds G P PX h => ?_) (fun f cdv _ outer s H E hr F0 R0 ds G PP PX h hx ow => ?_)
  · obtain ⟨_, _, _, rfl, _⟩ := h; rfl
  have nd := nd_need_needs
  obtain ⟨x, dn', dn, rfl, hv, hd, hs, q1, q2⟩ := h
  cases dn with
  | lst xs =>
    refine gss_cons (gs_if (gt_w (gtw_or (gt_not (gt_val (ge_isiD T.blt (gv_view (ge_var 1 rfl) hv) (ge_ty T.blt.at (by decide +kernel)) (.lst hd)))) fun _ => (gtw_or1 (gt_cmp (gc_gt (ge_len T.blt (gv_view (ge_var 1 rfl) hv) .lst) (ge_globI T.c_MOST_NEEDS)))))) (fun hc => ?_) (fun hc => ?_))
    · refine gss_one (gs_raise hx T.e_BadNeed (q2 ?_))
      have h1 : ¬ xs.length ≤ 6 := by simp [D.isLst] at hc; omega
      show (decide (xs.length ≤ 6) && needsIn [x] xs) = false
      rw [decide_eq_false h1]; rfl
    have h1 : xs.length ≤ 6 := by simp [D.isLst] at hc; omega
    have e0 : needsOk x (.lst xs) = needsIn [x] xs := by
      show (decide (xs.length ≤ 6) && needsIn [x] xs) = _
      rw [decide_eq_true h1]; rfl
    rw [e0] at q1 q2
    refine gss_nil (gss_cons (gs_ownd 2 nd (gn_d1 (kS x) (ge_var 0 rfl) ge_bl) ?_))
    refine gss_one (gs_for ow (gi_lst (ge_var 1 rfl) hv) (fun i ρ' G' => ∃ y nms, ρ' = [.dat (.str x), .dat dn', .ownd (nms.map fun y => (.inr y, .bl true)), y] ∧ G' = G ∧ nms.length ≤ i + 1 ∧ needsIn [x] xs = needsIn nms (xs.drop i)) ⟨_, [x], rfl, rfl, Nat.le_refl _, rfl⟩ (fun i ρ' G' h => ?_) (fun i d ρ' G' hi h => ?_) (fun ρ' G' h => ?_))
    · obtain ⟨_, _, _, rfl, _⟩ := h; exact hv
    · obtain ⟨y, nms, rfl, rfl, hn, e1⟩ := h
      have hm : d ∈ xs := List.mem_of_getElem? hi
      have hlt : i < xs.length := (List.getElem?_eq_some_iff.mp hi).1
      have ed : xs.drop i = d :: xs.drop (i + 1) := by
        rw [List.drop_eq_getElem_cons hlt]
        congr 1
        rw [List.getElem?_eq_getElem hlt] at hi
        exact Option.some.inj hi
      have hs' : d.isD = true ∧ d.seen = true := by
        have := List.all_eq_true.mp hs d hm
        simpa using this
      rw [ed] at e1
      have e2 : needsIn nms (d :: xs.drop (i + 1)) = (d.need && (!decide (d.nm ∈ nms) && needsIn (nms ++ [d.nm]) (xs.drop (i + 1)))) := rfl
      rw [e2] at e1
      refine ⟨_, _, gg_name 3 nd, ?_⟩
      cases hneed : d.need with
      | false =>
        refine gss_cons (gs_if (x := true) (gt_is (gt_w (gtw_or (y := true) (gt_not (gt_val (ge_gw (gw_call (has_is_need T) (gr_cons (ge_var 3 rfl) gr_nil) ⟨d, d, rfl, .rfl, hs'.1, hs'.2, rfl, rfl⟩)))) fun h => (by rw [hneed] at h; cases h))) (by rw [hneed]; rfl)) (fun _ => gss_one (gs_raise hx T.e_BadNeed (q2 ?_))) (fun h => by cases h))
        rw [e1, hneed]; rfl
      | true =>
        obtain ⟨a, b, c, rfl⟩ := need_form hneed
        refine gss_cons (gs_if (gt_w (gtw_or (gt_not (gt_val (ge_gw (gw_call (has_is_need T) (gr_cons (ge_var 3 rfl) gr_nil) ⟨_, _, rfl, .rfl, hs'.1, hs'.2, rfl, rfl⟩)))) fun _ => (gtw_or1 (gt_cmp (gc_in (ge_ix (gv_ge (ge_var 3 rfl)) ge_int (.tup rfl)) (gv_ownd 2 rfl) .dicS))))) (fun hc => ?_) (fun hc => ?_))
        · refine gss_one (gs_raise hx T.e_BadNeed (q2 ?_))
          rw [hneed, seenD_val] at hc
          have hc : a ∈ nms := by simpa using hc
          rw [e1]
          show (_ && (!decide (a ∈ nms) && _)) = false
          simp [hc]
        · rw [hneed, seenD_val] at hc
          have hc : a ∉ nms := by simpa using hc
          refine gss_nil (gss_one (gs_dput (kS a) (gw_ge ge_bl ⟨.slot 2, _, gp_ownd 2 rfl, ge_ix (gv_ge (ge_var 3 rfl)) ge_int (.tup rfl), rfl, ?_, ⟨.dat (.tup [.str a, b, c]), nms ++ [a], ?_, rfl, ?_, ?_⟩⟩)))
          · rw [List.length_map]; omega
          · show _ = _
            rw [← seenD_put hc]; rfl
          · simp; omega
          · rw [e1, hneed]
            show (true && (!decide (a ∈ nms) && _)) = _
            simp [hc]; rfl
    · obtain ⟨y, nms, rfl, rfl, hn, e1⟩ := h
      rw [List.drop_length] at e1
      exact q1 e1
  | _ =>
    refine gss_cons (gs_if (x := true) (gt_is (gt_w (gtw_or (y := true) (gt_not (gt_val (ge_isiD T.blt (gv_view (ge_var 1 rfl) hv) (ge_ty T.blt.at (by decide +kernel)) (.lst hd)))) fun h => (by cases h))) (by simp)) (fun hc => gss_one (gs_raise hx T.e_BadNeed (q2 rfl))) (fun hc => by cases hc))
end
end Gh
end

section
set_option Elab.async false
set_option linter.all false
set_option maxRecDepth 100000
set_option maxHeartbeats 4000000
namespace Gh
open PySem PySem.Spec PyProof.Rows L2
section
variable {Y : Ctx} {ρ : Rho} {G : Gs} {e e2 : Expr} {pos p apos apos2 : Pos} {A : Ads} {mg : Str → Option Value}
theorem ge_rows {s dx rd : Addr} {rows : Rows} (T : Tx Y.K mg A) (S : ShopAt A G s dx rd rows) (h : GE Y e ρ G (.ref s)) (hb : BaseB e "rows" := by intro _; rfl) : GE Y (.Attribute e "rows" pos) ρ G (.ref rd) := ge_fld T.k_Shop.cls T.n_Shop_rows h S.ins rfl hb
theorem gv_rows {s dx rd : Addr} {rows : Rows} (T : Tx Y.K mg A) (S : ShopAt A G s dx rd rows) (h : GE Y e ρ G (.ref s)) (hb : BaseB e "rows" := by intro _; rfl) : GV Y (.Attribute e "rows" pos) ρ G (.dic (rowsK rows)) := gv_view (ge_rows T S h hb) (.dicR S.dic)
theorem ge_rowget {s dx rd : Addr} {rows : Rows} {x : Str} {f : Expr} (T : Tx Y.K mg A) (S : ShopAt A G s dx rd rows) (h : GE Y e ρ G (.ref s)) (hw : GE Y e2 ρ G (.str x)) (hf : GN Y f ρ G (.dic [])) (hb : BaseB e "rows" := by intro _; rfl) (hbase : BaseB (.Attribute e "rows" p) "get" := by intro _; rfl)
    (hfew : ∀ env, ((backTo pos (starEach [e2, f] env)).all (fun x => !x.1) && (backToKw pos (keywordEach [] env)).all (fun x => x.1.isSome) && decide ([e2, f].length + ([] : List Keyword).length + (if ([] : List Keyword).isEmpty then 0 else 1) < 30)) = true := by intro _; rfl) (hline : (apos.endLine == pos.line) = true := by rfl)
    (hs : ∀ env, backTo pos (starEach [e2, f] env) = [(false, eval e2 env), (false, eval f env)] := by intro _; rfl) : GE Y (.Call (.Attribute (.Attribute e "rows" p) "get" apos) [e2, f] [] pos) ρ G (rowD (rowOf rows x)) :=
  ge_is (ge_dget2 (kS x) (gv_rows T S h hb) hw (ge_nd hf) hbase hfew hline hs) rowOf_get
end
section
variable {P : Program} {w : World} {K : PySem.W.Frag} {mg : Str → Option Value} {base : Heap} {A : Ads}
theorem has_Shop_init (T : Tx K mg A) : HasM P w K mg base 1 A.Shop "__init__" ["self"] (sp_Shop_init A) := by
  refine mth_body T.m_Shopu_initu sc_Shopu_initu (fun ds G P PX h => ?_) (fun f cdv _ outer s H E hr F0 R0 ds G PP PX h => ?_)
  · obtain ⟨_, _, rfl, _⟩ := h; rfl
  have nd := nd_Shopu_initu
  obtain ⟨s, dx, rfl, hs, q⟩ := h
  refine gss_one (gs_fld (gw_mono (gw_n gn_dnew) fun d G' ⟨l, ed, hl, eG⟩ => ?_))
  subst ed eG
  refine ⟨s, A.Shop, dx, [], ge_var 0 rfl, ?_, T.k_Shop.cls, T.n_Shop_rows, by decide, q l hl⟩
  rw [gupd_ne (gne hs hl)]; exact hs
theorem has_Shop_has (T : Tx K mg A) : HasM P w K mg base 2 A.Shop "has" ["self", "ware", "make"] (sp_Shop_has A) := by
  refine mth_body T.m_Shop_has sc_Shop_has (fun ds G P PX h => ?_) (fun f cdv _ outer s H E hr F0 R0 ds G PP PX h => ?_)
  · obtain ⟨_, _, _, _, _, _, _, _, rfl, _⟩ := h; rfl
  have nd := nd_Shop_has
  obtain ⟨s, dx, rd, rows, dw', dw, dm', dm, rfl, S, hvw, hdw, hfw, hvm, hdm, q⟩ := h
  refine gss_one (gs_retE (ge_and (y := dm.isI && (look (rowOf rows dw.toS) dm.toI).isSome) (ge_gw (gw_call (has_is_ware T) (gr_cons (ge_var 1 rfl) gr_nil) ⟨dw', dw, rfl, hvw, hdw, hfw, rfl, rfl⟩)) fun hw => (ge_and (y := (look (rowOf rows dw.toS) dm.toI).isSome) (ge_gw (gw_call (has_is_whole T) (gr_cons (ge_var 2 rfl) gr_nil) ⟨dm', dm, rfl, hvm, hdm, rfl, rfl⟩)) fun hm => ?_)) q)
  have e1 := ware_str hw
  rw [e1] at hvw
  have e2 := hvw.str
  obtain ⟨e3, e4⟩ := hvm.isI hm
  subst e2 e3
  rw [e4] at *
  have e5 : (look (rowOf rows dw.toS) dm.toI).isSome = (valD (rowK (rowOf rows dw.toS)) (.inl dm.toI)).isSome := by
    rw [rowK_val, Option.isSome_map]
  exact ge_one (ge_is (ge_cmp (gc_in (ge_var 2 rfl) (gv_ge (ge_rowget T S (ge_var 0 rfl) (ge_var 1 rfl) gn_dnew)) (.dicI))) (congrArg D.bl e5.symm))
theorem has_form {rows : Rows} {dw dm : D} (h : hasB rows dw dm = true) : dw.ware = true ∧ dm.isI = true ∧ ∃ ns, look (rowOf rows dw.toS) dm.toI = some ns ∧ look rows dw.toS = some (rowOf rows dw.toS) := by
  unfold hasB at h
  rw [Bool.and_eq_true, Bool.and_eq_true] at h
  obtain ⟨h1, h2, h3⟩ := h
  refine ⟨h1, h2, ?_⟩
  cases e : look (rowOf rows dw.toS) dm.toI with
  | none => rw [e] at h3; cases h3
  | some ns =>
    refine ⟨ns, rfl, ?_⟩
    unfold rowOf at e ⊢
    cases e2 : look rows dw.toS with
    | none => rw [e2] at e; cases e
    | some r => rfl
theorem isI_form {d : D} (h : d.isI = true) : d = .int d.toI := by cases d <;> first | rfl | cases h
theorem has_Shop_take (T : Tx K mg A) : HasM P w K mg base 3 A.Shop "take" ["self", "ware", "make"] (sp_Shop_take A) := by
  refine mth_bodyX T.m_Shop_take sc_Shop_take (fun ds G P PX h => ?_) (fun f cdv _ outer s H E hr F0 R0 ds G PP PX h hx ow => ?_)
  · obtain ⟨_, _, _, _, _, _, _, _, rfl, _⟩ := h; rfl
  have nd := nd_Shop_take
  obtain ⟨s, dx, rd, rows, dw', dw, dm', dm, rfl, S, sm, hvw, hdw, hfw, hvm, hdm, q1, q2⟩ := h
  refine gss_cons (gs_if (gt_not (gt_val (ge_gw (gw_meth (pl := _) T.k_Shop.cls (has_Shop_has T) (ge_var 0 rfl) S.ins rfl (gr_cons (ge_var 1 rfl) (gr_cons (ge_var 2 rfl) gr_nil)) ⟨s, dx, rd, rows, dw', dw, dm', dm, rfl, S, hvw, hdw, hfw, hvm, hdm, rfl, rfl⟩)))) (fun hc => ?_) (fun hc => ?_))
  · exact gss_one (gs_raise hx T.e_NoMake (q1 (by simpa using hc)))
  have hb : hasB rows dw dm = true := by simpa using hc
  obtain ⟨h1, h2, ns, h3, h4⟩ := has_form hb
  have q := q2 hb
  rw [ware_str h1] at hvw
  have e1 := hvw.str
  obtain ⟨e2, e3⟩ := hvm.isI h2
  subst e1 e2
  have hv : valD (rowsK rows) (.inr dw.toS) = some (rowD (rowOf rows dw.toS)) := by rw [rowsK_val, h4]; rfl
  have hm : valD (rowK (rowOf rows dw.toS)) (.inl dm.toI) = some (.lst ns) := by rw [rowK_val, h3]; rfl
  refine gss_nil (gss_cons (gs_ownd 3 nd (gn_dict T.blt (gv_ge (ge_ix (gv_rows T S (ge_var 0 rfl)) (ge_var 1 rfl) (.dicS hv)))) ?_))
  refine gss_cons (gs_exprX (gx_dpop (kI dm.toI) (gp_ownd 3 rfl) rfl (ge_var 2 rfl) hm ?_))
  refine gss_one (gs_if (gt_cmp (gc_eqI (ge_len T.blt (gv_ownd 3 rfl) .dic) ge_int)) (fun hc => ?_) (fun hc => ?_))
  · have hz : (ldrop (rowOf rows dw.toS) dm.toI).length = 0 := by
      rw [rowK_drop, rowK_len] at hc
      simpa using hc
    refine gss_one (gs_exprX (gx_dpop (kS dw.toS) (gp_at (ge_rows T S (ge_var 0 rfl))) S.dic (ge_var 1 rfl) hv ?_))
    show PP .non (gupd G rd (.dic (dropD (rowsK rows) (.inr dw.toS))))
    rw [rowsK_drop]
    unfold takeR at q
    rw [if_pos hz] at q
    exact q
  · have hz : ¬ (ldrop (rowOf rows dw.toS) dm.toI).length = 0 := by
      rw [rowK_drop, rowK_len] at hc
      simpa using hc
    refine gss_frzd 3 rfl (gss_one (gs_dput (kS dw.toS) (gw_ge (ge_var 3 rfl) ⟨.at rd, _, gp_at (ge_rows T S (ge_var 0 rfl)), ge_var 1 rfl, S.dic, ?_, ?_⟩)))
    · rw [rowsK_len]; have := sm.1; omega
    · show PP .non (gupd G rd (.dic (putD (rowsK rows) (.inr dw.toS) (.dic (dropD (rowK (rowOf rows dw.toS)) (.inl dm.toI))))))
      rw [rowK_drop]
      have e := rowsK_put (rows := rows) (x := dw.toS) (r := ldrop (rowOf rows dw.toS) dm.toI)
      unfold rowD at e
      rw [e]
      unfold takeR at q
      rw [if_neg hz] at q
      exact q
theorem has_Shop_makes (T : Tx K mg A) : HasM P w K mg base 3 A.Shop "makes" ["self", "ware"] (sp_Shop_makes A) := by
  refine mth_bodyX T.m_Shop_makes sc_Shop_makes (fun ds G P PX h => ?_) (fun f cdv _ outer s H E hr F0 R0 ds G PP PX h hx ow => ?_)
  · obtain ⟨_, _, _, _, _, _, rfl, _⟩ := h; rfl
  have nd := nd_Shop_makes
  obtain ⟨s, dx, rd, rows, dw', dw, rfl, S, sm, hvw, hdw, hfw, q1, q2⟩ := h
  refine gss_cons (gs_expr (gw_callX hx (has_need_ware T) (gre_r (gr_cons (ge_var 1 rfl) gr_nil) ⟨rfl, dw', dw, rfl, hvw, hdw, hfw, fun hw => ?_, fun hw => q1 hw⟩)))
  rw [ware_str hw] at hvw
  have e1 := hvw.str
  subst e1
  refine gss_one (gs_ret (gf_n (gn_sorted T.blt (gv_ge (ge_rowget T S (ge_var 0 rfl) (ge_var 1 rfl) gn_dnew)) (.dicI ((rowOf rows dw.toS).map (·.1)) rowK_keys ?_)) (q2 hw)))
  rw [List.length_map]; have := sm.row dw.toS; omega
theorem has_Shop_needs (T : Tx K mg A) : HasM P w K mg base 3 A.Shop "needs" ["self", "ware", "make"] (sp_Shop_needs A) := by
  refine mth_bodyX T.m_Shop_needs sc_Shop_needs (fun ds G P PX h => ?_) (fun f cdv _ outer s H E hr F0 R0 ds G PP PX h hx ow => ?_)
  · obtain ⟨_, _, _, _, _, _, _, _, rfl, _⟩ := h; rfl
  have nd := nd_Shop_needs
  obtain ⟨s, dx, rd, rows, dw', dw, dm', dm, rfl, S, hvw, hdw, hfw, hvm, hdm, q1, q2⟩ := h
  refine gss_cons (gs_if (gt_not (gt_val (ge_gw (gw_meth (pl := _) T.k_Shop.cls (has_Shop_has T) (ge_var 0 rfl) S.ins rfl (gr_cons (ge_var 1 rfl) (gr_cons (ge_var 2 rfl) gr_nil)) ⟨s, dx, rd, rows, dw', dw, dm', dm, rfl, S, hvw, hdw, hfw, hvm, hdm, rfl, rfl⟩)))) (fun hc => ?_) (fun hc => ?_))
  · exact gss_one (gs_raise hx T.e_NoMake (q1 (by simpa using hc)))
  have hb : hasB rows dw dm = true := by simpa using hc
  obtain ⟨h1, h2, ns, h3, h4⟩ := has_form hb
  rw [ware_str h1] at hvw
  have e1 := hvw.str
  obtain ⟨e2, e3⟩ := hvm.isI h2
  subst e1 e2
  have hv : valD (rowsK rows) (.inr dw.toS) = some (rowD (rowOf rows dw.toS)) := by rw [rowsK_val, h4]; rfl
  have hm : valD (rowK (rowOf rows dw.toS)) (.inl dm.toI) = some (.lst ns) := by rw [rowK_val, h3]; rfl
  exact gss_nil (gss_one (gs_ret (gf_n (gn_list T.blt (gv_ge (ge_ix (gv_ge (ge_ix (gv_rows T S (ge_var 0 rfl)) (ge_var 1 rfl) (.dicS hv))) (ge_var 2 rfl) (.dicI hm)))) fun l hl => q2 hb l ns h3 hl)))
theorem has_Shop_wares (T : Tx K mg A) : HasM P w K mg base 1 A.Shop "wares" ["self"] (sp_Shop_wares A) := by
  refine mth_body T.m_Shop_wares sc_Shop_wares (fun ds G P PX h => ?_) (fun f cdv _ outer s H E hr F0 R0 ds G PP PX h => ?_)
  · obtain ⟨_, _, _, _, rfl, _⟩ := h; rfl
  have nd := nd_Shop_wares
  obtain ⟨s, dx, rd, rows, rfl, S, sm, q⟩ := h
  refine gss_one (gs_ret (gf_n (gn_sorted T.blt (gv_rows T S (ge_var 0 rfl)) (.dicS (rows.map (·.1)) rowsK_keys ?_)) q))
  rw [List.length_map]; have := sm.1; omega
theorem has_Shop_put (T : Tx K mg A) : HasM P w K mg base 5 A.Shop "put" ["self", "ware", "make", "needs"] (sp_Shop_put A) := by
  refine mth_bodyX T.m_Shop_put sc_Shop_put (fun ds G P PX h => ?_) (fun f cdv _ outer s H E hr F0 R0 ds G PP PX h hx ow => ?_)
  · obtain ⟨_, _, _, _, _, _, _, _, _, _, rfl, _⟩ := h; rfl
  have nd := nd_Shop_put
  obtain ⟨s, dx, rd, rows, dw', dw, dm', dm, dn', dn, rfl, S, sm, hvw, hdw, hfw, hvm, hdm, hvn, hdn, hsn, q1, q2⟩ := h
  refine gss_cons (gs_expr (gw_callX hx (has_need_ware T) (gre_r (gr_cons (ge_var 1 rfl) gr_nil) ⟨rfl, dw', dw, rfl, hvw, hdw, hfw, fun hw => ?_, fun hw => q1 _ (by simp [putErr, hw])⟩)))
  rw [ware_str hw] at hvw
  have e1 := hvw.str
  subst e1
  refine gss_cons (gs_if (gt_not (gt_val (ge_gw (gw_call (has_is_make T) (gr_cons (ge_var 2 rfl) gr_nil) ⟨dm', dm, rfl, hvm, hdm, rfl, rfl⟩)))) (fun hc => ?_) (fun hc => ?_))
  · exact gss_one (gs_raise hx T.e_BadMake (q1 _ (by simp [putErr, hw, show dm.make = false by simpa using hc])))
  have hm : dm.make = true := by simpa using hc
  obtain ⟨e2, e3⟩ := hvm.isI (make_isI hm)
  subst e2
  refine gss_nil (gss_cons (gs_expr (gw_callX hx (has_need_needs T) (gre_r (gr_cons (ge_var 1 rfl) (gr_cons (ge_var 3 rfl) gr_nil)) ⟨rfl, dw.toS, dn', dn, rfl, hvn, hdn, hsn, fun hn => ?_, fun hn => q1 _ (by simp [putErr, hw, hm, hn])⟩))))
  have e4 : (valD (rowK (rowOf rows dw.toS)) (.inl dm.toI)).isSome = (look (rowOf rows dw.toS) dm.toI).isSome := by
    rw [rowK_val, Option.isSome_map]
  refine gss_cons (gs_if (gt_cmp (gc_in (ge_var 2 rfl) (gv_ge (ge_rowget T S (ge_var 0 rfl) (ge_var 1 rfl) gn_dnew)) (.dicI))) (fun hc => ?_) (fun hc => ?_))
  · rw [e4] at hc
    exact gss_one (gs_raise hx T.e_Twice (q1 _ (by simp [putErr, hw, hm, hn, hc])))
  rw [e4] at hc
  have e5 : (valD (rowsK rows) (.inr dw.toS)).isSome = (look rows dw.toS).isSome := by
    rw [rowsK_val, Option.isSome_map]
  refine gss_nil (gss_cons (gs_if (gt_w (gtw_and (gt_cmp (gc_notIn (ge_var 1 rfl) (gv_rows T S (ge_var 0 rfl)) .dicS)) fun _ => (gtw_and1 (gt_cmp (gc_eqI (ge_len T.blt (gv_rows T S (ge_var 0 rfl)) .dic) (ge_globI T.c_MOST_WARES)))))) (fun hd => ?_) (fun hd => ?_)))
  · rw [e5, rowsK_len] at hd
    have hd : (look rows dw.toS).isSome = false ∧ rows.length = 12 := by
      simp at hd
      refine ⟨by simp [hd.1], by omega⟩
    exact gss_one (gs_raise hx T.e_Full (q1 _ (by unfold putErr; rw [if_neg (by simp [hw]), if_neg (by simp [hm]), if_neg (by simp [hn]), if_neg (by simp [hc]), if_pos hd])))
  rw [e5, rowsK_len] at hd
  have hd : ¬ ((look rows dw.toS).isSome = false ∧ rows.length = 12) := by
    intro z
    rw [z.1, z.2] at hd
    simp at hd
  refine gss_nil (gss_cons (gs_if (gt_cmp (gc_eqI (ge_len T.blt (gv_ge (ge_rowget T S (ge_var 0 rfl) (ge_var 1 rfl) gn_dnew)) .dic) (ge_globI T.c_MOST_MAKES))) (fun he => ?_) (fun he => ?_)))
  · rw [rowK_len] at he
    have he : (rowOf rows dw.toS).length = 8 := by simp at he; omega
    exact gss_one (gs_raise hx T.e_Full (q1 _ (by unfold putErr; rw [if_neg (by simp [hw]), if_neg (by simp [hm]), if_neg (by simp [hn]), if_neg (by simp [hc]), if_neg hd, if_pos he])))
  rw [rowK_len] at he
  have he : ¬ (rowOf rows dw.toS).length = 8 := by simp at he; omega
  have q := q2 (by unfold putErr; rw [if_neg (by simp [hw]), if_neg (by simp [hm]), if_neg (by simp [hn]), if_neg (by simp [hc]), if_neg hd, if_neg he])
  obtain ⟨ns, rfl⟩ : ∃ ns, dn = .lst ns := by cases dn <;> first | exact ⟨_, rfl⟩ | cases hn
  refine gss_nil (gss_cons (gs_ownd 4 nd (gn_dict T.blt (gv_ge (ge_rowget T S (ge_var 0 rfl) (ge_var 1 rfl) gn_dnew))) ?_))
  refine gss_cons (gs_dput (kI dm.toI) (gw_ge (ge_n (gn_list T.blt (gv_view (ge_var 3 rfl) hvn))) ⟨.slot 4, _, gp_ownd 4 rfl, ge_var 2 rfl, rfl, ?_, ?_⟩))
  · rw [rowK_len]; have := sm.row dw.toS; omega
  refine gss_frzd 4 rfl (gss_one (gs_dput (kS dw.toS) (gw_ge (ge_var 4 rfl) ⟨.at rd, _, gp_at (ge_rows T S (ge_var 0 rfl)), ge_var 1 rfl, S.dic, ?_, ?_⟩)))
  · rw [rowsK_len]; have := sm.1; omega
  · show PP .non (gupd G rd (.dic (putD (rowsK rows) (.inr dw.toS) (.dic (putD (rowK (rowOf rows dw.toS)) (.inl dm.toI) (.lst ns))))))
    rw [rowK_put]
    have e := rowsK_put (rows := rows) (x := dw.toS) (r := lput (rowOf rows dw.toS) dm.toI ns)
    unfold rowD at e
    rw [e]
    exact q
end
end Gh
end

section
set_option Elab.async false
set_option linter.all false
set_option maxRecDepth 100000
set_option maxHeartbeats 4000000
namespace Gh
open PySem PySem.Spec PyProof.Rows L2
/-! a shop beside a law's own rows (out of k02's texts, for the laws from k04 on) -/
/-! law_k02: what is kept -/
/-- a need of the law's own -/
def Need1 (d : D) : Prop := ∃ x a b, d = .tup [.str x, .int a, .int b] ∧ wareS x = true ∧ 1 ≤ a ∧ a ≤ b ∧ b ≤ 999
def Needs (x : Str) (l : List D) : Prop := l.length ≤ 6 ∧ (∀ d ∈ l, Need1 d) ∧ (x :: l.map D.nm).Nodup
theorem Need1.need {d : D} (h : Need1 d) : d.need = true := by
  obtain ⟨x, a, b, rfl, h1, h2, h3, h4⟩ := h
  show (wareS x && ((decide (1 ≤ a) && decide (a ≤ 999)) && ((decide (1 ≤ b) && decide (b ≤ 999)) && decide (a ≤ b)))) = true
  rw [h1]
  simp
  omega
theorem Need1.ok {d : D} (h : Need1 d) : D.ok 3 d = true ∧ d.isD = true ∧ d.seen = true ∧ d.isBl = false := by
  obtain ⟨x, a, b, rfl, h1, h2, h3, h4⟩ := h
  have hx := ware_ok h1
  refine ⟨?_, rfl, ?_, rfl⟩
  · rw [D.ok_tup, D.oks_cons, D.oks_cons, D.oks_cons, D.oks_nil, D.ok_str hx.2.1, D.ok_int, D.ok_int]; rfl
  · show ([D.str x, D.int a, D.int b].all fun x => x.isD && x.fit) = true
    have : D.fit (.str x) = true := by
      show (decide (x.length ≤ 100000) && PyData.strOk x) = true
      rw [hx.2.1, decide_eq_true (by omega)]; rfl
    simp [D.isD, D.fit]
    exact ⟨by omega, hx.2.1⟩
theorem needsIn_of {seen : List Str} : ∀ {l : List D}, (∀ d ∈ l, Need1 d) → (seen ++ l.map D.nm).Nodup → needsIn seen l = true
  | [], _, _ => rfl
  | d :: l, h, hn => by
    have e : seen ++ (d :: l).map D.nm = (seen ++ [d.nm]) ++ l.map D.nm := by simp
    have h1 : d.nm ∉ seen := by
      intro z
      rw [List.nodup_append] at hn
      exact hn.2.2 d.nm z d.nm (by simp) rfl
    show (d.need && (!decide (d.nm ∈ seen) && needsIn (seen ++ [d.nm]) l)) = true
    rw [(h d (List.mem_cons_self ..)).need, needsIn_of (fun y hy => h y (List.mem_cons_of_mem _ hy)) (by rw [← e]; exact hn)]
    simp [h1]
theorem Needs.ok {x : Str} {l : List D} (h : Needs x l) : needsOk x (.lst l) = true ∧ (D.lst l).seenAll = true ∧ D.oks 3 l = true := by
  obtain ⟨h1, h2, h3⟩ := h
  refine ⟨?_, List.all_eq_true.mpr fun d hd => ?_, ?_⟩
  · show (decide (l.length ≤ 6) && needsIn [x] l) = true
    rw [decide_eq_true h1, Bool.true_and]
    exact needsIn_of h2 h3
  · have := (h2 d hd).ok
    rw [this.2.1, this.2.2.1]; rfl
  · have := D.oks_map (n := 3) (f := id) (xs := l) fun d hd => (h2 d hd).ok.1
    rwa [List.map_id] at this

/-! addresses and what lies there -/
def tabK (names : List Str) (rs : List Addr) : List (Key × D) := (names.zip rs).map fun p => (.inr p.1, .ref p.2)
theorem tabK_keys {names : List Str} {rs : List Addr} (h : rs.length = names.length) : ((tabK names rs).map fun kv => kD kv.1) = names.map .str := by
  unfold tabK
  rw [List.map_map]
  have : names.map D.str = ((names.zip rs).map Prod.fst).map D.str := by rw [List.map_fst_zip (by omega)]
  rw [this, List.map_map]; rfl
theorem zip_get {α β : Type} {xs : List α} {ys : List β} {i : Nat} {x : α} {y : β} (h1 : xs[i]? = some x) (h2 : ys[i]? = some y) : (xs.zip ys)[i]? = some (x, y) := by
  rw [List.getElem?_zip_eq_some]; exact ⟨h1, h2⟩
theorem tabK_val {names : List Str} {rs : List Addr} {i : Nat} {x : Str} {r : Addr} (hn : names.Nodup) (h1 : names[i]? = some x) (h2 : rs[i]? = some r) : valD (tabK names rs) (.inr x) = some (.ref r) := by
  unfold tabK
  induction names generalizing rs i with
  | nil => simp at h1
  | cons y ys ih =>
    cases rs with
    | nil => simp at h2
    | cons r0 rs =>
      unfold valD
      rw [List.zip_cons_cons, List.map_cons, List.find?_cons]
      cases i with
      | zero =>
        simp at h1 h2
        subst h1 h2
        simp
      | succ i =>
        simp at h1 h2
        have ne : ¬ y = x := by
          rintro rfl
          exact (List.nodup_cons.mp hn).1 (List.mem_of_getElem? h1)
        have : ¬ ((.inr y : Key) = .inr x) := fun z => ne (Sum.inr.inj z)
        simp only [this, decide_false]
        exact ih (List.nodup_cons.mp hn).2 h1 h2
/-- a shop and the law's own rows of it: nm the wares, o the table, rs the rows' places -/
structure Side (A : Ads) (G : Gs) (nm : List Str) (s dx rd o : Addr) (rs : List Addr) (rows : Rows) : Prop where
  shop : ShopAt A G s dx rd rows
  small : Small rows
  keys : ∀ p ∈ rows, p.1 ∈ nm ∧ p.2 ≠ []
  nd : (rows.map (·.1)).Nodup
  good : ∀ p ∈ rows, ∀ q ∈ p.2, 1 ≤ q.1 ∧ q.1 ≤ 999 ∧ Needs p.1 q.2
  out : G o = some (.dic (tabK nm rs))
  len : rs.length = nm.length
  at_ : ∀ (i : Nat) x r, nm[i]? = some x → rs[i]? = some r → G r = some (.dic (rowK (rowOf rows x)))
  dis : (rd :: o :: rs).Nodup
theorem Side.find {A : Ads} {G : Gs} {nm : List Str} {s dx rd o : Addr} {rs : List Addr} {rows : Rows} (S : Side A G nm s dx rd o rs rows) (hn : nm.Nodup) {x : Str} (h : x ∈ nm) : ∃ (i : Nat) (r : Addr), nm[i]? = some x ∧ rs[i]? = some r ∧ valD (tabK nm rs) (.inr x) = some (.ref r) ∧ G r = some (.dic (rowK (rowOf rows x))) ∧ r ≠ o ∧ r ≠ rd := by
  obtain ⟨i, hi, e⟩ := List.getElem_of_mem h
  have h1 : nm[i]? = some x := by rw [List.getElem?_eq_getElem hi, e]
  have hr : i < rs.length := by rw [S.len]; exact hi
  have h2 : rs[i]? = some rs[i] := List.getElem?_eq_getElem hr
  have hm : rs[i] ∈ rs := List.getElem_mem hr
  have d := S.dis
  simp only [List.nodup_cons, List.mem_cons, not_or] at d
  refine ⟨i, rs[i], h1, h2, tabK_val hn h1 h2, S.at_ i x _ h1 h2, ?_, ?_⟩
  · rintro e; exact d.2.1 (e ▸ hm)
  · rintro e; exact d.1.2 (e ▸ hm)
theorem Side.row {A : Ads} {G : Gs} {nm : List Str} {s dx rd o : Addr} {rs : List Addr} {rows : Rows} (S : Side A G nm s dx rd o rs rows) {x : Str} {m : Int} {ns : List D} (h : (m, ns) ∈ rowOf rows x) : 1 ≤ m ∧ m ≤ 999 ∧ Needs x ns := by
  unfold rowOf at h
  cases e : look rows x with
  | none => rw [e] at h; cases h
  | some r => rw [e] at h; exact S.good _ (look_mem e) _ h
theorem rowOf_ne {rows : Rows} (hk : ∀ p ∈ rows, p.2 ≠ []) {x : Str} : (rowOf rows x).length = 0 ↔ x ∉ rows.map (·.1) := by
  unfold rowOf
  cases e : look rows x with
  | none =>
    refine ⟨fun _ z => ?_, fun _ => rfl⟩
    obtain ⟨p, hp, rfl⟩ := List.mem_map.mp z
    exact look_none e p hp rfl
  | some r =>
    have hm := look_mem e
    refine ⟨fun z => ?_, fun z => absurd (List.mem_map.mpr ⟨_, hm, rfl⟩) z⟩
    exact absurd (List.length_eq_zero_iff.mp z) (hk _ hm)
/-- the wares told are those with rows, as the law finds them -/
theorem Side.wares {A : Ads} {G : Gs} {nm : List Str} {s dx rd o : Addr} {rs : List Addr} {rows : Rows} (S : Side A G nm s dx rd o rs rows) (hn : nm.Nodup) : sortS (nm.filter fun x => !decide ((rowOf rows x).length = 0)) = sortS (rows.map (·.1)) := by
  refine sortS_perm ?_
  rw [List.perm_ext_iff_of_nodup (hn.filter _) S.nd]
  intro x
  rw [List.mem_filter]
  have hk : ∀ p ∈ rows, p.2 ≠ [] := fun p hp => (S.keys p hp).2
  constructor
  · rintro ⟨h1, h2⟩
    have h2 : ¬ (rowOf rows x).length = 0 := by simpa using h2
    rw [rowOf_ne hk] at h2
    exact Classical.not_not.mp h2
  · intro h
    have h2 : ¬ (rowOf rows x).length = 0 := by rw [rowOf_ne hk]; exact fun z => z h
    obtain ⟨p, hp, rfl⟩ := List.mem_map.mp h
    exact ⟨(S.keys p hp).1, by simpa using h2⟩
/-- another place is changed -/
theorem Side.frame {A : Ads} {G : Gs} {nm : List Str} {s dx rd o : Addr} {rs : List Addr} {rows : Rows} (S : Side A G nm s dx rd o rs rows) {G' : Gs} (h : ∀ a, a = s ∨ a = rd ∨ a = o ∨ a ∈ rs → G' a = G a) : Side A G' nm s dx rd o rs rows := by
  refine ⟨⟨?_, ?_⟩, S.small, S.keys, S.nd, S.good, ?_, S.len, fun i x r h1 h2 => ?_, S.dis⟩
  · rw [h s (.inl rfl)]; exact S.shop.ins
  · rw [h rd (.inr (.inl rfl))]; exact S.shop.dic
  · rw [h o (.inr (.inr (.inl rfl)))]; exact S.out
  · rw [h r (.inr (.inr (.inr (List.mem_of_getElem? h2))))]; exact S.at_ i x r h1 h2
/-! law_k02: what is told is asked about -/
mutual
theorem D.ok_mono : ∀ (n m : Nat) (d : D), n ≤ m → D.ok n d = true → D.ok m d = true
  | n, m, .non, _, _ => by rw [D.ok]
  | n, m, .bl _, _, _ => by rw [D.ok]
  | n, m, .int _, _, _ => by rw [D.ok]
  | n, m, .str x, _, h => by rw [D.ok] at h ⊢; exact h
  | n, m, .ref _, _, h => by rw [D.ok] at h; cases h
  | n, m, .ty _, _, h => by rw [D.ok] at h; cases h
  | 0, m, .lst xs, _, h => by rw [D.ok] at h; cases h
  | n + 1, 0, .lst xs, le, h => absurd le (by omega)
  | n + 1, m + 1, .lst xs, le, h => by rw [D.ok_lst] at h ⊢; exact D.oks_mono n m xs (by omega) h
  | 0, m, .tup xs, _, h => by rw [D.ok] at h; cases h
  | n + 1, 0, .tup xs, le, h => absurd le (by omega)
  | n + 1, m + 1, .tup xs, le, h => by rw [D.ok_tup] at h ⊢; exact D.oks_mono n m xs (by omega) h
  | n, m, .dic _, _, h => by rw [D.ok] at h; cases h
theorem D.oks_mono : ∀ (n m : Nat) (ds : List D), n ≤ m → D.oks n ds = true → D.oks m ds = true
  | n, m, [], _, _ => D.oks_nil
  | n, m, x :: xs, le, h => by
    rw [D.oks_cons, Bool.and_eq_true] at h ⊢
    exact ⟨D.ok_mono n m x le h.1, D.oks_mono n m xs le h.2⟩
end
theorem D.eqv_self {n : Nat} {d : D} (h : D.ok n d = true) : D.eqv d d = true := PySem.SeqAt.eqv_refl _ (D.ok_lay n d h).1
theorem D.oks_all {n : Nat} {ds : List D} : D.oks n ds = true ↔ ∀ d ∈ ds, D.ok n d = true := by
  induction ds with
  | nil => simp [D.oks_nil]
  | cons d ds ih => rw [D.oks_cons, Bool.and_eq_true, ih]; simp
theorem sortS_len {xs : List Str} : (sortS xs).length = xs.length := (List.mergeSort_perm xs leCp).length_eq
theorem sortI_len {xs : List Int} : (sortI xs).length = xs.length := (List.mergeSort_perm xs _).length_eq
theorem row_keys {r : Row} : ((rowK r).map fun kv => kD kv.1) = r.map fun p => D.int p.1 := by unfold rowK codeL; rw [List.map_map]; rfl
theorem look_key {r : Row} {p : Int × List D} (h : p ∈ r) : ∃ ns, look r p.1 = some ns ∧ (p.1, ns) ∈ r := by
  cases e : look r p.1 with
  | none => exact absurd rfl (look_none e p h)
  | some ns => exact ⟨ns, rfl, look_mem e⟩
theorem hasB_of {rows : Rows} {x : Str} {m : Int} {ns : List D} (hw : wareS x = true) (h : look (rowOf rows x) m = some ns) : hasB rows (.str x) (.int m) = true := by
  show (wareS x && (true && (look (rowOf rows x) m).isSome)) = true
  rw [hw, h]; rfl
theorem fit_ware {x : Str} (h : wareS x = true) : (D.str x).fit = true := by
  have := ware_ok h
  show (decide (x.length ≤ 100000) && PyData.strOk x) = true
  rw [this.2.1, decide_eq_true (by omega)]; rfl
section
variable {Y : Ctx} {ρ : Rho} {G : Gs} {e e2 e3 : Expr} {pos p apos apos2 : Pos} {A : Ads}
variable {nm : List Str} {s dx rd o : Addr} {rs : List Addr} {rows : Rows}
theorem gn_wares [Calm Y] (T : Tx Y.K Y.mg A) (S : Side A G nm s dx rd o rs rows) (hf : HasM Y.P Y.w Y.K Y.mg Y.base 1 A.Shop "wares" ["self"] (sp_Shop_wares A)) (h : GE Y e ρ G (.ref s)) {pl : Env → Sem Bool} (hk : 1 ≤ Y.k := by exact Nat.le_of_ble_eq_true rfl) (ht : MCall e "wares" [] apos pos pl := by intro _; rfl) :
    GN Y (.Call (.Attribute e "wares" apos) [] [] pos) ρ G (.lst ((sortS (rows.map (·.1))).map .str)) :=
  gn_gw (gw_meth0 (pl := pl) T.k_Shop.cls hf h S.shop.ins rfl ⟨s, dx, rd, rows, rfl, S.shop, S.small, fun l hl => ⟨l, rfl, hl, rfl⟩⟩ rfl hk ht)
theorem gn_makes [Calm Y] {x : Str} (T : Tx Y.K Y.mg A) (S : Side A G nm s dx rd o rs rows) (hw : wareS x = true) (hf : HasM Y.P Y.w Y.K Y.mg Y.base 3 A.Shop "makes" ["self", "ware"] (sp_Shop_makes A)) (h : GE Y e ρ G (.ref s)) (h2 : GE Y e2 ρ G (.str x)) {pl : Env → Sem Bool} (hk : 3 ≤ Y.k := by exact Nat.le_of_ble_eq_true rfl)
    (hst : ∀ env, starEach [e2] env = (false, eval e2 env) :: starEach [] env := by intro _; rfl) (ht : MCall e "makes" [e2] apos pos pl := by intro _; rfl) :
    GN Y (.Call (.Attribute e "makes" apos) [e2] [] pos) ρ G (.lst ((sortI ((rowOf rows x).map (·.1))).map .int)) :=
  gn_gw (gw_meth (pl := pl) T.k_Shop.cls hf h S.shop.ins rfl (gr_cons h2 gr_nil hst) ⟨s, dx, rd, rows, _, .str x, rfl, S.shop, S.small, .rfl, rfl, fit_ware hw, fun z => (by rw [show (D.str x).ware = wareS x from rfl, hw] at z; cases z), fun _ l hl => ⟨l, rfl, hl, rfl⟩⟩ rfl hk hst (fun _ => rfl) ht)
theorem gn_needsM [Calm Y] {x : Str} {m : Int} {ns : List D} (T : Tx Y.K Y.mg A) (S : Side A G nm s dx rd o rs rows) (hw : wareS x = true) (hm : look (rowOf rows x) m = some ns) (hf : HasM Y.P Y.w Y.K Y.mg Y.base 3 A.Shop "needs" ["self", "ware", "make"] (sp_Shop_needs A)) (h : GE Y e ρ G (.ref s)) (h2 : GE Y e2 ρ G (.str x)) (h3 : GE Y e3 ρ G (.int m)) {pl : Env → Sem Bool} (hk : 3 ≤ Y.k := by exact Nat.le_of_ble_eq_true rfl)
    (hst : ∀ env, starEach [e2, e3] env = (false, eval e2 env) :: starEach [e3] env := by intro _; rfl) (hst2 : ∀ env, starEach [e3] env = (false, eval e3 env) :: starEach [] env := by intro _; rfl) (hpl : ∀ env, (backTo pos (starEach [e3] env)).any (·.1) = false := by intro _; rfl) (ht : MCall e "needs" [e2, e3] apos pos pl := by intro _; rfl) :
    GN Y (.Call (.Attribute e "needs" apos) [e2, e3] [] pos) ρ G (.lst ns) :=
  gn_gw (gw_meth (pl := pl) T.k_Shop.cls hf h S.shop.ins rfl (gr_cons h2 (gr_cons h3 gr_nil hst2) hst) ⟨s, dx, rd, rows, _, .str x, _, .int m, rfl, S.shop, .rfl, rfl, fit_ware hw, .rfl, rfl, fun z => (by rw [hasB_of hw hm] at z; cases z), fun _ l ns' h' hl => (by rw [show look (rowOf rows (D.str x).toS) (D.int m).toI = look (rowOf rows x) m from rfl, hm] at h'; cases h'; exact ⟨l, rfl, hl, rfl⟩)⟩ rfl hk hst hpl ht)
theorem gic_id {tg : Expr} {xs : List D} (h : GIc Y tg e ρ G xs) : GIc Y tg e ρ G (xs.map fun d => d) := by rw [List.map_id']; exact h
theorem Side.frameL {h : Addr} {held : List D} {g : GO} (S : Side A G nm s dx rd o rs rows) (hh : G h = some (.lst held)) : Side A (gupd G h g) nm s dx rd o rs rows := S.frame fun a ha => by
  refine gupd_ne ?_
  rintro rfl
  rcases ha with rfl | rfl | rfl | ha
  · rw [S.shop.ins] at hh; cases hh
  · rw [S.shop.dic] at hh; cases hh
  · rw [S.out] at hh; cases hh
  · obtain ⟨i, hi, e⟩ := List.getElem_of_mem ha
    have h2 : rs[i]? = some rs[i] := List.getElem?_eq_getElem hi
    have h1 : nm[i]? = some (nm[i]'(by rw [← S.len]; exact hi)) := List.getElem?_eq_getElem _
    have := S.at_ i _ _ h1 h2
    rw [e, hh] at this; cases this
end
/-! law_k02: one deed -/
section
variable {α β : Type} [DecidableEq α]
theorem mem_lput {l : List (α × β)} {k : α} {v : β} {p : α × β} (h : p ∈ lput l k v) : p = (k, v) ∨ p ∈ l := by
  unfold lput at h
  split at h
  · obtain ⟨q, hq, rfl⟩ := List.mem_map.mp h
    by_cases e : q.1 = k
    · rw [if_pos e, e]; exact .inl rfl
    · rw [if_neg e]; exact .inr hq
  · rcases List.mem_append.mp h with z | z
    · exact .inr z
    · rw [List.mem_singleton] at z; exact .inl z
theorem mem_ldrop {l : List (α × β)} {k : α} {p : α × β} (h : p ∈ ldrop l k) : p ∈ l := (List.mem_filter.mp h).1
theorem lput_keys {l : List (α × β)} {k : α} {v : β} : (lput l k v).map (·.1) = if (look l k).isSome then l.map (·.1) else l.map (·.1) ++ [k] := by
  unfold lput
  rw [look_isSome]
  split
  · rw [List.map_map]
    refine List.map_congr_left fun p _ => ?_
    show (if p.1 = k then (p.1, v) else p).1 = p.1
    split <;> rfl
  · simp
theorem lput_nd {l : List (α × β)} {k : α} {v : β} (h : (l.map (·.1)).Nodup) : ((lput l k v).map (·.1)).Nodup := by
  rw [lput_keys]
  split
  · exact h
  · rename_i hn
    have hn : look l k = none := by
      cases e : look l k with
      | none => rfl
      | some v => rw [e] at hn; exact absurd rfl hn
    rw [List.nodup_append]
    refine ⟨h, by simp, ?_⟩
    intro a ha b hb e
    rw [List.mem_singleton] at hb
    obtain ⟨p, hp, rfl⟩ := List.mem_map.mp ha
    exact look_none hn p hp (e.trans hb)
theorem ldrop_nd {l : List (α × β)} {k : α} (h : (l.map (·.1)).Nodup) : ((ldrop l k).map (·.1)).Nodup := h.sublist (List.Sublist.map _ List.filter_sublist)
end
theorem rowOf_lput {rows : Rows} {x y : Str} {r : Row} : rowOf (lput rows x r) y = if x = y then r else rowOf rows y := by
  unfold rowOf
  rw [look_lput]
  split <;> rfl
theorem rowOf_ldrop {rows : Rows} {x y : Str} : rowOf (ldrop rows x) y = if x = y then [] else rowOf rows y := by
  unfold rowOf
  rw [look_ldrop]
  split <;> rfl
theorem rowOf_takeR {rows : Rows} {x y : Str} {m : Int} : rowOf (takeR rows x m) y = if x = y then ldrop (rowOf rows x) m else rowOf rows y := by
  unfold takeR
  split
  · rename_i h
    rw [rowOf_ldrop, List.length_eq_zero_iff.mp h]
  · rw [rowOf_lput]
theorem rowOf_putR {rows : Rows} {x y : Str} {m : Int} {l : List D} : rowOf (putR rows x m l) y = if x = y then lput (rowOf rows x) m l else rowOf rows y := rowOf_lput
section
variable {A : Ads} {G : Gs} {nm : List Str} {s dx rd o : Addr} {rs : List Addr} {rows rows' : Rows} {x : Str} {i : Nat} {r : Addr} {R : Row} {m : Int} {l : List D}
theorem Side.after (S : Side A G nm s dx rd o rs rows) (hnm : nm.Nodup) (h1 : nm[i]? = some x) (h2 : rs[i]? = some r) (sm : Small rows') (ks : ∀ p ∈ rows', p.1 ∈ nm ∧ p.2 ≠ []) (nd : (rows'.map (·.1)).Nodup) (gd : ∀ p ∈ rows', ∀ q ∈ p.2, 1 ≤ q.1 ∧ q.1 ≤ 999 ∧ Needs p.1 q.2) (hrow : ∀ y, rowOf rows' y = if x = y then R else rowOf rows y) :
    Side A (gupd (gupd G r (.dic (rowK R))) rd (.dic (rowsK rows'))) nm s dx rd o rs rows' := by
  have hm : r ∈ rs := List.mem_of_getElem? h2
  have d := S.dis
  simp only [List.nodup_cons, List.mem_cons, not_or] at d
  obtain ⟨⟨d1, d2⟩, d3, d4⟩ := d
  have hr := S.at_ i x r h1 h2
  have s1 : s ≠ rd := by rintro rfl; have := S.shop.ins; rw [S.shop.dic] at this; cases this
  have s2 : s ≠ r := by rintro rfl; have := S.shop.ins; rw [hr] at this; cases this
  have o1 : o ≠ rd := fun e => d1 e.symm
  have o2 : o ≠ r := fun e => d3 (e ▸ hm)
  refine ⟨⟨?_, gupd_same⟩, sm, ks, nd, gd, ?_, S.len, fun j y r' z1 z2 => ?_, S.dis⟩
  · rw [gupd_ne s1, gupd_ne s2]; exact S.shop.ins
  · rw [gupd_ne o1, gupd_ne o2]; exact S.out
  · have hm' : r' ∈ rs := List.mem_of_getElem? z2
    have n1 : r' ≠ rd := fun e => d2 (e ▸ hm')
    rw [gupd_ne n1, hrow]
    by_cases e : r' = r
    · subst e
      have : j = i := (List.getElem?_inj (List.getElem?_eq_some_iff.mp z2).1 d4).mp (z2.trans h2.symm)
      subst this
      rw [h1] at z1; cases z1
      rw [gupd_same, if_pos rfl]
    · have ne : ¬ x = y := by
        rintro rfl
        have : j = i := (List.getElem?_inj (List.getElem?_eq_some_iff.mp z1).1 hnm).mp (z1.trans h1.symm)
        subst this
        rw [h2] at z2; cases z2
        exact e rfl
      rw [gupd_ne e, if_neg ne]
      exact S.at_ j y r' z1 z2
theorem rows_len (hnm : nm.Nodup) (nd : (rows.map (·.1)).Nodup) (h : ∀ p ∈ rows, p.1 ∈ nm) : rows.length ≤ nm.length := by
  have := List.Nodup.length_le_of_subset nd (l₂ := nm) fun x hx => by
    obtain ⟨p, hp, rfl⟩ := List.mem_map.mp hx
    exact h p hp
  rwa [List.length_map] at this
theorem Side.take (S : Side A G nm s dx rd o rs rows) (hnm : nm.Nodup) (h1 : nm[i]? = some x) (h2 : rs[i]? = some r) : Side A (gupd (gupd G r (.dic (rowK (ldrop (rowOf rows x) m)))) rd (.dic (rowsK (takeR rows x m)))) nm s dx rd o rs (takeR rows x m) := by
  have sub : ∀ p ∈ takeR rows x m, p ∈ rows ∨ (p.1 = x ∧ p.2 = ldrop (rowOf rows x) m ∧ p.2 ≠ []) := fun p hp => by
    unfold takeR at hp
    split at hp
    · exact .inl (mem_ldrop hp)
    · rename_i hz
      rcases mem_lput hp with rfl | z
      · exact .inr ⟨rfl, rfl, fun e => hz (by rw [show ldrop (rowOf rows x) m = [] from e]; rfl)⟩
      · exact .inl z
  have hx : x ∈ nm := List.mem_of_getElem? h1
  refine S.after hnm h1 h2 ⟨?_, fun p hp => ?_⟩ (fun p hp => ?_) ?_ (fun p hp q hq => ?_) (fun y => rowOf_takeR)
  · unfold takeR
    split
    · exact Nat.le_trans ldrop_length S.small.1
    · rw [lput_length]
      split
      · exact S.small.1
      · rename_i hz hn
        exfalso
        have : look rows x = none := by
          cases e : look rows x with
          | none => rfl
          | some v => rw [e] at hn; exact absurd rfl hn
        apply hz
        unfold rowOf
        rw [this]; rfl
  · rcases sub p hp with z | ⟨_, z, _⟩
    · exact S.small.2 p z
    · rw [z]; exact Nat.le_trans ldrop_length (S.small.row x)
  · rcases sub p hp with z | ⟨z1, _, z2⟩
    · exact S.keys p z
    · exact ⟨by rw [z1]; exact hx, z2⟩
  · unfold takeR
    split
    · exact ldrop_nd S.nd
    · exact lput_nd S.nd
  · rcases sub p hp with z | ⟨z1, z2, _⟩
    · exact S.good p z q hq
    · rw [z2] at hq
      rw [z1]
      exact S.row (m := q.1) (ns := q.2) (mem_ldrop hq)
theorem Side.put (S : Side A G nm s dx rd o rs rows) (hnm : nm.Nodup) (h1 : nm[i]? = some x) (h2 : rs[i]? = some r) (hl : ¬ (look rows x).isSome = true → rows.length < 12) (h8 : (rowOf rows x).length < 8) (hm : 1 ≤ m ∧ m ≤ 999) (hn : Needs x l) :
    Side A (gupd (gupd G r (.dic (rowK (lput (rowOf rows x) m l)))) rd (.dic (rowsK (putR rows x m l)))) nm s dx rd o rs (putR rows x m l) := by
  have hx : x ∈ nm := List.mem_of_getElem? h1
  have ne : lput (rowOf rows x) m l ≠ [] := fun e => by
    have := look_lput (l := rowOf rows x) (k := m) (j := m) (v := l)
    rw [e, if_pos rfl] at this
    cases this
  refine S.after hnm h1 h2 ⟨?_, fun p hp => ?_⟩ (fun p hp => ?_) (lput_nd S.nd) (fun p hp q hq => ?_) (fun y => rowOf_putR)
  · unfold putR
    rw [lput_length]
    split
    · exact S.small.1
    · rename_i z; have := hl z; omega
  · rcases mem_lput hp with rfl | z
    · show (lput (rowOf rows x) m l).length ≤ 8
      rw [lput_length]; split <;> omega
    · exact S.small.2 p z
  · rcases mem_lput hp with rfl | z
    · exact ⟨hx, ne⟩
    · exact S.keys p z
  · rcases mem_lput hp with rfl | z
    · rcases mem_lput hq with rfl | z
      · exact ⟨hm.1, hm.2, hn⟩
      · exact S.row (m := q.1) (ns := q.2) z
    · exact S.good p z q hq
end
/-! law_k02: how it begins -/
theorem mergeD_app {kds : List (Key × D)} : ∀ {acc : List (Key × D)}, ((acc ++ kds).map (·.1)).Nodup → mergeD acc kds = acc ++ kds := by
  induction kds with
  | nil => intro acc _; simp [mergeD]
  | cons kv kds ih =>
    intro acc h
    have hk : kv.1 ∉ acc.map (·.1) := by
      rw [List.map_append, List.nodup_append] at h
      intro z
      exact h.2.2 _ z kv.1 (by simp) rfl
    have e : putD acc kv.1 kv.2 = acc ++ [kv] := by
      unfold putD
      rw [if_neg]
      intro z
      rw [List.any_eq_true] at z
      obtain ⟨p, hp, e⟩ := z
      exact hk (List.mem_map.mpr ⟨p, hp, by simpa using e⟩)
    show mergeD (putD acc kv.1 kv.2) kds = _
    rw [e, ih (by rw [List.append_assoc]; exact h), List.append_assoc]; rfl
theorem tabK_fst {nm : List Str} {rs : List Addr} (h : rs.length = nm.length) : (tabK nm rs).map (·.1) = nm.map Sum.inr := by
  unfold tabK
  rw [List.map_map]
  have : nm.map (Sum.inr (α := Int)) = ((nm.zip rs).map Prod.fst).map Sum.inr := by rw [List.map_fst_zip (by omega)]
  rw [this, List.map_map]; rfl
theorem mergeD_tab {nm : List Str} {rs : List Addr} (hn : nm.Nodup) (h : rs.length = nm.length) : mergeD [] (tabK nm rs) = tabK nm rs := by
  refine mergeD_app ?_
  rw [List.nil_append, tabK_fst h]
  exact List.Pairwise.map _ (fun a b (hab : a ≠ b) e => hab (Sum.inr.inj e)) hn
theorem tabK_snoc {nm : List Str} {rs : List Addr} {x : Str} {r : Addr} (h : rs.length = nm.length) : tabK (nm ++ [x]) (rs ++ [r]) = tabK nm rs ++ [(.inr x, .ref r)] := by
  unfold tabK
  rw [List.zip_append (by omega), List.map_append]; rfl
section
variable {Y : Ctx} {ρ : Rho} {G : Gs} {pos p : Pos} {A : Ads}
theorem gw_shop [Calm Y] (T : Tx Y.K Y.mg A) (hf : HasM Y.P Y.w Y.K Y.mg Y.base 1 A.Shop "__init__" ["self"] (sp_Shop_init A)) (hk : 2 ≤ Y.k := by exact Nat.le_of_ble_eq_true rfl) (hg : GlS Y.sc "Shop" := by rfl) : GW Y (.Call (.Name "Shop" p) [] [] pos) ρ G fun d G' => ∃ s dx rd, d = .ref s ∧ G s = none ∧ G rd = none ∧ s ≠ rd ∧ ShopAt A G' s dx rd [] ∧ GEx G G' :=
  gw_make0 T.k_Shop hf (fun l dx hl hdx ne => ⟨l, dx, rfl, gupd_same, fun l2 h2 => ⟨rfl, l, dx, l2, rfl, hl, ?_, ?_, ⟨gupd_same, ?_⟩, ?_⟩⟩) rfl hk hg
where finally
  · have n1 : l2 ≠ l := by rintro rfl; rw [gupd_same] at h2; cases h2
    rw [gupd_ne n1] at h2
    have n2 : l2 ≠ dx := by rintro rfl; rw [gupd_same] at h2; cases h2
    rw [gupd_ne n2] at h2; exact h2
  · rintro rfl; rw [gupd_same] at h2; cases h2
  · have n1 : l2 ≠ l := by rintro rfl; rw [gupd_same] at h2; cases h2
    rw [gupd_ne n1, gupd_same]; rfl
  · intro b u e
    have n1 : b ≠ l := by rintro rfl; rw [hl] at e; cases e
    have n2 : b ≠ dx := by rintro rfl; rw [hdx] at e; cases e
    have n3 : b ≠ l2 := by
      rintro rfl
      rw [gupd_ne n1, gupd_ne n2, e] at h2; cases h2
    rw [gupd_ne n1, gupd_ne n3, gupd_ne n1, gupd_ne n2]; exact e
end
/-- a new table: rows for each ware -/
structure Tab (G : Gs) (nm : List Str) (o : Addr) (rs : List Addr) : Prop where
  out : G o = some (.dic (tabK nm rs))
  len : rs.length = nm.length
  row : ∀ r ∈ rs, G r = some (.dic [])
  nd : (o :: rs).Nodup
theorem Tab.up {G G' : Gs} {nm : List Str} {o : Addr} {rs : List Addr} (h : Tab G nm o rs) (e : GEx G G') : Tab G' nm o rs := ⟨e _ _ h.out, h.len, fun r hr => e _ _ (h.row r hr), h.nd⟩
theorem Tab.side {A : Ads} {G : Gs} {nm : List Str} {s dx rd o : Addr} {rs : List Addr} (h : Tab G nm o rs) (S : ShopAt A G s dx rd []) (hd : rd ∉ o :: rs) : Side A G nm s dx rd o rs [] :=
  ⟨S, ⟨by decide, fun _ z => by cases z⟩, fun _ z => (by cases z), by simp, fun _ z => (by cases z), h.out, h.len, fun i x r h1 h2 => h.row r (List.mem_of_getElem? h2), List.nodup_cons.mpr ⟨hd, h.nd⟩⟩
end Gh
end

section
set_option Elab.async false
set_option linter.all false
set_option maxRecDepth 100000
set_option maxHeartbeats 4000000
/-! ## d.clear(), d.update(e); != of lists in which dicts stand -/
namespace PySem.SeqAt
section
open AutoSeq1 MeetsSeq MeetsSeq2 MeetsSeq3 SeqRoads2
variable {prog : Program} {w : World}
/-- the loop of != where all items are equal -/
theorem neSame_go (p q : Addr) (xs ys : Array Value) (nx ny : Nat) (cx cy : Option Addr) (tx ty : Array (Option Value)) (hz : xs.size = ys.size) :
    ∀ (m i : Nat), xs.size - i = m → MeetsIn prog w (Builtin.«list.__eq__.loop» ⟨[.ref p, .ref q, rawInt i, rawInt 3], []⟩) (fun A R s =>
      s.heap.get? p = some { cls := .type "list", dict := cx, data := .seq xs nx, slots := tx } ∧ s.heap.get? q = some { cls := .type "list", dict := cy, data := .seq ys ny, slots := ty } ∧
      (∀ j (g1 : j < xs.size) (g2 : j < ys.size), EqP prog w A.in1 s xs[j] ys[j] true) ∧ R (.ok (.ret (.bool false))) s) := by
  intro m
  induction m with
  | zero =>
    intro i hi A R s hh
    obtain ⟨hp, g, d, tk, os⟩ := s; obtain ⟨h1, h2, he, hr⟩ := hh
    have e1 : xs[((i : Nat) : Int).toNat]? = none := by rw [Array.getElem?_eq_none]; show xs.size ≤ i; omega
    have e2 : ys[((i : Nat) : Int).toNat]? = none := by rw [Array.getElem?_eq_none]; show ys.size ≤ i; omega
    wp_walk using AutoSeq1.wpAny_loadPart' h1, AutoSeq1.wpAny_loadPart' h2
    rw [e1, e2]
    wp_walk using AutoSeq1.wpAny_loadPart' h1, AutoSeq1.wpAny_loadPart' h2
    show R (.ok (.ret (.bool (xs.size != ys.size)))) _
    rw [hz, bne_self_eq_false]; exact hr
  | succ m ih =>
    intro i hi A R s hh
    obtain ⟨hp, g, d, tk, os⟩ := s; obtain ⟨h1, h2, he, hr⟩ := hh
    have g1 : i < xs.size := by omega
    have g2 : i < ys.size := by omega
    have e1 : xs[((i : Nat) : Int).toNat]? = some xs[i] := Array.getElem?_eq_getElem g1
    have e2 : ys[((i : Nat) : Int).toNat]? = some ys[i] := Array.getElem?_eq_getElem g2
    wp_walk using AutoSeq1.wpAny_loadPart' h1, AutoSeq1.wpAny_loadPart' h2
    rw [e1, e2]
    refine wpAny_bind (he i g1 g2 _ _ ?_)
    wp_walk
    rw [show ((i : Int) + 1) = ((i + 1 : Nat) : Int) from by push_cast; rfl]
    refine ⟨plainId_quiet plain_eq_loop _, codeAny_builtin entry_eq_loop ?_⟩
    rw [Around.under_plainId plain_eq_loop _]
    exact ih (i + 1) (by omega) A R _ ⟨h1, h2, he, hr⟩
theorem neSame (p q : Addr) (xs ys : Array Value) (nx ny : Nat) (cx cy : Option Addr) (tx ty : Array (Option Value)) (hz : xs.size = ys.size) :
    MeetsIn prog w (Builtin.«list.__ne__» ⟨[.ref p, .ref q], []⟩) (fun A R s =>
      s.heap.get? p = some { cls := .type "list", dict := cx, data := .seq xs nx, slots := tx } ∧ s.heap.get? q = some { cls := .type "list", dict := cy, data := .seq ys ny, slots := ty } ∧
      (∀ j (g1 : j < xs.size) (g2 : j < ys.size), EqP prog w A.in1 s xs[j] ys[j] true) ∧ R (.ok (.ret (.bool false))) s) := by
  intro A R s hh
  obtain ⟨hp, g, d, tk, os⟩ := s; obtain ⟨h1, h2, he, hr⟩ := hh
  have fl := AutoSeq1.sub_list_list
  have hn : ¬ (xs.size != ys.size) = true := by rw [hz, bne_self_eq_false]; exact Bool.false_ne_true
  wp_walk using AutoSeq1.wpAny_loadPart' h1, AutoSeq1.wpAny_loadPart' h2
  refine ⟨plainId_quiet plain_eq_loop _, codeAny_builtin entry_eq_loop ?_⟩
  rw [Around.under_plainId plain_eq_loop _]
  exact neSame_go p q xs ys nx ny cx cy tx ty hz _ 0 rfl A R _ ⟨h1, h2, he, hr⟩
theorem neSame_rc {A : Around} {s : Shared} {p q : Addr} {xs ys : Array Value} (hp : s.heap.IsList p xs) (hq : s.heap.IsList q ys) (hz : xs.size = ys.size) (hu : A.units < cLine)
    (he : ∀ j (g1 : j < xs.size) (g2 : j < ys.size), EqP prog w A.in1 s xs[j] ys[j] true) (E Q : Value → Shared → Prop) (h : Q (.bool false) s) : wpAny (model prog w) A (richCompare .NotEq (.ref p) (.ref q)) Q E s := by
  obtain ⟨⟨c1, z1, d1, t1⟩, o1, k1, n1, u1⟩ := id hp
  obtain ⟨⟨c2, z2, d2, t2⟩, o2, k2, n2, u2⟩ := id hq
  simp only at k1 u1 k2 u2
  subst k1 u1 k2 u2
  have y1 : s.TypeIs (.ref p) "list" := ⟨_, o1, rfl⟩
  have y2 : s.TypeIs (.ref q) "list" := ⟨_, o2, rfl⟩
  refine wpAny_richCompare_same_room (op := .NotEq) y1 y2 F.slot_list_ne ?_ hu
  exact call_meetsIn F.slot_list_ne y1 F.entry_list_ne (F.args_list_ne_2 _ _) (neSame p q xs ys n1 n2 z1 z2 t1 t2 hz) ⟨o1, o2, he, show Value.bool false ≠ Value.notImplemented ∧ Q (.bool false) s from ⟨(fun x => nomatch x), h⟩⟩
end
end PySem.SeqAt
namespace Gh
open PySem PySem.Spec PyProof.Rows L2
/-- equal data, or lists and dicts of such, of nesting below n -/
def EqD0 (K : PySem.W.Frag) (H : Hp) (x y : V) : Prop := ∃ d e, Dp K H x d ∧ Dp K H y e ∧ d.canLay0 = true ∧ e.canLay0 = true ∧ d.depth ≤ 60 ∧ PyData.eqv d e = true
def EqW (K : PySem.W.Frag) (H : Hp) : Nat → V → V → Prop
  | 0 => EqD0 K H
  | n + 1 => fun x y => EqD0 K H x y ∨ EqR K H (EqW K H n) x y
theorem eqData_run {X : Cx} {pins : List (Addr × Obj)} {σ : L2.St} {H : Hp} {s : Shared} (I : Inv X pins σ H s) {A : Around} (hu : A.units + 60 < cLine) {x y : V} {v u : Value} (h : EqD0 X.K H x y) (rx : RelV x v) (ry : RelV y u) : SeqAt.EqP X.prog X.w A s v u true := by
  obtain ⟨d, e, h1, h2, s1, s2, s3, q⟩ := h
  obtain ⟨as, r1⟩ := Dp.reads I d x v h1 rx
  obtain ⟨bs, r2⟩ := Dp.reads I e y u h2 ry
  have := SeqAt.eqAt_reads d e A s v u as bs r1 r2 s1 s2 (by have := Nat.min_le_left d.depth e.depth; omega)
  rw [q] at this
  exact this.eqP
theorem eqW_run {X : Cx} {pins : List (Addr × Obj)} {σ : L2.St} {H : Hp} {s : Shared} (I : Inv X pins σ H s) : ∀ (n : Nat) (A : Around), A.units + n + 60 < cLine → ∀ (x y : V) (v u : Value), EqW X.K H n x y → RelV x v → RelV y u → SeqAt.EqP X.prog X.w A s v u true
  | 0, A, hu, x, y, v, u, h, rx, ry => eqData_run I hu h rx ry
  | n + 1, A, hu, x, y, v, u, h, rx, ry => by
    rcases (show EqD0 X.K H x y ∨ EqR X.K H (EqW X.K H n) x y from h) with h | h
    · exact eqData_run I (by omega) h rx ry
    · have go := eqR_run I (A := A) (by omega) (eqW_run I n A.in1 (by show A.units + 1 + n + 60 < cLine; omega)) h rx ry
      obtain ⟨a, b, rfl, rfl⟩ : ∃ a b, x = .ref a ∧ y = .ref b := by
        rcases h with ⟨a, b, _, _, e1, e2, _⟩ | ⟨a, b, _, _, e1, e2, _⟩ <;> exact ⟨a, b, e1, e2⟩
      cases (show v = Value.ref a from rx)
      cases (show u = Value.ref b from ry)
      by_cases e : a = b
      · subst e
        exact (SeqAt.EqAt.same _).eqP
      · exact SeqAt.eqP_refs e go
/-- xs != ys, lists of equal items: False -/
def rNeW (K : PySem.W.Frag) : R2 := fun x y H Q => ∃ a b xs ys, x = .ref a ∧ y = .ref b ∧ SqL K H a xs ∧ SqL K H b ys ∧ Paired (EqW K H 3) xs ys ∧ Q (.bl false) H
theorem op_neW {X : Cx} (hu : X.A.units + 64 < cLine) : OpR X (compareOp .NotEq) (rNeW X.K) := by
  intro pins s σ H x y v u Q I rx ry h
  obtain ⟨a, b, xs, ys, rfl, rfl, ha, hb, hp, q⟩ := h
  cases (show v = Value.ref a from rx)
  cases (show u = Value.ref b from ry)
  obtain ⟨us, r1, p1, _⟩ := I.list ha
  obtain ⟨ws, r2, p2, _⟩ := I.list hb
  have hz : us.toArray.size = ws.toArray.size := by
    rw [List.size_toArray, List.size_toArray, ← r1.length, ← r2.length]
    exact Paired.length hp
  refine SeqAt.neSame_rc p1.isList p2.isList hz (by omega) (fun j g1 g2 => ?_) _ _ ⟨.bl false, H, I, rfl, q⟩
  have k := items_run (eqW_run I 3 X.A.in1 (by show X.A.units + 1 + 3 + 60 < cLine; omega)) hp r1 r2 j (by simpa using g1) (by simpa using g2)
  simpa using k
/-! ### d.update(e) -/
def rDUpd : V → List V → Hp → VK → Prop := fun x vs H Q => ∃ (a b : Addr) (kvs more : List (Key × V)), x = .ref a ∧ vs = [.ref b] ∧ a ≠ b ∧ H a = some (.dK kvs) ∧ Rd H b (.dK more) ∧ kvs.length + more.length ≤ sizeLine ∧ Q .non (upd H a (.dK (mergeK kvs more)))
theorem mtd_upd {X : Cx} : MtR X "dict.update" rDUpd := by
  intro pins s σ H x vs v us Q I rx rv h
  obtain ⟨a, b, kvs, more, rfl, rfl, hne, e1, e2, hl, q⟩ := h
  obtain rfl : v = Value.ref a := rx
  obtain ⟨u, rfl, ru⟩ := rv.one
  obtain rfl : u = Value.ref b := ru
  obtain ⟨z1, y1, ws, r1, d1⟩ := dk_of I.hok e1
  obtain ⟨z2, y2, us, r2, d2⟩ := dk_rd I.hok e2
  refine call_meetsIn PySem.F.slot_dict_update d1.typeIs PySem.F.entry_dict_update (PySem.F.args_dict_update_2 _ _) (meets_dict_update (mixKind X.prog X.w) a b hne y2) ⟨ws, us, d1, d2, by rw [← r1.length, ← r2.length]; exact hl, fun h' dd' _ hs => ?_⟩
  have he : ∃ q, h'.get? a = some q := let ⟨q, _, _, hq, _⟩ := dd'; ⟨q, hq⟩
  exact ⟨.non, _, d_write (t' := s.toks) I (by rw [e1]; exact True.intro) hs he (dk_new (Nat.le_trans (length_mergeK _ _) hl) y1 (KV.merge r2 r1) dd'), rfl, q⟩
section
variable {Y : Ctx} {ρ : Rho} {G : Gs} {o e a b : Expr} {pos apos : Pos} {pl : Pl} {d d1 d2 : D}
/-- o.clear(), o a dict -/
theorem gx_dclear {P : D → Rho → Gs → Prop} {kds : List (Key × D)} (ho : GP Y o ρ G pl) (hg : pl.get ρ G = some (.dic kds)) (q : P .non (pl.putR ρ (.dic [])) (pl.putG G (.dic [])))
    (hbase : BaseB o "clear" := by intro _; rfl) (hline : (apos.endLine == pos.line) = true := by rfl) :
    GX Y (.Call (.Attribute o "clear" apos) [] [] pos) ρ G P := ⟨fun F R Gl σ H W => by
  refine wE.of (t := tBM0 Y.K "dict" rDClear (wE Y o)) (fun i => (by have := pe_dclear (X := Y.X i) (o := o) (apos := apos) (cpos := pos) (wE.pe i) (hbase _) hline; rwa [Y.hK i] at this)) ?_
  refine (ho.run F R Gl σ H W).mono fun v H1 ⟨F1, Gl1, l, ev, s1, W1, is⟩ => ?_
  subst ev
  obtain ⟨vs, h1, r1⟩ := W1.pdic is hg
  exact ⟨.inr (.inr (.inl ⟨rfl, .inl ⟨_, h1⟩⟩)), l, vs, rfl, rfl, h1, F1, _, _, _, .non, s1, W1.pput is hg rfl rfl (.dic .nil), .non, q⟩⟩
/-- o.update(e), both dicts, told by address -/
theorem gx_dupd {P : D → Rho → Gs → Prop} {l p : Addr} {kds more : List (Key × D)} (ho : GP Y o ρ G (.at l)) (hg : G l = some (.dic kds)) (he : GE Y e ρ G (.ref p)) (hp : G p = some (.dic more)) (hne : l ≠ p) (hl : kds.length + more.length < 100000) (q : P .non ρ (gupd G l (.dic (mergeD kds more))))
    (hbase : BaseB o "update" := by intro _; rfl) (hfew : FewB e pos := by intro _; rfl) (hline : (apos.endLine == pos.line) = true := by rfl) (hs : StarB e := by intro _; rfl) :
    GX Y (.Call (.Attribute o "update" apos) [e] [] pos) ρ G P := ⟨fun F R Gl σ H W => by
  refine wE.of (t := tBM Y.K "dict" rDUpd (wE Y o) (wA Y [e])) (fun i => (by have := @pe_bm (Y.X i) o e [] _ _ _ apos pos _ _ _ PySem.F.plainAttrs_dict PySem.F.slot_dict_update PySem.F.type_dict_update mtd_upd (wE.pe i) (wA.pa i) (hbase _) (hfew _) hline (hs _) rfl; rwa [Y.hK i] at this)) ?_
  refine (ho.run F R Gl σ H W).mono fun v H1 ⟨F1, Gl1, l', ev, s1, W1, is⟩ => ?_
  subst ev
  have is' : l' = l := is
  subst is'
  obtain ⟨vs, h1, r1⟩ := W1.pdic is hg
  refine ⟨.inr (.inr (.inl ⟨rfl, .inl ⟨_, h1⟩⟩)), ((gr_cons he gr_nil hs).run F1 R Gl1 σ H1 W1).mono fun us H2 ⟨F2, Gl2, s2, W2, r2⟩ => ?_⟩
  cases r2 with
  | cons r2 r3 =>
  cases r3
  obtain ⟨ws, h2, r4⟩ := W2.pdic is hg
  obtain ⟨xs, h3, r5⟩ := W2.dicAt hp
  exact ⟨l', p, ws, xs, rfl, by rw [r2.ref_inv], hne, h2, .inl h3, (by rw [r4.length, r5.length]; exact Nat.le_trans (Nat.le_of_lt hl) (by decide)), F2, _, _, _, .non, s1.trans s2, W2.pput is hg rfl rfl (.dic (r5.merge r4)), .non, q⟩⟩
theorem ok64 {d : D} (h : D.ok 60 d = true) : D.ok 64 d = true := D.ok_mono 60 64 d (by decide) h
/-- items to be compared -/
def ItemEq (G : Gs) (d1 d2 : D) : Prop := (∃ e1 e2, ViewD G d1 e1 ∧ ViewD G d2 e2 ∧ D.ok 60 e1 = true ∧ D.ok 60 e2 = true ∧ D.eqv e1 e2 = true) ∨
  ∃ a b ks ls, d1 = .ref a ∧ d2 = .ref b ∧ G a = some (.dic ks) ∧ G b = some (.dic ls) ∧ ks.length = ls.length ∧ ∀ p ∈ ks, valD ls p.1 = some p.2 ∧ D.ok 60 p.2 = true
theorem ItemEq.run {F : Hp} {R Gl : Gs} {σ : L2.St} {H : Hp} {x y : V} (W : Wd Y F R Gl G ρ σ H) (h : ItemEq G d1 d2) (r1 : Rep Y.K F x d1) (r2 : Rep Y.K F y d2) : EqW Y.K H 3 x y := by
  rcases h with ⟨e1, e2, v1, v2, o1, o2, q⟩ | ⟨a, b, ks, ls, rfl, rfl, h1, h2, hl, hp⟩
  · exact Or.inl ⟨_, _, (Vw.of r1 v1).dp W (ok64 o1), (Vw.of r2 v2).dp W (ok64 o2), (D.ok_lay 60 _ o1).1, (D.ok_lay 60 _ o2).1, (D.ok_lay 60 _ o1).2, q⟩
  · obtain ⟨vs, z1, k1⟩ := W.dicAt h1
    obtain ⟨us, z2, k2⟩ := W.dicAt h2
    rw [r1.ref_inv, r2.ref_inv]
    refine Or.inr (.inr ⟨a, b, vs, us, rfl, rfl, z1, z2, by rw [k1.length, k2.length]; exact hl, fun kv hm => ?_⟩)
    obtain ⟨d, hd, rd⟩ := k1.mem hm
    obtain ⟨y1, y2⟩ := hp _ hd
    rcases k2.val kv.1 with ⟨_, z⟩ | ⟨v, d', x1, x2, x3⟩
    · rw [y1] at z; cases z
    · rw [y1] at x2; cases x2
      exact ⟨v, x1, Or.inl ⟨_, _, (Vw.rep (ρ := ρ) (σ := σ) (G := G) rd).dp W (ok64 y2), (Vw.rep (ρ := ρ) (σ := σ) (G := G) x3).dp W (ok64 y2), (D.ok_lay 60 _ y2).1, (D.ok_lay 60 _ y2).1, (D.ok_lay 60 _ y2).2, D.eqv_self (ok64 y2)⟩⟩
inductive ItemsEq (G : Gs) : List D → List D → Prop
  | nil : ItemsEq G [] []
  | cons {d e : D} {ds es : List D} : ItemEq G d e → ItemsEq G ds es → ItemsEq G (d :: ds) (e :: es)
theorem items_go {F : Hp} {R Gl : Gs} {σ : L2.St} {H : Hp} (W : Wd Y F R Gl G ρ σ H) : ∀ {xs ys : List V} {ds es : List D}, Reps Y.K F xs ds → Reps Y.K F ys es → ItemsEq G ds es → Paired (EqW Y.K H 3) xs ys
  | _, _, _, _, .nil, .nil, _ => .nil
  | _, _, _, _, .cons a b, .cons c d, .cons h t => .cons (h.run W a c) (items_go W b d t)
theorem gc_neW {ds es : List D} (ha : GV Y a ρ G (.lst ds)) (hb : GV Y b ρ G (.lst es)) (h : ItemsEq G ds es) : GC Y .NotEq a b ρ G (.bl false) :=
  gc_op (r := rNeW Y.K) (fun i => by have := @op_neW (Y.X i) (hu_i i); rwa [Y.hK i] at this) ha hb (rr_val fun F R Gl σ H x y Q W v1 v2 q => by
    obtain ⟨p, vs, rfl, h1, h2⟩ := W.lstV v1
    obtain ⟨p', us, rfl, h3, h4⟩ := W.lstV v2
    exact ⟨p, p', vs, us, rfl, rfl, h1, h3, items_go W h2 h4 h, q _ (.bl _)⟩)
end
end Gh
end

section
set_option Elab.async false
set_option linter.all false
set_option maxRecDepth 100000
set_option maxHeartbeats 4000000
namespace Gh
open PySem PySem.Spec PyProof.Rows L2
/-! ## where the operand has an effect: slices, +, loops, append -/
structure GIW (Y : Ctx) (tg e : Expr) (ρ : Rho) (G : Gs) (P : List D → (Gs → Prop) → Gs → Prop) : Prop where
  run : ∀ F R Gl σ H Q, Wd Y F R Gl G ρ σ H → (∀ J F' Gl' G' H' xs S, Same F F' → Wd Y F' R Gl' G' ρ σ H' → P xs S G' → Yields Y F' xs (fun _ _ => S) J → Q J H') → wI Y tg e σ H Q
section
variable {Y : Ctx} {ρ : Rho} {G : Gs} {a b o e tg : Expr} {pos p apos : Pos} {E : GEnds} {P : List D → (Gs → Prop) → Gs → Prop}
theorem gi_lstW (h : GW Y e ρ G fun d G' => ∃ xs, ViewD G' d (.lst xs) ∧ P xs (fun G'' => ViewD G'' d (.lst xs)) G') : GIW Y tg e ρ G P := ⟨fun F R Gl σ H Q W q => by
  refine wI.of (fun i => by have := @pi_list (Y.X i) tg e _ (wE.pe i); rwa [Y.hK i] at this) ((h.run F R Gl σ H W).mono fun v H1 ⟨F1, Gl1, G1, d, s1, W1, r, xs, hv, hP⟩ => ?_)
  obtain ⟨a, vs, rfl, h1, h2⟩ := W1.lstV (.of r hv)
  refine ⟨a, rfl, ⟨vs, h1⟩, q _ F1 Gl1 G1 H1 xs _ s1 W1 hP ⟨fun i F' R Gl G ρ σ H s W hS hi => ?_, fun i F' R Gl G ρ σ H x H2 d' s W hS hi hy => ?_, fun i F' R Gl G ρ σ H s W hS hi => ?_⟩⟩
  · obtain ⟨vs, h3, h4⟩ := W.lstAt s r hS
    exact ⟨vs, vs[i]'(by rw [h4.length]; exact hi), h3, List.getElem?_eq_getElem _⟩
  · obtain ⟨ws, h3, h4⟩ := W.lstAt s r hS
    obtain ⟨rfl, hy⟩ := hy
    obtain ⟨v, h5, h6⟩ := h4.get hi
    have h7 := hy ws h3
    rw [h5] at h7; cases h7
    exact ⟨F', Same.refl _, W, h6⟩
  · obtain ⟨ws, h3, h4⟩ := W.lstAt s r hS
    exact ⟨ws, h3, by rw [h4.length]; exact hi⟩⟩
theorem gi_enumW {elts : List Expr} {kk : Nat} {tpos : Pos} (T : Blt Y.mg) (h : GW Y e ρ G fun d G' => ∃ xs, ViewD G' d (.lst xs) ∧ P (enumD xs) (fun G'' => ViewD G'' d (.lst xs)) G') (hg : GlS Y.sc "enumerate" := by rfl) (hs : ∀ env, starEach [e] env = (false, eval e env) :: starEach [] env := by intro _; rfl) :
    GIW Y (.Tuple elts kk tpos) (.Call (.Name "enumerate" p) [e] [] pos) ρ G P := ⟨fun F R Gl σ H Q W q => by
  refine wI.of (fun i => by have := @pi_enum (Y.X i) e _ p pos tpos elts kk (gl_i hg i) (mg_i T.at i) (wA.pa i) (hs _); rwa [Y.hK i] at this) (((gre_cons (P := fun ds G' => ∃ d xs, ds = [d] ∧ ViewD G' d (.lst xs) ∧ P (enumD xs) (fun G'' => ViewD G'' d (.lst xs)) G') h (fun d G' ⟨xs, h1, h2⟩ => gre_r gr_nil ⟨d, xs, rfl, h1, h2⟩) hs).run F R Gl σ H W).mono fun vs0 H1 ⟨F1, Gl1, G1, ds, s1, W1, r0, d, xs, ed, hv, hP⟩ => ?_)
  subst ed
  cases r0 with
  | cons r r2 =>
  cases r2
  obtain ⟨a, vs, rfl, h1, h2⟩ := W1.lstV (.of r hv)
  refine ⟨a, vs, rfl, h1, q _ F1 Gl1 G1 H1 _ _ s1 W1 hP ⟨fun i F' R Gl G ρ σ H s W hS hi => ?_, fun i F' R Gl G ρ σ H x H2 d' s W hS hi hy => ?_, fun i F' R Gl G ρ σ H s W hS hi => ?_⟩⟩
  · obtain ⟨ws, h3, h4⟩ := W.lstAt s r hS
    rw [enumD_length] at hi
    exact ⟨ws, ws[i]'(by rw [h4.length]; exact hi), h3, List.getElem?_eq_getElem _⟩
  · obtain ⟨ws, h3, h4⟩ := W.lstAt s r hS
    obtain ⟨T, x', rfl, hT, rfl, hy⟩ := hy
    obtain ⟨y, hy1, rfl⟩ := enumD_get hi
    obtain ⟨v, h5, h6⟩ := h4.get hy1
    have h7 := hy ws h3
    rw [h5] at h7; cases h7
    exact W.newT (.cons (.int _) (.cons h6 .nil)) hT
  · obtain ⟨ws, h3, h4⟩ := W.lstAt s r hS
    rw [enumD_length] at hi
    exact ⟨ws, h3, by rw [h4.length]; exact hi⟩⟩
theorem gs_forW [Calm Y] {body : List Stmt} (hp : ∀ i, PassesOwn (model (Y.X i).prog (Y.X i).w) (Y.X i).A (Y.X i).env (Y.X i).xe) (hi : GIW Y tg e ρ G fun xs S G1 => ∃ Iv : Nat → Rho → Gs → Prop, Iv 0 ρ G1 ∧ (∀ i ρ' G', Iv i ρ' G' → S G') ∧
      (∀ i d ρ' G', xs[i]? = some d → Iv i ρ' G' → ∃ js ρ2, GG Y tg js d ρ' ρ2 ∧ GSs Y body ρ2 G' { E with nx := Iv (i + 1), ct := Iv (i + 1), bk := E.nx }) ∧ (∀ ρ' G', Iv xs.length ρ' G' → E.nx ρ' G'))
    (hs : ∀ env x, foldedSetIterable e env x = pure x := by intro _ _; rfl) : GS Y (.For tg e body [] pos) ρ G E := ⟨fun F R Gl σ H D W L => by
  refine wS.of (fun i => ps_for (hp i) (Calm.cm (Y := Y) i) (wI.pi i) (wG.pg i) (wSs.pss i) (hs _)) (hi.run F R Gl σ H _ W fun J F1 Gl1 G1 H1 xs S s1 W1 ⟨Iv, h0, hS, turn, done⟩ YJ => ?_)
  refine ⟨fun i m σ' H' => m = xs.length - i ∧ i ≤ xs.length ∧ ∃ F' Gl' ρ' G', Same F1 F' ∧ Wd Y F' R Gl' G' ρ' σ' H' ∧ Iv i ρ' G', ⟨xs.length, by simp, Nat.zero_le _, F1, Gl1, ρ, G1, Same.refl _, W1, h0⟩, ?_⟩
  rintro i m σ2 H2 ⟨rfl, hle, F2, Gl2, ρ2, G2, s2, W2, q2⟩
  by_cases hlt : i < xs.length
  · refine .inr ⟨YJ.go i F2 R Gl2 G2 ρ2 σ2 H2 s2 W2 (hS _ _ _ q2) hlt, fun σ' H' => ∃ F' Gl' ρ' G', Same F1 F' ∧ Wd Y F' R Gl' G' ρ' σ' H' ∧ Iv (i + 1) ρ' G', fun σ' H' h => ⟨_, by omega, rfl, hlt, h⟩, fun x H3 hy => ?_⟩
    have hx : xs[i]? = some xs[i] := List.getElem?_eq_getElem hlt
    obtain ⟨F3, s3, W3, r3⟩ := YJ.yld i F2 R Gl2 G2 ρ2 σ2 H2 x H3 _ s2 W2 (hS _ _ _ q2) hx hy
    obtain ⟨js, ρ4, hg, hb⟩ := turn i _ ρ2 G2 hx q2
    refine hg.run F3 R Gl2 G2 σ2 H3 x _ W3 r3 fun σ4 W4 _ _ => ?_
    refine hb.run F3 R Gl2 σ4 H3 _ W4 (((L.up s1).up (s2.trans s3)).again fun ρ' G' F' Gl' σ' H' s W' q => ⟨F', Gl', ρ', G', (s2.trans s3).trans s, W', q⟩)
  · have e : i = xs.length := by omega
    subst e
    exact .inl ⟨YJ.stop _ F2 R Gl2 G2 ρ2 σ2 H2 s2 W2 (hS _ _ _ q2) (Nat.le_refl _), L.nx _ _ _ _ _ _ (s1.trans s2) W2 (done _ _ q2)⟩⟩
/-- a new thing, put where all may reach it -/
theorem PN.pub {F : Hp} {R : Gs} {σ : L2.St} {H : Hp} {g : GO} {v : V} {P : D → Gs → Prop} (h : PN Y F R G ρ σ g v H) (q : ∀ l, G l = none → P (.ref l) (gupd G l g)) : PG2 Y F R ρ σ P v H := by
  obtain ⟨F1, Gl1, l, rfl, s1, W1, a1, a2, a3, a4⟩ := h
  exact ⟨F1, Gl1, gupd G l g, .ref l, s1, W1.pubN a1 a2 a3 a4, .ref l, q l a2⟩
theorem gw_cat {P : D → Gs → Prop} (ha : GW Y a ρ G fun d1 G1 => GW Y b ρ G1 fun d2 G2 => ∃ xs ys, ViewD G2 d1 (.lst xs) ∧ ViewD G2 d2 (.lst ys) ∧ xs.length + ys.length ≤ 100000 ∧ ∀ l, G2 l = none → P (.ref l) (gupd G2 l (.lst (xs ++ ys)))) : GW Y (.BinOp a .Add b pos) ρ G P := ⟨fun F R Gl σ H W => by
  refine wE.of (fun i => pe_op (by have := @op_catR (Y.X i); rwa [Y.hK i] at this) (wE.pe i) (wE.pe i)) ((ha.run F R Gl σ H W).mono fun v H1 ⟨F1, Gl1, G1, d1, s1, W1, r1, hb⟩ => (hb.run F1 R Gl1 σ H1 W1).mono fun u H2 ⟨F2, Gl2, G2, d2, s2, W2, r2, xs, ys, v1, v2, hl, q⟩ => ?_)
  obtain ⟨p, vs, rfl, h1, h2⟩ := W2.lstV (.of (r1.mono s2) v1)
  obtain ⟨p', us, rfl, h3, h4⟩ := W2.lstV (.of r2 v2)
  refine ⟨p, p', vs, us, rfl, rfl, h1, h3, by rw [h2.length, h4.length]; exact Nat.le_trans hl (by decide), fun l hl => ?_⟩
  obtain ⟨F', Gl', G', d, s, h⟩ := (new_lst W2 (h2.append h4) hl).pub q
  exact ⟨F', Gl', G', d, (s1.trans s2).trans s, h⟩⟩
structure GOc (Y : Ctx) (e : Option Expr) (ρ : Rho) (o : Option Int) : Prop where
  run : ∃ t, (∀ i, PO (Y.X i) e t) ∧ ∀ G F R Gl σ H Q, Wd Y F R Gl G ρ σ H → (∀ F' Gl' H', Same F F' → Wd Y F' R Gl' G ρ σ H' → Q o H') → t σ H Q
theorem goc_none : GOc Y none ρ none := ⟨tNoPart, fun i => po_none, fun G F R Gl σ H Q W q => q F Gl H (Same.refl F) W⟩
theorem goc_some {i : Int} (h : ∀ G, GE Y e ρ G (.int i)) : GOc Y (some e) ρ (some i) :=
  ⟨tPart (wE Y e), fun i => po_some (wE.pe i), fun G F R Gl σ H Q W q => ((h G).run F R Gl σ H W).mono fun v H1 ⟨F1, Gl1, s1, W1, r⟩ => ⟨i, r.int_inv, q F1 Gl1 H1 s1 W1⟩⟩
theorem gw_slice {P : D → Gs → Prop} {lo hi : Option Expr} {x y : Option Int} {p2 : Pos} (ha : GW Y a ρ G fun d1 G1 => ∃ xs, ViewD G1 d1 (.lst xs) ∧ ∀ l, G1 l = none → P (.ref l) (gupd G1 l (.lst (cutD xs x y)))) (hl : GOc Y lo ρ x) (hh : GOc Y hi ρ y) : GW Y (.Subscript a (.Slice lo hi none p2) pos) ρ G P := ⟨fun F R Gl σ H W => by
  obtain ⟨tl, h1, h2⟩ := hl.run
  obtain ⟨th, h3, h4⟩ := hh.run
  refine wE.of (fun i => pe_slice (by have := @sl_list (Y.X i); rwa [Y.hK i] at this) (wE.pe i) (h1 i) (h3 i)) ((ha.run F R Gl σ H W).mono fun v H1 ⟨F1, Gl1, G1, d1, s1, W1, r1, xs, v1, q⟩ => h2 G1 F1 R Gl1 σ H1 _ W1 fun F2 Gl2 H2 s2 W2 => h4 G1 F2 R Gl2 σ H2 _ W2 fun F3 Gl3 H3 s3 W3 => ?_)
  obtain ⟨p, vs, rfl, h5, h6⟩ := W3.lstV (.of (r1.mono (s2.trans s3)) v1)
  refine ⟨p, vs, rfl, h5, fun l hl => ?_⟩
  obtain ⟨F', Gl', G', d, s, h⟩ := (new_lst W3 (h6.cut x y) hl).pub q
  exact ⟨F', Gl', G', d, ((s1.trans s2).trans s3).trans s, h⟩⟩
/-- o.append(e), o told by address, e with effect -/
theorem gx_appW {P : D → Rho → Gs → Prop} {l : Addr} {ds0 : List D} (ho : GP Y o ρ G (.at l)) (hg : G l = some (.lst ds0)) (he : GW Y e ρ G fun d G1 => ∃ ds, G1 l = some (.lst ds) ∧ ds.length < 100000 ∧ P .non ρ (gupd G1 l (.lst (ds ++ [d]))))
    (hbase : BaseB o "append" := by intro _; rfl) (hfew : FewB e pos := by intro _; rfl) (hline : (apos.endLine == pos.line) = true := by rfl) (hs : StarB e := by intro _; rfl) :
    GX Y (.Call (.Attribute o "append" apos) [e] [] pos) ρ G P := ⟨fun F R Gl σ H W => by
  refine wE.of (t := tBM Y.K "list" rAppend (wE Y o) (wA Y [e])) (fun i => (by have := @pe_bm (Y.X i) o e [] _ _ _ apos pos _ _ _ PySem.F.plainAttrs_list PySem.F.slot_list_append PySem.F.type_list_append mt_append (wE.pe i) (wA.pa i) (hbase _) (hfew _) hline (hs _) rfl; rwa [Y.hK i] at this)) ?_
  refine (ho.run F R Gl σ H W).mono fun v H1 ⟨F1, Gl1, l', ev, s1, W1, is⟩ => ?_
  subst ev
  have is' : l' = l := is
  subst is'
  obtain ⟨vs, h1, r1⟩ := W1.plst is hg
  refine ⟨.inl ⟨rfl, _, .inl (.inl h1)⟩, ((gre_cons (P := fun es G1 => ∃ d ds, es = [d] ∧ G1 l' = some (.lst ds) ∧ ds.length < 100000 ∧ P .non ρ (gupd G1 l' (.lst (ds ++ [d])))) he (fun d G1 ⟨ds, z1, z2, z3⟩ => gre_r gr_nil ⟨d, ds, rfl, z1, z2, z3⟩) hs).run F1 R Gl1 σ H1 W1).mono fun us H2 ⟨F2, Gl2, G2, es, s2, W2, r2, d, ds, ee, z1, z2, z3⟩ => ?_⟩
  subst ee
  cases r2 with
  | cons r2 r3 =>
  cases r3
  obtain ⟨ws, h2, r4⟩ := Wd.plst (p := .at l') W2 rfl z1
  exact ⟨l', ws, _, rfl, rfl, h2, lt_line (by rw [r4.length]; exact z2), F2, _, _, _, .non, s1.trans s2, Wd.pput (p := .at l') W2 rfl z1 rfl rfl (.lst (r4.snoc r2)), .non, z3⟩⟩
end
end Gh
end

section
set_option Elab.async false
set_option linter.all false
set_option maxRecDepth 100000
set_option maxHeartbeats 4000000
/-! ## a dict in a list of dicts; lists of unlike lengths; range with a step; xs[i] = e -/
namespace PySem.SeqAt
section
open AutoSeq1 MeetsSeq MeetsSeq2 MeetsSeq3 SeqRoads2
variable {prog : Program} {w : World}
/-- the walk of "in": the answer of each item is known -/
theorem inAns_go (p : Addr) (xs : Array Value) (nx : Nat) (cx : Option Addr) (tx : Array (Option Value)) (x : Value) (e : Nat → Bool) :
    ∀ (m i : Nat), xs.size - i = m → MeetsIn prog w (Builtin.«list.__contains__.loop» ⟨[.ref p, x, rawInt i], []⟩) (fun A R s =>
      s.heap.get? p = some { cls := .type "list", dict := cx, data := .seq xs nx, slots := tx } ∧ (∀ j (g : j < xs.size), EqP prog w A.in1 s xs[j] x (e j)) ∧ R (.ok (.ret (.bool (((List.range xs.size).drop i).any e)))) s) := by
  intro m
  induction m with
  | zero =>
    intro i hi A R s hh
    obtain ⟨hp, g, d, tk, os⟩ := s; obtain ⟨h1, he, hr⟩ := hh
    have e1 : xs[((i : Nat) : Int).toNat]? = none := by rw [Array.getElem?_eq_none]; show xs.size ≤ i; omega
    rw [show (List.range xs.size).drop i = [] from List.drop_eq_nil_of_le (by rw [List.length_range]; omega)] at hr
    wp_walk using AutoSeq1.wpAny_loadPart' h1
    rw [e1]
    wp_walk
    exact hr
  | succ m ih =>
    intro i hi A R s hh
    obtain ⟨hp, g, d, tk, os⟩ := s; obtain ⟨h1, he, hr⟩ := hh
    have g1 : i < xs.size := by omega
    have e1 : xs[((i : Nat) : Int).toNat]? = some xs[i] := Array.getElem?_eq_getElem g1
    have e2 : (List.range xs.size).drop i = i :: (List.range xs.size).drop (i + 1) := by rw [List.drop_eq_getElem_cons (by rw [List.length_range]; exact g1), List.getElem_range]
    rw [e2, List.any_cons] at hr
    wp_walk using AutoSeq1.wpAny_loadPart' h1
    rw [e1]
    refine wpAny_bind (he i g1 _ _ ?_)
    cases hb : e i with
    | true => rw [hb] at hr; wp_walk; exact hr
    | false =>
      rw [hb, Bool.false_or] at hr
      wp_walk
      rw [show ((i : Int) + 1) = ((i + 1 : Nat) : Int) from by push_cast; rfl]
      refine ⟨plainId_quiet plain_contains_loop _, codeAny_builtin entry_contains_loop ?_⟩
      rw [Around.under_plainId plain_contains_loop _]
      exact ih (i + 1) (by omega) A R _ ⟨h1, he, hr⟩
theorem inAns (p : Addr) (xs : Array Value) (nx : Nat) (cx : Option Addr) (tx : Array (Option Value)) (x : Value) (e : Nat → Bool) : MeetsIn prog w (Builtin.«list.__contains__» ⟨[.ref p, x], []⟩) (fun A R s =>
      s.heap.get? p = some { cls := .type "list", dict := cx, data := .seq xs nx, slots := tx } ∧ (∀ j (g : j < xs.size), EqP prog w A.in1 s xs[j] x (e j)) ∧ R (.ok (.ret (.bool ((List.range xs.size).any e)))) s) := by
  intro A R s hh
  obtain ⟨hp, g, d, tk, os⟩ := s; obtain ⟨h1, he, hr⟩ := hh
  wp_walk using AutoSeq1.wpAny_loadPart' h1
  refine ⟨plainId_quiet plain_contains_loop _, codeAny_builtin entry_contains_loop ?_⟩
  rw [Around.under_plainId plain_contains_loop _]
  exact inAns_go p xs nx cx tx x e _ 0 rfl A R _ ⟨h1, he, hr⟩
theorem inAns_cmp {A : Around} {s : Shared} {p : Addr} {xs : Array Value} {x : Value} {e : Nat → Bool} (hp : s.heap.IsList p xs) (he : ∀ j (g : j < xs.size), EqP prog w A.in1 s xs[j] x (e j)) {E Q : Value → Shared → Prop} (h : Q (.bool ((List.range xs.size).any e)) s) : wpAny (model prog w) A (compareOp .In x (.ref p)) Q E s := by
  obtain ⟨⟨c1, z1, d1, t1⟩, o1, k1, n1, u1⟩ := id hp
  simp only at k1 u1
  subst k1 u1
  have y1 : s.TypeIs (.ref p) "list" := ⟨_, o1, rfl⟩
  show wpAny _ A (do return .bool (← contains (.ref p) x)) Q E s
  refine wpAny_bind (wpAny_contains_slot y1 F.slot_list_contains (wpAny_mono (Q := fun v s' => ∃ b, v = Value.bool b ∧ Q (.bool b) s') (call_meetsIn F.slot_list_contains y1 F.entry_list_contains (F.args_list_contains_2 _ _) (inAns p xs n1 z1 t1 x e) ⟨o1, he, ⟨_, rfl, h⟩⟩) (fun v s' hv => ?_) fun _ _ e => e))
  obtain ⟨b, rfl, hq⟩ := hv
  exact wpAny_truthy_bool (wpAny_pure hq)
/-- lists of unlike lengths -/
theorem neLen_rc {A : Around} {s : Shared} {p q : Addr} {xs ys : Array Value} (hp : s.heap.IsList p xs) (hq : s.heap.IsList q ys) (hz : (xs.size != ys.size) = true) (hu : A.units < cLine) {E Q : Value → Shared → Prop} (h : Q (.bool true) s) : wpAny (model prog w) A (compareOp .NotEq (.ref p) (.ref q)) Q E s :=
  RcNeAt.lists_lengths hp hq hz hu prog w E Q h
end
end PySem.SeqAt
namespace Gh
open PySem PySem.Spec PyProof.Rows L2
section
variable {Y : Ctx} {ρ : Rho} {G : Gs} {a b c e o i : Expr} {es : List Expr} {d d1 d2 : D} {ds : List D} {pos p : Pos} {E : GEnds}
/-- xs != ys of unlike lengths -/
def rNeLen (K : PySem.W.Frag) : R2 := fun x y H Q => ∃ a b xs ys, x = .ref a ∧ y = .ref b ∧ SqL K H a xs ∧ SqL K H b ys ∧ xs.length ≠ ys.length ∧ Q (.bl true) H
theorem op_neLen {X : Cx} (hu : X.A.units + 1 < cLine) : OpR X (compareOp .NotEq) (rNeLen X.K) := by
  intro pins s σ H x y v u Q I rx ry h
  obtain ⟨a, b, xs, ys, rfl, rfl, ha, hb, hp, q⟩ := h
  cases (show v = Value.ref a from rx)
  cases (show u = Value.ref b from ry)
  obtain ⟨us, r1, p1, _⟩ := I.list ha
  obtain ⟨ws, r2, p2, _⟩ := I.list hb
  refine SeqAt.neLen_rc p1.isList p2.isList ?_ (by omega) ⟨.bl true, H, I, rfl, q⟩
  rw [List.size_toArray, List.size_toArray, ← r1.length, ← r2.length]
  simpa using hp
theorem gc_neNil {xs : List D} (ha : GV Y a ρ G (.lst xs)) (hb : GV Y b ρ G (.lst [])) : GC Y .NotEq a b ρ G (.bl (!xs.isEmpty)) := by
  cases xs with
  | nil => exact gc_neW ha hb .nil
  | cons x xs =>
    exact gc_op (r := rNeLen Y.K) (fun i => by have := @op_neLen (Y.X i) (hu1_i i); rwa [Y.hK i] at this) ha hb (rr_val fun F R Gl σ H v u Q W v1 v2 q => by
      obtain ⟨p, vs, rfl, h1, h2⟩ := W.lstV v1
      obtain ⟨p', us, rfl, h3, h4⟩ := W.lstV v2
      exact ⟨p, p', vs, us, rfl, rfl, h1, h3, by rw [h2.length, h4.length]; simp, q _ (.bl _)⟩)
/-- range(a, b, c) -/
def rngC (lo c : Int) (n : Nat) : List D := (List.range n).map fun i => D.int (lo + (i : Nat) * c)
theorem yields_rngC {F : Hp} {lo c : Int} {n : Nat} : Yields Y F (rngC lo c n) (fun _ _ _ => True) (Itc lo c n) := by
  have hl : (rngC lo c n).length = n := by simp [rngC]
  refine ⟨fun i F' R Gl G ρ σ H s W hS hi => by rw [hl] at hi; exact hi, fun i F' R Gl G ρ σ H x H2 d' s W hS hi hy => ?_, fun i F' R Gl G ρ σ H s W hS hi => by rw [hl] at hi; exact hi⟩
  obtain ⟨rfl, hx⟩ := hy
  unfold rngC at hi
  rw [List.getElem?_map] at hi
  by_cases h : i < n
  · rw [List.getElem?_range h] at hi; cases hi
    exact ⟨F', Same.refl _, W, by rw [hx]; exact .int _⟩
  · rw [List.getElem?_eq_none (by simpa using h)] at hi; cases hi
theorem gi_range3 {tg : Expr} {x y z : Int} {n : Nat} (T : Blt Y.mg) (ha : GE Y a ρ G (.int x)) (hb : GE Y b ρ G (.int y)) (hc : GE Y c ρ G (.int z)) (h : RgC x y z n) (hg : GlS Y.sc "range" := by rfl)
    (hs : ∀ env, starEach [a, b, c] env = (false, eval a env) :: starEach [b, c] env := by intro _; rfl) (hs2 : ∀ env, starEach [b, c] env = (false, eval b env) :: starEach [c] env := by intro _; rfl) (hs3 : ∀ env, starEach [c] env = (false, eval c env) :: starEach [] env := by intro _; rfl) (hpl : ∀ env, (backTo pos (starEach [b, c] env)).any (·.1) = false := by intro _; rfl) :
    GI Y tg (.Call (.Name "range" p) [a, b, c] [] pos) ρ G (rngC x z n) (fun _ => True) := ⟨fun F R Gl σ H Q W q => by
  refine wI.of (fun i => pi_range3 (gl_i hg i) (mg_i T.at i) (wA.pa i) (hs _) (hpl _)) (((gr_cons ha (gr_cons hb (gr_cons hc gr_nil hs3) hs2) hs).run F R Gl σ H W).mono fun vs H1 ⟨F1, Gl1, s1, W1, r⟩ => ?_)
  cases r with
  | cons r1 r => cases r with
    | cons r2 r => cases r with
      | cons r3 r => cases r; exact ⟨x, y, z, n, by rw [r1.int_inv, r2.int_inv, r3.int_inv], h, q _ F1 Gl1 H1 s1 W1 yields_rngC⟩⟩
/-- o[i] = e, o a list told by address -/
theorem gs_lput {value : Expr} {pos' : Pos} (hv : GW Y value ρ G fun d G' => ∃ (l : Addr) (ds : List D) (k : Int) (j : Nat), GE Y o ρ G' (.ref l) ∧ GE Y i ρ G' (.int k) ∧ G' l = some (.lst ds) ∧ ixN ds.length k = some j ∧ E.nx ρ (gupd G' l (.lst (ds.set j d))))
    (hs : ∀ j, swapsWithSole [.Subscript o i pos'] value pos.line (Y.X j).env = pure false := by intro _; rfl) (hw : ∀ j, swappedStores [.Subscript o i pos'] value (Y.X j).env = pure none := by intro _; rfl) (h1 : ∀ j, (assignEach [.Subscript o i pos'] (Y.X j).env).map (·.2) = [assign (.Subscript o i pos') (Y.X j).env] := by intro _; rfl)
    (h2 : ∀ j v, assign (.Subscript o i pos') (Y.X j).env v = (do
      let ov ← holding [v] (eval o (Y.X j).env)
      let iv ← holding [v, ov] (eval i (Y.X j).env)
      standAt pos'
      holding [v, ov, iv] (setItem ov iv v)
      release [v, ov, iv] []) := by intro _ _; rfl) : GS Y (.Assign [.Subscript o i pos'] value pos) ρ G E := ⟨fun F R Gl σ H D W L => by
  refine wS.of (t := tAsg (wE Y value) (gSub (wE Y o) (wE Y i) rSetL)) (fun j => ps_asg (wE.pe j) (pg_sub (wE.pe j) (wE.pe j) set_list (h2 j)) (hs j) (hw j) (h1 j)) ?_
  refine (hv.run F R Gl σ H W).mono fun v H1 ⟨F1, Gl1, G', d, s1, W1, r1, l, ds, k, j, ho, hi, hg, hj, q⟩ => (ho.run F1 R Gl1 σ H1 W1).mono fun x H2 ⟨F2, Gl2, s2, W2, r2⟩ => (hi.run F2 R Gl2 σ H2 W2).mono fun y H3 ⟨F3, Gl3, s3, W3, r3⟩ => ?_
  obtain ⟨ws, h4, r4⟩ := Wd.plst (p := .at l) W3 rfl hg
  refine ⟨l, ws, k, j, r2.ref_inv, r3.int_inv, h4, by rw [r4.length]; exact hj, ?_⟩
  exact L.nx _ _ _ _ _ _ ((s1.trans s2).trans s3) (Wd.pput (p := .at l) W3 rfl hg rfl rfl (.lst (r4.set j (r1.mono (s2.trans s3))))) q⟩
end
end Gh
end

section
set_option Elab.async false
set_option linter.all false
set_option maxRecDepth 100000
set_option maxHeartbeats 4000000
namespace Gh
open PySem PySem.Spec PyProof.Rows L2
/-! ## xs == [], xs != [] -/
section
variable {Y : Ctx} {ρ : Rho} {G : Gs} {a b : Expr}
def rEqLn (K : PySem.W.Frag) : R2 := fun x y H Q => ∃ a b xs ys, x = .ref a ∧ y = .ref b ∧ SqL K H a xs ∧ SqL K H b ys ∧ xs.length ≠ ys.length ∧ Q (.bl false) H
theorem op_eqLn {X : Cx} (hu : X.A.units + 1 < cLine) : OpR X (compareOp .Eq) (rEqLn X.K) := by
  intro pins s σ H x y v u Q I rx ry h
  obtain ⟨a, b, xs, ys, rfl, rfl, ha, hb, hp, q⟩ := h
  cases (show v = Value.ref a from rx)
  cases (show u = Value.ref b from ry)
  obtain ⟨us, r1, p1, _⟩ := I.list ha
  obtain ⟨ws, r2, p2, _⟩ := I.list hb
  refine SeqAt.RcAt.lists_lengths p1.isList p2.isList ?_ (by omega) X.prog X.w _ _ ⟨.bl false, H, I, rfl, q⟩
  rw [List.size_toArray, List.size_toArray, ← r1.length, ← r2.length]
  simpa using hp
theorem gc_eqE {xs : List D} (ha : GV Y a ρ G (.lst xs)) (hb : GV Y b ρ G (.lst [])) : GC Y .Eq a b ρ G (.bl xs.isEmpty) := by
  cases xs with
  | nil =>
    have := gc_eqD ha hb rfl rfl
    rw [show D.eqv (.lst []) (.lst []) = true from PySem.SeqAt.eqv_refl _ (D.ok_lay 64 _ (by rw [D.ok_lst (n := 63)]; exact D.oks_nil)).1] at this
    exact this
  | cons x xs =>
    exact gc_op (r := rEqLn Y.K) (fun i => by have := @op_eqLn (Y.X i) (hu1_i i); rwa [Y.hK i] at this) ha hb (rr_val fun F R Gl σ H v u Q W v1 v2 q => by
      obtain ⟨p, vs, rfl, h1, h2⟩ := W.lstV v1
      obtain ⟨p', us, rfl, h3, h4⟩ := W.lstV v2
      exact ⟨p, p', vs, us, rfl, rfl, h1, h3, by rw [h2.length, h4.length]; simp, q _ (.bl _)⟩)
def rNeLn (K : PySem.W.Frag) : R2 := fun x y H Q => ∃ a b xs ys, x = .ref a ∧ y = .ref b ∧ SqL K H a xs ∧ SqL K H b ys ∧ xs.length ≠ ys.length ∧ Q (.bl true) H
theorem op_neLn {X : Cx} (hu : X.A.units + 1 < cLine) : OpR X (compareOp .NotEq) (rNeLn X.K) := by
  intro pins s σ H x y v u Q I rx ry h
  obtain ⟨a, b, xs, ys, rfl, rfl, ha, hb, hp, q⟩ := h
  cases (show v = Value.ref a from rx)
  cases (show u = Value.ref b from ry)
  obtain ⟨us, r1, p1, _⟩ := I.list ha
  obtain ⟨ws, r2, p2, _⟩ := I.list hb
  refine SeqAt.RcNeAt.lists_lengths p1.isList p2.isList ?_ (by omega) X.prog X.w _ _ ⟨.bl true, H, I, rfl, q⟩
  rw [List.size_toArray, List.size_toArray, ← r1.length, ← r2.length]
  simpa using hp
theorem gc_neE {xs : List D} (ha : GV Y a ρ G (.lst xs)) (hb : GV Y b ρ G (.lst [])) : GC Y .NotEq a b ρ G (.bl (!xs.isEmpty)) := by
  cases xs with
  | nil =>
    have := gc_neD ha hb rfl rfl
    rw [show D.eqv (.lst []) (.lst []) = true from PySem.SeqAt.eqv_refl _ (D.ok_lay 64 _ (by rw [D.ok_lst (n := 63)]; exact D.oks_nil)).1] at this
    exact this
  | cons x xs =>
    exact gc_op (r := rNeLn Y.K) (fun i => by have := @op_neLn (Y.X i) (hu1_i i); rwa [Y.hK i] at this) ha hb (rr_val fun F R Gl σ H v u Q W v1 v2 q => by
      obtain ⟨p, vs, rfl, h1, h2⟩ := W.lstV v1
      obtain ⟨p', us, rfl, h3, h4⟩ := W.lstV v2
      exact ⟨p, p', vs, us, rfl, rfl, h1, h3, by rw [h2.length, h4.length]; simp, q _ (.bl _)⟩)
theorem gic_to {tg e : Expr} {xs ys : List D} (h : GIc Y tg e ρ G xs) (q : xs = ys) : GIc Y tg e ρ G ys := q ▸ h
end
end Gh
end

section
set_option Elab.async false
set_option linter.all false
set_option maxRecDepth 100000
set_option maxHeartbeats 4000000
namespace Gh
open PySem PySem.Spec PyProof.Rows L2
/-! ## comparisons, and: the first with what it does -/
section
variable {Y : Ctx} {ρ : Rho} {G : Gs} {a b e : Expr} {es : List Expr} {pos : Pos}
theorem wc_eqD {F : Hp} {R Gl : Gs} {σ : L2.St} {H : Hp} {Q : VK} (W : Wd Y F R Gl G ρ σ H) (h : GW Y a ρ G fun d1 G1 => ∃ d2, GE Y b ρ G1 d2 ∧ D.ok 64 d1 = true ∧ D.ok 64 d2 = true ∧ ∀ F' Gl' H', Same F F' → Wd Y F' R Gl' G1 ρ σ H' → Q (.bl (D.eqv d1 d2)) H') : wC Y .Eq a b σ H Q :=
  wC.of (t := tOp (rEqD Y.K) (wE Y a) (wE Y b)) (fun i => ⟨fun pins s σ H Q I h => bin (wE.pe i) (wE.pe i) I h fun v u s2 x y H2 I2 rx ry q => by have := @op_eqD (Y.X i) (hu_i i); rw [Y.hK i] at this; exact this _ _ _ _ _ _ _ _ _ I2 rx ry q⟩)
    ((h.run F R Gl σ H W).mono fun v H1 ⟨F1, Gl1, G1, d1, s1, W1, r1, d2, hb, k1, k2, q⟩ => (hb.run F1 R Gl1 σ H1 W1).mono fun u H2 ⟨F2, Gl2, s2, W2, r2⟩ => ⟨_, _, (Vw.rep (Y := Y) (G := G1) (ρ := ρ) (σ := σ) (r1.mono s2)).dp W2 k1, (Vw.rep (Y := Y) (G := G1) (ρ := ρ) (σ := σ) r2).dp W2 k2, D.shaped k1, D.shaped k2, q F2 Gl2 H2 (s1.trans s2) W2⟩)
theorem wc_neD {F : Hp} {R Gl : Gs} {σ : L2.St} {H : Hp} {Q : VK} (W : Wd Y F R Gl G ρ σ H) (h : GW Y a ρ G fun d1 G1 => ∃ d2, GE Y b ρ G1 d2 ∧ D.ok 64 d1 = true ∧ D.ok 64 d2 = true ∧ ∀ F' Gl' H', Same F F' → Wd Y F' R Gl' G1 ρ σ H' → Q (.bl (!D.eqv d1 d2)) H') : wC Y .NotEq a b σ H Q :=
  wC.of (t := tOp (rNeD Y.K) (wE Y a) (wE Y b)) (fun i => ⟨fun pins s σ H Q I h => bin (wE.pe i) (wE.pe i) I h fun v u s2 x y H2 I2 rx ry q => by have := @op_neD (Y.X i) (hu_i i); rw [Y.hK i] at this; exact this _ _ _ _ _ _ _ _ _ I2 rx ry q⟩)
    ((h.run F R Gl σ H W).mono fun v H1 ⟨F1, Gl1, G1, d1, s1, W1, r1, d2, hb, k1, k2, q⟩ => (hb.run F1 R Gl1 σ H1 W1).mono fun u H2 ⟨F2, Gl2, s2, W2, r2⟩ => ⟨_, _, (Vw.rep (Y := Y) (G := G1) (ρ := ρ) (σ := σ) (r1.mono s2)).dp W2 k1, (Vw.rep (Y := Y) (G := G1) (ρ := ρ) (σ := σ) r2).dp W2 k2, D.shaped k1, D.shaped k2, q F2 Gl2 H2 (s1.trans s2) W2⟩)
/-- a == b -/
theorem gw_eqD {P : D → Gs → Prop} (h : GW Y a ρ G fun d1 G1 => ∃ d2, GE Y b ρ G1 d2 ∧ D.ok 64 d1 = true ∧ D.ok 64 d2 = true ∧ P (.bl (D.eqv d1 d2)) G1) : GW Y (.Compare a [.Eq] [b] pos) ρ G P := ⟨fun F R Gl σ H W =>
  wE.of (fun i => pe_cmp (wC.pc i) (nomark _)) (wc_eqD W (gw_mono h fun d1 G1 ⟨d2, hb, k1, k2, q⟩ => ⟨d2, hb, k1, k2, fun F' Gl' H' s W' => ⟨F', Gl', G1, _, s, W', .bl _, q⟩⟩))⟩
/-- if a != b -/
theorem gte_neD {P : Bool → Gs → Prop} (h : GW Y a ρ G fun d1 G1 => ∃ d2, GE Y b ρ G1 d2 ∧ D.ok 64 d1 = true ∧ D.ok 64 d2 = true ∧ P (!D.eqv d1 d2) G1) : GTe Y (.Compare a [.NotEq] [b] pos) ρ G P := ⟨fun F R Gl σ H W =>
  wT.of (fun i => pt_cmp (wC.pc i) (nomark _)) (wc_neD W (gw_mono h fun d1 G1 ⟨d2, hb, k1, k2, q⟩ => ⟨d2, hb, k1, k2, fun F' Gl' H' s W' => ⟨_, rfl, F', Gl', G1, s, W', q⟩⟩))⟩
theorem gw_one {op : BoolOp} {P : D → Gs → Prop} (h : GW Y e ρ G P) : GW Y (.BoolOp op [e] pos) ρ G P := ⟨fun F R Gl σ H W => wE.of (fun i => pe_one (wE.pe i)) (h.run F R Gl σ H W)⟩
/-- a and b, as a value -/
theorem gw_and {P : D → Gs → Prop} (h : GW Y a ρ G fun d G1 => ∃ x, d = .bl x ∧ (x = true → GW Y (.BoolOp .And (b :: es) pos) ρ G1 P) ∧ (x = false → P (.bl false) G1)) : GW Y (.BoolOp .And (a :: b :: es) pos) ρ G P :=
  ⟨fun F R Gl σ H W => wE.of (fun i => pe_and (wE.pe i) (wE.pe i)) ((h.run F R Gl σ H W).mono fun v H1 ⟨F1, Gl1, G1, d, s1, W1, r, x, ed, h1, h2⟩ => by
    subst ed
    refine ⟨x, r.bl_inv, ?_⟩
    cases x with
    | false => exact ⟨F1, Gl1, G1, _, s1, W1, .bl _, h2 rfl⟩
    | true => exact ((h1 rfl).run F1 R Gl1 σ H1 W1).mono fun _ _ q => q.up s1)⟩
end
end Gh
end

section
set_option Elab.async false
set_option linter.all false
set_option maxRecDepth 100000
set_option maxHeartbeats 4000000
namespace Gh
open PySem PySem.Spec PyProof.Rows L2
/-! ## x in xs, of data -/
theorem dpAll_get {K : PySem.W.Frag} {H : Hp} : ∀ {xs : List V} {ps : List PyData}, DpAll K H xs ps → xs.length = ps.length ∧ ∀ (j : Nat) (v : V), xs[j]? = some v → ∃ q, ps[j]? = some q ∧ Dp K H v q
  | _, _, .nil => ⟨rfl, fun j v e => by simp at e⟩
  | _, _, .cons a b => by
    obtain ⟨h1, h2⟩ := dpAll_get b
    refine ⟨by simp [h1], fun j v e => ?_⟩
    cases j with
    | zero => simp at e; subst e; exact ⟨_, rfl, a⟩
    | succ j => simp at e; obtain ⟨q, h3, h4⟩ := h2 j v e; exact ⟨q, by simpa using h3, h4⟩
def rInD (K : PySem.W.Frag) : R2 := fun x y H Q => ∃ (p : Addr) (xs : List V) (pd : PyData) (ps : List PyData), y = .ref p ∧ SqL K H p xs ∧ Dp K H x pd ∧ DpAll K H xs ps ∧ pd.canLay0 = true ∧ (∀ q ∈ ps, q.canLay0 = true ∧ q.depth ≤ 60) ∧ Q (.bl (ps.any fun q => PyData.eqv q pd)) H
theorem op_inD {X : Cx} (hu : X.A.units + 64 < cLine) : OpR X (compareOp .In) (rInD X.K) := by
  intro pins s σ H x y v u Q I rx ry h
  obtain ⟨b, xs, pd, ps, rfl, hb, hx, hxs, hl, hps, q⟩ := h
  cases (show u = Value.ref b from ry)
  obtain ⟨us, r1, p1, _⟩ := I.list hb
  obtain ⟨hlen, hget⟩ := dpAll_get hxs
  refine SeqAt.inAns_cmp (e := fun j => match ps[j]? with | some q => PyData.eqv q pd | none => false) p1.isList (fun j g => ?_) ?_
  · have g' : j < us.length := by simpa using g
    have g2 : j < xs.length := by rw [r1.length]; exact g'
    obtain ⟨qd, e1, e2⟩ := hget j xs[j] (List.getElem?_eq_getElem g2)
    obtain ⟨z, hz, rz⟩ := r1.get (i := j) (List.getElem?_eq_getElem g2)
    have hz' : us[j] = z := by rw [List.getElem?_eq_getElem g'] at hz; exact Option.some.inj hz
    obtain ⟨as, ra⟩ := Dp.reads I qd xs[j] z e2 rz
    obtain ⟨bs, rb⟩ := Dp.reads I pd x v hx rx
    obtain ⟨k1, k2⟩ := hps qd (List.mem_of_getElem? e1)
    have := SeqAt.eqAt_reads qd pd X.A.in1 s z v as bs ra rb k1 hl (by have := Nat.min_le_left qd.depth pd.depth; show X.A.units + 1 + _ < cLine; omega)
    have := this.eqP (prog := X.prog) (w := X.w)
    show SeqAt.EqP X.prog X.w X.A.in1 s us[j] v _
    rw [hz', e1]
    exact this
  · have hn : us.toArray.size = ps.length := by rw [List.size_toArray, ← r1.length, hlen]
    have e1 : ((List.range us.toArray.size).any fun j => match ps[j]? with | some q => PyData.eqv q pd | none => false) = ps.any fun q => PyData.eqv q pd := by
      rw [hn, Bool.eq_iff_iff, List.any_eq_true, List.any_eq_true]
      constructor
      · rintro ⟨j, hj, h⟩
        have hj := List.mem_range.mp hj
        rw [List.getElem?_eq_getElem hj] at h
        exact ⟨_, List.getElem_mem hj, h⟩
      · rintro ⟨e, he, h⟩
        obtain ⟨j, hj, rfl⟩ := List.getElem_of_mem he
        exact ⟨j, List.mem_range.mpr hj, by rw [List.getElem?_eq_getElem hj]; exact h⟩
    rw [e1]
    exact ⟨.bl _, H, I, rfl, q⟩
theorem toPs_map : ∀ xs : List D, D.toPs xs = xs.map D.toP
  | [] => by rw [D.toPs]; rfl
  | x :: xs => by rw [D.toPs, toPs_map xs]; rfl
section
variable {Y : Ctx} {ρ : Rho} {G : Gs} {a b : Expr} {d : D} {xs : List D}
theorem gc_inD (ha : GV Y a ρ G d) (hb : GV Y b ρ G (.lst xs)) (h1 : D.ok 60 d = true) (h2 : D.oks 60 xs = true) (hm : ∀ n m d, n ≤ m → D.ok n d = true → D.ok m d = true) : GC Y .In a b ρ G (.bl (xs.any fun x => D.eqv x d)) :=
  gc_op (r := rInD Y.K) (fun i => by have := @op_inD (Y.X i) (hu_i i); rwa [Y.hK i] at this) ha hb (rr_val fun F R Gl σ H v u Q W v1 v2 q => by
    obtain ⟨p, vs, rfl, h3, h4⟩ := W.lstV v2
    have hall : ∀ x ∈ xs, D.ok 60 x = true := D.oks_all.mp h2
    refine ⟨p, vs, d.toP, D.toPs xs, rfl, h3, v1.dp W (hm 60 64 d (by decide) h1), Reps.dp W.abs 60 xs vs h2 h4, (D.ok_lay 60 d h1).1, fun q hq => ?_, ?_⟩
    · rw [toPs_map] at hq
      obtain ⟨x, hx, rfl⟩ := List.mem_map.mp hq
      exact D.ok_lay 60 x (hall x hx)
    · rw [toPs_map, List.any_map]
      exact q _ (.bl _))
theorem gss_eq {ρ' : Rho} {E : GEnds} {sts : List Stmt} (h : ρ = ρ') (k : GSs Y sts ρ' G E) : GSs Y sts ρ G E := h ▸ k
theorem gw_ixE {pos : Pos} {L : List D} {i : Int} {P : D → Gs → Prop} (ha : GV Y a ρ G (.lst L)) (hb : GE Y b ρ G (.int i)) (h : ∃ d, atI L i = some d ∧ P d G) (hs : PlainIx b := by exact fun _ _ => rfl) : GW Y (.Subscript a b pos) ρ G P :=
  let ⟨_, h1, h2⟩ := h
  gw_ge (ge_ix ha hb (.lst h1) hs) h2
theorem gre_1 {e : Expr} {es : List Expr} {P : List D → Gs → Prop} (h : GE Y e ρ G d) (hr : GRe Y es ρ G fun ds G' => P (d :: ds) G') (hs : ∀ env, starEach (e :: es) env = (false, eval e env) :: starEach es env := by intro _; rfl) : GRe Y (e :: es) ρ G P :=
  gre_cons (P1 := fun d' G' => d' = d ∧ G' = G) (gw_ge h ⟨rfl, rfl⟩) (fun d' G' ⟨e1, e2⟩ => by subst e1 e2; exact hr) hs
end
theorem eqv1 (i j : Int) : D.eqv (.lst [.int i]) (.lst [.int j]) = decide (i = j) := by
  show ((i == j) && true) = decide (i = j)
  rw [Bool.and_true]; rfl
theorem ShopAt.upG {A : Ads} {G G' : Gs} {s dx rd : Addr} {rows : Rows} (S : ShopAt A G s dx rd rows) (h : GEx G G') : ShopAt A G' s dx rd rows := ⟨h _ _ S.ins, h _ _ S.dic⟩
end Gh
end

section
set_option Elab.async false
set_option linter.all false
set_option maxRecDepth 100000
set_option maxHeartbeats 4000000
namespace Gh
open PySem PySem.Spec PyProof.Rows L2
/-! ## x in a tuple of whole numbers; cuts -/
section
variable {Y : Ctx} {ρ : Rho} {G : Gs} {a b : Expr}
theorem gc_inTI {x : Int} {ys : List Int} (ha : GE Y a ρ G (.int x)) (hb : GV Y b ρ G (.tup (ys.map .int))) : GC Y .In a b ρ G (.bl (decide (x ∈ ys))) := by
  refine gc_op (r := rIn Y.K false) (fun i => by have := @op_in_seq (Y.X i); rwa [Y.hK i] at this) (gv_ge ha) hb (rr_val fun F R Gl σ H x y Q W v1 v2 q => ?_)
  obtain ⟨p, vs, rfl, h1, h2⟩ := W.tupV v2
  rw [h2.ints_inv] at h1
  rw [v1.int_inv]
  exact ⟨p, _, rfl, .inr h1, rfl, flat_ints, q _ (by rw [inV_ints]; exact .bl _)⟩
/-- a if c else b, with what they do -/
theorem gw_if {c : Expr} {pos : Pos} {x : Bool} {P : D → Gs → Prop} (h : GT Y c ρ G x) (h1 : x = true → GW Y a ρ G P) (h2 : x = false → GW Y b ρ G P) : GW Y (.IfExp c a b pos) ρ G P :=
  ⟨fun F R Gl σ H W => wE.of (fun i => pe_ifExp (wT.pt i) (wE.pe i) (wE.pe i)) ((h.run F R Gl σ H W).mono fun v H1 ⟨z, F', Gl', s, W'⟩ => by
    subst z
    cases v with
    | true => exact ((h1 rfl).run F' R Gl' σ H1 W').mono fun _ _ q => q.up s
    | false => exact ((h2 rfl).run F' R Gl' σ H1 W').mono fun _ _ q => q.up s)⟩
end
theorem cutD_to {xs : List D} {k : Nat} : cutD xs none (some (k : Int)) = xs.take k := by
  unfold cutD
  rw [HT.sIx_none, HT.sIx_nat, List.drop_zero, Nat.sub_zero, List.take_eq_take_iff]
  omega
theorem cutD_from {xs : List D} {k : Nat} : cutD xs (some (k : Int)) none = xs.drop k := by
  unfold cutD
  rw [HT.sIx_none, HT.sIx_nat]
  by_cases h : k ≤ xs.length
  · rw [Nat.min_eq_left h, List.take_of_length_le (by rw [List.length_drop]; omega)]
  · rw [Nat.min_eq_right (by omega), List.drop_eq_nil_of_le (Nat.le_refl _), List.drop_eq_nil_of_le (by omega)]
    simp
end Gh
end

section
set_option Elab.async false
set_option linter.all false
set_option maxRecDepth 100000
set_option maxHeartbeats 4000000
/-! ## things looked at down to the ground: lists in them may still change -/
namespace PySem.SeqAt
section
open AutoSeq1 MeetsSeq MeetsSeq2 MeetsSeq3 SeqRoads2
variable {prog : Program} {w : World}
/-- tuples whose items are all equal are not unequal -/
theorem neSameT (p q : Addr) (xs ys : Array Value) (nx ny : Nat) (cx cy : Option Addr) (tx ty : Array (Option Value)) (hz : xs.size = ys.size) :
    MeetsIn prog w (Builtin.«tuple.__ne__» ⟨[.ref p, .ref q], []⟩) (fun A R s =>
      s.heap.get? p = some { cls := .type "tuple", dict := cx, data := .seq xs nx, slots := tx } ∧ s.heap.get? q = some { cls := .type "tuple", dict := cy, data := .seq ys ny, slots := ty } ∧
      (∀ j (g1 : j < xs.size) (g2 : j < ys.size), EqP prog w A.in1 s xs[j] ys[j] true) ∧ R (.ok (.ret (.bool false))) s) :=
  .of_wp fun A R s hh => by
    obtain ⟨hp, g, d, tk, os⟩ := s; obtain ⟨h1, h2, he, hr⟩ := hh
    have ft := AutoSeq1.sub_tuple_tuple
    have hZ : (xs.toList.zip ys.toList).length = xs.size := by simp [hz]
    wp_walk using AutoSeq1.wpAny_loadPart' h1, AutoSeq1.wpAny_loadPart' h2, wpAny_forIn_list _ (fun more b st => b.1 = none ∧ st = ⟨hp, g, d, tk, os⟩ ∧ ∃ i, more = (xs.toList.zip ys.toList).drop i) _
    case turn =>
      rintro ⟨u, v⟩ more b st ⟨hb, rfl, i, hm⟩
      have hi : i < (xs.toList.zip ys.toList).length := by
        rcases Nat.lt_or_ge i (xs.toList.zip ys.toList).length with z | z
        · exact z
        · rw [List.drop_of_length_le z] at hm; cases hm
      have g1 : i < xs.size := by omega
      have g2 : i < ys.size := by omega
      rw [List.drop_eq_getElem_cons hi] at hm
      injection hm with e1 e2
      have eu : u = xs[i] := by have := congrArg Prod.fst e1; simpa using this
      have ev : v = ys[i] := by have := congrArg Prod.snd e1; simpa using this
      subst eu ev
      refine wpAny_bind (he i g1 g2 _ _ ?_)
      wp_walk
      exact ⟨rfl, rfl, i + 1, e2⟩
    case fin =>
      rintro ⟨b1, b2⟩ st ⟨hb, rfl, i, hm⟩
      simp only at hb
      subst hb
      wp_walk
      exact ⟨_, rfl, by simpa [Builtin.Tuple.tupleCompareSizes, hz] using hr⟩
    case h =>
      exact ⟨rfl, rfl, 0, rfl⟩
theorem neSameT_rc {A : Around} {s : Shared} {p q : Addr} {xs ys : Array Value} (hp : s.heap.IsTuple p xs) (hq : s.heap.IsTuple q ys) (hz : xs.size = ys.size) (hu : A.units < cLine)
    (he : ∀ j (g1 : j < xs.size) (g2 : j < ys.size), EqP prog w A.in1 s xs[j] ys[j] true) (E Q : Value → Shared → Prop) (h : Q (.bool false) s) : wpAny (model prog w) A (richCompare .NotEq (.ref p) (.ref q)) Q E s := by
  obtain ⟨⟨c1, z1, d1, t1⟩, o1, k1, n1, u1⟩ := id hp
  obtain ⟨⟨c2, z2, d2, t2⟩, o2, k2, n2, u2⟩ := id hq
  simp only at k1 u1 k2 u2
  subst k1 u1 k2 u2
  have y1 : s.TypeIs (.ref p) "tuple" := ⟨_, o1, rfl⟩
  have y2 : s.TypeIs (.ref q) "tuple" := ⟨_, o2, rfl⟩
  refine wpAny_richCompare_same_room (op := .NotEq) y1 y2 F.slot_tuple_ne ?_ hu
  exact call_meetsIn F.slot_tuple_ne y1 F.entry_tuple_ne (F.args_tuple_ne_2 _ _) (neSameT p q xs ys n1 n2 z1 z2 t1 t2 hz) ⟨o1, o2, he, show Value.bool false ≠ Value.notImplemented ∧ Q (.bool false) s from ⟨(fun x => nomatch x), h⟩⟩
end
end PySem.SeqAt
namespace Gh
open PySem PySem.Spec PyProof.Rows L2
mutual
/-- the thing d is e, the lists of it that may still change lie at the addresses S -/
inductive DV (G : Gs) : D → D → List Addr → Prop
  | eq (d : D) : DV G d d []
  | lst {ds es : List D} {S : List Addr} : DVs G ds es S → DV G (.lst ds) (.lst es) S
  | tup {ds es : List D} {S : List Addr} : DVs G ds es S → DV G (.tup ds) (.tup es) S
  | ref {l : Addr} {ds es : List D} {S : List Addr} : G l = some (.lst ds) → DVs G ds es S → DV G (.ref l) (.lst es) (l :: S)
inductive DVs (G : Gs) : List D → List D → List Addr → Prop
  | nil : DVs G [] [] []
  | cons {d e : D} {ds es : List D} {S S' : List Addr} : DV G d e S → DVs G ds es S' → DVs G (d :: ds) (e :: es) (S ++ S')
end
mutual
theorem DV.frame {G G' : Gs} : ∀ {d e : D} {S : List Addr}, DV G d e S → (∀ a ∈ S, G' a = G a) → DV G' d e S
  | _, _, _, .eq d, _ => .eq d
  | _, _, _, .lst h, q => .lst (DVs.frame h q)
  | _, _, _, .tup h, q => .tup (DVs.frame h q)
  | _, _, _, .ref h h', q => .ref ((q _ List.mem_cons_self).trans h) (DVs.frame h' fun a ha => q a (List.mem_cons_of_mem _ ha))
theorem DVs.frame {G G' : Gs} : ∀ {d e : List D} {S : List Addr}, DVs G d e S → (∀ a ∈ S, G' a = G a) → DVs G' d e S
  | _, _, _, .nil, _ => .nil
  | _, _, _, .cons h h', q => .cons (DV.frame h fun a ha => q a (List.mem_append_left _ ha)) (DVs.frame h' fun a ha => q a (List.mem_append_right _ ha))
end
mutual
theorem DV.here {G : Gs} : ∀ {d e : D} {S : List Addr}, DV G d e S → ∀ a ∈ S, ∃ ds, G a = some (.lst ds)
  | _, _, _, .eq d, _, z => by cases z
  | _, _, _, .lst h, a, z => DVs.here h a z
  | _, _, _, .tup h, a, z => DVs.here h a z
  | _, _, _, .ref h h', a, z => by
    rcases List.mem_cons.mp z with rfl | z
    · exact ⟨_, h⟩
    · exact DVs.here h' a z
theorem DVs.here {G : Gs} : ∀ {d e : List D} {S : List Addr}, DVs G d e S → ∀ a ∈ S, ∃ ds, G a = some (.lst ds)
  | _, _, _, .nil, _, z => by cases z
  | _, _, _, .cons h h', a, z => (List.mem_append.mp z).elim (DV.here h a) (DVs.here h' a)
end
theorem DV.up {G G' : Gs} {d e : D} {S : List Addr} (h : DV G d e S) (x : GEx G G') : DV G' d e S := h.frame fun a ha => by obtain ⟨ds, z⟩ := h.here a ha; rw [z, x _ _ z]
theorem DVs.up {G G' : Gs} {d e : List D} {S : List Addr} (h : DVs G d e S) (x : GEx G G') : DVs G' d e S := h.frame fun a ha => by obtain ⟨ds, z⟩ := h.here a ha; rw [z, x _ _ z]
section
variable {G : Gs} {d e : D} {ds es : List D} {S S' : List Addr}
theorem DVs.refl : ∀ (ds : List D), DVs G ds ds []
  | [] => .nil
  | d :: ds => .cons (.eq d) (DVs.refl ds)
theorem DVs.length (h : DVs G ds es S) : ds.length = es.length := by
  induction es generalizing ds S with
  | nil => cases h; rfl
  | cons e es ih => cases h with | cons a b => simp [ih b]
theorem DVs.get {i : Nat} (h : DVs G ds es S) (q : ds[i]? = some d) : ∃ e S', es[i]? = some e ∧ DV G d e S' ∧ ∀ a ∈ S', a ∈ S := by
  induction es generalizing ds S i with
  | nil => cases h; simp at q
  | cons e0 es ih =>
    cases h with
    | cons a b =>
      cases i with
      | zero => simp at q; subst q; exact ⟨_, _, rfl, a, fun x hx => List.mem_append_left _ hx⟩
      | succ i => simp at q; obtain ⟨e, S', h1, h2, h3⟩ := ih b q; exact ⟨e, S', by simpa using h1, h2, fun x hx => List.mem_append_right _ (h3 x hx)⟩
theorem DVs.get' {i : Nat} (h : DVs G ds es S) (q : es[i]? = some e) : ∃ d S', ds[i]? = some d ∧ DV G d e S' ∧ ∀ a ∈ S', a ∈ S := by
  have hl := h.length
  have hi := (List.getElem?_eq_some_iff.mp q).1
  obtain ⟨e', S', h1, h2, h3⟩ := h.get (List.getElem?_eq_getElem (show i < ds.length by omega))
  rw [q] at h1; cases h1
  exact ⟨_, S', List.getElem?_eq_getElem (by omega), h2, h3⟩
theorem DVs.append {ds' es' : List D} (h : DVs G ds es S) (h' : DVs G ds' es' S') : DVs G (ds ++ ds') (es ++ es') (S ++ S') := by
  induction es generalizing ds S with
  | nil => cases h; exact h'
  | cons e es ih => cases h with | cons a b => rw [List.append_assoc]; exact .cons a (ih b)
theorem DVs.take (n : Nat) (h : DVs G ds es S) : ∃ S', DVs G (ds.take n) (es.take n) S' ∧ S'.Sublist S := by
  induction n generalizing ds es S with
  | zero => exact ⟨[], by simpa using DVs.nil, List.nil_sublist _⟩
  | succ n ih =>
    cases h with
    | nil => exact ⟨[], .nil, List.nil_sublist _⟩
    | cons a b => obtain ⟨S', h1, h2⟩ := ih b; exact ⟨_, .cons a h1, (List.Sublist.refl _).append h2⟩
theorem DVs.drop (n : Nat) (h : DVs G ds es S) : ∃ S', DVs G (ds.drop n) (es.drop n) S' ∧ S'.Sublist S := by
  induction n generalizing ds es S with
  | zero => exact ⟨S, by simpa using h, List.Sublist.refl _⟩
  | succ n ih =>
    cases h with
    | nil => exact ⟨[], .nil, List.nil_sublist _⟩
    | cons a b => obtain ⟨S', h1, h2⟩ := ih b; exact ⟨S', h1, h2.trans (List.sublist_append_right _ _)⟩
theorem DVs.cut (lo hi : Option Int) (h : DVs G ds es S) : ∃ S', DVs G (cutD ds lo hi) (cutD es lo hi) S' ∧ S'.Sublist S := by
  unfold cutD
  rw [h.length]
  obtain ⟨S1, h1, s1⟩ := h.drop (HT.sIx es.length 0 lo)
  obtain ⟨S2, h2, s2⟩ := h1.take (HT.sIx es.length es.length hi - HT.sIx es.length 0 lo)
  exact ⟨S2, h2, s2.trans s1⟩
theorem DVs.reverse (h : DVs G ds es S) : ∃ S', DVs G ds.reverse es.reverse S' ∧ S'.Perm S := by
  induction es generalizing ds S with
  | nil => cases h; exact ⟨[], .nil, .refl _⟩
  | cons e es ih =>
    cases h with
    | cons a b =>
      obtain ⟨S', h1, h2⟩ := ih b
      rw [List.reverse_cons, List.reverse_cons]
      exact ⟨_, h1.append (.cons a .nil), by rw [List.append_nil]; exact (List.Perm.append_right _ h2).trans List.perm_append_comm⟩
theorem DV.lst_inv (h : DV G d (.lst es) S) : ∃ ds S', ViewD G d (.lst ds) ∧ DVs G ds es S' ∧ ∀ a ∈ S', a ∈ S := by
  cases h with
  | eq => exact ⟨es, [], .rfl, .refl _, fun _ z => by cases z⟩
  | lst h => exact ⟨_, _, .rfl, h, fun _ z => z⟩
  | ref h h' => exact ⟨_, _, .inr (.inl ⟨_, _, rfl, .inl h, rfl⟩), h', fun _ z => List.mem_cons_of_mem _ z⟩
theorem DV.tup_inv (h : DV G d (.tup es) S) : ∃ ds, d = .tup ds ∧ DVs G ds es S := by
  cases h with
  | eq => exact ⟨es, rfl, .refl _⟩
  | tup h => exact ⟨_, rfl, h⟩
theorem DV.str_inv {x : Str} (h : DV G d (.str x) S) : d = .str x := by cases h; rfl
theorem DV.int_inv {x : Int} (h : DV G d (.int x) S) : d = .int x := by cases h; rfl
theorem DV.bl_inv {x : Bool} (h : DV G d (.bl x) S) : d = .bl x := by cases h; rfl
theorem DV.non_inv (h : DV G d .non S) : d = .non := by cases h; rfl
theorem DV.view_lst {l : Addr} (h : G l = some (.lst ds)) : ViewD G (.ref l) (.lst ds) := .inr (.inl ⟨_, _, rfl, .inl h, rfl⟩)
/-- of the same make at the top -/
def Sh (d e : D) : Prop := d = e ∨ (∃ a b, d = .lst a ∧ e = .lst b) ∨ ∃ a b, d = .tup a ∧ e = .tup b
theorem DV.sh (h : DV G d e S) : ∃ d1, ViewD G d d1 ∧ Sh d1 e := by
  cases h with
  | eq => exact ⟨d, .rfl, .inl rfl⟩
  | lst h => exact ⟨_, .rfl, .inr (.inl ⟨_, _, rfl, rfl⟩)⟩
  | tup h => exact ⟨_, .rfl, .inr (.inr ⟨_, _, rfl, rfl⟩)⟩
  | ref h h' => exact ⟨_, DV.view_lst h, .inr (.inl ⟨_, _, rfl, rfl⟩)⟩
theorem Sh.isD (h : Sh d e) : d.isD = e.isD := by rcases h with rfl | ⟨a, b, rfl, rfl⟩ | ⟨a, b, rfl, rfl⟩ <;> rfl
theorem Sh.isInt (h : Sh d e) : d.isInt = e.isInt := by rcases h with rfl | ⟨a, b, rfl, rfl⟩ | ⟨a, b, rfl, rfl⟩ <;> rfl
theorem Sh.isBl (h : Sh d e) : d.isBl = e.isBl := by rcases h with rfl | ⟨a, b, rfl, rfl⟩ | ⟨a, b, rfl, rfl⟩ <;> rfl
theorem Sh.isStr (h : Sh d e) : d.isStr = e.isStr := by rcases h with rfl | ⟨a, b, rfl, rfl⟩ | ⟨a, b, rfl, rfl⟩ <;> rfl
theorem Sh.isLst (h : Sh d e) : d.isLst = e.isLst := by rcases h with rfl | ⟨a, b, rfl, rfl⟩ | ⟨a, b, rfl, rfl⟩ <;> rfl
theorem Sh.isTup (h : Sh d e) : d.isTup = e.isTup := by rcases h with rfl | ⟨a, b, rfl, rfl⟩ | ⟨a, b, rfl, rfl⟩ <;> rfl
theorem Sh.isDic (h : Sh d e) : d.isDic = e.isDic := by rcases h with rfl | ⟨a, b, rfl, rfl⟩ | ⟨a, b, rfl, rfl⟩ <;> rfl
theorem Sh.isNon (h : Sh d e) : d.isNon = e.isNon := by rcases h with rfl | ⟨a, b, rfl, rfl⟩ | ⟨a, b, rfl, rfl⟩ <;> rfl
end
/-! isinstance, of such a thing -/
section
variable {Y : Ctx} {ρ : Rho} {G : Gs} {a b : Expr} {d e : D} {S : List Addr} {pos p : Pos}
theorem ge_isiV {m : String} {x : Bool} (T : Blt Y.mg) (ha : GE Y a ρ G d) (hv : DV G d e S) (hb : GE Y b ρ G (.ty m)) (h : IsiD e m x) (hg : GlS Y.sc "isinstance" := by rfl)
    (he : ∀ env, starEach [a, b] env = (false, eval a env) :: starEach [b] env := by intro _; rfl) (he' : ∀ env, starEach [b] env = (false, eval b env) :: starEach [] env := by intro _; rfl)
    (hpl : ∀ env, (backTo pos (starEach [b] env)).any (·.1) = false := by intro _; rfl) : GE Y (.Call (.Name "isinstance" p) [a, b] [] pos) ρ G (.bl x) := by
  obtain ⟨d1, h1, h2⟩ := hv.sh
  refine ge_isiD T (gv_view ha h1) hb ?_ hg he he' hpl
  cases h with
  | int h => rw [← h2.isInt]; exact .int (h2.isD.trans h)
  | bl h => rw [← h2.isBl]; exact .bl (h2.isD.trans h)
  | str h => rw [← h2.isStr]; exact .str (h2.isD.trans h)
  | lst h => rw [← h2.isLst]; exact .lst (h2.isD.trans h)
  | tup h => rw [← h2.isTup]; exact .tup (h2.isD.trans h)
  | dic h => rw [← h2.isDic]; exact .dic (h2.isD.trans h)
end
/-! compared -/
mutual
theorem DV.dp {Y : Ctx} {F : Hp} {R Gl G : Gs} {ρ : Rho} {σ : L2.St} {H : Hp} (W : Wd Y F R Gl G ρ σ H) : ∀ {d e : D} {S : List Addr} {n : Nat} {v : V}, DV G d e S → D.ok n e = true → Rep Y.K F v d → Dp Y.K H v e.toP
  | _, _, _, n, v, .eq d, h, r => Rep.dp W.abs n d v h r
  | _, _, _, 0, v, .lst q, h, r => by rw [D.ok] at h; cases h
  | _, _, _, n + 1, v, .lst q, h, r => by
    rw [D.ok_lst] at h
    obtain ⟨a, vs, rfl, h1, h2⟩ := W.lstV (.rep r)
    rw [D.toP]
    exact .lst h1 (DVs.dp W q h h2)
  | _, _, _, 0, v, .tup q, h, r => by rw [D.ok] at h; cases h
  | _, _, _, n + 1, v, .tup q, h, r => by
    rw [D.ok_tup] at h
    obtain ⟨a, vs, rfl, h1, h2⟩ := W.tupV (.rep r)
    rw [D.toP]
    exact .tup h1 (DVs.dp W q h h2)
  | _, _, _, 0, v, .ref q0 q, h, r => by rw [D.ok] at h; cases h
  | _, _, _, n + 1, v, .ref q0 q, h, r => by
    rw [D.ok_lst] at h
    obtain ⟨a, vs, rfl, h1, h2⟩ := W.lstV (.of r (DV.view_lst q0))
    rw [D.toP]
    exact .lst h1 (DVs.dp W q h h2)
theorem DVs.dp {Y : Ctx} {F : Hp} {R Gl G : Gs} {ρ : Rho} {σ : L2.St} {H : Hp} (W : Wd Y F R Gl G ρ σ H) : ∀ {ds es : List D} {S : List Addr} {n : Nat} {vs : List V}, DVs G ds es S → D.oks n es = true → Reps Y.K F vs ds → DpAll Y.K H vs (D.toPs es)
  | _, _, _, n, _, .nil, h, .nil => by rw [D.toPs]; exact .nil
  | _, _, _, n, _, .cons q q', h, .cons r r' => by
    rw [D.oks_cons, Bool.and_eq_true] at h
    rw [D.toPs]
    exact .cons (DV.dp W q h.1 r) (DVs.dp W q' h.2 r')
end
/-! two operands, told as they are -/
section
variable {Y : Ctx} {ρ : Rho} {G : Gs} {a b : Expr} {d d1 d2 e1 e2 : D} {S1 S2 : List Addr} {pos p : Pos}
theorem gc_opR {op : CmpOp} {r : R2} (ho : ∀ i, OpR (Y.X i) (compareOp op) r) (ha : GE Y a ρ G d1) (hb : GE Y b ρ G d2)
    (hr : ∀ F R Gl σ H x y Q, Wd Y F R Gl G ρ σ H → Rep Y.K F x d1 → Rep Y.K F y d2 → (∀ v, Rep Y.K F v d → Q v H) → r x y H Q) : GC Y op a b ρ G d :=
  ⟨fun F R Gl σ H W => wC.of (t := tOp r (wE Y a) (wE Y b)) (fun i => ⟨fun pins s σ H Q I h => bin (wE.pe i) (wE.pe i) I h fun v u s2 x y H2 I2 rx ry q => ho i _ _ _ _ _ _ _ _ _ I2 rx ry q⟩)
    ((ha.run F R Gl σ H W).mono fun x H1 ⟨F1, Gl1, s1, W1, v1⟩ => (hb.run F1 R Gl1 σ H1 W1).mono fun y H2 ⟨F2, Gl2, s2, W2, v2⟩ =>
      hr F2 R Gl2 σ H2 x y _ W2 (v1.mono s2) v2 fun v z => ⟨F2, Gl2, s1.trans s2, W2, z⟩)⟩
theorem gc_eqV (ha : GE Y a ρ G d1) (hb : GE Y b ρ G d2) (q1 : DV G d1 e1 S1) (q2 : DV G d2 e2 S2) (h1 : D.ok 64 e1 = true) (h2 : D.ok 64 e2 = true) : GC Y .Eq a b ρ G (.bl (D.eqv e1 e2)) :=
  gc_opR (r := rEqD Y.K) (fun i => by have := @op_eqD (Y.X i) (hu_i i); rwa [Y.hK i] at this) ha hb fun F R Gl σ H x y Q W v1 v2 q => ⟨_, _, q1.dp W h1 v1, q2.dp W h2 v2, D.shaped h1, D.shaped h2, q _ (.bl _)⟩
theorem gc_neV (ha : GE Y a ρ G d1) (hb : GE Y b ρ G d2) (q1 : DV G d1 e1 S1) (q2 : DV G d2 e2 S2) (h1 : D.ok 64 e1 = true) (h2 : D.ok 64 e2 = true) : GC Y .NotEq a b ρ G (.bl (!D.eqv e1 e2)) :=
  gc_opR (r := rNeD Y.K) (fun i => by have := @op_neD (Y.X i) (hu_i i); rwa [Y.hK i] at this) ha hb fun F R Gl σ H x y Q W v1 v2 q => ⟨_, _, q1.dp W h1 v1, q2.dp W h2 v2, D.shaped h1, D.shaped h2, q _ (.bl _)⟩
end
/-! things that may be compared: data, and empty dicts in it; texts short enough -/
def D.hdOk (xs : List D) : Bool := decide (xs.length ≤ 1000) && (match xs with
  | .dic _ :: _ => false
  | _ => true)
mutual
def D.gd : Nat → D → Bool
  | _, .non => true
  | _, .bl _ => true
  | _, .int _ => true
  | _, .str x => (D.str x).fit
  | _, .ref _ => false
  | _, .ty _ => false
  | n, .lst xs => (match n with | 0 => false | n + 1 => decide (xs.length ≤ 1000) && D.gds n xs)
  | n, .tup xs => (match n with | 0 => false | n + 1 => D.hdOk xs && D.gds n xs)
  | _, .dic kvs => kvs.isEmpty
def D.gds : Nat → List D → Bool
  | _, [] => true
  | n, x :: xs => D.gd n x && D.gds n xs
end
theorem D.gd_lst {n : Nat} {xs : List D} : D.gd (n + 1) (.lst xs) = (decide (xs.length ≤ 1000) && D.gds n xs) := by rw [D.gd]
theorem D.gd_tup {n : Nat} {xs : List D} : D.gd (n + 1) (.tup xs) = (D.hdOk xs && D.gds n xs) := by rw [D.gd]
theorem D.gd_tup' {n : Nat} {xs : List D} (h : D.gd (n + 1) (.tup xs) = true) : D.hdOk xs = true ∧ D.gds n xs = true := by rw [D.gd_tup, Bool.and_eq_true] at h; exact h
theorem D.gds_cons {n : Nat} {x : D} {xs : List D} : D.gds n (x :: xs) = (D.gd n x && D.gds n xs) := by rw [D.gds]
theorem D.gds_nil {n : Nat} : D.gds n [] = true := by rw [D.gds]
theorem D.gds_all {n : Nat} {ds : List D} : D.gds n ds = true ↔ ∀ d ∈ ds, D.gd n d = true := by
  induction ds with
  | nil => simp [D.gds_nil]
  | cons d ds ih => rw [D.gds_cons, Bool.and_eq_true, ih]; simp
theorem D.gd_isD {n : Nat} {d : D} (h : D.gd n d = true) : d.isD = true := by
  cases d <;> first | rfl | (rw [D.gd] at h; cases h)
theorem D.gd_fit {n : Nat} {d : D} (h : D.gd n d = true) : d.fit = true := by
  cases d <;> first | rfl | (rw [D.gd] at h; exact h)
mutual
theorem D.gd_mono : ∀ (n m : Nat) (d : D), n ≤ m → D.gd n d = true → D.gd m d = true
  | n, m, .non, _, _ => by rw [D.gd]
  | n, m, .bl _, _, _ => by rw [D.gd]
  | n, m, .int _, _, _ => by rw [D.gd]
  | n, m, .str x, _, h => by rw [D.gd] at h ⊢; exact h
  | n, m, .ref _, _, h => by rw [D.gd] at h; cases h
  | n, m, .ty _, _, h => by rw [D.gd] at h; cases h
  | 0, m, .lst xs, _, h => by rw [D.gd] at h; cases h
  | n + 1, 0, .lst xs, le, h => absurd le (by omega)
  | n + 1, m + 1, .lst xs, le, h => by rw [D.gd_lst, Bool.and_eq_true] at h ⊢; exact ⟨h.1, D.gds_mono n m xs (by omega) h.2⟩
  | 0, m, .tup xs, _, h => by rw [D.gd] at h; cases h
  | n + 1, 0, .tup xs, le, h => absurd le (by omega)
  | n + 1, m + 1, .tup xs, le, h => by rw [D.gd_tup, Bool.and_eq_true] at h ⊢; exact ⟨h.1, D.gds_mono n m xs (by omega) h.2⟩
  | n, m, .dic _, _, h => by rw [D.gd] at h ⊢; exact h
theorem D.gds_mono : ∀ (n m : Nat) (ds : List D), n ≤ m → D.gds n ds = true → D.gds m ds = true
  | n, m, [], _, _ => D.gds_nil
  | n, m, x :: xs, le, h => by
    rw [D.gds_cons, Bool.and_eq_true] at h ⊢
    exact ⟨D.gd_mono n m x le h.1, D.gds_mono n m xs le h.2⟩
end
theorem D.gd_lst' {n : Nat} {xs : List D} (h : D.gd (n + 1) (.lst xs) = true) : xs.length ≤ 1000 ∧ D.gds n xs = true := by rw [D.gd_lst, Bool.and_eq_true] at h; exact ⟨of_decide_eq_true h.1, h.2⟩
theorem D.hdOk_len {xs : List D} (h : D.hdOk xs = true) : xs.length ≤ 1000 := by unfold D.hdOk at h; rw [Bool.and_eq_true] at h; exact of_decide_eq_true h.1
/-- equal: data, empty dicts, lists and tuples of such, of nesting below n -/
def EqZ (K : PySem.W.Frag) (H : Hp) : Nat → V → V → Prop
  | 0 => fun x y => EqD0 K H x y ∨ ∃ a b, x = .ref a ∧ y = .ref b ∧ Rd H a (.dK []) ∧ Rd H b (.dK [])
  | n + 1 => fun x y => (EqD0 K H x y ∨ ∃ a b, x = .ref a ∧ y = .ref b ∧ Rd H a (.dK []) ∧ Rd H b (.dK [])) ∨
    (∃ a b xs ys, x = .ref a ∧ y = .ref b ∧ SqL K H a xs ∧ SqL K H b ys ∧ Paired (EqZ K H n) xs ys) ∨ ∃ a b xs ys, x = .ref a ∧ y = .ref b ∧ SqT K H a xs ∧ SqT K H b ys ∧ Paired (EqZ K H n) xs ys
section
variable {X : Cx} {pins : List (Addr × Obj)} {σ : L2.St} {H : Hp} {s : Shared}
theorem eqZ0_run (I : Inv X pins σ H s) {A : Around} (hu : A.units + 60 < cLine) {x y : V} {v u : Value} (h : EqD0 X.K H x y ∨ ∃ a b, x = .ref a ∧ y = .ref b ∧ Rd H a (.dK []) ∧ Rd H b (.dK [])) (rx : RelV x v) (ry : RelV y u) : SeqAt.EqP X.prog X.w A s v u true := by
  rcases h with h | ⟨a, b, rfl, rfl, ha, hb⟩
  · exact eqData_run I hu h rx ry
  · cases (show v = Value.ref a from rx)
    cases (show u = Value.ref b from ry)
    by_cases e : a = b
    · subst e; exact (SeqAt.EqAt.same _).eqP
    obtain ⟨_, ya, va, ra, da⟩ := dk_rd I.hok ha
    obtain ⟨_, yb, vb, rb, db⟩ := dk_rd I.hok hb
    refine SeqAt.eqP_refs e fun E Q q => PySem.W.rcP_dicts (knd := mixKind X.prog X.w) (r := true) ya yb da db (by omega) (fun _ => hits_run (F := fun _ _ => False) (fun _ _ _ _ z => z.elim) rb ra fun p hp => by cases hp) E Q ?_
    have hl : va.length = vb.length := by rw [← ra.length, ← rb.length]
    rw [show (va.length == vb.length && true) = true from by rw [hl]; simp]
    exact q
theorem eqZ_run (I : Inv X pins σ H s) : ∀ (n : Nat) (A : Around), A.units + n + 60 < cLine → ∀ (x y : V) (v u : Value), EqZ X.K H n x y → RelV x v → RelV y u → SeqAt.EqP X.prog X.w A s v u true
  | 0, A, hu, x, y, v, u, h, rx, ry => eqZ0_run I (by omega) h rx ry
  | n + 1, A, hu, x, y, v, u, h, rx, ry => by
    have ih := eqZ_run I n A.in1 (by show A.units + 1 + n + 60 < cLine; omega)
    rcases h with h | ⟨a, b, xs, ys, rfl, rfl, ha, hb, hp⟩ | ⟨a, b, xs, ys, rfl, rfl, ha, hb, hp⟩
    · exact eqZ0_run I (by omega) h rx ry
    · cases (show v = Value.ref a from rx)
      cases (show u = Value.ref b from ry)
      by_cases e : a = b
      · subst e; exact (SeqAt.EqAt.same _).eqP
      obtain ⟨us, r1, p1, _⟩ := I.list ha
      obtain ⟨ws, r2, p2, _⟩ := I.list hb
      have hz : us.toArray.size = ws.toArray.size := by rw [List.size_toArray, List.size_toArray, ← r1.length, ← r2.length]; exact Paired.length hp
      refine SeqAt.eqP_refs e fun E Q q => SeqAt.rcP_lists (e := fun _ => true) p1.isList p2.isList hz (by omega) (fun j h1 h2 => ?_) E Q (by rw [show ((List.range us.toArray.size).all fun _ => true) = true from List.all_eq_true.mpr fun _ _ => rfl]; exact q)
      have k := items_run ih hp r1 r2 j (by simpa using h1) (by simpa using h2)
      simpa using k
    · cases (show v = Value.ref a from rx)
      cases (show u = Value.ref b from ry)
      by_cases e : a = b
      · subst e; exact (SeqAt.EqAt.same _).eqP
      obtain ⟨us, r1, p1, _⟩ := I.tuple ha
      obtain ⟨ws, r2, p2, _⟩ := I.tuple hb
      have hz : us.toArray.size = ws.toArray.size := by rw [List.size_toArray, List.size_toArray, ← r1.length, ← r2.length]; exact Paired.length hp
      refine SeqAt.eqP_refs e fun E Q q => SeqAt.rcIn_tuples (e := fun _ => true) p1 p2 (by omega) (fun j h1 h2 => ?_) (by rw [show ((List.range (min us.toArray.size ws.toArray.size)).all fun _ => true) = true from List.all_eq_true.mpr fun _ _ => rfl, hz]; simpa using q)
      have k := items_run ih hp r1 r2 j (by simpa using h1) (by simpa using h2)
      have k' : SeqAt.EqP X.prog X.w A.in1 s us.toArray[j] ws.toArray[j] true := by simpa using k
      exact k'
end
/-- != of two equal tuples or lists: False -/
def rNeZ (K : PySem.W.Frag) : R2 := fun x y H Q => ∃ n, n ≤ 55 ∧ ((∃ a b xs ys, x = .ref a ∧ y = .ref b ∧ SqL K H a xs ∧ SqL K H b ys ∧ Paired (EqZ K H n) xs ys) ∨ ∃ a b xs ys, x = .ref a ∧ y = .ref b ∧ SqT K H a xs ∧ SqT K H b ys ∧ Paired (EqZ K H n) xs ys) ∧ Q (.bl false) H
theorem op_neZ {X : Cx} (hu : X.A.units + 120 < cLine) : OpR X (compareOp .NotEq) (rNeZ X.K) := by
  intro pins s σ H x y v u Q I rx ry h
  obtain ⟨n, hn, h, q⟩ := h
  have ih := eqZ_run I n X.A.in1 (by show X.A.units + 1 + n + 60 < cLine; omega)
  rcases h with ⟨a, b, xs, ys, rfl, rfl, ha, hb, hp⟩ | ⟨a, b, xs, ys, rfl, rfl, ha, hb, hp⟩
  · cases (show v = Value.ref a from rx)
    cases (show u = Value.ref b from ry)
    obtain ⟨us, r1, p1, _⟩ := I.list ha
    obtain ⟨ws, r2, p2, _⟩ := I.list hb
    have hz : us.toArray.size = ws.toArray.size := by rw [List.size_toArray, List.size_toArray, ← r1.length, ← r2.length]; exact Paired.length hp
    refine SeqAt.neSame_rc p1.isList p2.isList hz (by omega) (fun j h1 h2 => ?_) _ _ ⟨.bl false, H, I, rfl, q⟩
    have k := items_run ih hp r1 r2 j (by simpa using h1) (by simpa using h2)
    simpa using k
  · cases (show v = Value.ref a from rx)
    cases (show u = Value.ref b from ry)
    obtain ⟨us, r1, p1, _⟩ := I.tuple ha
    obtain ⟨ws, r2, p2, _⟩ := I.tuple hb
    have hz : us.toArray.size = ws.toArray.size := by rw [List.size_toArray, List.size_toArray, ← r1.length, ← r2.length]; exact Paired.length hp
    refine SeqAt.neSameT_rc p1 p2 hz (by omega) (fun j h1 h2 => ?_) _ _ ⟨.bl false, H, I, rfl, q⟩
    have k := items_run ih hp r1 r2 j (by simpa using h1) (by simpa using h2)
    simpa using k
end Gh
end

section
set_option Elab.async false
set_option linter.all false
set_option maxRecDepth 100000
set_option maxHeartbeats 4000000
namespace Gh
open PySem PySem.Spec PyProof.Rows L2
/-! ## more words for such things -/
theorem ok_self {n : Nat} {e : D} (h : D.ok n e = true) (hn : n ≤ 60) : ∃ p, p = e.toP ∧ p.canLay0 = true ∧ p.depth ≤ 60 ∧ PyData.eqv p p = true := by
  obtain ⟨h1, h2⟩ := D.ok_lay n e h
  exact ⟨_, rfl, h1, by omega, PySem.SeqAt.eqv_refl _ h1⟩
section
variable {Y : Ctx} {F : Hp} {R Gl G : Gs} {ρ : Rho} {σ : L2.St} {H : Hp}
theorem eqZ_of0 {n : Nat} {x y : V} (h : EqD0 Y.K H x y ∨ ∃ a b, x = .ref a ∧ y = .ref b ∧ Rd H a (.dK []) ∧ Rd H b (.dK [])) : EqZ Y.K H n x y := by
  cases n with
  | zero => exact h
  | succ n => exact .inl h
theorem eqD0_at {x : V} {d e : D} {S : List Addr} (W : Wd Y F R Gl G ρ σ H) (q : DV G d e S) (r : Rep Y.K F x d) {y : V} {d' : D} {S' : List Addr} (q' : DV G d' e S') (r' : Rep Y.K F y d') (h : D.ok 0 e = true) : EqD0 Y.K H x y := by
  obtain ⟨p, rfl, h1, h2, h3⟩ := ok_self h (by decide)
  exact ⟨_, _, q.dp W h r, q'.dp W h r', h1, h1, h2, h3⟩
mutual
theorem gd_eqz (W : Wd Y F R Gl G ρ σ H) : ∀ (n : Nat) (e : D), D.gd n e = true → ∀ {d d' : D} {S S' : List Addr} {x y : V}, DV G d e S → DV G d' e S' → Rep Y.K F x d → Rep Y.K F y d' → EqZ Y.K H n x y
  | n, .non, h, d, d', S, S', x, y, q, q', r, r' => eqZ_of0 (.inl (eqD0_at W q r q' r' D.ok_non))
  | n, .bl _, h, d, d', S, S', x, y, q, q', r, r' => eqZ_of0 (.inl (eqD0_at W q r q' r' D.ok_bl))
  | n, .int _, h, d, d', S, S', x, y, q, q', r, r' => eqZ_of0 (.inl (eqD0_at W q r q' r' D.ok_int))
  | n, .str z, h, d, d', S, S', x, y, q, q', r, r' => eqZ_of0 (.inl (eqD0_at W q r q' r' (D.ok_str (by
      rw [D.gd] at h
      have h : (decide (z.length ≤ 100000) && PyData.strOk z) = true := h
      rw [Bool.and_eq_true] at h
      exact h.2))))
  | n, .ref _, h, d, d', S, S', x, y, q, q', r, r' => by rw [D.gd] at h; cases h
  | n, .ty _, h, d, d', S, S', x, y, q, q', r, r' => by rw [D.gd] at h; cases h
  | 0, .lst xs, h, d, d', S, S', x, y, q, q', r, r' => by rw [D.gd] at h; cases h
  | n + 1, .lst xs, h, d, d', S, S', x, y, q, q', r, r' => by
    replace h := (D.gd_lst' h).2
    obtain ⟨ds, S1, v1, g1, _⟩ := q.lst_inv
    obtain ⟨ds', S2, v2, g2, _⟩ := q'.lst_inv
    obtain ⟨a, vs, rfl, h1, h2⟩ := W.lstV (.of r v1)
    obtain ⟨b, us, rfl, k1, k2⟩ := W.lstV (.of r' v2)
    exact .inr (.inl ⟨a, b, vs, us, rfl, rfl, h1, k1, gds_eqz W n xs h g1 g2 h2 k2⟩)
  | 0, .tup xs, h, d, d', S, S', x, y, q, q', r, r' => by rw [D.gd] at h; cases h
  | n + 1, .tup xs, h, d, d', S, S', x, y, q, q', r, r' => by
    replace h := (D.gd_tup' h).2
    obtain ⟨ds, rfl, g1⟩ := q.tup_inv
    obtain ⟨ds', rfl, g2⟩ := q'.tup_inv
    obtain ⟨a, vs, rfl, h1, h2⟩ := W.tupV (.rep r)
    obtain ⟨b, us, rfl, k1, k2⟩ := W.tupV (.rep r')
    exact .inr (.inr ⟨a, b, vs, us, rfl, rfl, h1, k1, gds_eqz W n xs h g1 g2 h2 k2⟩)
  | n, .dic kvs, h, d, d', S, S', x, y, q, q', r, r' => by
    rw [D.gd] at h
    have hk : kvs = [] := List.isEmpty_iff.mp h
    subst hk
    cases q; cases q'
    cases r with
    | dic f1 z1 =>
    cases r' with
    | dic f2 z2 =>
    cases z1; cases z2
    exact eqZ_of0 (.inr ⟨_, _, rfl, rfl, W.abs.sub _ _ f1, W.abs.sub _ _ f2⟩)
theorem gds_eqz (W : Wd Y F R Gl G ρ σ H) : ∀ (n : Nat) (es : List D), D.gds n es = true → ∀ {ds ds' : List D} {S S' : List Addr} {xs ys : List V}, DVs G ds es S → DVs G ds' es S' → Reps Y.K F xs ds → Reps Y.K F ys ds' → Paired (EqZ Y.K H n) xs ys
  | n, [], h, _, _, _, _, _, _, .nil, .nil, .nil, .nil => .nil
  | n, e :: es, h, _, _, _, _, _, _, .cons a b, .cons a' b', .cons r t, .cons r' t' => by
    rw [D.gds_cons, Bool.and_eq_true] at h
    exact .cons (gd_eqz W n e h.1 a a' r r') (gds_eqz W n es h.2 b b' t t')
end
end
section
variable {Y : Ctx} {ρ : Rho} {G : Gs} {a b c e o : Expr} {d d1 d2 f : D} {S1 S2 S : List Addr} {ds : List D} {pos p apos : Pos}
theorem hu2_i (i : Y.ι) : (Y.X i).A.units + 120 < cLine := by have := (Y.hr i).un; omega
/-- equal things are not unequal -/
theorem gc_neZ (ha : GE Y a ρ G d1) (hb : GE Y b ρ G d2) (q1 : DV G d1 f S1) (q2 : DV G d2 f S2) (h : D.gd 50 f = true) (hn : f.isDic = false) : GC Y .NotEq a b ρ G (.bl false) := by
  have data : ∀ {f : D}, D.ok 64 f = true → DV G d1 f S1 → DV G d2 f S2 → GC Y .NotEq a b ρ G (.bl false) := fun {f} h q1 q2 => by
    have := gc_neV ha hb q1 q2 h h
    rwa [D.eqv_self h] at this
  cases f with
  | non => exact data D.ok_non q1 q2
  | bl x => exact data D.ok_bl q1 q2
  | int x => exact data D.ok_int q1 q2
  | str z => exact data (D.ok_str (by
      rw [D.gd] at h
      have h : (decide (z.length ≤ 100000) && PyData.strOk z) = true := h
      rw [Bool.and_eq_true] at h
      exact h.2)) q1 q2
  | ref _ => rw [D.gd] at h; cases h
  | ty _ => rw [D.gd] at h; cases h
  | dic _ => cases hn
  | lst xs =>
    replace h := (D.gd_lst' h).2
    refine gc_opR (r := rNeZ Y.K) (fun i => by have := @op_neZ (Y.X i) (hu2_i i); rwa [Y.hK i] at this) ha hb fun F R Gl σ H x y Q W r r' q => ?_
    obtain ⟨ds, T1, v1, g1, _⟩ := q1.lst_inv
    obtain ⟨ds', T2, v2, g2, _⟩ := q2.lst_inv
    obtain ⟨a, vs, rfl, h1, h2⟩ := W.lstV (.of r v1)
    obtain ⟨b, us, rfl, k1, k2⟩ := W.lstV (.of r' v2)
    exact ⟨49, by decide, .inl ⟨a, b, vs, us, rfl, rfl, h1, k1, gds_eqz W 49 xs h g1 g2 h2 k2⟩, q _ (.bl _)⟩
  | tup xs =>
    replace h := (D.gd_tup' h).2
    refine gc_opR (r := rNeZ Y.K) (fun i => by have := @op_neZ (Y.X i) (hu2_i i); rwa [Y.hK i] at this) ha hb fun F R Gl σ H x y Q W r r' q => ?_
    obtain ⟨ds, rfl, g1⟩ := q1.tup_inv
    obtain ⟨ds', rfl, g2⟩ := q2.tup_inv
    obtain ⟨a, vs, rfl, h1, h2⟩ := W.tupV (.rep r)
    obtain ⟨b, us, rfl, k1, k2⟩ := W.tupV (.rep r')
    exact ⟨49, by decide, .inr ⟨a, b, vs, us, rfl, rfl, h1, k1, gds_eqz W 49 xs h g1 g2 h2 k2⟩, q _ (.bl _)⟩
/-- d.get(k) -/
theorem ge_dget1 {kds : List (Key × D)} (k : Key) (ho : GV Y o ρ G (.dic kds)) (he : GE Y e ρ G (kD k)) (hbase : BaseB o "get" := by intro _; rfl) (hfew : FewB e pos := by intro _; rfl) (hline : (apos.endLine == pos.line) = true := by rfl) (hs : M1B o "get" apos e pos := by intro _; rfl) :
    GE Y (.Call (.Attribute o "get" apos) [e] [] pos) ρ G ((valD kds k).getD .non) := ⟨fun F R Gl σ H W => by
  refine wE.of (t := tDGet1 (wE Y o) (wE Y e)) (fun i => pe_dget1 (hu1_i i) (wE.pe i) (wE.pe i) ⟨hbase _, hfew _, hline, hs _⟩) ?_
  refine (ho.run F R Gl σ H W).mono fun v H1 ⟨F1, Gl1, s1, W1, v1⟩ => ?_
  obtain ⟨p, vs, rfl, h1, h2⟩ := W1.dicV v1
  refine ⟨p, rfl, .inl ⟨_, h1⟩, (he.run F1 R Gl1 σ H1 W1).mono fun y H2 ⟨F2, Gl2, s2, W2, r2⟩ => ?_⟩
  obtain ⟨p', ws, e', h3, h4⟩ := W2.dicV (v1.mono s2)
  cases e'
  refine ⟨valV ws k, .inl ⟨ws, k, h3, r2.key, rfl⟩, F2, Gl2, s1.trans s2, W2, ?_⟩
  rcases h4.val k with ⟨z1, z2⟩ | ⟨v, d', z1, z2, z3⟩
  · rw [z1, z2]; exact .non
  · rw [z1, z2]; exact z3⟩
/-- o.extend(e), both lists told by address -/
theorem gx_ext {P : D → Rho → Gs → Prop} {l p' : Addr} {xs ys : List D} (ho : GP Y o ρ G (.at l)) (hg : G l = some (.lst xs)) (he : GE Y e ρ G (.ref p')) (hp : G p' = some (.lst ys)) (hl : xs.length + ys.length < 100000) (q : P .non ρ (gupd G l (.lst (xs ++ ys))))
    (hbase : BaseB o "extend" := by intro _; rfl) (hfew : FewB e pos := by intro _; rfl) (hline : (apos.endLine == pos.line) = true := by rfl) (hs : StarB e := by intro _; rfl) :
    GX Y (.Call (.Attribute o "extend" apos) [e] [] pos) ρ G P := ⟨fun F R Gl σ H W => by
  refine wE.of (t := tBM Y.K "list" rExtend (wE Y o) (wA Y [e])) (fun i => (by have := @pe_bm (Y.X i) o e [] _ _ _ apos pos _ _ _ PySem.F.plainAttrs_list PySem.F.slot_list_extend PySem.F.type_list_extend mt_extend (wE.pe i) (wA.pa i) (hbase _) (hfew _) hline (hs _) rfl; rwa [Y.hK i] at this)) ?_
  refine (ho.run F R Gl σ H W).mono fun v H1 ⟨F1, Gl1, l', ev, s1, W1, is⟩ => ?_
  subst ev
  have is' : l' = l := is
  subst is'
  obtain ⟨vs, h1, r1⟩ := W1.plst is hg
  refine ⟨.inl ⟨rfl, _, .inl (.inl h1)⟩, ((gr_cons he gr_nil hs).run F1 R Gl1 σ H1 W1).mono fun us H2 ⟨F2, Gl2, s2, W2, r2⟩ => ?_⟩
  cases r2 with
  | cons r2 r3 =>
  cases r3
  obtain ⟨ws, h2, r4⟩ := W2.plst is hg
  obtain ⟨zs, h3, r5⟩ := W2.plst (p := .at p') (l := p') rfl hp
  exact ⟨l', p', ws, zs, rfl, by rw [r2.ref_inv], h2, h3, (by rw [r4.length, r5.length]; exact Nat.le_trans (Nat.le_of_lt hl) (by decide)), F2, _, _, _, .non, s1.trans s2, W2.pput is hg rfl rfl (.lst (r4.append r5)), .non, q⟩⟩
/-- isinstance(x, (list, tuple)) -/
def rIsiS (K : PySem.W.Frag) : List V → Hp → VK → Prop := fun xs H Q => ∃ (x : V) (tp : Addr) (cs : List V) (t : Value) (us : List Value) (b : Bool), xs = [x, .ref tp] ∧ SqT K H tp cs ∧ Paired ClsV cs us ∧ TyX K H x t ∧ PySem.W.kitAny K t us = some b ∧ Q (.bl b) H
theorem call_isiS {X : Cx} : CallR X (.builtin "isinstance") (rIsiS X.K) := by
  intro pins s σ H xs us Q I r h
  obtain ⟨x, tp, cs, t, ws, b, rfl, hT, k, ty, e, q⟩ := h
  obtain ⟨u1, u2, rfl, r1, r2⟩ := vals2 r
  cases (show u2 = Value.ref tp from r2)
  obtain ⟨P, Z, p, hx⟩ := kit_of I r1 ty
  obtain ⟨its, rv, ⟨o, h1, h2, n, h3⟩, _⟩ := I.tuple hT
  have e3 := ClsV.all k rv
  subst e3
  obtain ⟨oc, od, dt, sl⟩ := o
  simp only at h2 h3
  subst h2 h3
  exact PySem.W.kia_tup Z I.kIn p h1 e hx fun tk => ⟨.bl b, H, I.tok tk, rfl, q⟩
theorem kit_lt {K : PySem.W.Frag} {n : String} {x y : Bool} (h1 : kitB n "list" = some x) (h2 : kitB n "tuple" = some y) : PySem.W.kitAny K (.type n) [.type "list", .type "tuple"] = some (x || y) := by
  unfold PySem.W.kitAny
  rw [kit_ty h1]
  cases x with
  | true => rfl
  | false =>
    show PySem.W.kitAny K (.type n) [.type "tuple"] = _
    unfold PySem.W.kitAny
    rw [kit_ty h2]
    cases y <;> rfl
theorem ge_isiLT {k : Nat} {tp q1 q2 : Pos} (T : Blt Y.mg) (ha : GE Y a ρ G d) (hv : DV G d f S) (h : f.isD = true) (hg : GlS Y.sc "isinstance" := by rfl) (hl : GlS Y.sc "list" := by rfl) (ht : GlS Y.sc "tuple" := by rfl)
    (he : ∀ env, starEach [a, Expr.Tuple [.Name "list" q1, .Name "tuple" q2] k tp] env = (false, eval a env) :: starEach [Expr.Tuple [.Name "list" q1, .Name "tuple" q2] k tp] env := by intro _; rfl)
    (hpl : ∀ env, (backTo pos (starEach [Expr.Tuple [.Name "list" q1, .Name "tuple" q2] k tp] env)).any (·.1) = false := by intro _; rfl) : GE Y (.Call (.Name "isinstance" p) [a, .Tuple [.Name "list" q1, .Name "tuple" q2] k tp] [] pos) ρ G (.bl (f.isLst || f.isTup)) := ⟨fun F R Gl σ H W => by
  obtain ⟨d1, hv1, hs1⟩ := hv.sh
  have hb : GE Y (.Tuple [.Name "list" q1, .Name "tuple" q2] k tp) ρ G (.tup [.ty "list", .ty "tuple"]) := ge_tup (gr_cons (ge_ty T.at (by decide +kernel) hl) (gr_cons (ge_ty T.at (by decide +kernel) ht) gr_nil))
  refine cb_go (P := PRd Y G ρ _) PR.up W (fun i => by have := @call_isiS (Y.X i); rwa [Y.hK i] at this) hg T.at (by decide +kernel) (ga_cons (gv_view ha hv1) (ga_cons (gv_ge hb) ga_nil (by intro _; rfl)) he) (fun F R Gl σ H vs Q W v q => ?_) (by decide) (by decide) he hpl
  obtain ⟨v', w', rfl, h1, h2⟩ := v.two_inv
  obtain ⟨tp, cs, rfl, h3, h4⟩ := W.tupV h2
  have ecs : cs = [.ty "list", .ty "tuple"] := by
    cases h4 with
    | cons x1 h4 => cases h4 with | cons x2 h4 => cases h4; rw [x1.ty_inv, x2.ty_inv]
  subst ecs
  have h' : d1.isD = true := hs1.isD.trans h
  rw [← hs1.isLst, ← hs1.isTup] at q
  obtain ⟨n, e1, e2⟩ : ∃ n, d1.tyN = some n ∧ (kitB n "list" = some d1.isLst ∧ kitB n "tuple" = some d1.isTup) := by
    obtain ⟨n, e1, e2⟩ := (IsiD.lst h').kit
    obtain ⟨n', e1', e2'⟩ := (IsiD.tup h').kit
    rw [e1] at e1'; cases e1'
    exact ⟨n, e1, e2, e2'⟩
  exact ⟨v', tp, _, .type n, [.type "list", .type "tuple"], _, rfl, h3, .cons (.ty _) (.cons (.ty _) .nil), W.tyx h1 e1, kit_lt e2.1 e2.2, q _ _ (pr_here W (.bl _))⟩⟩
/-- a text in a tuple of whole numbers -/
theorem gc_inTS {x : Str} {ys : List Int} (ha : GE Y a ρ G (.str x)) (hb : GV Y b ρ G (.tup (ys.map .int))) : GC Y .In a b ρ G (.bl false) := by
  refine gc_op (r := rIn Y.K false) (fun i => by have := @op_in_seq (Y.X i); rwa [Y.hK i] at this) (gv_ge ha) hb (rr_val fun F R Gl σ H x' y' Q W v1 v2 q => ?_)
  obtain ⟨p, vs, rfl, h1, h2⟩ := W.tupV v2
  rw [h2.ints_inv] at h1
  rw [v1.str_inv]
  refine ⟨p, _, rfl, .inr h1, rfl, flat_ints, q _ ?_⟩
  have : ∀ z : Str, inV (.str z) (ys.map V.int) = false := fun z => by
    unfold inV
    rw [List.any_eq_false]
    intro v hv
    obtain ⟨i, _, rfl⟩ := List.mem_map.mp hv
    simp [eqV]
  rw [if_neg (by decide), this]
  exact .bl _
end
/-- x != a number, x a list or a tuple: True -/
def rNeSI (K : PySem.W.Frag) : R2 := fun x y H Q => ∃ a xs i, x = .ref a ∧ y = .int i ∧ (SqL K H a xs ∨ SqT K H a xs) ∧ Q (.bl true) H
theorem op_neSI {X : Cx} (hu : X.A.units < cLine) : OpR X (compareOp .NotEq) (rNeSI X.K) := by
  intro pins s σ H x y v u Q I rx ry h
  obtain ⟨a, xs, i, rfl, rfl, hq, q⟩ := h
  cases (show v = Value.ref a from rx)
  obtain ⟨t, rfl⟩ := (show ∃ t, u = Value.int i t from ry)
  rcases hq with hq | hq
  · obtain ⟨us, r1, p1, _⟩ := I.list hq
    exact PySem.SeqAt.RcNeAt.list_int i t p1.isList hu X.prog X.w _ _ ⟨.bl true, H, I, rfl, q⟩
  · obtain ⟨us, r1, p1, _⟩ := I.tuple hq
    exact PySem.SeqAt.RcNeAt.tuple_int i t p1 hu X.prog X.w _ _ ⟨.bl true, H, I, rfl, q⟩
section
variable {Y : Ctx} {ρ : Rho} {G : Gs} {a b : Expr} {d f : D} {S : List Addr}
/-- what is no number is unequal to one -/
theorem gc_neHI {n : Nat} {m : Int} (ha : GE Y a ρ G d) (hb : GE Y b ρ G (.int m)) (q : DV G d f S) (h : D.gd n f = true) (h1 : f.isInt = false) (h2 : f.isDic = false) : GC Y .NotEq a b ρ G (.bl true) := by
  have data : ∀ {f : D}, D.ok 64 f = true → D.eqv f (.int m) = false → DV G d f S → GC Y .NotEq a b ρ G (.bl true) := fun {f} h e q => by
    have := gc_neV ha hb q (.eq (.int m)) h D.ok_int
    rwa [e] at this
  cases f with
  | non => exact data D.ok_non rfl q
  | bl x => cases h1
  | int x => cases h1
  | str z => exact data (D.ok_str (by
      rw [D.gd] at h
      have h : (decide (z.length ≤ 100000) && PyData.strOk z) = true := h
      rw [Bool.and_eq_true] at h
      exact h.2)) rfl q
  | ref _ => rw [D.gd] at h; cases h
  | ty _ => rw [D.gd] at h; cases h
  | dic _ => cases h2
  | lst xs =>
    refine gc_opR (r := rNeSI Y.K) (fun i => by have := @op_neSI (Y.X i) (hu0_i i); rwa [Y.hK i] at this) ha hb fun F R Gl σ H x y Q W r r' qq => ?_
    obtain ⟨ds, T1, v1, g1, _⟩ := q.lst_inv
    obtain ⟨a, vs, rfl, h1, h2⟩ := W.lstV (.of r v1)
    exact ⟨a, vs, m, rfl, r'.int_inv, .inl h1, qq _ (.bl _)⟩
  | tup xs =>
    refine gc_opR (r := rNeSI Y.K) (fun i => by have := @op_neSI (Y.X i) (hu0_i i); rwa [Y.hK i] at this) ha hb fun F R Gl σ H x y Q W r r' qq => ?_
    obtain ⟨ds, rfl, g1⟩ := q.tup_inv
    obtain ⟨a, vs, rfl, h1, h2⟩ := W.tupV (.rep r)
    exact ⟨a, vs, m, rfl, r'.int_inv, .inr h1, qq _ (.bl _)⟩
end
end Gh
end

section
set_option Elab.async false
set_option linter.all false
set_option maxRecDepth 100000
set_option maxHeartbeats 4000000
namespace Gh
open PySem PySem.Spec PyProof.Rows L2
/-! ## a new list of nobody, frozen; tuples cut; lists of frozen parts -/
section
variable {Y : Ctx} {ρ : Rho} {G : Gs} {a b e : Expr} {d : D} {ds xs ys : List D} {pos p p2 : Pos} {P : D → Gs → Prop}
theorem gw_fz (h : GW Y e ρ G fun d G' => ∃ l ds, d = .ref l ∧ G l = none ∧ G' = gupd G l (.lst ds) ∧ P (.lst ds) G) : GW Y e ρ G P := ⟨fun F R Gl σ H W => (h.run F R Gl σ H W).mono fun v H' ⟨F', Gl', G', d, s, W', r, l, ds, ed, hl, eG, q⟩ => by
  subst ed eG
  have hg : Gl' l = some (.lst ds) := W'.g l _ gupd_same
  have hn : PN Y F R G ρ σ (.lst ds) v H' := by
    refine ⟨F', Gl', l, r.ref_inv, s, W'.less (gex_new hl), hg, hl, ?_, fun o => ?_⟩
    · exact (W'.gr l).resolve_left (by rw [gupd_same]; simp)
    · obtain ⟨u, z1, z2, z3⟩ := W'.owned o
      rw [gupd_same] at z2; cases z2
  obtain ⟨F2, Gl2, s2, W2, r2⟩ := hn.fz
  exact ⟨F2, Gl2, G, .lst ds, s2, W2, r2, q⟩⟩
/-- a + b, both of frozen parts -/
theorem gw_catF (ha : GW Y a ρ G fun d1 G1 => G1 = G ∧ ∃ xs, d1 = .lst xs ∧ GW Y b ρ G fun d2 G2 => G2 = G ∧ ∃ ys, d2 = .lst ys ∧ xs.length + ys.length ≤ 100000 ∧ P (.lst (xs ++ ys)) G) : GW Y (.BinOp a .Add b pos) ρ G P :=
  gw_fz (gw_cat (gw_mono ha fun d1 G1 ⟨e1, xs, ed, hb⟩ => by
    subst e1 ed
    exact gw_mono hb fun d2 G2 ⟨e2, ys, ed, hl, q⟩ => by
      subst e2 ed
      exact ⟨xs, ys, .rfl, .rfl, hl, fun l hl => ⟨l, _, rfl, hl, rfl, q⟩⟩))
/-- t[lo:hi] of a tuple, not the whole -/
theorem ge_sliceT {lo hi : Option Expr} {x y : Option Int} (ha : GE Y a ρ G (.tup ds)) (hl : GO' Y lo ρ G x) (hh : GO' Y hi ρ G y) (hn : ¬ (HT.sIx ds.length 0 x = 0 ∧ HT.sIx ds.length ds.length y = ds.length)) : GE Y (.Subscript a (.Slice lo hi none p2) pos) ρ G (.tup (cutD ds x y)) := ⟨fun F R Gl σ H W => by
  obtain ⟨tl, h1, h2⟩ := hl.run
  obtain ⟨th, h3, h4⟩ := hh.run
  refine wE.of (fun i => pe_slice (by have := @sl_tup (Y.X i); rwa [Y.hK i] at this) (wE.pe i) (h1 i) (h3 i)) ((ha.run F R Gl σ H W).mono fun v H1 ⟨F1, Gl1, s1, W1, v1⟩ => h2 F1 R Gl1 σ H1 _ W1 fun F2 Gl2 H2 s2 W2 => h4 F2 R Gl2 σ H2 _ W2 fun F3 Gl3 H3 s3 W3 => ?_)
  obtain ⟨p, vs, rfl, h5, h6⟩ := W3.tupV (.rep (v1.mono (s2.trans s3)))
  refine ⟨p, vs, rfl, h5, by rw [h6.length]; exact hn, fun l hl => ?_⟩
  obtain ⟨W4, s4⟩ := W3.newF (o := .tup (cutV vs x y)) hl
  exact ⟨_, _, ((s1.trans s2).trans s3).trans s4, W4, .tup upd_same ((h6.cut x y).mono s4)⟩⟩
end
end Gh
end

section
set_option Elab.async false
set_option linter.all false
set_option maxRecDepth 100000
set_option maxHeartbeats 4000000
namespace Gh
open PySem PySem.Spec PyProof.Rows L2
/-! what the laws k04 to k10 make: stretches, needs, rows -/
theorem gs_asgW {Y : Ctx} {ρ : Rho} {G : Gs} {E : GEnds} {e tg : Expr} {pos : Pos} (he : GW Y e ρ G fun d G' => ∃ js ρ', GG Y tg js d ρ ρ' ∧ E.nx ρ' G') (hs : ∀ i, swapsWithSole [tg] e pos.line (Y.X i).env = pure false := by intro _; rfl) (hw : ∀ i, swappedStores [tg] e (Y.X i).env = pure none := by intro _; rfl) (h1 : ∀ i, (assignEach [tg] (Y.X i).env).map (·.2) = [assign tg (Y.X i).env] := by intro _; rfl) : GS Y (.Assign [tg] e pos) ρ G E := ⟨fun F R Gl σ H D W L => by
  refine wS.of (fun i => ps_asg (wE.pe i) (wG.pg i) (hs i) (hw i) (h1 i)) ((he.run F R Gl σ H W).mono fun v H1 ⟨F1, Gl1, G1, d, s1, W1, r1, js, ρ', hg, k⟩ => ?_)
  exact hg.run F1 R Gl1 G1 σ H1 v _ W1 r1 fun σ2 W2 _ _ => L.nx _ _ _ _ _ _ s1 W2 k⟩
def Makes (ms : List Int) : Prop := 0 < ms.length ∧ ms.length ≤ 8 ∧ ms.Nodup ∧ ∀ m ∈ ms, 1 ≤ m ∧ m ≤ 999
def sp_stretch : GSp := fun ds G PP _ => ∃ (n : Int) (ms : List Int), ds = [.int n, .lst (ms.map .int)] ∧ 0 ≤ n ∧ 0 < ms.length ∧ (∀ m ∈ ms, 1 ≤ m ∧ m ≤ 999) ∧ ∀ lo hi, 1 ≤ lo → lo ≤ hi → hi ≤ 999 → PP (.tup [.int lo, .int hi]) G
section
variable {P : Program} {w : World} {K : PySem.W.Frag} {mg : Str → Option Value} {base : Heap} {A : Ads}
theorem has__law_stretch (T : Tx K mg A) : HasF P w K mg base 1 "_law_stretch" ["_law_number", "_law_makes"] sp_stretch := by
  refine has_body T.d__law_stretch sc__law_stretch (fun ds G P PX h => ?_) (fun f cdv _ outer s H E hr F0 R0 ds G PP PX h => ?_)
  · obtain ⟨_, _, rfl, _⟩ := h; rfl
  have nd := nd__law_stretch
  obtain ⟨n, ms, rfl, hn, hms, hm, q⟩ := h
  obtain ⟨x, ex, hx⟩ := at_mod (xs := ms) (i := n / 10) (m := (ms.length : Int)) rfl (by omega)
  obtain ⟨y, ey, hy⟩ := at_mod (xs := ms) (i := n / 60) (m := (ms.length : Int)) rfl (by omega)
  obtain ⟨x1, x2⟩ := hm x hx
  obtain ⟨y1, y2⟩ := hm y hy
  refine gss_cons (gs_set 2 nd (d := .int x) (ge_ix (gv_ge (ge_var 1 rfl)) (ge_mod (ge_fdiv (ge_var 0 rfl) ge_int ⟨by decide, by decide⟩) (ge_len T.blt (gv_ge (ge_var 1 rfl)) .lst) (by simp; omega)) (.lst ?_)) ?_)
  · rw [List.length_map, atI_map, ex]; rfl
  refine gss_cons (gs_set 3 nd (d := .int y) (ge_ix (gv_ge (ge_var 1 rfl)) (ge_mod (ge_fdiv (ge_var 0 rfl) ge_int ⟨by decide, by decide⟩) (ge_len T.blt (gv_ge (ge_var 1 rfl)) .lst) (by simp; omega)) (.lst ?_)) ?_)
  · rw [List.length_map, atI_map, ey]; rfl
  obtain ⟨v, ev, hv⟩ := at_in (xs := ([0, 1, 2, 3, 4, 4, 2, 1, 4, 5] : List Int)) (i := n % 10) (by omega) (by simp; omega)
  refine gss_cons (gs_set 4 nd (d := .int v) (ge_ix (gv_ge (ge_n (gn_lst (gr_cons ge_int (gr_cons ge_int (gr_cons ge_int (gr_cons ge_int (gr_cons ge_int (gr_cons ge_int (gr_cons ge_int (gr_cons ge_int (gr_cons ge_int (gr_cons ge_int gr_nil))))))))))))) (ge_mod (ge_var 0 rfl) ge_int (by decide)) (.lst (by have := atI_map (f := D.int) (xs := ([0, 1, 2, 3, 4, 4, 2, 1, 4, 5] : List Int)) (i := n % 10); rw [ev] at this; exact this))) ?_)
  refine gss_cons (gs_if (gt_cmp (gc_eqI (ge_var 4 rfl) ge_int)) (fun hc => ?_) (fun hc => gss_nil ?_))
  · exact gss_one (gs_retE (ge_tup (gr_cons (ge_var 2 rfl) (gr_cons (ge_var 2 rfl) gr_nil))) (q x x x1 (Int.le_refl _) x2))
  refine gss_cons (gs_if (gt_cmp (gc_eqI (ge_var 4 rfl) ge_int)) (fun hc => ?_) (fun hc => gss_nil ?_))
  · exact gss_one (gs_retE (ge_tup (gr_cons (ge_min T.blt (ge_var 2 rfl) (ge_var 3 rfl)) (gr_cons (ge_max T.blt (ge_var 2 rfl) (ge_var 3 rfl)) gr_nil))) (q _ _ (by omega) (by omega) (by omega)))
  refine gss_cons (gs_if (gt_cmp (gc_eqI (ge_var 4 rfl) ge_int)) (fun hc => ?_) (fun hc => gss_nil ?_))
  · exact gss_one (gs_retE (ge_tup (gr_cons (ge_var 2 rfl) (gr_cons ge_int gr_nil))) (q _ _ (by omega) (by omega) (by omega)))
  refine gss_cons (gs_if (gt_cmp (gc_eqI (ge_var 4 rfl) ge_int)) (fun hc => ?_) (fun hc => gss_nil ?_))
  · exact gss_one (gs_retE (ge_tup (gr_cons ge_int (gr_cons (ge_var 2 rfl) gr_nil))) (q _ _ (by omega) (by omega) (by omega)))
  refine gss_cons (gs_if (gt_cmp (gc_eqI (ge_var 4 rfl) ge_int)) (fun hc => ?_) (fun hc => gss_nil ?_))
  · exact gss_one (gs_retE (ge_tup (gr_cons ge_int (gr_cons ge_int gr_nil))) (q _ _ (by omega) (by omega) (by omega)))
  exact gss_one (gs_retE (ge_tup (gr_cons (ge_min T.blt ge_int (ge_add (ge_var 2 rfl) ge_int)) (gr_cons (ge_min T.blt ge_int (ge_add (ge_var 2 rfl) ge_int)) gr_nil))) (q _ _ (by omega) (by omega) (by omega)))
/-- the law's own needs of the k-th ware -/
def sp_lneeds : GSp := fun ds G PP _ => ∃ (ns : List Int) (nm : List Str) (mss : List (List Int)) (k : Nat) (a : Nat) (x : Str), ds = [.lst (ns.map .int), .lst (nm.map .str), .lst (mss.map fun ms => .lst (ms.map .int)), .int (k : Int), .int (a : Int)] ∧ nm.length = mss.length + 1 ∧ nm.Nodup ∧ (∀ y ∈ nm, wareS y = true) ∧ (∀ ms ∈ mss, Makes ms) ∧ mss.length ≤ 12 ∧ k < mss.length ∧ nm[k]? = some x ∧ a < 1000 ∧ ∀ l, Needs x l → PP (.lst l) G
theorem has__law_needs (T : Tx K mg A) : HasF P w K mg base 2 "_law_needs" ["_law_script", "_law_names_here", "_law_makes", "_law_k", "_law_at"] sp_lneeds := by
  refine has_body T.d__law_needs sc__law_needs (fun ds G P PX h => ?_) (fun f cdv _ outer s H E hr F0 R0 ds G PP PX h => ?_)
  · obtain ⟨_, _, _, _, _, _, rfl, _⟩ := h; rfl
  have nd := nd__law_needs
  obtain ⟨ns, nm, mss, k, a, x, rfl, hl, hnd, hw, hms, h12, hk, hx, ha, q⟩ := h
  have f0 := mixedI_nn (ns := ns) (k := (a : Int))
  refine gss_cons (gs_own 5 nd (gn_lst gr_nil) ?_)
  refine gss_cons (gs_set 6 nd (ge_gw (gw_call (has__law_mixed T) (gr_cons (ge_var 0 rfl) (gr_cons (ge_var 4 rfl) gr_nil)) ⟨ns, (a : Int), rfl, by omega, by omega, rfl, rfl⟩)) ?_)
  generalize mixedI ns (a : Int) = fi at *
  obtain ⟨tn, et, htn⟩ := at_in (xs := ([0, 1, 1, 2, 2, 6] : List Int)) (i := fi % 6) (by omega) (by simp; omega)
  have ht : 0 ≤ tn ∧ tn ≤ 6 := by simp at htn; omega
  refine gss_cons (gs_for (fun _ => PassesOwn.never) (gi_range1 T.blt (n := tn) (ge_ix (gv_ge (ge_n (gn_lst (gr_cons ge_int (gr_cons ge_int (gr_cons ge_int (gr_cons ge_int (gr_cons ge_int (gr_cons ge_int gr_nil))))))))) (ge_mod (ge_var 6 rfl) ge_int (by decide)) (.lst (by have := atI_map (f := D.int) (xs := ([0, 1, 1, 2, 2, 6] : List Int)) (i := fi % 6); rw [et] at this; exact this))) (by omega)) (fun i ρ' G' => G' = G ∧ ∃ l t n o lo hi, ρ' = [.dat (.lst (ns.map .int)), .dat (.lst (nm.map .str)), .dat (.lst (mss.map fun ms => .lst (ms.map .int))), .dat (.int (k : Int)), .dat (.int (a : Int)), .own l, .dat (.int fi), t, n, o, lo, hi, .unk] ∧ l.length ≤ i ∧ (∀ d ∈ l, Need1 d) ∧ (x :: l.map D.nm).Nodup) ⟨rfl, [], _, _, _, _, _, rfl, Nat.le_refl _, fun _ z => (by cases z), (by simp)⟩ (fun _ _ _ _ => trivial) (fun i d ρ' G' hi hI => ?_) (fun ρ' G' hI => ?_))
  · obtain ⟨rfl, l, t, n, o, lo, hi', rfl, hll, hN, hxl⟩ := hI
    obtain ⟨rfl, hlt⟩ := rngD_get hi
    have hi6 : i < 6 := by omega
    refine ⟨_, _, gg_name 7 nd, ?_⟩
    have n0 := mixedI_nn (ns := ns) (k := (a : Int) + 1 + (0 + (i : Int)))
    refine gss_cons (gs_set 8 nd (ge_gw (gw_call (has__law_mixed T) (gr_cons (ge_var 0 rfl) (gr_cons (ge_add (ge_add (ge_var 4 rfl) ge_int) (ge_var 7 rfl)) gr_nil)) ⟨ns, _, rfl, by omega, by omega, rfl, rfl⟩)) ?_)
    generalize mixedI ns ((a : Int) + 1 + (0 + (i : Int))) = nu at *
    have hml : ((mss.map fun ms => D.lst (ms.map .int)).length : Int) = (mss.length : Int) := by rw [List.length_map]
    have hmx : 0 < max 1 ((mss.length : Int) - 1) := by omega
    refine gss_cons (gs_set 9 nd (ge_mod (ge_add (ge_add (ge_var 3 rfl) ge_int) (ge_mod (ge_add (ge_fdiv (ge_var 6 rfl) ge_int ⟨by decide, by decide⟩) (ge_var 7 rfl)) (ge_max T.blt ge_int (ge_sub (ge_len T.blt (gv_ge (ge_var 2 rfl)) .lst) ge_int)) (by rw [hml]; exact hmx))) (ge_len T.blt (gv_ge (ge_var 2 rfl)) .lst) (by rw [hml]; omega)) ?_)
    rw [hml]
    have ho0 : 0 ≤ ((k : Int) + 1 + (fi / 6 + (0 + (i : Int))) % max 1 ((mss.length : Int) - 1)) % (mss.length : Int) := Int.emod_nonneg _ (by omega)
    have ho1 : ((k : Int) + 1 + (fi / 6 + (0 + (i : Int))) % max 1 ((mss.length : Int) - 1)) % (mss.length : Int) < (mss.length : Int) := Int.emod_lt_of_pos _ (by omega)
    generalize ((k : Int) + 1 + (fi / 6 + (0 + (i : Int))) % max 1 ((mss.length : Int) - 1)) % (mss.length : Int) = ov at *
    refine gss_cut (fun ρ' G'' => G'' = G' ∧ ∃ ov : Nat, ρ' = [.dat (.lst (ns.map .int)), .dat (.lst (nm.map .str)), .dat (.lst (mss.map fun ms => .lst (ms.map .int))), .dat (.int (k : Int)), .dat (.int (a : Int)), .own l, .dat (.int fi), .dat (.int (0 + (i : Int))), .dat (.int nu), .dat (.int (ov : Int)), lo, hi', .unk] ∧ ov ≤ mss.length) (gs_if (gt_cmp (gc_eqI (ge_mod (ge_var 8 rfl) ge_int (by decide)) ge_int)) (fun hc => ?_) (fun hc => ?_)) (fun ρ' G'' ⟨eG, ov, eρ, hov⟩ => ?_)
    · exact gss_one (gs_set 9 nd (ge_len T.blt (gv_ge (ge_var 2 rfl)) .lst) ⟨rfl, mss.length, by rw [hml]; rfl, Nat.le_refl _⟩)
    · refine gss_nil ⟨rfl, ov.toNat, ?_, by omega⟩
      rw [Int.toNat_of_nonneg ho0]; rfl
    subst eG eρ
    have hov' : ov < nm.length := by omega
    have hy : nm[ov]? = some nm[ov] := List.getElem?_eq_getElem hov'
    have hym : nm[ov] ∈ nm := List.getElem_mem hov'
    generalize nm[ov] = y at hy hym
    have hiy : IxD (.lst (nm.map .str)) (.int (ov : Int)) (.str y) := .lst (atI_nat (by rw [List.getElem?_map, hy]; rfl))
    have hmm : (mss ++ [[5]])[ov]? = some ((mss ++ [[5]])[ov]'(by simp; omega)) := List.getElem?_eq_getElem _
    have hmg : (mss ++ [[5]])[ov]'(by simp; omega) ∈ mss ++ [[5]] := List.getElem_mem _
    generalize (mss ++ [[5]])[ov]'(by simp; omega) = ms at hmm hmg
    have hmk : Makes ms := by
      rcases List.mem_append.mp hmg with z | z
      · exact hms ms z
      · rw [List.mem_singleton] at z; subst z
        exact ⟨by decide, by decide, by decide, fun m hm => by simp at hm; omega⟩
    refine gss_one (gs_if (gt_w (gtw_and (gt_cmp (gc_neI (ge_var 9 rfl) (ge_var 3 rfl))) fun _ => (gtw_and1 (gt_cmp (gc_notIn (ge_ix (gv_ge (ge_var 1 rfl)) (ge_var 9 rfl) hiy) (gv_ge (ge_n (gn_is (gn_lc (ys := l) (enc := fun d => d) (f := fun d => .str d.nm) [("_law_need", 12)] nd (gic_id (gic_own 5 rfl)) (blkOk_by (N := N__law_needs) (sc := defScope s__law_needs) (by decide +kernel)) (fun y hy => gg_name 12 nd) (by decide) (fun d hd => ?_) (by omega) ?_) (show GO.lst (l.map fun d => .str d.nm) = GO.lst ((l.map D.nm).map .str) by rw [List.map_map]; rfl)))) .lstS))))) (fun hc => ?_) (fun hc => ?_))
    · obtain ⟨z, a, b, rfl, _⟩ := hN d hd
      exact ge_ix (gv_ge (ge_var 12 rfl)) ge_int (.tup rfl)
    · rintro j hj ⟨x, e1, e2⟩
      have : j = 12 := by simpa using hj
      subst this
      cases e1; cases e2
    · have hc : ov ≠ k ∧ y ∉ l.map D.nm := by
        simp at hc
        exact ⟨by omega, by simpa using hc.2⟩
      have hyx : y ≠ x := by
        rintro rfl
        exact hc.1 ((List.getElem?_inj hov' hnd).mp (hy.trans hx.symm))
      have hcat : (mss.map fun ms => D.lst (ms.map .int)) ++ [D.lst [.int 5]] = (mss ++ [[5]]).map fun (ms : List Int) => D.lst (ms.map .int) := by rw [List.map_append]; rfl
      refine gss_cons (gs_asgW (gw_call (has__law_stretch T) (gr_cons (ge_fdiv (ge_var 8 rfl) ge_int ⟨by decide, by decide⟩) (gr_cons (ge_ix (d := .lst (ms.map .int)) (gv_ge (ge_is (ge_addD (gv_ge (ge_var 2 rfl)) (gv_ge (ge_n (gn_lst (gr_cons (ge_n (gn_lst (gr_cons ge_int gr_nil))) gr_nil)))) (.lst (by simp; omega))) (congrArg D.lst hcat))) (ge_var 9 rfl) (.lst (atI_nat (by rw [List.getElem?_map, hmm]; rfl)))) gr_nil)) ⟨_, ms, rfl, by omega, hmk.1, hmk.2.2.2, fun l1 h1 z1 z2 z3 => ⟨_, _, gg_tup (ggs_cons (gg_name 10 nd) (ggs_cons (gg_name 11 nd) ggs_nil)), ?_⟩⟩))
      refine gss_one (gs_app 5 rfl (d := .tup [.str y, .int l1, .int h1]) (ge_tup (gr_cons (ge_ix (gv_ge (ge_var 1 rfl)) (ge_var 9 rfl) hiy) (gr_cons (ge_var 10 rfl) (gr_cons (ge_var 11 rfl) gr_nil)))) (by omega) ⟨rfl, _, _, _, _, _, _, rfl, ?_, ?_, ?_⟩)
      · simp; omega
      · intro d hd
        rcases List.mem_append.mp hd with z | z
        · exact hN d z
        · rw [List.mem_singleton] at z
          exact ⟨y, _, _, z, hw y hym, z1, z2, z3⟩
      · rw [List.map_append]
        have e : x :: (l.map D.nm ++ [D.tup [.str y, .int l1, .int h1]].map D.nm) = (x :: l.map D.nm) ++ [y] := rfl
        rw [e, List.nodup_append]
        refine ⟨hxl, by simp, ?_⟩
        intro a ha b hb
        rw [List.mem_singleton] at hb
        subst hb
        rcases List.mem_cons.mp ha with rfl | z
        · exact Ne.symm hyx
        · rintro rfl; exact hc.2 z
    · exact gss_nil ⟨rfl, l, _, _, _, _, _, rfl, by omega, hN, hxl⟩
  · obtain ⟨rfl, l, t, n, o, lo, hi', rfl, hll, hN, hxl⟩ := hI
    rw [rngD_length] at hll
    exact gss_one (gs_ret (gf_own 5 rfl (q l ⟨by omega, hN, hxl⟩)))
end
end Gh
end

section
set_option Elab.async false
set_option linter.all false
set_option maxRecDepth 100000
set_option maxHeartbeats 4000000
namespace Gh
open PySem PySem.Spec PyProof.Rows L2
/-! a shop that is being filled -/
theorem take_snoc' {α : Type} {xs : List α} {i : Nat} {d : α} (h : xs[i]? = some d) : xs.take (i + 1) = xs.take i ++ [d] := by rw [List.take_add_one, h]; rfl
theorem look_fst {α β : Type} [DecidableEq α] {l : List (α × β)} {k : α} (h : k ∉ l.map (·.1)) : look l k = none := by
  cases e : look l k with
  | none => rfl
  | some v => exact absurd (List.mem_map.mpr ⟨_, look_mem e, rfl⟩) h
theorem lput_last {α β : Type} [DecidableEq α] {l : List (α × β)} {k : α} {v v' : β} (h : k ∉ l.map (·.1)) : lput (l ++ [(k, v)]) k v' = l ++ [(k, v')] := by
  unfold lput
  rw [if_pos (by simp), List.map_append]
  congr 1
  · rw [List.map_congr_left (g := id) fun p hp => ?_, List.map_id]
    have : p.1 ≠ k := fun e => h (List.mem_map.mpr ⟨p, hp, e⟩)
    rw [if_neg this]; rfl
  · simp
theorem valD_nd' {kds : List (Key × D)} {k : Key} {d : D} (hn : (kds.map (·.1)).Nodup) {i : Nat} (h : kds[i]? = some (k, d)) : valD kds k = some d := by
  induction kds generalizing i with
  | nil => simp at h
  | cons kv kds ih =>
    rw [List.map_cons, List.nodup_cons] at hn
    unfold valD
    rw [List.find?_cons]
    cases i with
    | zero => simp at h; subst h; simp
    | succ i =>
      simp at h
      have ne : ¬ kv.1 = k := by
        rintro rfl
        exact hn.1 (List.mem_map.mpr ⟨_, List.mem_of_getElem? h, rfl⟩)
      simp only [ne, decide_false]
      exact ih hn.2 h
/-- the first i wares, and j makes of the next -/
def part (rows : Rows) (i j : Nat) : Rows := rows.take i ++ (match rows[i]? with
  | some p => if j = 0 then [] else [(p.1, p.2.take j)]
  | none => [])
theorem part_zero {rows : Rows} {i : Nat} : part rows i 0 = rows.take i := by
  unfold part
  cases rows[i]? <;> simp
theorem part_full {rows : Rows} {i : Nat} {p : Str × Row} (h : rows[i]? = some p) (hne : p.2 ≠ []) : part rows i p.2.length = rows.take (i + 1) := by
  unfold part
  rw [h, take_snoc' h]
  show rows.take i ++ (if p.2.length = 0 then [] else [(p.1, p.2.take p.2.length)]) = _
  rw [if_neg (fun e => hne (List.length_eq_zero_iff.mp e)), List.take_length]
theorem part_row {rows : Rows} {i j : Nat} {p : Str × Row} (h : rows[i]? = some p) (hn : (rows.map (·.1)).Nodup) : rowOf (part rows i j) p.1 = p.2.take j ∧ p.1 ∉ (rows.take i).map (·.1) ∧ ((look (part rows i j) p.1).isSome = true ↔ j ≠ 0) := by
  have hx : p.1 ∉ (rows.take i).map (·.1) := by
    have h2 : ((rows.take (i + 1)).map (·.1)).Nodup := hn.sublist (List.Sublist.map _ (List.take_sublist _ _))
    rw [take_snoc' h, List.map_append, List.nodup_append] at h2
    intro z
    exact h2.2.2 p.1 z p.1 (by simp) rfl
  have hl := look_fst hx
  refine ⟨?_, hx, ?_⟩
  · unfold rowOf part
    rw [h]
    show ((look (rows.take i ++ (if j = 0 then [] else [(p.1, p.2.take j)])) p.1).getD []) = _
    by_cases e : j = 0
    · subst e; rw [if_pos rfl, List.append_nil, hl]; rfl
    · rw [if_neg e, look_append, hl, look_cons]; simp
  · unfold part
    rw [h]
    show ((look (rows.take i ++ (if j = 0 then [] else [(p.1, p.2.take j)])) p.1).isSome = true) ↔ _
    by_cases e : j = 0
    · subst e; rw [if_pos rfl, List.append_nil, hl]; simp
    · rw [if_neg e, look_append, hl, look_cons]; simp [e]
theorem part_put {rows : Rows} {i j : Nat} {p : Str × Row} {m : Int} {l : List D} (h : rows[i]? = some p) (hn : (rows.map (·.1)).Nodup) (hr : (p.2.map (·.1)).Nodup) (hj : p.2[j]? = some (m, l)) : putR (part rows i j) p.1 m l = part rows i (j + 1) ∧ look (rowOf (part rows i j) p.1) m = none := by
  obtain ⟨h1, h2, _⟩ := part_row (j := j) h hn
  have hm : m ∉ (p.2.take j).map (·.1) := by
    have h3 : ((p.2.take (j + 1)).map (·.1)).Nodup := hr.sublist (List.Sublist.map _ (List.take_sublist _ _))
    rw [take_snoc' hj, List.map_append, List.nodup_append] at h3
    intro z
    exact h3.2.2 m z m (by simp) rfl
  have hlk := look_fst hm
  refine ⟨?_, by rw [h1]; exact hlk⟩
  unfold putR
  rw [h1, lput_new hlk, ← take_snoc' hj]
  unfold part
  rw [h]
  show lput (rows.take i ++ (if j = 0 then [] else [(p.1, p.2.take j)])) p.1 (p.2.take (j + 1)) = rows.take i ++ (if j + 1 = 0 then [] else [(p.1, p.2.take (j + 1))])
  rw [if_neg (show ¬ (j + 1 = 0) by omega)]
  by_cases e : j = 0
  · subst e
    rw [if_pos rfl, List.append_nil, lput_new (look_fst h2)]
  · rw [if_neg e, lput_last h2]
end Gh
end

section
set_option Elab.async false
set_option linter.all false
set_option maxRecDepth 100000
set_option maxHeartbeats 4000000
namespace Gh
open PySem PySem.Spec PyProof.Rows L2
/-! no name of a law's own is "nothing" -/
theorem cs_nothing : cs ("nothing" : Str) = [110, 111, 116, 104, 105, 110, 103] := by decide +kernel
theorem frame_at {n : Int} {j : Nat} (h : j < (frameL n).length) : (frameL n)[j]? = some (97 + ((n / 7 + 5 * (j : Int)) % 26).toNat) := by
  have hj : j < (n / 2 % 8).toNat := by simpa [frameL] using h
  unfold frameL
  rw [List.getElem?_map, List.getElem?_range hj]; rfl
theorem frame_two {n : Int} {j a b : Nat} (h1 : (frameL n)[j]? = some a) (h2 : (frameL n)[j + 1]? = some b) (ha : 97 ≤ a) (hb : 97 ≤ b) : ((b : Int) - a) % 26 = 5 := by
  rw [frame_at (List.getElem?_eq_some_iff.mp h1).1] at h1
  rw [frame_at (List.getElem?_eq_some_iff.mp h2).1] at h2
  simp only [Option.some.injEq] at h1 h2
  push_cast at h2
  omega
theorem nameA_noth {n : Int} {k : Nat} : nameA n k ≠ [110, 111, 116, 104, 105, 110, 103] := by
  intro h
  unfold nameA at h
  generalize (n / 56 % ((frameL n).length + 1)).toNat = a at h
  generalize sgn (n / 504 + (if n % 2 = 0 then 3 else 23) * (k : Nat)) = c at h
  have hl : (frameL n).length = 6 := by
    have := congrArg List.length h
    simp only [List.length_append, List.length_take, List.length_drop, List.length_cons, List.length_nil] at this
    omega
  obtain ⟨x0, x1, x2, x3, x4, x5, e⟩ : ∃ x0 x1 x2 x3 x4 x5, frameL n = [x0, x1, x2, x3, x4, x5] := by
    match frameL n, hl with
    | [x0, x1, x2, x3, x4, x5], _ => exact ⟨x0, x1, x2, x3, x4, x5, rfl⟩
  have two := fun (j a b : Nat) => @frame_two n j a b
  rw [e] at h two
  match a, h with
  | 0, h =>
    simp at h
    obtain ⟨_, rfl, rfl, rfl, _⟩ := h
    have := two 1 116 104 rfl rfl (by decide) (by decide)
    omega
  | 1, h =>
    simp at h
    obtain ⟨rfl, _, rfl, _⟩ := h
    have := two 0 110 116 rfl rfl (by decide) (by decide)
    omega
  | (a + 2), h =>
    simp at h
    obtain ⟨rfl, rfl, _⟩ := h
    have := two 0 110 111 rfl rfl (by decide) (by decide)
    omega
theorem letL_noth : ∀ d : _root_.Fin 26, ∀ l : _root_.Fin 2, ((([110] : List Nat).take l.val ++ letL.drop d.val ++ letL).take 4 == [110, 111, 116, 104]) = false := by decide +kernel
theorem nameB_noth {n : Int} {k : Nat} : nameB n k ≠ [110, 111, 116, 104, 105, 110, 103] := by
  intro h
  unfold nameB at h
  have hd : (n / 504 % 26).toNat < 26 := by omega
  generalize (n / 504 % 26).toNat = d at h hd
  have two := fun (j a b : Nat) => @frame_two n j a b
  have t4 : (frameL n ++ letL.drop d ++ letL).take 4 = [110, 111, 116, 104] := by
    have h4 := congrArg (List.take 4) h
    have hk : 7 ≤ 1 + k := by have := congrArg List.length h; simp at this; omega
    rw [List.take_take, show min 4 (1 + k) = 4 by omega] at h4
    exact h4
  generalize frameL n = f at *
  match f, t4, two with
  | [], t4, _ => have := letL_noth ⟨d, hd⟩ 0; rw [show ([110] : List Nat).take ((0 : _root_.Fin 2)).val = [] from rfl, t4] at this; revert this; decide
  | [x], t4, _ =>
    have hx : x = 110 := by simp at t4; exact t4.1
    subst hx
    have := letL_noth ⟨d, hd⟩ 1
    rw [show ([110] : List Nat).take ((1 : _root_.Fin 2)).val = [110] from rfl, t4] at this; revert this; decide
  | x :: y :: r, t4, two =>
    simp at t4
    obtain ⟨rfl, rfl, _⟩ := t4
    have := two 0 110 111 rfl rfl (by decide) (by decide)
    omega
theorem namesP_noth {ns : List Int} {many : Nat} : ("nothing" : Str) ∉ namesP ns many := by
  intro h
  have h2 : ("nothing" : Str) ∈ (List.range many).map fun k => mkS (if mixedI ns 1 / 16 % 3 = 1 ∧ many < 9 then nameB (mixedI ns 1) k else nameA (mixedI ns 1) k) := by
    unfold namesP at h
    simp only at h
    split at h
    · exact h
    · exact List.mem_reverse.mp h
  obtain ⟨k, _, e⟩ := List.mem_map.mp h2
  have e := congrArg cs e
  rw [cs_mk, cs_nothing] at e
  split at e
  · exact nameB_noth e
  · exact nameA_noth e
end Gh
end

section
set_option Elab.async false
set_option linter.all false
set_option maxRecDepth 100000
set_option maxHeartbeats 4000000
namespace Gh
open PySem PySem.Spec PyProof.Rows L2
/-- the law's own rows: o the table, rs the places of the rows -/
structure LRows (G : Gs) (nm : List Str) (o : Addr) (rs : List Addr) (rows : Rows) : Prop where
  keys : rows.map (·.1) = nm
  nmn : nm.Nodup
  ware : ∀ x ∈ nm, wareS x = true
  pos : 0 < nm.length
  small : Small rows
  ne : ∀ p ∈ rows, p.2 ≠ []
  rnd : ∀ p ∈ rows, (p.2.map (·.1)).Nodup
  good : ∀ p ∈ rows, ∀ q ∈ p.2, 1 ≤ q.1 ∧ q.1 ≤ 999 ∧ Needs p.1 q.2
  out : G o = some (.dic (tabK nm rs))
  len : rs.length = nm.length
  at_ : ∀ (i : Nat) x r, nm[i]? = some x → rs[i]? = some r → G r = some (.dic (rowK (rowOf rows x)))
  nd : (o :: rs).Nodup
  noth : ("nothing" : Str) ∉ nm
theorem LRows.up {G G' : Gs} {nm : List Str} {o : Addr} {rs : List Addr} {rows : Rows} (L : LRows G nm o rs rows) (e : GEx G G') : LRows G' nm o rs rows := ⟨L.keys, L.nmn, L.ware, L.pos, L.small, L.ne, L.rnd, L.good, e _ _ L.out, L.len, fun i x r h1 h2 => e _ _ (L.at_ i x r h1 h2), L.nd, L.noth⟩
def sp_lrows : GSp := fun ds G PP _ => ∃ (ns : List Int) (most mm : Nat), ds = [.lst (ns.map .int), .int (most : Int), .int (mm : Int)] ∧ 1 ≤ most ∧ most ≤ 12 ∧ 1 ≤ mm ∧ mm ≤ 8 ∧ ∀ G' nm o rs rows, LRows G' nm o rs rows → nm.length ≤ most → (∀ a ∈ o :: rs, G a = none) → GEx G G' → PP (.ref o) G'
/-- with how many makes a ware has at most -/
def sp_lrowsM : GSp := fun ds G PP _ => ∃ (ns : List Int) (most mm : Nat), ds = [.lst (ns.map .int), .int (most : Int), .int (mm : Int)] ∧ 1 ≤ most ∧ most ≤ 12 ∧ 1 ≤ mm ∧ mm ≤ 8 ∧ ∀ G' nm o rs rows, LRows G' nm o rs rows → (∀ p ∈ rows, p.2.length ≤ mm) → nm.length ≤ most → (∀ a ∈ o :: rs, G a = none) → GEx G G' → PP (.ref o) G'
theorem rowOf_zip {nm : List Str} {rl : List Row} (hn : nm.Nodup) {i : Nat} {x : Str} {r : Row} (h1 : nm[i]? = some x) (h2 : rl[i]? = some r) : rowOf (nm.zip rl) x = r := by
  unfold rowOf
  have : look (nm.zip rl) x = some r := by
    induction nm generalizing rl i with
    | nil => simp at h1
    | cons y ys ih =>
      cases rl with
      | nil => simp at h2
      | cons r0 rl =>
        rw [List.zip_cons_cons, look_cons]
        cases i with
        | zero => simp at h1 h2; subst h1 h2; simp
        | succ i =>
          simp at h1 h2
          have ne : ¬ y = x := by
            rintro rfl
            exact (List.nodup_cons.mp hn).1 (List.mem_of_getElem? h1)
          simp only [ne, if_false]
          exact ih (List.nodup_cons.mp hn).2 h1 h2
  rw [this]; rfl
theorem tabK_put {nm : List Str} {rs : List Addr} {x : Str} {l : Addr} (h : rs.length = nm.length) (hx : x ∉ nm) : putD (tabK nm rs) (.inr x) (.ref l) = tabK (nm ++ [x]) (rs ++ [l]) := by
  rw [tabK_snoc h]
  unfold putD
  rw [if_neg]
  intro z
  rw [List.any_eq_true] at z
  obtain ⟨kv, hkv, e⟩ := z
  have h1 : kv.1 ∈ (tabK nm rs).map (·.1) := List.mem_map.mpr ⟨kv, hkv, rfl⟩
  rw [tabK_fst h, show kv.1 = .inr x by simpa using e] at h1
  obtain ⟨y, hy, e⟩ := List.mem_map.mp h1
  exact hx (Sum.inr.inj e ▸ hy)
theorem rowK_snoc {r : Row} {m : Int} {l : List D} (h : m ∉ r.map (·.1)) : putD (rowK r) (.inl m) (.lst l) = rowK (r ++ [(m, l)]) := by
  rw [rowK_put, lput_new]
  cases e : look r m with
  | none => rfl
  | some v => exact absurd (List.mem_map.mpr ⟨_, look_mem e, rfl⟩) h
section
variable {P : Program} {w : World} {K : PySem.W.Frag} {mg : Str → Option Value} {base : Heap} {A : Ads}
theorem has__law_rowsM (T : Tx K mg A) : HasF P w K mg base 3 "_law_rows" ["_law_script", "_law_most", "_law_many_makes"] sp_lrowsM := by
  refine has_body T.d__law_rows sc__law_rows (fun ds G P PX h => ?_) (fun f cdv _ outer s H E hr F0 R0 ds G PP PX h => ?_)
  · obtain ⟨_, _, _, rfl, _⟩ := h; rfl
  have nd := nd__law_rows
  obtain ⟨ns, most, mm, rfl, hm1, hm2, hk1, hk2, q⟩ := h
  have n0 := mixedI_nn (ns := ns) (k := 0)
  obtain ⟨mz, emz, hmz⟩ := mod_int (a := mixedI ns 0) (m := most) (by omega)
  refine gss_cons (gs_set 3 nd (d := .int ((mz + 1 : Nat) : Int)) (ge_is (ge_add ge_int (ge_mod (ge_gw (gw_call (has__law_mixed T) (gr_cons (ge_var 0 rfl) (gr_cons ge_int gr_nil)) ⟨ns, 0, rfl, by decide, by decide, rfl, rfl⟩)) (ge_var 1 rfl) (by omega))) (congrArg D.int (by rw [emz]; omega))) ?_)
  generalize emany : mz + 1 = many
  have hmany : 1 ≤ many ∧ many ≤ 12 ∧ many ≤ most := by omega
  refine gss_cons (gs_set 4 nd (d := .lst ((namesP ns (many + 1)).map .str)) (ge_gw (gw_call (has__law_names T) (gr_cons (ge_var 0 rfl) (gr_cons (ge_is (ge_add (ge_var 3 rfl) ge_int) (show D.int ((many : Int) + 1) = D.int ((many + 1 : Nat) : Int) by push_cast; rfl)) gr_nil)) ⟨ns, many + 1, rfl, by omega, rfl, rfl⟩)) ?_)
  have hlF := namesP_len (ns := ns) (many := many + 1)
  have hwF : ∀ x ∈ namesP ns (many + 1), wareS x = true := fun x hx => namesP_ware hx
  have hnF := namesP_nodup (ns := ns) (many := many + 1) (by omega)
  have hno := namesP_noth (ns := ns) (many := many + 1)
  generalize namesP ns (many + 1) = nmF at *
  refine gss_cons (gs_own 5 nd (gn_lst gr_nil) ?_)
  refine gss_cons (gs_for (fun _ => PassesOwn.never) (gi_range1 T.blt (ge_var 3 rfl) (by omega)) (fun i ρ' G' => G' = G ∧ ∃ (mss : List (List Int)) (k n f : SV), ρ' = [.dat (.lst (ns.map .int)), .dat (.int (most : Int)), .dat (.int (mm : Int)), .dat (.int (many : Int)), .dat (.lst (nmF.map .str)), .own (mss.map fun ms => .lst (ms.map .int)), k, n, f, .unk, .unk] ∧ mss.length = i ∧ ∀ ms ∈ mss, Makes ms ∧ ms.length ≤ mm) ⟨rfl, [], _, _, _, rfl, rfl, fun _ z => (by cases z)⟩ (fun _ _ _ _ => trivial) (fun i d ρ' G' hi hI => ?_) (fun ρ' G' hI => ?_))
  · obtain ⟨rfl, mss, k, n, f, rfl, hl, hM⟩ := hI
    obtain ⟨rfl, hlt⟩ := rngD_get hi
    have hi12 : i < 12 := by omega
    refine ⟨_, _, gg_name 6 nd, ?_⟩
    have n0 := mixedI_nn (ns := ns) (k := 10 + (0 + (i : Int)))
    refine gss_cons (gs_set 7 nd (ge_gw (gw_call (has__law_mixed T) (gr_cons (ge_var 0 rfl) (gr_cons (ge_add ge_int (ge_var 6 rfl)) gr_nil)) ⟨ns, _, rfl, by omega, by omega, rfl, rfl⟩)) ?_)
    generalize mixedI ns (10 + (0 + (i : Int))) = nu at *
    obtain ⟨fv, ef, hf⟩ := at_in (xs := ([1, 999 - 3 * (mm : Int), 1 + nu / 12 % 900, 1 + nu / 12 % 20] : List Int)) (i := nu % 4) (by omega) (by simp; omega)
    have hf : 1 ≤ fv ∧ fv + 3 * ((mm : Int) - 1) ≤ 999 := by
      simp only [List.mem_cons, List.not_mem_nil, or_false] at hf
      rcases hf with rfl | rfl | rfl | rfl <;> omega
    refine gss_cons (gs_set 8 nd (d := .int fv) (ge_ix (gv_ge (ge_n (gn_lst (gr_cons ge_int (gr_cons (ge_sub ge_int (ge_mul ge_int (ge_var 2 rfl) (.inl ⟨by decide, by decide⟩))) (gr_cons (ge_add ge_int (ge_mod (ge_fdiv (ge_var 7 rfl) ge_int ⟨by decide, by decide⟩) ge_int (by decide))) (gr_cons (ge_add ge_int (ge_mod (ge_fdiv (ge_var 7 rfl) ge_int ⟨by decide, by decide⟩) ge_int (by decide))) gr_nil))))))) (ge_mod (ge_var 7 rfl) ge_int (by decide)) (.lst (by have := atI_map (f := D.int) (xs := ([1, 999 - 3 * (mm : Int), 1 + nu / 12 % 900, 1 + nu / 12 % 20] : List Int)) (i := nu % 4); rw [ef] at this; exact this))) ?_)
    obtain ⟨cn, ecn, hcn⟩ := mod_int (a := nu / 72) (m := mm) (by omega)
    have hst : 1 ≤ 1 + nu / 24 % 3 ∧ 1 + nu / 24 % 3 ≤ 3 := by omega
    generalize est : 1 + nu / 24 % 3 = st at hst
    refine gss_one (gs_appI 5 rfl (d := .lst (((List.range (cn + 1)).map fun (j : Nat) => fv + (j : Int) * st).map .int)) (ds' := (mss ++ [(List.range (cn + 1)).map fun (j : Nat) => fv + (j : Int) * st]).map fun ms => .lst (ms.map .int)) (ge_is (ge_n (gn_lc (ys := List.range (1 + nu / 72 % (mm : Int)).toNat) (enc := fun (j : Nat) => .int (0 + (j : Nat))) (f := fun (j : Nat) => .int (fv + (0 + (j : Int)) * (1 + nu / 24 % 3))) [("_law_j", 10)] nd (gic (gi_range1 T.blt (ge_add ge_int (ge_mod (ge_fdiv (ge_var 7 rfl) ge_int ⟨by decide, by decide⟩) (ge_var 2 rfl) (by omega))) (by omega)) trivial) (blkOk_by (N := N__law_rows) (sc := defScope s__law_rows) (by decide +kernel)) (fun y hy => gg_name 10 nd) (by decide) (fun y hy => (ge_add (ge_var 8 rfl) (ge_mul (ge_var 10 rfl) (ge_add ge_int (ge_mod (ge_fdiv (ge_var 7 rfl) ge_int ⟨by decide, by decide⟩) ge_int (by decide))) (.inr ⟨by omega, by omega⟩)))) (by rw [List.length_range]; omega) ?_)) ?_) (by rw [List.length_map]; omega) (by rw [List.map_append]; rfl) ⟨rfl, _, _, _, _, rfl, by simp [hl], fun ms hms => ?_⟩)
    · rintro j hj ⟨x, e1, e2⟩
      have : j = 10 := by simpa using hj
      subst this
      cases e1; cases e2
    · rw [est, ecn, show (1 + (cn : Int)).toNat = cn + 1 by omega, List.map_map]
      refine congrArg D.lst (List.map_congr_left fun j _ => ?_)
      show D.int _ = D.int _
      rw [Int.zero_add]
    · rcases List.mem_append.mp hms with z | z
      · exact hM ms z
      · rw [List.mem_singleton] at z
        subst z
        refine ⟨⟨by simp, by simp; omega, nodup_map_range fun i j hi hj e => ?_, fun m hm => ?_⟩, by simp; omega⟩
        · have e : (i : Int) * st = (j : Int) * st := by omega
          have := Int.eq_of_mul_eq_mul_right (by omega) e
          omega
        · obtain ⟨j, hj, rfl⟩ := List.mem_map.mp hm
          have hj := List.mem_range.mp hj
          have h1 : (j : Int) * st ≤ ((mm : Int) - 1) * 3 := Int.mul_le_mul (by omega) (by omega) (by omega) (by omega)
          have h0 : 0 ≤ (j : Int) * st := Int.mul_nonneg (by omega) (by omega)
          omega
  · obtain ⟨rfl, mss, k, n, f, rfl, hl, hM⟩ := hI
    rw [rngD_length] at hl
    have hl : mss.length = many := by omega
    refine gss_frz 5 rfl ?_
    refine gss_cons (gs_ownd 9 nd gn_dnew ?_)
    refine gss_cons (gs_for (fun _ => PassesOwn.never) (gi_range1 T.blt (ge_var 3 rfl) (by omega)) (fun i ρ' G2 => ∃ (rs : List Addr) (rl : List Row) (k j : SV), ρ' = [.dat (.lst (ns.map .int)), .dat (.int (most : Int)), .dat (.int (mm : Int)), .dat (.int (many : Int)), .dat (.lst (nmF.map .str)), .dat (.lst (mss.map fun ms => .lst (ms.map .int))), k, n, f, .ownd (tabK (nmF.take i) rs), j] ∧ rs.length = i ∧ rl.length = i ∧ GEx G' G2 ∧ (∀ (j : Nat) r (row : Row), rs[j]? = some r → rl[j]? = some row → G2 r = some (.dic (rowK row))) ∧ (∀ r ∈ rs, G' r = none) ∧ rs.Nodup ∧ ∀ (j : Nat) (row : Row) x, rl[j]? = some row → nmF[j]? = some x → mss[j]? = some (row.map (·.1)) ∧ ∀ q ∈ row, Needs x q.2) ⟨[], [], _, _, rfl, rfl, rfl, GEx.refl _, fun _ _ _ z => (by simp at z), fun _ z => (by cases z), .nil, fun _ _ _ z => (by simp at z)⟩ (fun _ _ _ _ => trivial) (fun i d ρ' G2 hi hI => ?_) (fun ρ' G2 hI => ?_))
    · obtain ⟨rs, rl, k, j, rfl, h1, h2, gx, hat, hfr, hrn, hgd⟩ := hI
      obtain ⟨rfl, hlt⟩ := rngD_get hi
      have hlt : i < many := by omega
      have hx : nmF[i]? = some (nmF[i]'(by omega)) := List.getElem?_eq_getElem _
      have hxm : nmF[i]'(by omega) ∈ nmF := List.getElem_mem _
      generalize nmF[i]'(by omega) = x at hx hxm
      have hms : mss[i]? = some (mss[i]'(by omega)) := List.getElem?_eq_getElem _
      have hmm : mss[i]'(by omega) ∈ mss := List.getElem_mem _
      generalize mss[i]'(by omega) = ms at hms hmm
      have hMk := (hM ms hmm).1
      have ix : IxD (.lst (nmF.map .str)) (.int (0 + (i : Int))) (.str x) := by rw [Int.zero_add]; exact .lst (atI_nat (by rw [List.getElem?_map, hx]; rfl))
      have im : IxD (.lst (mss.map fun ms => .lst (ms.map .int))) (.int (0 + (i : Int))) (.lst (ms.map .int)) := by rw [Int.zero_add]; exact .lst (atI_nat (by rw [List.getElem?_map, hms]; rfl))
      have hlt2 : (nmF.take i).length = i := by rw [List.length_take]; omega
      have htk : nmF.take (i + 1) = nmF.take i ++ [x] := take_snoc' hx
      have hxt : x ∉ nmF.take i := by
        have hn2 : (nmF.take (i + 1)).Nodup := hnF.sublist (List.take_sublist _ _)
        rw [htk, List.nodup_append] at hn2
        intro z
        exact hn2.2.2 x z x (by simp) rfl
      have tl : (tabK (nmF.take i) rs).length < 100000 := by
        unfold tabK
        rw [List.length_map, List.length_zip, hlt2, h1]; omega
      refine ⟨_, _, gg_name 6 nd, ?_⟩
      refine gss_cons (gs_dput (kS x) (gw_mono (gw_n gn_dnew) fun d G3 ⟨l, ed, hlG, eG⟩ => ?_))
      subst ed eG
      refine ⟨.slot 9, tabK (nmF.take i) rs, gp_ownd 9 rfl, ge_ix (gv_ge (ge_var 4 rfl)) (ge_var 6 rfl) ix, rfl, tl, ?_⟩
      have ep : putD (tabK (nmF.take i) rs) (kS x) (.ref l) = tabK (nmF.take (i + 1)) (rs ++ [l]) := by rw [htk]; exact tabK_put (by omega) hxt
      rw [ep]
      have hlr : l ∉ rs := fun z => by
        obtain ⟨jj, hj, e⟩ := List.getElem_of_mem z
        have e1 : rs[jj]? = some l := by rw [List.getElem?_eq_getElem hj, e]
        have e2 : rl[jj]? = some (rl[jj]'(by omega)) := List.getElem?_eq_getElem _
        have := hat jj l _ e1 e2
        rw [hlG] at this; cases this
      have hv : valD (tabK (nmF.take (i + 1)) (rs ++ [l])) (.inr x) = some (.ref l) := by
        refine tabK_val (i := i) (hnF.sublist (List.take_sublist _ _)) ?_ ?_
        · rw [htk, List.getElem?_append_right (by omega), hlt2]; simp
        · rw [List.getElem?_append_right (by omega), h1]; simp
      refine gss_one (gs_for (fun _ => PassesOwn.never) (gi_range1 T.blt (ge_len T.blt (gv_ge (ge_ix (gv_ge (ge_var 5 rfl)) (ge_var 6 rfl) im)) .lst) (by have := hMk.2.1; rw [List.length_map]; omega)) (fun jn ρ' G4 => ∃ (row : Row) (jv : SV), ρ' = [.dat (.lst (ns.map .int)), .dat (.int (most : Int)), .dat (.int (mm : Int)), .dat (.int (many : Int)), .dat (.lst (nmF.map .str)), .dat (.lst (mss.map fun ms => .lst (ms.map .int))), .dat (.int (0 + (i : Int))), n, f, .ownd (tabK (nmF.take (i + 1)) (rs ++ [l])), jv] ∧ row.map (·.1) = ms.take jn ∧ (∀ q ∈ row, Needs x q.2) ∧ G4 = gupd G2 l (.dic (rowK row))) ⟨[], _, rfl, rfl, fun _ z => (by cases z), rfl⟩ (fun _ _ _ _ => trivial) (fun jn d ρ' G4 hj hJ => ?_) (fun ρ' G4 hJ => ?_))
      · obtain ⟨row, jv, rfl, hrow, hnd, rfl⟩ := hJ
        obtain ⟨rfl, hjlt⟩ := rngD_get hj
        have hjlt : jn < ms.length := by rw [List.length_map] at hjlt; omega
        have hj8 : jn < 8 := by have := hMk.2.1; omega
        have hm : ms[jn]? = some ms[jn] := List.getElem?_eq_getElem hjlt
        generalize ms[jn] = m at hm
        have imj : IxD (.lst (ms.map .int)) (.int (0 + (jn : Int))) (.int m) := by rw [Int.zero_add]; exact .lst (atI_nat (by rw [List.getElem?_map, hm]; rfl))
        have hmt : m ∉ row.map (·.1) := by
          rw [hrow]
          have hn2 : (ms.take (jn + 1)).Nodup := hMk.2.2.1.sublist (List.take_sublist _ _)
          rw [take_snoc' hm, List.nodup_append] at hn2
          intro z
          exact hn2.2.2 m z m (by simp) rfl
        refine ⟨_, _, gg_name 10 nd, ?_⟩
        refine gss_one (gs_dput (kI m) (gw_call (has__law_needs T) (gr_cons (ge_var 0 rfl) (gr_cons (ge_var 4 rfl) (gr_cons (ge_var 5 rfl) (gr_cons (ge_is (ge_var 6 rfl) (show D.int (0 + (i : Int)) = D.int (i : Int) by rw [Int.zero_add])) (gr_cons (ge_is (ge_add (ge_add ge_int (ge_mul ge_int (ge_var 6 rfl) (.inl ⟨by decide, by decide⟩))) (ge_mul ge_int (ge_var 10 rfl) (.inl ⟨by decide, by decide⟩))) (show D.int (20 + 9 * (0 + (i : Int)) + 3 * (0 + (jn : Int))) = D.int ((20 + 9 * i + 3 * jn : Nat) : Int) by rw [Int.zero_add, Int.zero_add]; push_cast; rfl)) gr_nil))))) ⟨ns, nmF, mss, i, 20 + 9 * i + 3 * jn, x, rfl, by omega, hnF, hwF, fun ms h => (hM ms h).1, by omega, by omega, hx, by omega, fun l' hN => ⟨.at l, rowK row, gp_at (ge_ix (gv_ownd 9 rfl) (ge_ix (gv_ge (ge_var 4 rfl)) (ge_var 6 rfl) ix) (.dicS hv)), ge_ix (gv_ge (ge_ix (gv_ge (ge_var 5 rfl)) (ge_var 6 rfl) im)) (ge_var 10 rfl) imj, gupd_same, ?_, row ++ [(m, l')], .dat (.int (0 + (jn : Int))), rfl, ?_, ?_, ?_⟩⟩))
        · rw [rowK_len]
          have := congrArg List.length hrow
          rw [List.length_map, List.length_take] at this
          omega
        · rw [take_snoc' hm, List.map_append, hrow]; rfl
        · intro q hq
          rcases List.mem_append.mp hq with z | z
          · exact hnd q z
          · rw [List.mem_singleton] at z; subst z; exact hN
        · show gupd (gupd G2 l _) l _ = _
          rw [gupd_gupd, show putD (rowK row) (kI m) (.lst l') = rowK (row ++ [(m, l')]) from rowK_snoc hmt]
      · obtain ⟨row, jv, rfl, hrow, hnd, rfl⟩ := hJ
        rw [rngD_length, List.length_map] at hrow
        rw [show ((ms.length : Int)).toNat = ms.length from Int.toNat_natCast _, List.take_length] at hrow
        refine ⟨rs ++ [l], rl ++ [row], _, _, rfl, by simp [h1], by simp [h2], gx.trans (gex_new hlG), fun jj r row' e1 e2 => ?_, fun r hr => ?_, ?_, fun jj row' y e1 e2 => ?_⟩
        · by_cases hjj : jj < i
          · rw [List.getElem?_append_left (by omega)] at e1 e2
            exact gex_new hlG _ _ (hat jj r row' e1 e2)
          · have hjl := (List.getElem?_eq_some_iff.mp e1).1
            have : jj = i := by simp at hjl; omega
            subst this
            rw [List.getElem?_append_right (by omega), h1] at e1
            rw [List.getElem?_append_right (by omega), h2] at e2
            simp at e1 e2
            subst e1 e2
            exact gupd_same
        · rcases List.mem_append.mp hr with z | z
          · exact hfr r z
          · rw [List.mem_singleton] at z; subst z; exact gx.none hlG
        · rw [List.nodup_append]
          refine ⟨hrn, by simp, ?_⟩
          intro a ha b hb e
          rw [List.mem_singleton] at hb
          subst hb e
          exact hlr ha
        · by_cases hjj : jj < i
          · rw [List.getElem?_append_left (by omega)] at e1
            exact hgd jj row' y e1 e2
          · have hjl := (List.getElem?_eq_some_iff.mp e1).1
            have : jj = i := by simp at hjl; omega
            subst this
            rw [List.getElem?_append_right (by omega), h2] at e1
            simp at e1
            subst e1
            rw [hx] at e2; cases e2
            rw [hrow]
            exact ⟨hms, hnd⟩
    · obtain ⟨rs, rl, k, j, rfl, h1, h2, gx, hat, hfr, hrn, hgd⟩ := hI
      rw [rngD_length, show ((many : Int)).toNat = many from Int.toNat_natCast _] at *
      have hnm : (nmF.take many).Nodup := hnF.sublist (List.take_sublist _ _)
      have hnl : (nmF.take many).length = many := by rw [List.length_take]; omega
      have hzm : ∀ p ∈ (nmF.take many).zip rl, ∃ jj : Nat, (nmF.take many)[jj]? = some p.1 ∧ nmF[jj]? = some p.1 ∧ rl[jj]? = some p.2 := fun p hp => by
        obtain ⟨jj, hj, e⟩ := List.getElem_of_mem hp
        have e1 : ((nmF.take many).zip rl)[jj]? = some p := by rw [List.getElem?_eq_getElem hj, e]
        rw [show p = (p.1, p.2) from rfl, List.getElem?_zip_eq_some] at e1
        refine ⟨jj, e1.1, ?_, e1.2⟩
        have := e1.1
        rw [List.getElem?_take] at this
        split at this
        · exact this
        · cases this
      have hrow : ∀ p ∈ (nmF.take many).zip rl, (Makes (p.2.map (·.1)) ∧ (p.2.map (·.1)).length ≤ mm) ∧ ∀ q ∈ p.2, Needs p.1 q.2 := fun p hp => by
        obtain ⟨jj, _, e2, e3⟩ := hzm p hp
        obtain ⟨g1, g2⟩ := hgd jj p.2 p.1 e3 e2
        exact ⟨hM _ (List.mem_of_getElem? g1), g2⟩
      have gex : GEx G' (fun b => G2 b) := gx
      refine gss_one (gs_ret (gf_owndR 9 rfl fun o ho => q _ (nmF.take many) o rs ((nmF.take many).zip rl) ⟨?_, hnm, fun x hx => hwF x (List.mem_of_mem_take hx), by omega, ⟨?_, fun p hp => ?_⟩, fun p hp => ?_, fun p hp => (hrow p hp).1.1.2.2.1, fun p hp q hq => ?_, gupd_same, by omega, fun i x r e1 e2 => ?_, ?_, fun z => hno (List.mem_of_mem_take z)⟩ (fun p hp => by have := (hrow p hp).1.2; rwa [List.length_map] at this) (by omega) (fun a ha => ?_) (gx.trans (gex_new ho))))
      · exact List.map_fst_zip (by omega)
      · rw [List.length_zip]; omega
      · have := (hrow p hp).1.1.2.1
        rw [List.length_map] at this; exact this
      · intro e
        have := (hrow p hp).1.1.1
        rw [e] at this
        exact absurd this (by simp)
      · have := (hrow p hp).1.1.2.2.2 q.1 (List.mem_map.mpr ⟨q, hq, rfl⟩)
        exact ⟨this.1, this.2, (hrow p hp).2 q hq⟩
      · have hir : i < rl.length := by have := (List.getElem?_eq_some_iff.mp e2).1; omega
        have e3 : rl[i]? = some rl[i] := List.getElem?_eq_getElem hir
        rw [rowOf_zip hnm e1 e3]
        exact gex_new ho _ _ (hat i r _ e2 e3)
      · refine List.nodup_cons.mpr ⟨fun z => ?_, hrn⟩
        obtain ⟨jj, hj, e⟩ := List.getElem_of_mem z
        have e1 : rs[jj]? = some o := by rw [List.getElem?_eq_getElem hj, e]
        have e2 : rl[jj]? = some (rl[jj]'(by omega)) := List.getElem?_eq_getElem _
        have := hat jj o _ e1 e2
        rw [ho] at this; cases this
      · rcases List.mem_cons.mp ha with rfl | ha
        · exact gx.none ho
        · exact hfr a ha
theorem has__law_rows (T : Tx K mg A) : HasF P w K mg base 3 "_law_rows" ["_law_script", "_law_most", "_law_many_makes"] sp_lrows :=
  (has__law_rowsM T).imp fun ds G PP PX ⟨ns, most, mm, e, h1, h2, h3, h4, q⟩ => ⟨ns, most, mm, e, h1, h2, h3, h4, fun G' nm o rs rows L _ => q G' nm o rs rows L⟩
end
end Gh
end

section
set_option Elab.async false
set_option linter.all false
set_option maxRecDepth 100000
set_option maxHeartbeats 4000000
namespace Gh
open PySem PySem.Spec PyProof.Rows L2
def sp_lshop (A : Ads) : GSp := fun ds G PP _ => ∃ nm o rs rows, ds = [.ref o] ∧ LRows G nm o rs rows ∧ ∀ s dx rd G', Side A G' nm s dx rd o rs rows → G s = none → G rd = none → s ≠ rd → GEx G G' → PP (.ref s) G'
theorem LRows.find {G : Gs} {nm : List Str} {o : Addr} {rs : List Addr} {rows : Rows} (L : LRows G nm o rs rows) {i : Nat} {p : Str × Row} (h : rows[i]? = some p) : ∃ r, nm[i]? = some p.1 ∧ rs[i]? = some r ∧ r ∈ rs ∧ valD (tabK nm rs) (.inr p.1) = some (.ref r) ∧ G r = some (.dic (rowK p.2)) ∧ r ≠ o ∧ rowOf rows p.1 = p.2 := by
  have h1 : nm[i]? = some p.1 := by rw [← L.keys, List.getElem?_map, h]; rfl
  have hi := (List.getElem?_eq_some_iff.mp h1).1
  have h2 : rs[i]? = some (rs[i]'(by rw [L.len]; exact hi)) := List.getElem?_eq_getElem _
  have hm := List.mem_of_getElem? h2
  have hro : rowOf rows p.1 = p.2 := by
    have e : rows = (rows.map (·.1)).zip (rows.map (·.2)) := by rw [List.zip_map']; simp
    rw [e]
    exact rowOf_zip (i := i) (by rw [L.keys]; exact L.nmn) (by rw [List.getElem?_map, h]; rfl) (by rw [List.getElem?_map, h]; rfl)
  refine ⟨_, h1, h2, hm, tabK_val L.nmn h1 h2, ?_, ?_, hro⟩
  · rw [← hro]; exact L.at_ i _ _ h1 h2
  · rintro e; exact (List.nodup_cons.mp L.nd).1 (e ▸ hm)
section
variable {P : Program} {w : World} {K : PySem.W.Frag} {mg : Str → Option Value} {base : Heap} {A : Ads}
theorem has__law_shop (T : Tx K mg A) : HasF P w K mg base 6 "_law_shop" ["_law_rows_here"] (sp_lshop A) := by
  refine has_body T.d__law_shop sc__law_shop (fun ds G P PX h => ?_) (fun f cdv _ outer s0 H E hr F0 R0 ds G PP PX h => ?_)
  · obtain ⟨_, _, _, _, rfl, _⟩ := h; rfl
  have nd := nd__law_shop
  obtain ⟨nm, o, rs, rows, rfl, L, q⟩ := h
  have hkn : (rows.map (·.1)).Nodup := by rw [L.keys]; exact L.nmn
  refine gss_cons (gs_setW 1 nd (gw_mono (gw_shop T (has_Shop_init T)) fun d G1 ⟨s, dx, rd, ed, a1, a2, a3, S, gx⟩ => ?_))
  subst ed
  have hfr : ∀ {b : Addr} {g : GO}, G b = some g → b ≠ rd ∧ b ≠ s := fun {b g} e => ⟨fun z => (by subst z; rw [a2] at e; cases e), fun z => (by subst z; rw [a1] at e; cases e)⟩
  refine gss_cons (gs_forD (fun _ => PassesOwn.never) (l := o) (gx _ _ L.out) (fun ob => ge_var 0 rfl) (fun i ρ' G' => (∃ y z, ρ' = [.dat (.ref o), .dat (.ref s), y, z]) ∧ ShopAt A G' s dx rd (rows.take i) ∧ ∀ a, a ≠ rd → G' a = G1 a) ⟨⟨_, _, rfl⟩, S, fun _ _ => rfl⟩ (fun ob i d ρ' G3 hi hI h3 => ?_) (fun ρ' G3 hI h3 => ?_))
  · obtain ⟨⟨y, z, rfl⟩, S3, f3⟩ := hI
    rw [tabK_keys L.len, ← L.keys, List.map_map, List.getElem?_map] at hi
    cases ep : rows[i]? with
    | none => rw [ep] at hi; cases hi
    | some p =>
    rw [ep] at hi; cases hi
    obtain ⟨r, z1, z2, z3, z4, z5, z6, z7⟩ := L.find ep
    have hpm : p ∈ rows := List.mem_of_getElem? ep
    have hwx : wareS p.1 = true := L.ware _ (List.mem_of_getElem? z1)
    have hil : i < rows.length := (List.getElem?_eq_some_iff.mp ep).1
    have hrr : r ≠ rd ∧ r ≠ s := hfr z5
    have hoo : o ≠ rd ∧ o ≠ s := hfr L.out
    have h3r : G3 r = some (.dic (rowK p.2)) := by rw [f3 r hrr.1]; exact gx _ _ z5
    have hor : ∀ ob, ViewD (gupd G3 o (.lk ob (.dic (tabK nm rs)))) (.ref o) (.dic (tabK nm rs)) := fun ob => .inr (.inr ⟨o, _, rfl, .inr ⟨ob, gupd_same⟩, rfl⟩)
    refine ⟨_, _, gg_name 2 nd, ?_⟩
    have hl0 : (gupd G3 o (.lk ob (.dic (tabK nm rs)))) r = some (.dic (rowK p.2)) := by rw [gupd_ne z6]; exact h3r
    refine gss_one (gs_forD (fun _ => PassesOwn.never) (l := r) hl0 (fun ob' => ge_ix (gv_view (ge_var 0 rfl) (.inr (.inr ⟨o, _, rfl, .inr ⟨ob, ?_⟩, rfl⟩))) (ge_var 2 rfl) (.dicS z4)) (fun j ρ' G4 => ∃ G5, G4 = gupd G5 o (.lk ob (.dic (tabK nm rs))) ∧ G5 o = some (.dic (tabK nm rs)) ∧ (∃ z, ρ' = [.dat (.ref o), .dat (.ref s), .dat (.str p.1), z]) ∧ ShopAt A G5 s dx rd (part rows i j) ∧ ∀ a, a ≠ rd → G5 a = G1 a) ⟨G3, rfl, h3, ⟨_, rfl⟩, by rw [part_zero]; exact S3, f3⟩ (fun ob' j d ρ' G4 hj hJ h4 => ?_) (fun ρ' G4 hJ h4 => ?_))
    · rw [gupd_ne (Ne.symm z6)]; exact gupd_same
    · obtain ⟨G5, rfl, h5, ⟨z, rfl⟩, S5, f5⟩ := hJ
      rw [row_keys, List.getElem?_map] at hj
      cases ej : p.2[j]? with
      | none => rw [ej] at hj; cases hj
      | some ml =>
      rw [ej] at hj; cases hj
      obtain ⟨m, l⟩ := ml
      have hjl : j < p.2.length := (List.getElem?_eq_some_iff.mp ej).1
      obtain ⟨g1, g2, g3⟩ := L.good p hpm (m, l) (List.mem_of_getElem? ej)
      have hlk : look p.2 m = some l := by
        obtain ⟨l', y1, y2⟩ := look_key (List.mem_of_getElem? ej)
        have hv : valD (rowK p.2) (.inl m) = some (.lst l) := by
          refine valD_nd' ?_ (i := j) ?_
          · rw [rowK_keys]; exact List.Pairwise.map _ (fun a b (hab : a ≠ b) e => hab (Sum.inl.inj e)) (L.rnd p hpm)
          · unfold rowK codeL; rw [List.getElem?_map, ej]; rfl
        rw [rowK_val] at hv
        have y1 : look p.2 m = some l' := y1
        rw [y1] at hv ⊢
        cases hv; rfl
      obtain ⟨q1, q2⟩ := part_put ep hkn (L.rnd p hpm) ej
      obtain ⟨p1, p2, p3⟩ := part_row (j := j) ep hkn
      have h5r : G5 r = some (.dic (rowK p.2)) := by rw [f5 r hrr.1]; exact gx _ _ z5
      have SL : ShopAt A (gupd (gupd G5 o (.lk ob (.dic (tabK nm rs)))) r (.lk ob' (.dic (rowK p.2)))) s dx rd (part rows i j) := ⟨by rw [gupd_ne (Ne.symm hrr.2), gupd_ne (Ne.symm hoo.2)]; exact S5.ins, by rw [gupd_ne (Ne.symm hrr.1), gupd_ne (Ne.symm hoo.1)]; exact S5.dic⟩
      have smp : Small (part rows i j) := by
        unfold part
        rw [ep]
        refine ⟨?_, fun p' hp' => ?_⟩
        · have := L.small.1
          show (rows.take i ++ (if j = 0 then [] else [(p.1, p.2.take j)])).length ≤ 12
          split <;> simp <;> omega
        · have hp' : p' ∈ rows.take i ++ (if j = 0 then [] else [(p.1, p.2.take j)]) := hp'
          rcases List.mem_append.mp hp' with z | z
          · exact L.small.2 _ (List.mem_of_mem_take z)
          · split at z
            · cases z
            · rw [List.mem_singleton] at z; subst z
              have := L.small.2 p hpm
              show (p.2.take j).length ≤ 8
              rw [List.length_take]; omega
      have hpe : putErr A (part rows i j) (.str p.1) (.int m) (.lst l) = none := by
        have k1 : ¬ (D.str p.1).ware = false := by rw [show (D.str p.1).ware = wareS p.1 from rfl, hwx]; simp
        have k2 : ¬ (D.int m).make = false := by
          show ¬ (decide (1 ≤ m) && decide (m ≤ 999)) = false
          rw [decide_eq_true g1, decide_eq_true g2]; simp
        have k3 : ¬ needsOk (D.str p.1).toS (.lst l) = false := by rw [show needsOk (D.str p.1).toS (.lst l) = needsOk p.1 (.lst l) from rfl, g3.ok.1]; simp
        have k4 : ¬ (look (rowOf (part rows i j) (D.str p.1).toS) (D.int m).toI).isSome = true := by
          show ¬ (look (rowOf (part rows i j) p.1) m).isSome = true
          rw [q2]; simp
        have k5 : ¬ ((look (part rows i j) (D.str p.1).toS).isSome = false ∧ (part rows i j).length = 12) := by
          rintro ⟨y1, y2⟩
          have y1 : (look (part rows i j) p.1).isSome = false := y1
          have hj0 : j = 0 := by
            rcases Nat.eq_zero_or_pos j with e | e
            · exact e
            · have := p3.mpr (by omega); rw [y1] at this; cases this
          subst hj0
          rw [part_zero, List.length_take] at y2
          have := L.small.1; omega
        have k6 : ¬ (rowOf (part rows i j) (D.str p.1).toS).length = 8 := by
          show ¬ (rowOf (part rows i j) p.1).length = 8
          rw [p1, List.length_take]
          have := L.small.2 p hpm; omega
        unfold putErr
        rw [if_neg k1, if_neg k2, if_neg k3, if_neg k4, if_neg k5, if_neg k6]
      have hvo : ViewD (gupd (gupd G5 o (.lk ob (.dic (tabK nm rs)))) r (.lk ob' (.dic (rowK p.2)))) (.ref o) (.dic (tabK nm rs)) := .inr (.inr ⟨o, _, rfl, .inr ⟨ob, by rw [gupd_ne (Ne.symm z6)]; exact gupd_same⟩, rfl⟩)
      have hvr : ViewD (gupd (gupd G5 o (.lk ob (.dic (tabK nm rs)))) r (.lk ob' (.dic (rowK p.2)))) (.ref r) (.dic (rowK p.2)) := .inr (.inr ⟨r, _, rfl, .inr ⟨ob', gupd_same⟩, rfl⟩)
      refine ⟨_, _, gg_name 3 nd, gss_one (gs_expr (gw_meth (pl := _) T.k_Shop.cls (has_Shop_put T) (ge_var 1 rfl) SL.ins rfl (gr_cons (ge_var 2 rfl) (gr_cons (ge_var 3 rfl) (gr_cons (ge_n (gn_list T.blt (gv_ge (ge_ix (d := .lst l) (gv_view (ge_ix (gv_view (ge_var 0 rfl) hvo) (ge_var 2 rfl) (.dicS z4)) hvr) (ge_var 3 rfl) (.dicI (by rw [rowK_val, hlk]; rfl)))))) gr_nil))) ⟨s, dx, rd, part rows i j, _, .str p.1, _, .int m, _, .lst l, rfl, SL, smp, .rfl, rfl, fit_ware hwx, .rfl, rfl, .rfl, rfl, g3.ok.2.1, fun c z => (by rw [hpe] at z; cases z), fun _ => ?_⟩))⟩
      refine ⟨gupd (gupd G5 o (.lk ob (.dic (tabK nm rs)))) rd (.dic (rowsK (part rows i (j + 1)))), ?_, ?_, gupd G5 rd (.dic (rowsK (part rows i (j + 1)))), ?_, ?_, ⟨_, rfl⟩, ⟨?_, gupd_same⟩, fun a ha => ?_⟩
      · rw [show putR (part rows i j) (D.str p.1).toS (D.int m).toI (D.lst l).toL = part rows i (j + 1) from q1]
        exact gupd_comm hrr.1
      · rw [gupd_ne hrr.1, gupd_ne z6]; exact h5r
      · exact gupd_comm hoo.1
      · rw [gupd_ne hoo.1]; exact h5
      · have : s ≠ rd := a3
        rw [gupd_ne this]; exact S5.ins
      · rw [gupd_ne ha]; exact f5 a ha
    · obtain ⟨G5, rfl, h5, ⟨z, rfl⟩, S5, f5⟩ := hJ
      rw [rowK_len, part_full ep (L.ne p hpm)] at S5
      exact ⟨G5, rfl, h5, ⟨_, _, rfl⟩, S5, f5⟩
  · obtain ⟨⟨y, z, rfl⟩, S3, f3⟩ := hI
    have hlen : (tabK nm rs).length = rows.length := by
      have h1 := congrArg List.length (tabK_fst L.len)
      rw [List.length_map, List.length_map] at h1
      rw [h1, ← L.keys, List.length_map]
    rw [hlen, List.take_length] at S3
    have gx3 : GEx G G3 := fun b g e => by rw [f3 b (hfr e).1]; exact gx _ _ e
    refine gss_one (gs_retE (ge_var 1 rfl) (q s dx rd G3 ⟨S3, L.small, fun p hp => ⟨by rw [← L.keys]; exact List.mem_map.mpr ⟨p, hp, rfl⟩, L.ne p hp⟩, hkn, L.good, gx3 _ _ L.out, L.len, fun i x r e1 e2 => gx3 _ _ (L.at_ i x r e1 e2), List.nodup_cons.mpr ⟨fun z => ?_, L.nd⟩⟩ a1 a2 a3 gx3))
    rcases List.mem_cons.mp z with e | z
    · exact (hfr L.out).1 e.symm
    · obtain ⟨i, hi, e⟩ := List.getElem_of_mem z
      have e2 : rs[i]? = some rd := by rw [List.getElem?_eq_getElem hi, e]
      have e1 : nm[i]? = some (nm[i]'(by rw [← L.len]; exact hi)) := List.getElem?_eq_getElem _
      exact (hfr (L.at_ i _ _ e1 e2)).1 rfl
end
end Gh
end

section
set_option Elab.async false
set_option linter.all false
set_option maxRecDepth 100000
set_option maxHeartbeats 4000000
namespace Gh
open PySem PySem.Spec PyProof.Rows L2
/-! agendas in plain lists -/
def addW (L : List Str) (x : Str) : List Str := if x ∈ L then L else L ++ [x]
def adds (L xs : List Str) : List Str := xs.foldl addW L
theorem adds_nil {L : List Str} : adds L [] = L := rfl
theorem adds_cons {L xs : List Str} {x : Str} : adds L (x :: xs) = adds (addW L x) xs := rfl
theorem adds_app {L xs ys : List Str} : adds L (xs ++ ys) = adds (adds L xs) ys := List.foldl_append
theorem addW_pre {L : List Str} {x : Str} : ∃ t, addW L x = L ++ t := by
  unfold addW
  split
  · exact ⟨[], by simp⟩
  · exact ⟨[x], rfl⟩
theorem adds_pre {L xs : List Str} : ∃ t, adds L xs = L ++ t := by
  induction xs generalizing L with
  | nil => exact ⟨[], by simp [adds_nil]⟩
  | cons x xs ih =>
    rw [adds_cons]
    obtain ⟨t, e⟩ := addW_pre (L := L) (x := x)
    obtain ⟨u, e2⟩ := ih (L := addW L x)
    exact ⟨t ++ u, by rw [e2, e, List.append_assoc]⟩
theorem addW_nd {L : List Str} {x : Str} (h : L.Nodup) : (addW L x).Nodup := by
  unfold addW
  split
  · exact h
  · rename_i hx
    rw [List.nodup_append]
    refine ⟨h, by simp, ?_⟩
    intro a ha b hb e
    rw [List.mem_singleton] at hb
    subst hb e
    exact hx ha
theorem adds_nd {L xs : List Str} (h : L.Nodup) : (adds L xs).Nodup := by
  induction xs generalizing L with
  | nil => exact h
  | cons x xs ih => rw [adds_cons]; exact ih (addW_nd h)
theorem addW_mem {L : List Str} {x y : Str} : y ∈ addW L x ↔ y ∈ L ∨ y = x := by
  unfold addW
  split
  · rename_i hx
    constructor
    · exact .inl
    · rintro (h | rfl)
      · exact h
      · exact hx
  · simp
theorem adds_mem {L xs : List Str} {y : Str} : y ∈ adds L xs ↔ y ∈ L ∨ y ∈ xs := by
  induction xs generalizing L with
  | nil => simp [adds_nil]
  | cons x xs ih => rw [adds_cons, ih, addW_mem, List.mem_cons, or_assoc]
/-- the wares wanted, from the place at on -/
inductive AgR (nx : Str → List Str) : List Str → Nat → List Str → Prop
  | done {L : List Str} {a : Nat} : L.length ≤ a → AgR nx L a L
  | step {L : List Str} {a : Nat} {x : Str} {R : List Str} : L[a]? = some x → AgR nx (adds L (nx x)) (a + 1) R → AgR nx L a R
theorem AgR.det {nx : Str → List Str} {L : List Str} {a : Nat} {R R' : List Str} (h : AgR nx L a R) (h' : AgR nx L a R') : R = R' := by
  induction h with
  | done hl =>
    cases h' with
    | done _ => rfl
    | step e _ => have := (List.getElem?_eq_some_iff.mp e).1; omega
  | step e _ ih =>
    cases h' with
    | done hl => have := (List.getElem?_eq_some_iff.mp e).1; omega
    | step e' h2 =>
      rw [e] at e'; cases e'
      exact ih h2
theorem AgR.nd {nx : Str → List Str} {L : List Str} {a : Nat} {R : List Str} (h : AgR nx L a R) (hn : L.Nodup) : R.Nodup := by
  induction h with
  | done _ => exact hn
  | step _ _ ih => exact ih (adds_nd hn)
theorem AgR.sub {nx : Str → List Str} {L : List Str} {a : Nat} {R : List Str} (h : AgR nx L a R) {S : Str → Prop} (h1 : ∀ x ∈ L, S x) (h2 : ∀ x y, S x → y ∈ nx x → S y) : ∀ x ∈ R, S x := by
  induction h with
  | done _ => exact h1
  | step e _ ih =>
    refine ih fun y hy => ?_
    rcases adds_mem.mp hy with z | z
    · exact h1 y z
    · exact h2 _ _ (h1 _ (List.mem_of_getElem? e)) z
/-- a queue with wares said again: one is taken off -/
theorem queue_in {F ws : List Str} {x : Str} (h : x ∈ F) : adds F (x :: ws) = adds F ws := by
  rw [adds_cons]; unfold addW; rw [if_pos h]
theorem queue_new {F ws : List Str} {x : Str} (h : x ∉ F) : adds F (x :: ws) = adds (F ++ [x]) ws ∧ (adds F (x :: ws))[F.length]? = some x := by
  have e : adds F (x :: ws) = adds (F ++ [x]) ws := by rw [adds_cons]; unfold addW; rw [if_neg h]
  refine ⟨e, ?_⟩
  obtain ⟨t, e2⟩ := adds_pre (L := F ++ [x]) (xs := ws)
  rw [e, e2, List.append_assoc, List.getElem?_append_right (Nat.le_refl _)]
  simp
theorem queue_step {nx : Str → List Str} {F ws : List Str} {x : Str} {R : List Str} (h : x ∉ F) (hr : AgR nx (adds (F ++ [x]) (ws ++ nx x)) (F ++ [x]).length R) : AgR nx (adds F (x :: ws)) F.length R := by
  obtain ⟨e1, e2⟩ := queue_new (ws := ws) h
  refine .step e2 ?_
  rw [e1, ← adds_app]
  rw [List.length_append] at hr
  exact hr
/-- a pick, and what a picked ware wants -/
abbrev Pick := List (Str × Int)
def pickK (p : Pick) : List (Key × D) := codeL kS D.int p
theorem pickK_val {p : Pick} {x : Str} : valD (pickK p) (.inr x) = (look p x).map D.int := valD_code kS_inj
def needsOf (rows : Rows) (x : Str) (m : Int) : List D := (look (rowOf rows x) m).getD []
def nxP (rows : Rows) (p : Pick) (x : Str) : List Str := match look p x with
  | some m => (needsOf rows x m).map D.nm
  | none => []
/-- all makes picked are there -/
def PickOk (rows : Rows) (p : Pick) : Prop := ∀ q ∈ p, wareS q.1 = true ∧ (look (rowOf rows q.1) q.2).isSome = true
/-- the agenda -/
def Agenda (rows : Rows) (wish : List D) (p : Pick) (R : List Str) : Prop := AgR (nxP rows p) (adds [] (wish.map D.nm)) 0 R
end Gh
end

section
set_option Elab.async false
set_option linter.all false
set_option maxRecDepth 100000
set_option maxHeartbeats 4000000
namespace Gh
open PySem PySem.Spec PyProof.Rows L2
/-! pickfloor/picks.py: wishes, picks, agendas -/
def wishOk : D → Bool
  | .lst xs => decide (xs.length ≤ 8) && xs.all D.need
  | _ => false
def sp_need_wish (A : Ads) : GSp := fun ds G PP PX => ∃ dw' dw, ds = [dw'] ∧ ViewD G dw' dw ∧ dw.isD = true ∧ dw.seenAll = true ∧ (wishOk dw = true → PP .non G) ∧ (wishOk dw = false → PX A.BadWish G)
/-- a pick that may be looked at, and whether all of it is of the shop -/
def pickSeen (kds : List (Key × D)) : Prop := ∀ kv ∈ kds, (kD kv.1).fit = true ∧ kv.2.isD = true
def pickAll (rows : Rows) (kds : List (Key × D)) : Bool := kds.all fun kv => hasB rows (kD kv.1) kv.2
def RowsGood (rows : Rows) : Prop := ∀ p ∈ rows, ∀ q ∈ p.2, q.2.length ≤ 6 ∧ ∀ d ∈ q.2, d.need = true
def sp_agenda_of (A : Ads) : GSp := fun ds G PP PX => ∃ s dx rd rows dw wish dp pick, ds = [.ref s, dw, dp] ∧ ShopAt A G s dx rd rows ∧ Small rows ∧ RowsGood rows ∧ ViewD G dw (.lst wish) ∧ wishOk (.lst wish) = true ∧ ViewD G dp (.dic (pickK pick)) ∧ PickOk rows pick ∧ ∀ R, Agenda rows wish pick R → R.Nodup → ∀ l, G l = none → PP (.ref l) (gupd G l (.lst (R.map .str)))
theorem kD_fit {k : Key} : (kD k).isD = true := by cases k <;> rfl
theorem pickK_seen {p : Pick} (h : ∀ q ∈ p, wareS q.1 = true) : pickSeen (pickK p) := fun kv hkv => by
  obtain ⟨q, hq, rfl⟩ := List.mem_map.mp hkv
  exact ⟨fit_ware (h q hq), rfl⟩
theorem pickK_all {rows : Rows} {p : Pick} (h : PickOk rows p) : pickAll rows (pickK p) = true := List.all_eq_true.mpr fun kv hkv => by
  obtain ⟨q, hq, rfl⟩ := List.mem_map.mp hkv
  obtain ⟨h1, h2⟩ := h q hq
  show (wareS q.1 && (true && (look (rowOf rows q.1) q.2).isSome)) = true
  rw [h1, h2]; rfl
theorem valD_nd {kds : List (Key × D)} {i : Nat} {k : Key} {d : D} (hn : (kds.map (·.1)).Nodup) (h : kds[i]? = some (k, d)) : valD kds k = some d := by
  induction kds generalizing i with
  | nil => simp at h
  | cons kv kds ih =>
    rw [List.map_cons, List.nodup_cons] at hn
    unfold valD
    rw [List.find?_cons]
    cases i with
    | zero => simp at h; subst h; simp
    | succ i =>
      simp at h
      have ne : ¬ kv.1 = k := by
        rintro rfl
        exact hn.1 (List.mem_map.mpr ⟨_, List.mem_of_getElem? h, rfl⟩)
      simp only [ne, decide_false]
      exact ih hn.2 h
theorem flatMap_len {α β : Type} {l : List α} {f : α → List β} {k : Nat} (h : ∀ x ∈ l, (f x).length ≤ k) : (l.flatMap f).length ≤ l.length * k := by
  induction l with
  | nil => simp
  | cons x l ih =>
    rw [List.flatMap_cons, List.length_append, List.length_cons, Nat.add_mul]
    have h1 := h x (List.mem_cons_self ..)
    have h2 := ih fun y hy => h y (List.mem_cons_of_mem _ hy)
    omega
def wareU (rows : Rows) (wish : List D) : List Str := wish.map D.nm ++ rows.flatMap fun p => p.2.flatMap fun q => q.2.map D.nm
theorem wareU_len {rows : Rows} {wish : List D} (sm : Small rows) (g : RowsGood rows) (h : wish.length ≤ 8) : (wareU rows wish).length ≤ 600 := by
  unfold wareU
  rw [List.length_append, List.length_map]
  have : (rows.flatMap fun p => p.2.flatMap fun q => q.2.map D.nm).length ≤ rows.length * 48 := flatMap_len fun p hp => by
    have h1 : (p.2.flatMap fun q => q.2.map D.nm).length ≤ p.2.length * 6 := flatMap_len fun q hq => by
      rw [List.length_map]; exact (g p hp q hq).1
    have := sm.2 p hp
    omega
  have := sm.1
  omega
theorem needsOf_mem {rows : Rows} {x : Str} {m : Int} {d : D} (h : d ∈ needsOf rows x m) : ∃ p ∈ rows, ∃ q ∈ p.2, d ∈ q.2 := by
  unfold needsOf rowOf at h
  cases e : look rows x with
  | none => rw [e] at h; cases h
  | some r =>
    rw [e] at h
    cases e2 : look r m with
    | none =>
      have h : d ∈ ((look r m).getD []) := h
      rw [e2] at h; cases h
    | some ns =>
      have h : d ∈ ((look r m).getD []) := h
      rw [e2] at h
      exact ⟨_, look_mem e, _, look_mem e2, h⟩
theorem nxP_sub {rows : Rows} {wish : List D} {p : Pick} {x y : Str} (h : y ∈ nxP rows p x) : y ∈ wareU rows wish := by
  unfold nxP at h
  cases e : look p x with
  | none => rw [e] at h; cases h
  | some m =>
    rw [e] at h
    obtain ⟨d, hd, rfl⟩ := List.mem_map.mp h
    obtain ⟨p, hp, q, hq, hd⟩ := needsOf_mem hd
    unfold wareU
    rw [List.mem_append]
    exact .inr (List.mem_flatMap.mpr ⟨p, hp, List.mem_flatMap.mpr ⟨q, hq, List.mem_map.mpr ⟨d, hd, rfl⟩⟩⟩)
section
variable {P : Program} {w : World} {K : PySem.W.Frag} {mg : Str → Option Value} {base : Heap} {A : Ads}
theorem has_need_wish (T : Tx K mg A) : HasF P w K mg base 4 "need_wish" ["wish"] (sp_need_wish A) := by
  refine has_bodyX T.d_need_wish sc_need_wish (fun ds G P PX h => ?_) (fun f cdv _ outer s H E hr F0 R0 ds G PP PX h hx ow => ?_)
  · obtain ⟨_, _, rfl, _⟩ := h; rfl
  have nd := nd_need_wish
  obtain ⟨dw', dw, rfl, hv, hd, hs, q1, q2⟩ := h
  cases dw with
  | lst xs =>
    refine gss_cons (gs_if (gt_w (gtw_or (gt_not (gt_val (ge_isiD T.blt (gv_view (ge_var 0 rfl) hv) (ge_ty T.blt.at (by decide +kernel)) (.lst hd)))) fun _ => (gtw_or1 (gt_cmp (gc_gt (ge_len T.blt (gv_view (ge_var 0 rfl) hv) .lst) (ge_globI T.c_MOST_WISHES)))))) (fun hc => ?_) (fun hc => ?_))
    · refine gss_one (gs_raise hx T.e_BadWish (q2 ?_))
      have h1 : ¬ xs.length ≤ 8 := by simp [D.isLst] at hc; omega
      show (decide (xs.length ≤ 8) && xs.all D.need) = false
      rw [decide_eq_false h1]; rfl
    have h1 : xs.length ≤ 8 := by simp [D.isLst] at hc; omega
    have e0 : wishOk (.lst xs) = xs.all D.need := by
      show (decide (xs.length ≤ 8) && xs.all D.need) = _
      rw [decide_eq_true h1]; rfl
    rw [e0] at q1 q2
    refine gss_nil (gss_one (gs_for ow (gi_lst (ge_var 0 rfl) hv) (fun i ρ' G' => ∃ y, ρ' = [.dat dw', y] ∧ G' = G ∧ (xs.take i).all D.need = true) ⟨_, rfl, rfl, rfl⟩ (fun i ρ' G' h => ?_) (fun i d ρ' G' hi h => ?_) (fun ρ' G' h => ?_)))
    · obtain ⟨_, _, rfl, _⟩ := h; exact hv
    · obtain ⟨y, rfl, rfl, ha⟩ := h
      have hm := List.mem_of_getElem? hi
      have hs' : d.isD = true ∧ d.seen = true := by
        have := List.all_eq_true.mp hs d hm
        simpa using this
      refine ⟨_, _, gg_name 1 nd, gss_one (gs_if (gt_not (gt_val (ge_gw (gw_call (has_is_need T) (gr_cons (ge_var 1 rfl) gr_nil) ⟨d, d, rfl, .rfl, hs'.1, hs'.2, rfl, rfl⟩)))) (fun hc => ?_) (fun hc => ?_))⟩
      · refine gss_one (gs_raise hx T.e_BadWish (q2 ?_))
        rw [Bool.eq_false_iff]
        intro z
        have := List.all_eq_true.mp z d hm
        rw [this] at hc; cases hc
      · refine gss_nil ⟨_, rfl, rfl, ?_⟩
        rw [List.take_add_one, hi, List.all_append, ha]
        simpa using hc
    · obtain ⟨y, rfl, rfl, ha⟩ := h
      rw [List.take_length] at ha
      exact q1 ha
  | _ =>
    refine gss_cons (gs_if (x := true) (gt_is (gt_w (gtw_or (y := true) (gt_not (gt_val (ge_isiD T.blt (gv_view (ge_var 0 rfl) hv) (ge_ty T.blt.at (by decide +kernel)) (.lst hd)))) fun h => (by cases h))) (by simp)) (fun hc => gss_one (gs_raise hx T.e_BadWish (q2 rfl))) (fun hc => by cases hc))
end
end Gh
end

section
set_option Elab.async false
set_option linter.all false
set_option maxRecDepth 100000
set_option maxHeartbeats 4000000
namespace Gh
open PySem PySem.Spec PyProof.Rows L2
def Wish (l : List D) : Prop := l.length ≤ 8 ∧ ∀ d ∈ l, Need1 d
theorem Wish.ok {l : List D} (h : Wish l) : wishOk (.lst l) = true ∧ (D.lst l).seenAll = true ∧ D.oks 3 l = true := by
  obtain ⟨h1, h2⟩ := h
  refine ⟨?_, List.all_eq_true.mpr fun d hd => ?_, ?_⟩
  · show (decide (l.length ≤ 8) && l.all D.need) = true
    rw [decide_eq_true h1, Bool.true_and]
    exact List.all_eq_true.mpr fun d hd => (h2 d hd).need
  · have := (h2 d hd).ok
    rw [this.2.1, this.2.2.1]; rfl
  · have := D.oks_map (n := 3) (f := id) (xs := l) fun d hd => (h2 d hd).ok.1
    rwa [List.map_id] at this
def sp_lwish : GSp := fun ds G PP _ => ∃ (ns : List Int) (nm : List Str) (o : Addr) (rs : List Addr) (rows : Rows) (most : Nat), ds = [.lst (ns.map .int), .ref o, .int (most : Int)] ∧ LRows G nm o rs rows ∧ 1 ≤ most ∧ most ≤ 8 ∧ ∀ l a, Wish l → G a = none → PP (.ref a) (gupd G a (.lst l))
theorem at_last {α : Type} {xs : List α} (h : 0 < xs.length) : ∃ x, atI xs (-1) = some x ∧ x ∈ xs := by
  have e : ixN xs.length (-1) = some (xs.length - 1) := by
    unfold ixN
    first
    | (rw [if_neg (by omega), if_pos (by omega)]; congr 1; omega)
    | (simp; omega)
  refine ⟨xs[xs.length - 1]'(by omega), ?_, List.getElem_mem _⟩
  unfold atI
  rw [e]
  exact List.getElem?_eq_getElem _
section
variable {P : Program} {w : World} {K : PySem.W.Frag} {mg : Str → Option Value} {base : Heap} {A : Ads}
theorem has__law_wish (T : Tx K mg A) : HasF P w K mg base 3 "_law_wish" ["_law_script", "_law_rows_here", "_law_most"] sp_lwish := by
  refine has_body T.d__law_wish sc__law_wish (fun ds G P PX h => ?_) (fun f cdv _ outer s0 H E hr F0 R0 ds G PP PX h => ?_)
  · obtain ⟨_, _, _, _, _, _, rfl, _⟩ := h; rfl
  have nd := nd__law_wish
  obtain ⟨ns, nm, o, rs, rows, most, rfl, L, hm1, hm2, q⟩ := h
  have htl : (tabK nm rs).length = nm.length := by
    have h1 := congrArg List.length (tabK_fst L.len)
    rw [List.length_map, List.length_map] at h1
    exact h1
  have hnl : nm.length ≤ 12 := by rw [← L.keys, List.length_map]; exact L.small.1
  have hpos := L.pos
  -- the names
  obtain ⟨nx, hnx, hw, hge, hpre⟩ : ∃ nx : List Str, (tabK nm rs).map (fun kv => kD kv.1) ++ cutD ((namesP ns (nm.length + 1)).map .str) (some (-1)) none = nx.map .str ∧ (∀ x ∈ nx, wareS x = true) ∧ nm.length ≤ nx.length ∧ ∀ i, i < nm.length → nx[i]? = nm[i]? := by
    refine ⟨nm ++ ((namesP ns (nm.length + 1)).drop (HT.sIx ((namesP ns (nm.length + 1)).map D.str).length 0 (some (-1)))).take (HT.sIx ((namesP ns (nm.length + 1)).map D.str).length ((namesP ns (nm.length + 1)).map D.str).length none - HT.sIx ((namesP ns (nm.length + 1)).map D.str).length 0 (some (-1))), ?_, fun x hx => ?_, by rw [List.length_append]; omega, fun i hi => List.getElem?_append_left hi⟩
    · rw [tabK_keys L.len, List.map_append]
      unfold cutD
      rw [List.map_take, List.map_drop]
    · rcases List.mem_append.mp hx with z | z
      · exact L.ware x z
      · exact namesP_ware (List.mem_of_mem_drop (List.mem_of_mem_take z))
  have hcl : (cutD ((namesP ns (nm.length + 1)).map D.str) (some (-1)) none).length ≤ 13 := by
    unfold cutD
    rw [List.length_take, List.length_drop, List.length_map, namesP_len]
    omega
  refine gss_cons (gs_set 3 nd (d := .lst (nx.map .str)) (ge_is (ge_addD (gv_ge (ge_n (gn_listD T.blt (gv_view (ge_var 1 rfl) (.dicR L.out))))) (gv_ge (ge_n (gn_slice (gv_ge (ge_gw (gw_call (has__law_names T) (gr_cons (ge_var 0 rfl) (gr_cons (ge_is (ge_add (ge_len T.blt (gv_view (ge_var 1 rfl) (.dicR L.out)) .dic) ge_int) (show D.int (((tabK nm rs).length : Int) + 1) = D.int ((nm.length + 1 : Nat) : Int) by rw [htl]; push_cast; rfl)) gr_nil)) ⟨ns, nm.length + 1, rfl, by omega, rfl, rfl⟩))) (go_some (ge_neg ge_int)) go_none))) (.lst (by rw [List.length_map, htl]; exact Nat.le_trans (Nat.add_le_add hnl hcl) (by decide)))) (congrArg D.lst hnx)) ?_)
  refine gss_cons (gs_own 4 nd (gn_lst gr_nil) ?_)
  have n0 := mixedI_nn (ns := ns) (k := 170)
  refine gss_cons (gs_set 5 nd (ge_gw (gw_call (has__law_mixed T) (gr_cons (ge_var 0 rfl) (gr_cons ge_int gr_nil)) ⟨ns, 170, rfl, by decide, by decide, rfl, rfl⟩)) ?_)
  generalize mixedI ns 170 = n7 at *
  obtain ⟨wy, ew, hwy⟩ := at_in (xs := ([0, 0, 0, 0, 2, 0, 1, 0, 0] : List Int)) (i := n7 % 9) (by omega) (by simp; omega)
  have hwy : 0 ≤ wy ∧ wy ≤ 2 := by simp at hwy; omega
  have hmo : 0 ≤ n7 / 9 % (most : Int) ∧ n7 / 9 % (most : Int) < most := ⟨Int.emod_nonneg _ (by omega), Int.emod_lt_of_pos _ (by omega)⟩
  obtain ⟨tn, et, htn⟩ := at_in (xs := ([1 + n7 / 9 % (most : Int), 8, 0] : List Int)) (i := wy) (by omega) (by simp; omega)
  have htn : 0 ≤ tn ∧ tn ≤ 8 := by
    simp only [List.mem_cons, List.not_mem_nil, or_false] at htn
    rcases htn with rfl | rfl | rfl <;> omega
  refine gss_cons (gs_for (fun _ => PassesOwn.never) (gi_range1 T.blt (n := tn) (ge_ix (gv_ge (ge_n (gn_lst (gr_cons (ge_add ge_int (ge_mod (ge_fdiv (ge_var 5 rfl) ge_int ⟨by decide, by decide⟩) (ge_var 2 rfl) (by omega))) (gr_cons ge_int (gr_cons ge_int gr_nil)))))) (ge_ix (d := .int wy) (gv_ge (ge_n (gn_lst (gr_cons ge_int (gr_cons ge_int (gr_cons ge_int (gr_cons ge_int (gr_cons ge_int (gr_cons ge_int (gr_cons ge_int (gr_cons ge_int (gr_cons ge_int gr_nil)))))))))))) (ge_mod (ge_var 5 rfl) ge_int (by decide)) (.lst (by have := atI_map (f := D.int) (xs := ([0, 0, 0, 0, 2, 0, 1, 0, 0] : List Int)) (i := n7 % 9); rw [ew] at this; exact this))) (.lst (by have := atI_map (f := D.int) (xs := ([1 + n7 / 9 % (most : Int), 8, 0] : List Int)) (i := wy); rw [et] at this; exact this))) (by omega)) (fun i ρ' G' => G' = G ∧ ∃ l n t x lo hi, ρ' = [.dat (.lst (ns.map .int)), .dat (.ref o), .dat (.int (most : Int)), .dat (.lst (nx.map .str)), .own l, n, t, x, lo, hi] ∧ l.length = i ∧ ∀ d ∈ l, Need1 d) ⟨rfl, [], _, _, _, _, _, rfl, rfl, fun _ z => (by cases z)⟩ (fun _ _ _ _ => trivial) (fun i d ρ' G' hi hI => ?_) (fun ρ' G' hI => ?_))
  · obtain ⟨rfl, l, n, t, x, lo, hi', rfl, hl, hN⟩ := hI
    obtain ⟨rfl, hlt⟩ := rngD_get hi
    have hi8 : i < 8 := by omega
    refine ⟨_, _, gg_name 6 nd, ?_⟩
    have n1 := mixedI_nn (ns := ns) (k := 171 + (0 + (i : Int)))
    refine gss_cons (gs_set 5 nd (ge_gw (gw_call (has__law_mixed T) (gr_cons (ge_var 0 rfl) (gr_cons (ge_add ge_int (ge_var 6 rfl)) gr_nil)) ⟨ns, _, rfl, by omega, by omega, rfl, rfl⟩)) ?_)
    generalize mixedI ns (171 + (0 + (i : Int))) = nu at *
    have hmod : 0 ≤ nu % (nm.length : Int) ∧ nu % (nm.length : Int) < nm.length := ⟨Int.emod_nonneg _ (by omega), Int.emod_lt_of_pos _ (by omega)⟩
    obtain ⟨x1, ex1, hx1⟩ := at_in (xs := nx) (i := nu % (nm.length : Int)) (by omega) (by omega)
    refine gss_cons (gs_set 7 nd (d := .str x1) (ge_ix (gv_ge (ge_var 3 rfl)) (ge_mod (ge_var 5 rfl) (ge_len T.blt (gv_view (ge_var 1 rfl) (.dicR L.out)) .dic) (by rw [htl]; omega)) (.lst (by rw [htl, atI_map, ex1]; rfl))) ?_)
    obtain ⟨x2, ex2, hx2⟩ := at_last (xs := nx) (by omega)
    refine gss_cut (fun ρ' G'' => G'' = G' ∧ ∃ y ∈ nx, ρ' = [.dat (.lst (ns.map .int)), .dat (.ref o), .dat (.int (most : Int)), .dat (.lst (nx.map .str)), .own l, .dat (.int nu), .dat (.int (0 + (i : Int))), .dat (.str y), lo, hi']) (gs_if (gt_cmp (gc_eqI (ge_mod (ge_fdiv (ge_var 5 rfl) ge_int ⟨by decide, by decide⟩) ge_int (by decide)) ge_int)) (fun hc => ?_) (fun hc => ?_)) (fun ρ' G'' ⟨eG, y, hy, eρ⟩ => ?_)
    · exact gss_one (gs_set 7 nd (d := .str x2) (ge_ix (gv_ge (ge_var 3 rfl)) (ge_neg ge_int) (.lst (by rw [atI_map, ex2]; rfl))) ⟨rfl, x2, hx2, rfl⟩)
    · exact gss_nil ⟨rfl, x1, hx1, rfl⟩
    subst eG eρ
    -- the makes of the ware, rising
    obtain ⟨ms, hms1, hms2, hD⟩ : ∃ ms : List Int, 0 < ms.length ∧ (∀ m ∈ ms, 1 ≤ m ∧ m ≤ 999) ∧ ∃ kds : List (Key × D), ViewD G'' ((valD (tabK nm rs) (.inr y)).getD (.dic [(.inl 7, .lst [])])) (.dic kds) ∧ kds.map (·.1) = ms.map Sum.inl ∧ ms.length < 64 := by
      by_cases hyn : y ∈ nm
      · obtain ⟨i0, hi0, e0⟩ := List.getElem_of_mem hyn
        have hrl : i0 < rows.length := by rw [← L.keys, List.length_map] at hi0; exact hi0
        have hp : rows[i0]? = some rows[i0] := List.getElem?_eq_getElem hrl
        generalize rows[i0] = p at hp
        obtain ⟨r, z1, z2, z3, z4, z5, z6, z7⟩ := L.find hp
        have hpm := List.mem_of_getElem? hp
        have : y = p.1 := by rw [List.getElem?_eq_getElem hi0, e0] at z1; exact Option.some.inj z1
        subst this
        refine ⟨p.2.map (·.1), ?_, fun m hm => ?_, rowK p.2, ?_, rowK_keys, ?_⟩
        · rw [List.length_map]
          rcases Nat.eq_zero_or_pos p.2.length with e | e
          · exact absurd (List.length_eq_zero_iff.mp e) (L.ne p hpm)
          · exact e
        · obtain ⟨q, hq, rfl⟩ := List.mem_map.mp hm
          have := L.good p hpm q hq
          exact ⟨this.1, this.2.1⟩
        · rw [z4]; exact .dicR z5
        · rw [List.length_map]; have := L.small.2 p hpm; omega
      · refine ⟨[7], by decide, fun m hm => by simp at hm; omega, [(.inl 7, .lst [])], ?_, rfl, by decide⟩
        have : valD (tabK nm rs) (.inr y) = none := by
          cases e : valD (tabK nm rs) (.inr y) with
          | none => rfl
          | some d =>
            exfalso
            unfold valD at e
            cases e2 : (tabK nm rs).find? (fun kv => decide (kv.1 = .inr y)) with
            | none => rw [e2] at e; cases e
            | some kv =>
              have h1 := List.mem_of_find?_eq_some e2
              have h2 := List.find?_some e2
              have h3 : kv.1 ∈ (tabK nm rs).map (·.1) := List.mem_map.mpr ⟨kv, h1, rfl⟩
              rw [tabK_fst L.len, show kv.1 = .inr y by simpa using h2] at h3
              obtain ⟨z, hz, e⟩ := List.mem_map.mp h3
              exact hyn (Sum.inr.inj e ▸ hz)
        rw [this]
        exact .rfl
    obtain ⟨kds, hv, hk, h64⟩ := hD
    have hsl : (sortI ms).length = ms.length := sortI_len
    refine gss_cons (gs_asgW (gw_call (has__law_stretch T) (gr_cons (ge_fdiv (ge_var 5 rfl) ge_int ⟨by decide, by decide⟩) (gr_cons (ge_n (gn_sorted T.blt (gv_view (ge_dget2 (kS y) (gv_view (ge_var 1 rfl) (.dicR L.out)) (ge_var 7 rfl) (ge_nd (gn_d1 (kI 7) ge_int (ge_n (gn_lst gr_nil))))) hv) (.dicI ms hk h64))) gr_nil)) ⟨_, sortI ms, rfl, by omega, by omega, fun m hm => hms2 m ((List.mergeSort_perm _ _).mem_iff.mp hm), fun l1 h1 z1 z2 z3 => ⟨_, _, gg_tup (ggs_cons (gg_name 8 nd) (ggs_cons (gg_name 9 nd) ggs_nil)), ?_⟩⟩))
    refine gss_one (gs_app 4 rfl (d := .tup [.str y, .int l1, .int h1]) (ge_tup (gr_cons (ge_var 7 rfl) (gr_cons (ge_var 8 rfl) (gr_cons (ge_var 9 rfl) gr_nil)))) (by omega) ⟨rfl, _, _, _, _, _, _, rfl, by simp [hl], ?_⟩)
    intro d hd
    rcases List.mem_append.mp hd with z | z
    · exact hN d z
    · rw [List.mem_singleton] at z
      exact ⟨y, _, _, z, hw y hy, z1, z2, z3⟩
  · obtain ⟨rfl, l, n, t, x, lo, hi', rfl, hl, hN⟩ := hI
    rw [rngD_length] at hl
    exact gss_one (gs_ret (gf_ownR 4 rfl fun a ha => q l a ⟨by omega, hN⟩ ha))
end
end Gh
end

section
set_option Elab.async false
set_option linter.all false
set_option maxRecDepth 100000
set_option maxHeartbeats 4000000
namespace Gh
open PySem PySem.Spec PyProof.Rows L2
theorem need_nm {d : D} (h : d.need = true) : ∃ b c, d = .tup [.str d.nm, b, c] := by
  obtain ⟨a, b, c, rfl⟩ := need_form h
  exact ⟨b, c, rfl⟩
theorem take_snoc {α : Type} {xs : List α} {i : Nat} {d : α} (h : xs[i]? = some d) : xs.take (i + 1) = xs.take i ++ [d] := by rw [List.take_add_one, h]; rfl
theorem adds_snoc {L xs : List Str} {x : Str} : adds L (xs ++ [x]) = addW (adds L xs) x := by rw [adds_app]; rfl
theorem adds_len {U L xs : List Str} (hn : L.Nodup) (h1 : ∀ x ∈ L, x ∈ U) (h2 : ∀ x ∈ xs, x ∈ U) : (adds L xs).length ≤ U.length :=
  List.Nodup.length_le_of_subset (adds_nd hn) fun x hx => (adds_mem.mp hx).elim (h1 x) (h2 x)
section
variable {P : Program} {w : World} {K : PySem.W.Frag} {mg : Str → Option Value} {base : Heap} {A : Ads}
theorem has_agenda_of (T : Tx K mg A) : HasF P w K mg base 4 "agenda_of" ["shop", "wish", "pick"] (sp_agenda_of A) := by
  refine has_body T.d_agenda_of sc_agenda_of (fun ds G P PX h => ?_) (fun f cdv _ outer s0 H E hr F0 R0 ds G PP PX h => ?_)
  · obtain ⟨_, _, _, _, _, _, _, _, rfl, _⟩ := h; rfl
  have nd := nd_agenda_of
  obtain ⟨s, dx, rd, rows, dw, wish, dp, pick, rfl, S, sm, rg, hv, hw, hp, hpo, q⟩ := h
  have hw8 : wish.length ≤ 8 ∧ ∀ d ∈ wish, d.need = true := by
    have hw : (decide (wish.length ≤ 8) && wish.all D.need) = true := hw
    rw [Bool.and_eq_true] at hw
    exact ⟨of_decide_eq_true hw.1, fun d hd => List.all_eq_true.mp hw.2 d hd⟩
  have hU := wareU_len sm rg hw8.1
  have hwU : ∀ x ∈ wish.map D.nm, x ∈ wareU rows wish := fun x hx => List.mem_append_left _ hx
  have hnU : ∀ x y, y ∈ nxP rows pick x → y ∈ wareU rows wish := fun x y h => nxP_sub h
  generalize wareU rows wish = U at *
  refine gss_cons (gs_own 3 nd (gn_lst gr_nil) ?_)
  refine gss_cons (gs_for (fun _ => PassesOwn.never) (gi_lst (ge_var 1 rfl) hv) (fun i ρ' G' => G' = G ∧ ∃ y, ρ' = [.dat (.ref s), .dat dw, .dat dp, .own ((adds [] ((wish.take i).map D.nm)).map .str), y, .unk, .unk]) ⟨rfl, _, rfl⟩ (fun i ρ' G' h => ?_) (fun i d ρ' G' hi h => ?_) (fun ρ' G' h => ?_))
  · obtain ⟨rfl, _⟩ := h; exact hv
  · obtain ⟨rfl, y, rfl⟩ := h
    obtain ⟨b, c, ed⟩ := need_nm (hw8.2 d (List.mem_of_getElem? hi))
    have hin : IxD d (.int 0) (.str d.nm) := by
      rw [ed]; exact .tup rfl
    have hl : (adds [] ((wish.take i).map D.nm)).length < 100000 := by
      have := adds_len (U := U) (L := []) (xs := (wish.take i).map D.nm) .nil (fun _ z => by cases z) (fun x hx => by
        obtain ⟨d, hd, rfl⟩ := List.mem_map.mp hx
        exact hwU _ (List.mem_map.mpr ⟨d, List.mem_of_mem_take hd, rfl⟩))
      omega
    refine ⟨_, _, gg_name 4 nd, gss_one (gs_if (gt_cmp (gc_notIn (ge_ix (gv_ge (ge_var 4 rfl)) ge_int hin) (gv_own 3 rfl) .lstS)) (fun hc => ?_) (fun hc => ?_))⟩
    · have hc : d.nm ∉ adds [] ((wish.take i).map D.nm) := by simpa using hc
      refine gss_one (gs_appI 3 rfl (ge_ix (gv_ge (ge_var 4 rfl)) ge_int hin) (by rw [List.length_map]; exact hl) (ds' := (adds [] ((wish.take (i + 1)).map D.nm)).map .str) ?_ ⟨rfl, _, rfl⟩)
      rw [take_snoc hi, List.map_append, List.map_cons, List.map_nil, adds_snoc]
      unfold addW
      rw [if_neg hc, List.map_append]; rfl
    · have hc : d.nm ∈ adds [] ((wish.take i).map D.nm) := by simpa using hc
      have e : adds [] ((wish.take (i + 1)).map D.nm) = adds [] ((wish.take i).map D.nm) := by
        rw [take_snoc hi, List.map_append, List.map_cons, List.map_nil, adds_snoc]
        unfold addW
        rw [if_pos hc]
      refine gss_nil ⟨rfl, .dat d, ?_⟩
      rw [e]; rfl
  · obtain ⟨rfl, y, rfl⟩ := h
    rw [List.take_length]
    refine gss_cons (gs_set 5 nd ge_int ?_)
    refine gss_cons (gs_while (fun _ => PassesOwn.never) (fun m ρ' G'' => G'' = G' ∧ ∃ (L : List Str) (a : Nat) (y z : SV), ρ' = [.dat (.ref s), .dat dw, .dat dp, .own (L.map .str), y, .dat (.int (a : Int)), z] ∧ (∀ R, AgR (nxP rows pick) L a R → Agenda rows wish pick R) ∧ L.Nodup ∧ (∀ x ∈ L, x ∈ U) ∧ m + a = 1000 ∧ a ≤ L.length) 1000 ⟨rfl, adds [] (wish.map D.nm), 0, _, _, rfl, fun R h => h, adds_nd .nil, fun x hx => (adds_mem.mp hx).elim (fun z => by cases z) (hwU x), rfl, Nat.zero_le _⟩ (fun m ρ' G'' h => ?_))
    obtain ⟨rfl, L, a, y, z, rfl, hR, hL, hLU, hm, haL⟩ := h
    have hLl : L.length ≤ U.length := List.Nodup.length_le_of_subset hL fun x hx => hLU x hx
    refine ⟨_, gt_cmp (gc_lt (ge_var 5 rfl) (ge_len T.blt (gv_own 3 rfl) .lst)), fun hx => ?_, fun hx => ?_⟩
    · have hlt : a < L.length := by rw [List.length_map] at hx; simpa using hx
      have hx0 : L[a]? = some L[a] := List.getElem?_eq_getElem hlt
      generalize L[a] = x at hx0
      refine gss_cons (gs_set 6 nd (d := .str x) (ge_ix (gv_own 3 rfl) (ge_var 5 rfl) (.lst (atI_nat (by rw [List.getElem?_map, hx0]; rfl)))) ?_)
      refine gss_cut (fun ρ' G3 => G3 = G'' ∧ ∃ y, ρ' = [.dat (.ref s), .dat dw, .dat dp, .own ((adds L (nxP rows pick x)).map .str), y, .dat (.int (a : Int)), .dat (.str x)]) (gs_if (gt_cmp (gc_in (ge_var 6 rfl) (gv_view (ge_var 2 rfl) hp) .dicS)) (fun hc => ?_) (fun hc => ?_)) (fun ρ' G3 ⟨eG, y', eρ⟩ => ?_)
      · rw [pickK_val, Option.isSome_map] at hc
        obtain ⟨m', hm'⟩ := Option.isSome_iff_exists.mp hc
        obtain ⟨hwx, hns⟩ := hpo _ (look_mem hm')
        obtain ⟨ns, hns⟩ := Option.isSome_iff_exists.mp hns
        have hnx : nxP rows pick x = ns.map D.nm := by
          unfold nxP needsOf
          rw [hm']
          show ((look (rowOf rows x) m').getD []).map D.nm = _
          rw [hns]; rfl
        have hnd : ∀ d ∈ ns, d.need = true := fun d hd => by
          obtain ⟨p, hp, q, hq, hd⟩ := needsOf_mem (rows := rows) (x := x) (m := m') (d := d) (by unfold needsOf; rw [hns]; exact hd)
          exact (rg p hp q hq).2 d hd
        have hnU' : ∀ y ∈ ns.map D.nm, y ∈ U := fun y hy => hnU x y (by rw [hnx]; exact hy)
        refine gss_one (gs_for (fun _ => PassesOwn.never) (gi_lst (xs := ns) (ge_n (gn_gw (gw_meth (pl := _) T.k_Shop.cls (has_Shop_needs T) (ge_var 0 rfl) S.ins rfl (gr_cons (ge_var 6 rfl) (gr_cons (ge_ix (d := .int m') (gv_view (ge_var 2 rfl) hp) (ge_var 6 rfl) (.dicS (by rw [pickK_val, hm']; rfl))) gr_nil)) ⟨s, dx, rd, rows, _, .str x, _, .int m', rfl, S, .rfl, rfl, fit_ware hwx, .rfl, rfl, fun z => (by rw [hasB_of hwx hns] at z; cases z), fun _ l ns' h' hl => (by rw [show look (rowOf rows (D.str x).toS) (D.int m').toI = look (rowOf rows x) m' from rfl, hns] at h'; cases h'; exact ⟨l, rfl, hl, rfl⟩)⟩))) .rfl) (fun i ρ' G3 => G3 = G'' ∧ ∃ y, ρ' = [.dat (.ref s), .dat dw, .dat dp, .own ((adds L ((ns.take i).map D.nm)).map .str), y, .dat (.int (a : Int)), .dat (.str x)]) ⟨rfl, _, rfl⟩ (fun _ _ _ _ => .rfl) (fun i d ρ' G3 hi h => ?_) (fun ρ' G3 h => ?_))
        · obtain ⟨rfl, y, rfl⟩ := h
          have hmem := List.mem_of_getElem? hi
          obtain ⟨b, c, ed⟩ := need_nm (hnd d hmem)
          have hin : IxD d (.int 0) (.str d.nm) := by
            rw [ed]; exact .tup rfl
          have hl : (adds L ((ns.take i).map D.nm)).length < 100000 := by
            have := adds_len (U := U) (L := L) (xs := (ns.take i).map D.nm) hL hLU (fun x hx => by
              obtain ⟨d, hd, rfl⟩ := List.mem_map.mp hx
              exact hnU' _ (List.mem_map.mpr ⟨d, List.mem_of_mem_take hd, rfl⟩))
            omega
          refine ⟨_, _, gg_name 4 nd, gss_one (gs_if (gt_cmp (gc_notIn (ge_ix (gv_ge (ge_var 4 rfl)) ge_int hin) (gv_own 3 rfl) .lstS)) (fun hc => ?_) (fun hc => ?_))⟩
          · have hc : d.nm ∉ adds L ((ns.take i).map D.nm) := by simpa using hc
            refine gss_one (gs_appI 3 rfl (ge_ix (gv_ge (ge_var 4 rfl)) ge_int hin) (by rw [List.length_map]; exact hl) (ds' := (adds L ((ns.take (i + 1)).map D.nm)).map .str) ?_ ⟨rfl, _, rfl⟩)
            rw [take_snoc hi, List.map_append, List.map_cons, List.map_nil, adds_snoc]
            unfold addW
            rw [if_neg hc, List.map_append]; rfl
          · have hc : d.nm ∈ adds L ((ns.take i).map D.nm) := by simpa using hc
            have e : adds L ((ns.take (i + 1)).map D.nm) = adds L ((ns.take i).map D.nm) := by
              rw [take_snoc hi, List.map_append, List.map_cons, List.map_nil, adds_snoc]
              unfold addW
              rw [if_pos hc]
            refine gss_nil ⟨rfl, .dat d, ?_⟩
            rw [e]; rfl
        · obtain ⟨rfl, y, rfl⟩ := h
          rw [List.take_length, ← hnx]
          exact ⟨rfl, y, rfl⟩
      · rw [pickK_val, Option.isSome_map] at hc
        have hnx : nxP rows pick x = [] := by
          unfold nxP
          cases e : look pick x with
          | none => rfl
          | some m => rw [e] at hc; cases hc
        refine gss_nil ⟨rfl, y, ?_⟩
        rw [hnx]; rfl
      · subst eG eρ
        refine gss_one (gs_set 5 nd (ge_add (ge_var 5 rfl) ge_int) ⟨m - 1, by omega, rfl, adds L (nxP rows pick x), a + 1, _, _, rfl, fun R h => hR R (.step hx0 h), adds_nd hL, fun y hy => (adds_mem.mp hy).elim (hLU y) (hnU x y), by omega, ?_⟩)
        obtain ⟨t, e⟩ := adds_pre (L := L) (xs := nxP rows pick x)
        rw [e, List.length_append]; omega
    · have hge : L.length ≤ a := by rw [List.length_map] at hx; simpa using hx
      exact gss_one (gs_ret (gf_ownR 3 rfl fun l hl => q L (hR L (.done hge)) hL l hl))
theorem pickK_keys {p : Pick} : (pickK p).map (·.1) = (p.map (·.1)).map Sum.inr := by unfold pickK codeL; rw [List.map_map, List.map_map]; rfl
theorem pickK_nd {p : Pick} (h : (p.map (·.1)).Nodup) : ((pickK p).map (·.1)).Nodup := by
  rw [pickK_keys]
  exact List.Pairwise.map _ (fun a b (hab : a ≠ b) e => hab (Sum.inr.inj e)) h
end
end Gh
end

section
set_option Elab.async false
set_option linter.all false
set_option maxRecDepth 100000
set_option maxHeartbeats 4000000
namespace Gh
open PySem PySem.Spec PyProof.Rows L2
/-! the law's own agenda (k05 and later) -/
theorem eqv_nil (ds : List D) : D.eqv (.lst ds) (.lst []) = ds.isEmpty := by
  cases ds with
  | nil => rfl
  | cons d ds => simp [D.eqv, D.toP, D.toPs, PyData.eqv, PyData.eqvAll]
theorem needs_good {x : Str} {l : List D} (h : Needs x l) : l.length ≤ 6 ∧ ∀ d ∈ l, d.need = true := ⟨h.1, fun d hd => (h.2.1 d hd).need⟩
theorem Side.rg {A : Ads} {G : Gs} {nm : List Str} {s dx rd o : Addr} {rs : List Addr} {rows : Rows} (S : Side A G nm s dx rd o rs rows) : RowsGood rows := fun p hp q hq => needs_good (S.good p hp q hq).2.2
theorem nm_ware {d : D} (h : Need1 d) : wareS d.nm = true := by
  obtain ⟨x, a, b, rfl, h1, _⟩ := h
  exact h1
def sp_lagenda (A : Ads) : GSp := fun ds G PP _ => ∃ s dx rd o rs rows nm dw wish dp pick, ds = [.ref o, dw, dp] ∧ Side A G nm s dx rd o rs rows ∧ nm.Nodup ∧ (∀ x ∈ nm, wareS x = true) ∧ ViewD G dw (.lst wish) ∧ Wish wish ∧ ViewD G dp (.dic (pickK pick)) ∧ PickOk rows pick ∧ ∀ R, Agenda rows wish pick R → R.Nodup → R.length ≤ 600 → (∀ x ∈ R, wareS x = true) → PP (.lst (R.map .str)) G
end Gh
end

section
set_option Elab.async false
set_option linter.all false
set_option maxRecDepth 100000
set_option maxHeartbeats 4000000
namespace Gh
open PySem PySem.Spec PyProof.Rows L2
/-! the agenda as one list -/
open Classical in
noncomputable def agOf (rows : Rows) (wish : List D) (p : Pick) : List Str := if h : ∃ R, Agenda rows wish p R then h.choose else []
theorem agOf_eq {rows : Rows} {wish : List D} {p : Pick} {R : List Str} (h : Agenda rows wish p R) : R = agOf rows wish p := by
  have e : ∃ R, Agenda rows wish p R := ⟨R, h⟩
  unfold agOf
  rw [dif_pos e]
  exact AgR.det h e.choose_spec
section
variable {A : Ads} {G : Gs} {nm : List Str} {s dx rd o : Addr} {rs : List Addr} {rows : Rows} {wish : List D} {pick : Pick}
theorem agOf_ware (S : Side A G nm s dx rd o rs rows) (hw : Wish wish) : ∀ x ∈ agOf rows wish pick, wareS x = true := by
  unfold agOf
  split
  · rename_i h
    refine AgR.sub h.choose_spec (S := fun x => wareS x = true) (fun x hx => ?_) (fun x y _ hy => ?_)
    · rcases adds_mem.mp hx with z | z
      · cases z
      · obtain ⟨d, hd, rfl⟩ := List.mem_map.mp z
        exact nm_ware (hw.2 d hd)
    · unfold nxP at hy
      cases e : look pick x with
      | none => rw [e] at hy; cases hy
      | some m =>
        rw [e] at hy
        replace hy : y ∈ ((look (rowOf rows x) m).getD []).map D.nm := hy
        cases e2 : look (rowOf rows x) m with
        | none => rw [e2] at hy; cases hy
        | some l =>
          rw [e2] at hy
          obtain ⟨d, hd, rfl⟩ := List.mem_map.mp hy
          exact nm_ware ((S.row (look_mem e2)).2.2.2.1 d hd)
  · intro x hx; cases hx
theorem agOf_ok (S : Side A G nm s dx rd o rs rows) (hw : Wish wish) : D.ok 64 (.lst ((agOf rows wish pick).map .str)) = true := by
  rw [D.ok_lst]
  exact D.oks_map fun x hx => D.ok_str (ware_ok (agOf_ware S hw x hx)).2.1
theorem lag_wish {dw dp : D} {PX : Addr → Gs → Prop} (S : Side A G nm s dx rd o rs rows) (hnm : nm.Nodup) (hwn : ∀ x ∈ nm, wareS x = true) (hw : Wish wish) (hv : ViewD G dw (.lst wish)) (hp : ViewD G dp (.dic (pickK pick))) (hpo : PickOk rows pick) : sp_lagenda A [.ref o, dw, dp] G (fun d G' => d = .lst ((agOf rows wish pick).map .str) ∧ G' = G) PX :=
  ⟨s, dx, rd, o, rs, rows, nm, dw, wish, dp, pick, rfl, S, hnm, hwn, hv, hw, hp, hpo, fun R hR _ _ _ => ⟨by rw [agOf_eq hR], rfl⟩⟩
end
end Gh
end

section
set_option Elab.async false
set_option linter.all false
set_option maxRecDepth 100000
set_option maxHeartbeats 4000000
namespace Gh
open PySem PySem.Spec PyProof.Rows L2
/-! beside the side -/
theorem Side.new {A : Ads} {G : Gs} {nm : List Str} {s dx rd o : Addr} {rs : List Addr} {rows : Rows} (S : Side A G nm s dx rd o rs rows) {a : Addr} {g : GO} (ha : G a = none) : Side A (gupd G a g) nm s dx rd o rs rows := S.frame fun b hb => by
  refine gupd_ne ?_
  rintro rfl
  rcases hb with rfl | rfl | rfl | z
  · have := S.shop.ins; rw [ha] at this; cases this
  · have := S.shop.dic; rw [ha] at this; cases this
  · have := S.out; rw [ha] at this; cases this
  · obtain ⟨i, hi, e⟩ := List.getElem_of_mem z
    have h2 : rs[i]? = some rs[i] := List.getElem?_eq_getElem hi
    have h1 : nm[i]? = some (nm[i]'(by rw [← S.len]; exact hi)) := List.getElem?_eq_getElem _
    have := S.at_ i _ _ h1 h2
    rw [e, ha] at this; cases this
/-- an address of nobody is none of the side's -/
theorem Side.apart {A : Ads} {G : Gs} {nm : List Str} {s dx rd o : Addr} {rs : List Addr} {rows : Rows} (S : Side A G nm s dx rd o rs rows) {a : Addr} (ha : G a = none) : a ≠ s ∧ a ≠ rd ∧ a ≠ o ∧ a ∉ rs := by
  refine ⟨?_, ?_, ?_, fun z => ?_⟩
  · rintro rfl; have := S.shop.ins; rw [ha] at this; cases this
  · rintro rfl; have := S.shop.dic; rw [ha] at this; cases this
  · rintro rfl; have := S.out; rw [ha] at this; cases this
  · obtain ⟨i, hi, e⟩ := List.getElem_of_mem z
    have h2 : rs[i]? = some rs[i] := List.getElem?_eq_getElem hi
    have h1 : nm[i]? = some (nm[i]'(by rw [← S.len]; exact hi)) := List.getElem?_eq_getElem _
    have := S.at_ i _ _ h1 h2
    rw [e, ha] at this; cases this
theorem pick_len {nm : List Str} {p : Pick} (hn : (p.map (·.1)).Nodup) (hs : ∀ x ∈ p.map (·.1), x ∈ nm) : p.length ≤ nm.length := by
  rw [← List.length_map (f := (·.1)) (as := p)]
  exact List.Nodup.length_le_of_subset hn fun x hx => hs x hx
theorem look_nd {α β : Type} [DecidableEq α] {l : List (α × β)} (hn : (l.map (·.1)).Nodup) {p : α × β} (h : p ∈ l) : look l p.1 = some p.2 := by
  induction l with
  | nil => cases h
  | cons q l ih =>
    rw [List.map_cons, List.nodup_cons] at hn
    rw [look_cons]
    rcases List.mem_cons.mp h with rfl | h
    · rw [if_pos rfl]
    · rw [if_neg (fun (e : q.1 = p.1) => hn.1 (by rw [e]; exact List.mem_map_of_mem h)), ih hn.2 h]
theorem ViewD.dicL {G : Gs} {l : Addr} {ob : Obj × HO} {kds : List (Key × D)} (h : G l = some (.lk ob (.dic kds))) : ViewD G (.ref l) (.dic kds) := .inr (.inr ⟨l, kds, Eq.refl _, .inr ⟨ob, h⟩, Eq.refl _⟩)
theorem Side.lst {A : Ads} {G : Gs} {nm : List Str} {s dx rd o : Addr} {rs : List Addr} {rows : Rows} (S : Side A G nm s dx rd o rs rows) {a : Addr} {ds : List D} (ha : G a = some (.lst ds)) : a ≠ rd ∧ a ∉ rs := by
  refine ⟨?_, fun z => ?_⟩
  · rintro rfl; have := S.shop.dic; rw [ha] at this; cases this
  · obtain ⟨i, hi, e⟩ := List.getElem_of_mem z
    have h2 : rs[i]? = some rs[i] := List.getElem?_eq_getElem hi
    have h1 : nm[i]? = some (nm[i]'(by rw [← S.len]; exact hi)) := List.getElem?_eq_getElem _
    have := S.at_ i _ _ h1 h2
    rw [e, ha] at this; cases this
end Gh
end

section
set_option Elab.async false
set_option linter.all false
set_option maxRecDepth 100000
set_option maxHeartbeats 4000000
namespace Gh
open PySem PySem.Spec PyProof.Rows L2
/-! within -/
def sp_within : GSp := fun ds G PP _ => ∃ m lo hi : Int, ds = [.int m, .int lo, .int hi] ∧ PP (.bl (decide (lo ≤ m) && decide (m ≤ hi))) G
section
variable {P : Program} {w : World} {K : PySem.W.Frag} {mg : Str → Option Value} {base : Heap} {A : Ads}
theorem has_within (T : Tx K mg A) : HasF P w K mg base 1 "within" ["make", "low", "high"] sp_within := by
  refine has_body T.d_within sc_within (fun ds G P PX h => ?_) (fun f cdv A outer s H E hr F0 R0 ds G PP PX h => ?_)
  · obtain ⟨_, _, _, rfl, _⟩ := h; rfl
  have nd := nd_within
  obtain ⟨m, lo, hi, rfl, q⟩ := h
  refine gss_one (gs_retE (ge_chain (f := fun i j => decide (i ≤ j)) (f' := fun i j => decide (i ≤ j)) (fun _ => op_le) (fun _ => op_le) (ge_var 1 rfl) (ge_var 0 rfl) (ge_var 2 rfl)) ?_)
  exact q
end
end Gh
end

section
set_option Elab.async false
set_option linter.all false
set_option maxRecDepth 100000
set_option maxHeartbeats 4000000
namespace Gh
open PySem PySem.Spec PyProof.Rows L2
/-! whether a pick meets a wish: all_met, is_met -/
def metN (p : Pick) : D → Bool
  | .tup [.str x, .int lo, .int hi] => (match look p x with | some m => decide (lo ≤ m) && decide (m ≤ hi) | none => false)
  | _ => false
def metA (ns : List D) (p : Pick) : Bool := ns.all (metN p)
theorem need_ints {d : D} (h : d.need = true) : ∃ x lo hi, d = .tup [.str x, .int lo, .int hi] ∧ wareS x = true := by
  obtain ⟨a, b, c, rfl⟩ := need_form h
  have h : (wareS a && (b.make && (c.make && decide (b.toI ≤ c.toI)))) = true := h
  simp only [Bool.and_eq_true] at h
  obtain ⟨h1, h2, h3, _⟩ := h
  cases b with
  | int b => cases c with
    | int c => exact ⟨a, b, c, rfl, h1⟩
    | _ => cases h3
  | _ => cases h2
noncomputable def metB (rows : Rows) (wish : List D) (p : Pick) : Bool := decide (sortS (agOf rows wish p) = sortS (p.map (·.1))) && (metA wish p && p.all fun q => metA (needsOf rows q.1 q.2) p)
theorem eqv_strs (a b : List Str) : D.eqv (.lst (a.map .str)) (.lst (b.map .str)) = decide (a = b) := by
  unfold D.eqv
  rw [D.toP, D.toP]
  induction a generalizing b with
  | nil => cases b with
    | nil => rfl
    | cons y b => simp [D.toPs, PyData.eqv, PyData.eqvAll]
  | cons x a ih => cases b with
    | nil => simp [D.toPs, PyData.eqv, PyData.eqvAll]
    | cons y b =>
      have := ih b
      rw [PyData.eqv] at this ⊢
      rw [List.map_cons, List.map_cons, D.toPs, D.toPs, PyData.eqvAll, this, D.toP, D.toP, PyData.eqv]
      by_cases e : x = y
      · subst e; simp
      · simp [e]
theorem sortS_mem {xs : List Str} {x : Str} : x ∈ sortS xs ↔ x ∈ xs := (List.mergeSort_perm xs leCp).mem_iff
theorem nxP_pick {rows : Rows} {p : Pick} {x y : Str} (h : y ∈ nxP rows p x) : y ∈ p.flatMap fun q => (needsOf rows q.1 q.2).map D.nm := by
  unfold nxP at h
  cases e : look p x with
  | none => rw [e] at h; cases h
  | some m =>
    rw [e] at h
    exact List.mem_flatMap.mpr ⟨(x, m), look_mem e, h⟩
theorem agOf_sub {rows : Rows} {wish : List D} {p : Pick} {x : Str} (h : x ∈ agOf rows wish p) : x ∈ wish.map D.nm ++ p.flatMap fun q => (needsOf rows q.1 q.2).map D.nm := by
  unfold agOf at h
  split at h
  · rename_i hh
    refine AgR.sub hh.choose_spec (S := fun x => x ∈ wish.map D.nm ++ p.flatMap fun q => (needsOf rows q.1 q.2).map D.nm) (fun x hx => ?_) (fun x y _ hy => List.mem_append_right _ (nxP_pick hy)) x h
    rcases adds_mem.mp hx with z | z
    · cases z
    · exact List.mem_append_left _ z
  · cases h
theorem agOf_nd {rows : Rows} {wish : List D} {p : Pick} : (agOf rows wish p).Nodup := by
  unfold agOf
  split
  · rename_i hh
    exact AgR.nd hh.choose_spec (adds_nd .nil)
  · exact .nil
theorem wish8 {wish : List D} (hw : wishOk (.lst wish) = true) : wish.length ≤ 8 ∧ ∀ d ∈ wish, d.need = true := by
  have hw : (decide (wish.length ≤ 8) && wish.all D.need) = true := hw
  rw [Bool.and_eq_true] at hw
  exact ⟨of_decide_eq_true hw.1, fun d hd => List.all_eq_true.mp hw.2 d hd⟩
theorem need_wareS {d : D} (h : d.need = true) : wareS d.nm = true := by
  obtain ⟨x, lo, hi, rfl, hx⟩ := need_ints h
  exact hx
theorem needsOf_good {rows : Rows} (rg : RowsGood rows) (x : Str) (m : Int) : (needsOf rows x m).length ≤ 6 ∧ ∀ d ∈ needsOf rows x m, d.need = true := by
  refine ⟨?_, fun d hd => ?_⟩
  · unfold needsOf rowOf
    cases e : look rows x with
    | none => exact Nat.zero_le _
    | some r =>
      show ((look r m).getD []).length ≤ 6
      cases e2 : look r m with
      | none => exact Nat.zero_le _
      | some ns => exact (rg _ (look_mem e) _ (look_mem e2)).1
  · obtain ⟨p, hp, q, hq, hd⟩ := needsOf_mem hd
    exact (rg p hp q hq).2 d hd
theorem agOf_short {rows : Rows} {wish : List D} {p : Pick} (rg : RowsGood rows) (hw : wishOk (.lst wish) = true) (hp : p.length ≤ 9) : (agOf rows wish p).length < 64 := by
  have h1 := List.Nodup.length_le_of_subset (agOf_nd (rows := rows) (wish := wish) (p := p)) fun x hx => agOf_sub hx
  rw [List.length_append, List.length_map] at h1
  have h2 : (p.flatMap fun q => (needsOf rows q.1 q.2).map D.nm).length ≤ p.length * 6 := flatMap_len fun q hq => by
    rw [List.length_map]; exact (needsOf_good rg _ _).1
  have := (wish8 hw).1
  omega
theorem agOf_wareG {rows : Rows} {wish : List D} {p : Pick} (rg : RowsGood rows) (hw : wishOk (.lst wish) = true) : ∀ x ∈ agOf rows wish p, wareS x = true := fun x hx => by
  rcases List.mem_append.mp (agOf_sub hx) with z | z
  · obtain ⟨d, hd, rfl⟩ := List.mem_map.mp z
    exact need_wareS ((wish8 hw).2 d hd)
  · obtain ⟨q, hq, z⟩ := List.mem_flatMap.mp z
    obtain ⟨d, hd, rfl⟩ := List.mem_map.mp z
    exact need_wareS ((needsOf_good rg _ _).2 d hd)
theorem ok_strs {xs : List Str} (h : ∀ x ∈ xs, wareS x = true) : D.ok 64 (.lst (xs.map .str)) = true := by
  rw [D.ok_lst]
  exact D.oks_map fun x hx => D.ok_str (ware_ok (h x hx)).2.1
def sp_all_met : GSp := fun ds G PP _ => ∃ dn ns dp p, ds = [dn, dp] ∧ ViewD G dn (.lst ns) ∧ (∀ d ∈ ns, d.need = true) ∧ ViewD G dp (.dic (pickK p)) ∧ PP (.bl (metA ns p)) G
def sp_is_met (A : Ads) : GSp := fun ds G PP _ => ∃ s dx rd rows dw wish p pick, ds = [.ref s, dw, .ref p] ∧ ShopAt A G s dx rd rows ∧ Small rows ∧ RowsGood rows ∧ ViewD G dw (.lst wish) ∧ wishOk (.lst wish) = true ∧ G p = some (.dic (pickK pick)) ∧ p ≠ rd ∧ (pick.map (·.1)).Nodup ∧ PickOk rows pick ∧ pick.length ≤ 9 ∧ PP (.bl (metB rows wish pick)) G
end Gh
end

section
set_option Elab.async false
set_option linter.all false
set_option maxRecDepth 100000
set_option maxHeartbeats 4000000
namespace Gh
open PySem PySem.Spec PyProof.Rows L2
/-! sources with their stretches: sources_for, left_by, few_sources -/
inductive Src
  | pick (x : Str) (m : Int)
  | wish (k : Nat)
  | need (x : Str) (m : Int) (k : Nat)
deriving DecidableEq
def encSrc : Src → D
  | .pick x m => .tup [.str "pick", .str x, .int m]
  | .wish k => .tup [.str "wish", .int (k : Nat)]
  | .need x m k => .tup [.str "need", .str x, .int m, .int (k : Nat)]
/-- a source with its stretch -/
abbrev S3 := Src × Int × Int
def encS3 (s : S3) : D := .tup [encSrc s.1, .int s.2.1, .int s.2.2]
def D.lo : D → Int
  | .tup [_, .int a, _] => a
  | _ => 0
def D.hi : D → Int
  | .tup [_, _, .int a] => a
  | _ => 0
def wishSrc (x : Str) (ds : List (D × Nat)) : List S3 := ds.filterMap fun p => if p.1.nm = x then some (.wish p.2, p.1.lo, p.1.hi) else none
def needSrc (x : Str) (q : Str × Int) (ds : List (D × Nat)) : List S3 := ds.filterMap fun p => if p.1.nm = x then some (.need q.1 q.2 p.2, p.1.lo, p.1.hi) else none
def pickSrc (g : Pick) (x : Str) : List S3 := match look g x with
  | some m => [(.pick x m, m, m)]
  | none => []
def srcFor (rows : Rows) (wish : List D) (g : Pick) (x : Str) : List S3 := pickSrc g x ++ wishSrc x wish.zipIdx ++ g.flatMap fun q => needSrc x q (needsOf rows q.1 q.2).zipIdx
theorem wishSrc_app {x : Str} {a b : List (D × Nat)} : wishSrc x (a ++ b) = wishSrc x a ++ wishSrc x b := by unfold wishSrc; rw [List.filterMap_append]
theorem needSrc_app {x : Str} {q : Str × Int} {a b : List (D × Nat)} : needSrc x q (a ++ b) = needSrc x q a ++ needSrc x q b := by unfold needSrc; rw [List.filterMap_append]
theorem wishSrc_len {x : Str} {a : List (D × Nat)} : (wishSrc x a).length ≤ a.length := List.length_filterMap_le ..
theorem needSrc_len {x : Str} {q : Str × Int} {a : List (D × Nat)} : (needSrc x q a).length ≤ a.length := List.length_filterMap_le ..
theorem pickSrc_len {g : Pick} {x : Str} : (pickSrc g x).length ≤ 1 := by unfold pickSrc; split <;> simp
theorem zip_at {α : Type} {ds : List α} {i : Nat} {d : α} (h : ds[i]? = some d) : ds.zipIdx[i]? = some (d, i) := by rw [List.getElem?_zipIdx, h]; simp
theorem pick_le {rows : Rows} {p : Pick} (hn : (p.map (·.1)).Nodup) (hp : PickOk rows p) : p.length ≤ rows.length := by
  have h := List.Nodup.length_le_of_subset hn (l₂ := rows.map (·.1)) fun x hx => by
    obtain ⟨q, hq, rfl⟩ := List.mem_map.mp hx
    have h1 := (hp q hq).2
    unfold rowOf at h1
    cases e : look rows q.1 with
    | none => rw [e] at h1; cases h1
    | some r => exact List.mem_map_of_mem (look_mem e)
  rw [List.length_map, List.length_map] at h
  exact h
theorem pickK_kD0 {p : Pick} : ((pickK p).map fun kv => kD kv.1) = p.map fun q => D.str q.1 := by unfold pickK codeL; rw [List.map_map]; rfl
structure GrAt (A : Ads) (G : Gs) (rd : Addr) (rows : Rows) (e : Addr × Pick) : Prop where
  at_ : G e.1 = some (.dic (pickK e.2))
  ard : e.1 ≠ rd
  nd : (e.2.map (·.1)).Nodup
  po : PickOk rows e.2
def sp_sources_for (A : Ads) : GSp := fun ds G PP _ => ∃ (s dx rd : Addr) (rows : Rows) (dw : D) (wish : List D) (e : Addr × Pick) (x : Str), ds = [.ref s, dw, .ref e.1, .str x] ∧ ShopAt A G s dx rd rows ∧ Small rows ∧ RowsGood rows ∧ ViewD G dw (.lst wish) ∧ wishOk (.lst wish) = true ∧ GrAt A G rd rows e ∧
  ∀ l, G l = none → PP (.ref l) (gupd G l (.lst ((srcFor rows wish e.2 x).map encS3)))
section
variable {P : Program} {w : World} {K : PySem.W.Frag} {mg : Str → Option Value} {base : Heap} {A : Ads}
theorem has_sources_for (T : Tx K mg A) : HasF P w K mg base 4 "sources_for" ["shop", "wish", "granted", "ware"] (sp_sources_for A) := by
  refine has_body T.d_sources_for sc_sources_for (fun ds G P PX h => ?_) (fun f cdv _ outer s0 H E hr F0 R0 ds G PP PX h => ?_)
  · obtain ⟨_, _, _, _, _, _, _, _, rfl, _⟩ := h; rfl
  have nd := nd_sources_for
  obtain ⟨s, dx, rd, rows, dw, wish, e, x, rfl, S, sm, rg, hv, hw, he, q⟩ := h
  have hw8 := wish8 hw
  have hgl : e.2.length ≤ 12 := Nat.le_trans (pick_le he.nd he.po) sm.1
  have hps : s ≠ e.1 := by rintro rfl; have := S.ins; rw [he.at_] at this; cases this
  refine gss_cons (gs_own 4 nd (gn_lst gr_nil) ?_)
  refine gss_cut (fun ρ' G' => G' = G ∧ ρ' = [.dat (.ref s), .dat dw, .dat (.ref e.1), .dat (.str x), .own ((pickSrc e.2 x).map encS3), .unk, .unk, .unk]) (gs_if (gt_cmp (gc_in (ge_var 3 rfl) (gv_view (ge_var 2 rfl) (.dicR he.at_)) .dicS)) (fun hc => ?_) (fun hc => ?_)) (fun ρ' G' ⟨eG, eρ⟩ => ?_)
  · rw [pickK_val, Option.isSome_map] at hc
    obtain ⟨m, hm⟩ := Option.isSome_iff_exists.mp hc
    have ix : IxD (.dic (pickK e.2)) (.str x) (.int m) := .dicS (by rw [pickK_val, hm]; rfl)
    refine gss_one (gs_appI 4 rfl (ge_tup (gr_cons (ge_tup (gr_cons ge_str (gr_cons (ge_var 3 rfl) (gr_cons (ge_ix (gv_view (ge_var 2 rfl) (.dicR he.at_)) (ge_var 3 rfl) ix) gr_nil)))) (gr_cons (ge_ix (gv_view (ge_var 2 rfl) (.dicR he.at_)) (ge_var 3 rfl) ix) (gr_cons (ge_ix (gv_view (ge_var 2 rfl) (.dicR he.at_)) (ge_var 3 rfl) ix) gr_nil)))) (by decide) (ds' := (pickSrc e.2 x).map encS3) (by unfold pickSrc; rw [hm]; rfl) ⟨rfl, rfl⟩)
  · rw [pickK_val, Option.isSome_map] at hc
    refine gss_nil ⟨rfl, ?_⟩
    have : look e.2 x = none := by
      cases h : look e.2 x with
      | none => rfl
      | some m => rw [h] at hc; cases hc
    unfold pickSrc
    rw [this]; rfl
  subst eG eρ
  refine gss_cons (gs_for (fun _ => PassesOwn.never) (gi_enum T.blt (ge_var 1 rfl) hv) (fun i ρ' G'' => G'' = G' ∧ ∃ y5 y6, ρ' = [.dat (.ref s), .dat dw, .dat (.ref e.1), .dat (.str x), .own ((pickSrc e.2 x ++ wishSrc x (wish.zipIdx.take i)).map encS3), y5, y6, .unk]) ⟨rfl, .unk, .unk, by rw [List.take_zero]; simp [wishSrc]⟩ (fun i ρ' G'' h => by obtain ⟨rfl, _⟩ := h; exact hv) (fun i d ρ' G'' hi h => ?_) (fun ρ' G'' h => ?_))
  · obtain ⟨rfl, y5, y6, rfl⟩ := h
    obtain ⟨d', ed, rfl⟩ := enumD_get hi
    obtain ⟨z, lo, hhi, rfl, hz⟩ := need_ints (hw8.2 d' (List.mem_of_getElem? ed))
    have hlen : ((pickSrc e.2 x ++ wishSrc x (wish.zipIdx.take i)).map encS3).length < 100000 := by
      have h1 := pickSrc_len (g := e.2) (x := x)
      have h2 := wishSrc_len (x := x) (a := wish.zipIdx.take i)
      rw [List.length_take, List.length_zipIdx] at h2
      rw [List.length_map, List.length_append]; omega
    have hstep : wishSrc x (wish.zipIdx.take (i + 1)) = wishSrc x (wish.zipIdx.take i) ++ (if z = x then [(.wish i, lo, hhi)] else []) := by
      rw [take_snoc (zip_at ed), wishSrc_app]
      congr 1
      show List.filterMap _ [_] = _
      by_cases h : z = x
      · rw [if_pos h]; exact List.filterMap_cons_some (if_pos (show z = x from h))
      · rw [if_neg h]; exact List.filterMap_cons_none (if_neg (show ¬ z = x from h))
    refine ⟨_, _, gg_tup (ggs_cons (gg_name 5 nd) (ggs_cons (gg_name 6 nd) ggs_nil)), ?_⟩
    refine gss_one (gs_if (gt_cmp (gc_eqS (ge_ix (gv_ge (ge_var 6 rfl)) ge_int (.tup rfl)) (ge_var 3 rfl))) (fun hc => ?_) (fun hc => ?_))
    · have hc : z = x := by simpa using hc
      refine gss_one (gs_appI 4 rfl (ge_tup (gr_cons (ge_tup (gr_cons ge_str (gr_cons (ge_var 5 rfl) gr_nil))) (gr_cons (ge_ix (d := .int lo) (gv_ge (ge_var 6 rfl)) ge_int (.tup rfl)) (gr_cons (ge_ix (d := .int hhi) (gv_ge (ge_var 6 rfl)) ge_int (.tup rfl)) gr_nil)))) hlen (ds' := (pickSrc e.2 x ++ wishSrc x (wish.zipIdx.take (i + 1))).map encS3) ?_ ⟨rfl, _, _, rfl⟩)
      rw [hstep, if_pos hc]; simp only [List.map_append, ← List.append_assoc]; rfl
    · have hc : ¬ z = x := by simpa using hc
      refine gss_nil ⟨rfl, .dat (.int (i : Nat)), .dat (.tup [.str z, .int lo, .int hhi]), ?_⟩
      rw [hstep, if_neg hc, List.append_nil]; rfl
  obtain ⟨rfl, y5, y6, rfl⟩ := h
  rw [show (enumD wish).length = wish.zipIdx.length from by rw [enumD_length, List.length_zipIdx], List.take_length]
  refine gss_cons (gs_forD (fun _ => PassesOwn.never) he.at_ (fun ob => ge_var 2 rfl) (fun i ρ' G' => G' = G'' ∧ ∃ y5 y6 y7, ρ' = [.dat (.ref s), .dat dw, .dat (.ref e.1), .dat (.str x), .own ((pickSrc e.2 x ++ wishSrc x wish.zipIdx ++ (e.2.take i).flatMap fun q => needSrc x q (needsOf rows q.1 q.2).zipIdx).map encS3), y5, y6, y7]) ⟨rfl, y5, y6, .unk, by rw [List.take_zero]; simp⟩ (fun ob i d ρ' G' hi h h3 => ?_) (fun ρ' G' h h3 => ?_))
  · obtain ⟨rfl, y5, y6, y7, rfl⟩ := h
    rw [pickK_kD0, List.getElem?_map] at hi
    obtain ⟨kv, ek, ed⟩ : ∃ kv, e.2[i]? = some kv ∧ d = .str kv.1 := by
      cases ek : e.2[i]? with
      | none => rw [ek] at hi; cases hi
      | some kv => rw [ek] at hi; cases hi; exact ⟨kv, rfl, rfl⟩
    subst ed
    have hm := List.mem_of_getElem? ek
    have hil : i < e.2.length := (List.getElem?_eq_some_iff.mp ek).1
    obtain ⟨hwx, hns⟩ := he.po kv hm
    obtain ⟨ns, hns⟩ := Option.isSome_iff_exists.mp hns
    have hno : needsOf rows kv.1 kv.2 = ns := by unfold needsOf; rw [hns]; rfl
    have hng : ns.length ≤ 6 ∧ ∀ d ∈ ns, d.need = true := by rw [← hno]; exact needsOf_good rg _ _
    have SL : ShopAt A (gupd G' e.1 (.lk ob (.dic (pickK e.2)))) s dx rd rows := ⟨by rw [gupd_ne hps]; exact S.ins, by rw [gupd_ne (Ne.symm he.ard)]; exact S.dic⟩
    have hv2 : ViewD (gupd G' e.1 (.lk ob (.dic (pickK e.2)))) (.ref e.1) (.dic (pickK e.2)) := ViewD.dicL gupd_same
    have ix : IxD (.dic (pickK e.2)) (.str kv.1) (.int kv.2) := .dicS (by rw [pickK_val, look_nd he.nd hm]; rfl)
    have hpre : (pickSrc e.2 x ++ wishSrc x wish.zipIdx ++ (e.2.take i).flatMap fun q => needSrc x q (needsOf rows q.1 q.2).zipIdx).length ≤ 100 := by
      have h1 := pickSrc_len (g := e.2) (x := x)
      have h2 := wishSrc_len (x := x) (a := wish.zipIdx)
      rw [List.length_zipIdx] at h2
      have h3 : ((e.2.take i).flatMap fun q => needSrc x q (needsOf rows q.1 q.2).zipIdx).length ≤ (e.2.take i).length * 6 := flatMap_len fun q _ => by
        have h4 := needSrc_len (x := x) (q := q) (a := (needsOf rows q.1 q.2).zipIdx)
        rw [List.length_zipIdx] at h4
        exact Nat.le_trans h4 (needsOf_good rg _ _).1
      rw [List.length_take] at h3
      rw [List.length_append, List.length_append]; omega
    have hfin : (pickSrc e.2 x ++ wishSrc x wish.zipIdx ++ (e.2.take (i + 1)).flatMap fun q => needSrc x q (needsOf rows q.1 q.2).zipIdx) = (pickSrc e.2 x ++ wishSrc x wish.zipIdx ++ (e.2.take i).flatMap fun q => needSrc x q (needsOf rows q.1 q.2).zipIdx) ++ needSrc x kv ns.zipIdx := by
      rw [take_snoc ek, List.flatMap_append, ← List.append_assoc]
      simp [hno]
    rw [hfin]
    generalize (pickSrc e.2 x ++ wishSrc x wish.zipIdx ++ (e.2.take i).flatMap fun q => needSrc x q (needsOf rows q.1 q.2).zipIdx) = pre at hpre ⊢
    clear hfin
    refine ⟨_, _, gg_name 7 nd, ?_⟩
    refine gss_one (gs_for (fun _ => PassesOwn.never) (gi_enum (xs := ns) T.blt (ge_n (gn_gw (gw_meth (pl := _) T.k_Shop.cls (has_Shop_needs T) (ge_var 0 rfl) SL.ins rfl (gr_cons (ge_var 7 rfl) (gr_cons (ge_ix (d := .int kv.2) (gv_view (ge_var 2 rfl) hv2) (ge_var 7 rfl) ix) gr_nil)) ⟨s, dx, rd, rows, _, .str kv.1, _, .int kv.2, rfl, SL, .rfl, rfl, fit_ware hwx, .rfl, rfl, fun z => (by rw [hasB_of hwx hns] at z; cases z), fun _ l ns' h' hl => (by rw [show look (rowOf rows (D.str kv.1).toS) (D.int kv.2).toI = look (rowOf rows kv.1) kv.2 from rfl, hns] at h'; cases h'; exact ⟨l, rfl, hl, rfl⟩)⟩))) .rfl) (fun k ρ' G3 => G3 = gupd G' e.1 (.lk ob (.dic (pickK e.2))) ∧ ∃ y5 y6, ρ' = [.dat (.ref s), .dat dw, .dat (.ref e.1), .dat (.str x), .own ((pre ++ needSrc x kv (ns.zipIdx.take k)).map encS3), y5, y6, .dat (.str kv.1)]) ⟨rfl, y5, y6, by rw [List.take_zero]; simp [needSrc]⟩ (fun _ _ _ _ => .rfl) (fun k d ρ' G3 hk h => ?_) (fun ρ' G3 h => ?_))
    · obtain ⟨rfl, y5, y6, rfl⟩ := h
      obtain ⟨d', ed, rfl⟩ := enumD_get hk
      obtain ⟨z, lo, hhi, rfl, hz⟩ := need_ints (hng.2 d' (List.mem_of_getElem? ed))
      have hlen : ((pre ++ needSrc x kv (ns.zipIdx.take k)).map encS3).length < 100000 := by
        have h2 := needSrc_len (x := x) (q := kv) (a := ns.zipIdx.take k)
        rw [List.length_take, List.length_zipIdx] at h2
        rw [List.length_map, List.length_append]; omega
      have hstep : needSrc x kv (ns.zipIdx.take (k + 1)) = needSrc x kv (ns.zipIdx.take k) ++ (if z = x then [(.need kv.1 kv.2 k, lo, hhi)] else []) := by
        rw [take_snoc (zip_at ed), needSrc_app]
        congr 1
        show List.filterMap _ [_] = _
        by_cases h : z = x
        · rw [if_pos h]; exact List.filterMap_cons_some (if_pos (show z = x from h))
        · rw [if_neg h]; exact List.filterMap_cons_none (if_neg (show ¬ z = x from h))
      refine ⟨_, _, gg_tup (ggs_cons (gg_name 5 nd) (ggs_cons (gg_name 6 nd) ggs_nil)), ?_⟩
      refine gss_one (gs_if (gt_cmp (gc_eqS (ge_ix (gv_ge (ge_var 6 rfl)) ge_int (.tup rfl)) (ge_var 3 rfl))) (fun hc => ?_) (fun hc => ?_))
      · have hc : z = x := by simpa using hc
        refine gss_one (gs_appI 4 rfl (ge_tup (gr_cons (ge_tup (gr_cons ge_str (gr_cons (ge_var 7 rfl) (gr_cons (ge_ix (d := .int kv.2) (gv_view (ge_var 2 rfl) hv2) (ge_var 7 rfl) ix) (gr_cons (ge_var 5 rfl) gr_nil))))) (gr_cons (ge_ix (d := .int lo) (gv_ge (ge_var 6 rfl)) ge_int (.tup rfl)) (gr_cons (ge_ix (d := .int hhi) (gv_ge (ge_var 6 rfl)) ge_int (.tup rfl)) gr_nil)))) hlen (ds' := (pre ++ needSrc x kv (ns.zipIdx.take (k + 1))).map encS3) ?_ ⟨rfl, _, _, rfl⟩)
        rw [hstep, if_pos hc]; simp only [List.map_append, ← List.append_assoc]; rfl
      · have hc : ¬ z = x := by simpa using hc
        refine gss_nil ⟨rfl, .dat (.int (k : Nat)), .dat (.tup [.str z, .int lo, .int hhi]), ?_⟩
        rw [hstep, if_neg hc, List.append_nil]; rfl
    · obtain ⟨rfl, y5, y6, rfl⟩ := h
      rw [show (enumD ns).length = ns.zipIdx.length from by rw [enumD_length, List.length_zipIdx], List.take_length]
      exact ⟨G', rfl, h3, rfl, _, _, _, rfl⟩
  · obtain ⟨rfl, y5, y6, y7, rfl⟩ := h
    have hl : (pickK e.2).length = e.2.length := by unfold pickK codeL; rw [List.length_map]
    rw [hl, List.take_length]
    exact gss_one (gs_ret (gf_ownR 4 rfl q))
end
end Gh
end

section
set_option Elab.async false
set_option linter.all false
set_option maxRecDepth 100000
set_option maxHeartbeats 4000000
namespace Gh
open PySem PySem.Spec PyProof.Rows L2
/-! left_by, few_sources, rests_on -/
def inS (ss : List S3) (m : Int) : Bool := ss.all fun s => decide (s.2.1 ≤ m) && decide (m ≤ s.2.2)
def makesD (rows : Rows) (x : Str) : List Int := (sortI ((rowOf rows x).map (·.1))).reverse
def leftP (rows : Rows) (x : Str) (ss : List S3) : List Int := (makesD rows x).filter (inS ss)
def SrcOk : Src → Prop
  | .pick x _ => wareS x = true
  | .wish _ => True
  | .need x _ _ => wareS x = true
theorem srcOk_ok {s : Src} (h : SrcOk s) : D.ok 9 (encSrc s) = true := by
  cases s with
  | pick x m =>
    have h : wareS x = true := h
    unfold encSrc
    rw [D.ok_tup, D.oks_cons, D.oks_cons, D.oks_cons, D.ok_str (show PyData.strOk ("pick" : Str) = true by decide +kernel), D.ok_str (ware_ok h).2.1, D.ok_int, D.oks_nil]; rfl
  | wish k =>
    unfold encSrc
    rw [D.ok_tup, D.oks_cons, D.oks_cons, D.ok_str (show PyData.strOk ("wish" : Str) = true by decide +kernel), D.ok_int, D.oks_nil]; rfl
  | need x m k =>
    have h : wareS x = true := h
    unfold encSrc
    rw [D.ok_tup, D.oks_cons, D.oks_cons, D.oks_cons, D.oks_cons, D.ok_str (show PyData.strOk ("need" : Str) = true by decide +kernel), D.ok_str (ware_ok h).2.1, D.ok_int, D.ok_int, D.oks_nil]; rfl
theorem s3_ok {s : S3} (h : SrcOk s.1) : D.ok 10 (encS3 s) = true := by
  unfold encS3
  rw [D.ok_tup, D.oks_cons, D.oks_cons, D.oks_cons, srcOk_ok h, D.ok_int, D.ok_int, D.oks_nil]; rfl
theorem eqv_ints (a b : List Int) : D.eqv (.lst (a.map .int)) (.lst (b.map .int)) = decide (a = b) := by
  unfold D.eqv
  rw [D.toP, D.toP]
  induction a generalizing b with
  | nil => cases b with
    | nil => rfl
    | cons y b => simp [D.toPs, PyData.eqv, PyData.eqvAll]
  | cons x a ih => cases b with
    | nil => simp [D.toPs, PyData.eqv, PyData.eqvAll]
    | cons y b =>
      have := ih b
      rw [PyData.eqv] at this ⊢
      rw [List.map_cons, List.map_cons, D.toPs, D.toPs, PyData.eqvAll, this, D.toP, D.toP, PyData.eqv]
      by_cases e : x = y
      · subst e; simp
      · simp [e]
theorem eqv_src (a b : Src) : PyData.eqv (encSrc a).toP (encSrc b).toP = decide (a = b) := by
  have h1 : (("pick" : Str) = "need") = False := eq_false (by decide +kernel)
  have h2 : (("need" : Str) = "pick") = False := eq_false (by decide +kernel)
  cases a <;> cases b <;> simp [encSrc, D.toP, D.toPs, PyData.eqv, PyData.eqvAll, h1, h2]
  all_goals
    rw [Bool.eq_iff_iff]
    simp [Int.ofNat_inj]
theorem eqv_s3 (a b : S3) : D.eqv (encS3 a) (encS3 b) = decide (a = b) := by
  obtain ⟨sa, la, ha⟩ := a
  obtain ⟨sb, lb, hb⟩ := b
  unfold D.eqv encS3
  simp only [D.toP, D.toPs, PyData.eqv, PyData.eqvAll, eqv_src]
  rw [Bool.eq_iff_iff]
  simp
def sp_left_by (A : Ads) : GSp := fun ds G PP _ => ∃ (s dx rd : Addr) (rows : Rows) (x : Str) (dss : D) (ss : List S3), ds = [.ref s, .str x, dss] ∧ ShopAt A G s dx rd rows ∧ Small rows ∧ wareS x = true ∧ ViewD G dss (.lst (ss.map encS3)) ∧ ss.length < 1000 ∧ ∀ l, G l = none → PP (.ref l) (gupd G l (.lst ((leftP rows x ss).map .int)))
theorem makesD_len {rows : Rows} {x : Str} (sm : Small rows) : (makesD rows x).length ≤ 8 := by
  unfold makesD sortI
  rw [List.length_reverse, (List.mergeSort_perm _ _).length_eq, List.length_map]
  exact sm.row x
/-- without a source -/
def lessS (kept : List S3) (one : S3) : List S3 := kept.filter fun o => !decide (o = one)
def fewStep (rows : Rows) (x : Str) (left : List Int) (kept : List S3) (one : S3) : List S3 := if lessS kept one ≠ [] ∧ leftP rows x (lessS kept one) = left then lessS kept one else kept
def fewK (rows : Rows) (x : Str) (ss : List S3) : List S3 := ss.reverse.foldl (fewStep rows x (leftP rows x ss)) ss
def fewP (rows : Rows) (x : Str) (ss : List S3) : List Src := (fewK rows x ss).map (·.1)
def sp_few (A : Ads) : GSp := fun ds G PP _ => ∃ (s dx rd : Addr) (rows : Rows) (x : Str) (dss : D) (ss : List S3), ds = [.ref s, .str x, dss] ∧ ShopAt A G s dx rd rows ∧ Small rows ∧ wareS x = true ∧ ViewD G dss (.lst (ss.map encS3)) ∧ ss.length < 1000 ∧ (∀ o ∈ ss, SrcOk o.1) ∧ ∀ l, G l = none → PP (.ref l) (gupd G l (.lst ((fewP rows x ss).map encSrc)))
theorem lessS_sub {kept : List S3} {one : S3} {o : S3} (h : o ∈ lessS kept one) : o ∈ kept := (List.mem_filter.mp h).1
theorem lessS_len {kept : List S3} {one : S3} : (lessS kept one).length ≤ kept.length := List.length_filter_le ..
theorem fewStep_sub {rows : Rows} {x : Str} {left : List Int} {kept : List S3} {one : S3} : (∀ o ∈ fewStep rows x left kept one, o ∈ kept) ∧ (fewStep rows x left kept one).length ≤ kept.length := by
  unfold fewStep
  split
  · exact ⟨fun o h => lessS_sub h, lessS_len⟩
  · exact ⟨fun o h => h, Nat.le_refl _⟩
section
variable {P : Program} {w : World} {K : PySem.W.Frag} {mg : Str → Option Value} {base : Heap} {A : Ads}
theorem has_left_by (T : Tx K mg A) : HasF P w K mg base 4 "left_by" ["shop", "ware", "sources"] (sp_left_by A) := by
  refine has_body T.d_left_by sc_left_by (fun ds G P PX h => ?_) (fun f cdv _ outer s0 H E hr F0 R0 ds G PP PX h => ?_)
  · obtain ⟨_, _, _, _, _, _, _, rfl, _⟩ := h; rfl
  have nd := nd_left_by
  obtain ⟨s, dx, rd, rows, x, dss, ss, rfl, S, sm, hx, hv, hl, q⟩ := h
  refine gss_cons (gs_own 3 nd (gn_lst gr_nil) ?_)
  have hml := makesD_len (x := x) sm
  refine gss_cons (gs_for (fun _ => PassesOwn.never) (gi_rev T.blt (ge_n (gn_gw (gw_meth (pl := _) T.k_Shop.cls (has_Shop_makes T) (ge_var 0 rfl) S.ins rfl (gr_cons (ge_var 1 rfl) gr_nil) ⟨s, dx, rd, rows, _, .str x, rfl, S, sm, .rfl, rfl, fit_ware hx, fun z => (by rw [show (D.str x).ware = wareS x from rfl, hx] at z; cases z), fun _ l hl => ⟨l, rfl, hl, rfl⟩⟩))) .rfl) (fun i ρ' G' => G' = G ∧ ∃ (y4 : SV), ρ' = [.dat (.ref s), .dat (.str x), .dat dss, .own ((((makesD rows x).take i).filter (inS ss)).map .int), y4, .unk, .unk, .unk]) ⟨rfl, .unk, rfl⟩ (fun _ _ _ _ => .rfl) (fun i d ρ' G' hi h => ?_) (fun ρ' G' h => ?_))
  · obtain ⟨rfl, y4, rfl⟩ := h
    rw [← List.map_reverse, List.getElem?_map] at hi
    replace hi : ((sortI ((rowOf rows x).map (·.1))).reverse[i]?).map D.int = some d := hi
    cases em : (sortI ((rowOf rows x).map (·.1))).reverse[i]? with
    | none => rw [em] at hi; cases hi
    | some m =>
    rw [em] at hi; cases hi
    have em : (makesD rows x)[i]? = some m := em
    have hstep : ((makesD rows x).take (i + 1)).filter (inS ss) = ((makesD rows x).take i).filter (inS ss) ++ (if inS ss m = true then [m] else []) := by
      rw [take_snoc em, List.filter_append]
      congr 1
      cases h : inS ss m
      · rw [if_neg (by simp)]; simp [h]
      · rw [if_pos rfl]; simp [h]
    refine ⟨_, _, gg_name 4 nd, ?_⟩
    refine gss_one (gs_if (x := inS ss m) (gt_is (gt_val (ge_all (bs := ss.map fun s => decide (s.2.1 ≤ m) && decide (m ≤ s.2.2)) T.blt (ge_n (gn_is (gn_lc (ys := ss) (enc := encS3) (f := fun s => .bl (decide (s.2.1 ≤ m) && decide (m ≤ s.2.2))) [("source", 5), ("low", 6), ("high", 7)] nd (gic_lst (ge_var 2 rfl) hv) (blkOk_by (N := N_left_by) (sc := defScope s_left_by) (by decide +kernel)) (fun y hy => gg_tup (ggs_cons (gg_name 5 nd) (ggs_cons (gg_name 6 nd) (ggs_cons (gg_name 7 nd) ggs_nil)))) (by decide) (fun y hy => ge_gw (gw_call (has_within T) (gr_cons (ge_var 4 rfl) (gr_cons (ge_var 6 rfl) (gr_cons (ge_var 7 rfl) gr_nil))) ⟨m, y.2.1, y.2.2, rfl, rfl, rfl⟩)) (by omega) ?_) (by rw [List.map_map]; rfl))))) (by unfold inS; rw [List.all_map]; rfl)) (fun hc => ?_) (fun hc => ?_))
    · rintro j hj ⟨x, e1, e2⟩
      have : j = 5 ∨ j = 6 ∨ j = 7 := by simpa using hj
      rcases this with rfl | rfl | rfl
      · cases e1; cases e2
      · cases e1; cases e2
      · cases e1; cases e2
    · refine gss_one (gs_appI 3 rfl (ge_var 4 rfl) ?_ (ds' := (((makesD rows x).take (i + 1)).filter (inS ss)).map .int) ?_ ⟨rfl, .dat (.int m), rfl⟩)
      · rw [List.length_map]
        have h1 := List.length_filter_le (inS ss) ((makesD rows x).take i)
        have h2 : ((makesD rows x).take i).length ≤ 8 := by rw [List.length_take]; omega
        omega
      · rw [hstep, if_pos hc, List.map_append]; rfl
    · refine gss_nil ⟨rfl, .dat (.int m), ?_⟩
      rw [hstep, if_neg (by rw [hc]; simp), List.append_nil]; rfl
  · obtain ⟨rfl, y4, rfl⟩ := h
    have e : ((sortI ((rowOf rows x).map (·.1))).map D.int).reverse.length = (makesD rows x).length := by rw [List.length_reverse, List.length_map]; unfold makesD; rw [List.length_reverse]
    replace e : ((sortI ((rowOf rows (D.str x).toS).map (·.1))).map D.int).reverse.length = (makesD rows x).length := e
    rw [e, List.take_length]
    exact gss_one (gs_ret (gf_ownR 3 rfl q))
theorem has_few_sources (T : Tx K mg A) : HasF P w K mg base 5 "few_sources" ["shop", "ware", "sources"] (sp_few A) := by
  refine has_body T.d_few_sources sc_few_sources (fun ds G P PX h => ?_) (fun f cdv _ outer s0 H E hr F0 R0 ds G PP PX h => ?_)
  · obtain ⟨_, _, _, _, _, _, _, rfl, _⟩ := h; rfl
  have nd := nd_few_sources
  obtain ⟨s, dx, rd, rows, x, dss, ss, rfl, S, sm, hx, hv, hl, hok, q⟩ := h
  refine gss_cons (gs_set 3 nd (d := .lst ((leftP rows x ss).map .int)) (ge_n (gn_gw (gw_call (has_left_by T) (gr_cons (ge_var 0 rfl) (gr_cons (ge_var 1 rfl) (gr_cons (ge_var 2 rfl) gr_nil))) ⟨s, dx, rd, rows, x, dss, ss, rfl, S, sm, hx, hv, hl, fun l hl => ⟨l, rfl, hl, rfl⟩⟩))) ?_)
  refine gss_cons (gs_set 4 nd (d := .lst (ss.map encS3)) (ge_n (gn_list T.blt (gv_view (ge_var 2 rfl) hv))) ?_)
  refine gss_cons (gs_for (fun _ => PassesOwn.never) (gi_rev T.blt (ge_var 2 rfl) hv) (fun i ρ' G' => G' = G ∧ ∃ (kept : List S3) (y5 y6 : SV), ρ' = [.dat (.ref s), .dat (.str x), .dat dss, .dat (.lst ((leftP rows x ss).map .int)), .dat (.lst (kept.map encS3)), y5, y6, .unk, .unk, .unk, .unk] ∧ kept = (ss.reverse.take i).foldl (fewStep rows x (leftP rows x ss)) ss ∧ (∀ o ∈ kept, o ∈ ss) ∧ kept.length ≤ ss.length) ⟨rfl, ss, _, _, rfl, rfl, fun _ h => h, Nat.le_refl _⟩ (fun i ρ' G' h => by obtain ⟨rfl, _⟩ := h; exact hv) (fun i d ρ' G' hi h => ?_) (fun ρ' G' h => ?_))
  · obtain ⟨rfl, kept, y5, y6, rfl, hk, hks, hkl⟩ := h
    rw [← List.map_reverse, List.getElem?_map] at hi
    cases eo : ss.reverse[i]? with
    | none => rw [eo] at hi; cases hi
    | some one =>
    rw [eo] at hi; cases hi
    have hone : one ∈ ss := List.mem_reverse.mp (List.mem_of_getElem? eo)
    have hk' : fewStep rows x (leftP rows x ss) kept one = (ss.reverse.take (i + 1)).foldl (fewStep rows x (leftP rows x ss)) ss := by rw [take_snoc eo, List.foldl_append, ← hk]; rfl
    have hfs := fewStep_sub (rows := rows) (x := x) (left := leftP rows x ss) (kept := kept) (one := one)
    refine ⟨_, _, gg_name 5 nd, ?_⟩
    refine gss_cons (gs_lcIf 6 (ys := kept) (enc := encS3) (f := encS3) (pr := fun o => !decide (o = one)) [("other", 7)] nd (gic_lst (ge_var 4 rfl) .rfl) (blkOk_by (N := N_few_sources) (sc := defScope s_few_sources) (by decide +kernel)) (fun y hy => gg_name 7 nd) (by decide) (fun y hy => gt_is (gt_cmp (gc_neD (gv_ge (ge_var 7 rfl)) (gv_ge (ge_var 5 rfl)) (D.ok_mono 10 64 _ (by decide) (s3_ok (hok y (hks y hy)))) (D.ok_mono 10 64 _ (by decide) (s3_ok (hok one hone))))) (by rw [eqv_s3])) (fun y hy _ => ge_var 7 rfl) (by omega) ?_ ?_)
    · rintro j hj ⟨x, e1, e2⟩
      have : j = 7 := by simpa using hj
      subst this
      cases e1; cases e2
    refine gss_frz 6 rfl ?_
    show GSs _ _ [.dat (.ref s), .dat (.str x), .dat dss, .dat (.lst ((leftP rows x ss).map .int)), .dat (.lst (kept.map encS3)), .dat (encS3 one), .dat (.lst ((lessS kept one).map encS3)), .unk, .unk, .unk, .unk] _ _
    have hll := lessS_len (kept := kept) (one := one)
    have oki : ∀ ms : List Int, D.ok 64 (.lst (ms.map .int)) = true := fun ms => by rw [D.ok_lst]; exact D.oks_map fun _ _ => D.ok_int
    refine gss_one (gs_if (x := decide (lessS kept one ≠ [] ∧ leftP rows x (lessS kept one) = leftP rows x ss)) (gt_is (gt_w (gtw_and (gt_cmp (gc_gt (ge_len T.blt (gv_ge (ge_var 6 rfl)) .lst) ge_int)) fun _ => (gtw_and1 (gt_is (gt_cmp (gc_eqD (gv_ge (ge_n (gn_gw (gw_call (has_left_by T) (gr_cons (ge_var 0 rfl) (gr_cons (ge_var 1 rfl) (gr_cons (ge_var 6 rfl) gr_nil))) ⟨s, dx, rd, rows, x, _, lessS kept one, rfl, S, sm, hx, .rfl, by omega, fun l hl => ⟨l, rfl, hl, rfl⟩⟩)))) (gv_ge (ge_var 3 rfl)) (oki _) (oki _))) (eqv_ints _ _))))) ?_) (fun hc => ?_) (fun hc => ?_))
    · rw [List.length_map, Bool.eq_iff_iff, Bool.and_eq_true, decide_eq_true_eq, decide_eq_true_eq, decide_eq_true_eq]
      have : (0 : Int) < ((lessS kept one).length : Int) ↔ lessS kept one ≠ [] := by rw [← List.length_pos_iff]; omega
      exact and_congr_left fun _ => this
    · have hc := of_decide_eq_true hc
      have e : fewStep rows x (leftP rows x ss) kept one = lessS kept one := by unfold fewStep; exact if_pos hc
      refine gss_one (gs_set 4 nd (ge_var 6 rfl) ⟨rfl, lessS kept one, _, _, rfl, by rw [← e, hk'], fun o ho => hks o (lessS_sub ho), by omega⟩)
    · have hc := of_decide_eq_false hc
      have e : fewStep rows x (leftP rows x ss) kept one = kept := by unfold fewStep; exact if_neg hc
      exact gss_nil ⟨rfl, kept, _, _, rfl, by rw [← hk', e], hks, hkl⟩
  · obtain ⟨rfl, kept, y5, y6, rfl, hk, hks, hkl⟩ := h
    rw [List.length_reverse, List.length_map, ← List.length_reverse (as := ss), List.take_length] at hk
    refine gss_one (gs_ret (gf_n (gn_lc (ys := kept) (enc := encS3) (f := fun s => encSrc s.1) [("source", 8), ("low", 9), ("high", 10)] nd (gic_lst (ge_var 4 rfl) .rfl) (blkOk_by (N := N_few_sources) (sc := defScope s_few_sources) (by decide +kernel)) (fun y hy => gg_tup (ggs_cons (gg_name 8 nd) (ggs_cons (gg_name 9 nd) (ggs_cons (gg_name 10 nd) ggs_nil)))) (by decide) (fun y hy => ge_var 8 rfl) (by omega) ?_) (fun l hl => ?_)))
    · rintro j hj ⟨x, e1, e2⟩
      have : j = 8 ∨ j = 9 ∨ j = 10 := by simpa using hj
      rcases this with rfl | rfl | rfl
      · cases e1; cases e2
      · cases e1; cases e2
      · cases e1; cases e2
    · have e : kept.map (fun s => encSrc s.1) = (fewP rows x ss).map encSrc := by unfold fewP fewK; rw [← hk, List.map_map]; rfl
      rw [e]; exact q l hl
end
end Gh
end

section
set_option Elab.async false
set_option linter.all false
set_option maxRecDepth 100000
set_option maxHeartbeats 4000000
namespace Gh
open PySem PySem.Spec PyProof.Rows L2
/-! reasons; rests_on, dead_end -/
mutual
inductive Rsn
  | mk (x : Str) (ss : List Src) (bs : Brs)
inductive Brs
  | nil
  | cons (m : Int) (r : Rsn) (bs : Brs)
end
mutual
def encR : Rsn → D
  | .mk x ss bs => .tup [.str x, .lst (ss.map encSrc), .lst (encB bs)]
def encB : Brs → List D
  | .nil => []
  | .cons m r bs => .tup [.int m, encR r] :: encB bs
end
def Src.on : Src → Str → Bool
  | .pick y _, x => decide (y = x)
  | .wish _, _ => false
  | .need y _ _, x => decide (y = x)
mutual
def Rsn.on : Rsn → Str → Bool
  | .mk _ ss bs, x => ss.any (fun s => s.on x) || bs.on x
def Brs.on : Brs → Str → Bool
  | .nil, _ => false
  | .cons _ r bs, x => r.on x || bs.on x
end
mutual
def Rsn.dep : Rsn → Nat
  | .mk _ _ bs => bs.dep
def Brs.dep : Brs → Nat
  | .nil => 0
  | .cons _ r bs => max (r.dep + 1) bs.dep
end
def Brs.list : Brs → List (Int × Rsn)
  | .nil => []
  | .cons m r bs => (m, r) :: bs.list
def Brs.of : List (Int × Rsn) → Brs
  | [] => .nil
  | b :: bs => .cons b.1 b.2 (Brs.of bs)
def encBr (b : Int × Rsn) : D := .tup [.int b.1, encR b.2]
theorem Brs.list_of : ∀ bs, (Brs.of bs).list = bs
  | [] => rfl
  | b :: bs => by rw [Brs.of, Brs.list, Brs.list_of bs]
theorem encB_list : ∀ bs : Brs, encB bs = bs.list.map encBr
  | .nil => by rw [encB]; rfl
  | .cons m r bs => by rw [encB, encB_list bs]; rfl
theorem Brs.on_list (x : Str) : ∀ bs : Brs, bs.on x = bs.list.any fun b => b.2.on x
  | .nil => by rw [Brs.on]; rfl
  | .cons m r bs => by rw [Brs.on, Brs.on_list x bs]; rfl
theorem Brs.dep_list : ∀ (bs : Brs), ∀ b ∈ bs.list, b.2.dep + 1 ≤ bs.dep
  | .nil, _, h => by cases h
  | .cons m r bs, b, h => by
    rw [Brs.dep]
    rcases List.mem_cons.mp h with rfl | h
    · exact Nat.le_max_left _ _
    · exact Nat.le_trans (bs.dep_list b h) (Nat.le_max_right _ _)
theorem Brs.dep_of {n : Nat} : ∀ {bs : List (Int × Rsn)}, (∀ b ∈ bs, b.2.dep + 1 ≤ n) → (Brs.of bs).dep ≤ n
  | [], _ => Nat.zero_le _
  | b :: bs, h => by
    rw [Brs.of, Brs.dep]
    exact Nat.max_le.mpr ⟨h b (List.mem_cons_self ..), Brs.dep_of fun c hc => h c (List.mem_cons_of_mem _ hc)⟩
theorem encR_mk {x : Str} {ss : List Src} {bs : Brs} : encR (.mk x ss bs) = .tup [.str x, .lst (ss.map encSrc), .lst (bs.list.map encBr)] := by rw [encR, encB_list]
theorem Rsn.on_mk {y : Str} {ss : List Src} {bs : Brs} {x : Str} : (Rsn.mk y ss bs).on x = (ss.any (fun s => s.on x) || bs.list.any fun b => b.2.on x) := by rw [Rsn.on, Brs.on_list]
def sp_rests (d : Nat) : GSp := fun ds G PP _ => ∃ (r : Rsn) (x : Str), ds = [encR r, .str x] ∧ r.dep ≤ d ∧ PP (.bl (r.on x)) G
section
variable {P : Program} {w : World} {K : PySem.W.Frag} {mg : Str → Option Value} {base : Heap} {A : Ads}
theorem has_rests_on (T : Tx K mg A) : ∀ d, HasF P w K mg base (d + 1) "rests_on" ["reason", "ware"] (sp_rests d) := fun d => by
  have step : ∀ d, (∀ n, n + 1 = d → HasF P w K mg base (n + 1) "rests_on" ["reason", "ware"] (sp_rests n)) → HasF P w K mg base (d + 1) "rests_on" ["reason", "ware"] (sp_rests d) := fun d ih => by
    refine has_body T.d_rests_on sc_rests_on (fun ds G P PX h => ?_) (fun f cdv _ outer s0 H E hr F0 R0 ds G PP PX h => ?_)
    · obtain ⟨_, _, rfl, _⟩ := h; rfl
    have nd := nd_rests_on
    obtain ⟨r, x, rfl, hd, q⟩ := h
    obtain ⟨y, ss, bs⟩ := r
    have hd : bs.dep ≤ d := by rw [Rsn.dep] at hd; exact hd
    rw [encR_mk]
    rw [Rsn.on_mk] at q
    refine gss_cons (gs_for (fun _ => PassesOwn.never) (gi_lst (xs := ss.map encSrc) (ge_ix (gv_ge (ge_var 0 rfl)) ge_int (.tup rfl)) .rfl) (fun i ρ' G' => G' = G ∧ (∀ s ∈ ss.take i, s.on x = false) ∧ ∃ (y2 : SV), ρ' = [.dat (.tup [.str y, .lst (ss.map encSrc), .lst (bs.list.map encBr)]), .dat (.str x), y2, .unk, .unk]) ⟨rfl, (fun _ z => by cases z), _, rfl⟩ (fun _ _ _ _ => .rfl) (fun i d' ρ' G' hi h => ?_) (fun ρ' G' h => ?_))
    · obtain ⟨rfl, ha, y2, rfl⟩ := h
      rw [List.getElem?_map] at hi
      cases es : ss[i]? with
      | none => rw [es] at hi; cases hi
      | some s =>
      rw [es] at hi; cases hi
      have hm := List.mem_of_getElem? es
      refine ⟨_, _, gg_name 2 nd, ?_⟩
      refine gss_one (gs_if (x := s.on x) ?_ (fun hc => ?_) (fun hc => ?_))
      · have hw1 : (("pick" : Str) = "wish") = False := eq_false (by decide +kernel)
        have hw2 : (("need" : Str) = "wish") = False := eq_false (by decide +kernel)
        cases s with
        | pick z m => exact gt_is (gt_w (gtw_and (gt_cmp (gc_neS (ge_ix (d := .str "pick") (gv_ge (ge_var 2 rfl)) ge_int (.tup rfl)) ge_str)) fun _ => gtw_and1 (gt_cmp (gc_eqS (ge_ix (d := .str z) (gv_ge (ge_var 2 rfl)) ge_int (.tup rfl)) (ge_var 1 rfl))))) (by simp [hw1]; rfl)
        | wish k => exact gt_is (gt_w (gtw_and (y := false) (gt_cmp (gc_neS (ge_ix (d := .str "wish") (gv_ge (ge_var 2 rfl)) ge_int (.tup rfl)) ge_str)) fun h => (by simp at h))) (by simp; rfl)
        | need z m k => exact gt_is (gt_w (gtw_and (gt_cmp (gc_neS (ge_ix (d := .str "need") (gv_ge (ge_var 2 rfl)) ge_int (.tup rfl)) ge_str)) fun _ => gtw_and1 (gt_cmp (gc_eqS (ge_ix (d := .str z) (gv_ge (ge_var 2 rfl)) ge_int (.tup rfl)) (ge_var 1 rfl))))) (by simp [hw2]; rfl)
      · refine gss_one (gs_retE ge_bl ?_)
        rw [List.any_eq_true.mpr ⟨s, hm, hc⟩, Bool.true_or] at q; exact q
      · refine gss_nil ⟨rfl, fun s' hs' => ?_, _, rfl⟩
        rw [List.take_add_one, es] at hs'
        rcases List.mem_append.mp hs' with z | z
        · exact ha s' z
        · have z : s' = s := by simpa using z
          subst z; exact hc
    obtain ⟨rfl, ha, y2, rfl⟩ := h
    rw [List.length_map, List.take_length] at ha
    have e1 : (ss.any fun s => s.on x) = false := by
      rw [Bool.eq_false_iff]
      intro z
      obtain ⟨s, hs, h⟩ := List.any_eq_true.mp z
      rw [ha s hs] at h; cases h
    rw [e1, Bool.false_or] at q
    refine gss_cons (gs_for (fun _ => PassesOwn.never) (gi_lst (xs := bs.list.map encBr) (ge_ix (gv_ge (ge_var 0 rfl)) ge_int (.tup rfl)) .rfl) (fun i ρ' G'' => G'' = G' ∧ (∀ b ∈ bs.list.take i, b.2.on x = false) ∧ ∃ (y3 y4 : SV), ρ' = [.dat (.tup [.str y, .lst (ss.map encSrc), .lst (bs.list.map encBr)]), .dat (.str x), y2, y3, y4]) ⟨rfl, (fun _ z => by cases z), _, _, rfl⟩ (fun _ _ _ _ => .rfl) (fun i d' ρ' G'' hi h => ?_) (fun ρ' G'' h => ?_))
    · obtain ⟨rfl, hb, y3, y4, rfl⟩ := h
      rw [List.getElem?_map] at hi
      cases es : bs.list[i]? with
      | none => rw [es] at hi; cases hi
      | some b =>
      rw [es] at hi; cases hi
      have hm := List.mem_of_getElem? es
      have hbd := bs.dep_list b hm
      obtain ⟨n, hn⟩ : ∃ n, n + 1 = d := ⟨d - 1, by omega⟩
      refine ⟨_, _, gg_tup (ggs_cons (gg_name 3 nd) (ggs_cons (gg_name 4 nd) ggs_nil)), ?_⟩
      refine gss_one (gs_if (gt_val (ge_gw (gw_call (hk := (by subst hn; exact Nat.le_refl _)) (ih n hn) (gr_cons (ge_var 4 rfl) (gr_cons (ge_var 1 rfl) gr_nil)) ⟨b.2, x, rfl, by omega, rfl, rfl⟩))) (fun hc => ?_) (fun hc => ?_))
      · refine gss_one (gs_retE ge_bl ?_)
        rw [List.any_eq_true.mpr ⟨b, hm, hc⟩] at q; exact q
      · refine gss_nil ⟨rfl, fun b' hb' => ?_, _, _, rfl⟩
        rw [List.take_add_one, es] at hb'
        rcases List.mem_append.mp hb' with z | z
        · exact hb b' z
        · have z : b' = b := by simpa using z
          subst z; exact hc
    · obtain ⟨rfl, hb, y3, y4, rfl⟩ := h
      rw [List.length_map, List.take_length] at hb
      refine gss_one (gs_retE ge_bl ?_)
      have e2 : (bs.list.any fun b => b.2.on x) = false := by
        rw [Bool.eq_false_iff]
        intro z
        obtain ⟨b, hb', h⟩ := List.any_eq_true.mp z
        rw [hb b hb'] at h; cases h
      rw [e2] at q; exact q
  induction d with
  | zero => exact step 0 fun n h => by omega
  | succ d ih => exact step (d + 1) fun n h => (by have e : n = d := by omega
                                                   rw [e]; exact ih)
/-! ### dead_end -/
noncomputable def deadP (rows : Rows) (wish : List D) (g : Pick) : List Str → Option Rsn
  | [] => none
  | x :: xs => if leftP rows x (srcFor rows wish g x) = [] then some (.mk x (fewP rows x (srcFor rows wish g x)) .nil) else deadP rows wish g xs
def encO : Option Rsn → D
  | none => .non
  | some r => encR r
theorem srcFor_len {rows : Rows} {wish : List D} {g : Pick} {x : Str} (rg : RowsGood rows) (hw : wishOk (.lst wish) = true) (hg : g.length ≤ 12) : (srcFor rows wish g x).length ≤ 100 := by
  have h1 := pickSrc_len (g := g) (x := x)
  have h2 := wishSrc_len (x := x) (a := wish.zipIdx)
  rw [List.length_zipIdx] at h2
  have h3 : (g.flatMap fun q => needSrc x q (needsOf rows q.1 q.2).zipIdx).length ≤ g.length * 6 := flatMap_len fun q _ => by
    have h4 := needSrc_len (x := x) (q := q) (a := (needsOf rows q.1 q.2).zipIdx)
    rw [List.length_zipIdx] at h4
    exact Nat.le_trans h4 (needsOf_good rg _ _).1
  have := (wish8 hw).1
  unfold srcFor
  rw [List.length_append, List.length_append]; omega
theorem srcFor_ok {rows : Rows} {wish : List D} {g : Pick} {x : Str} (hx : wareS x = true) (po : PickOk rows g) : ∀ s ∈ srcFor rows wish g x, SrcOk s.1 := fun s hs => by
  unfold srcFor at hs
  rcases List.mem_append.mp hs with z | z
  · rcases List.mem_append.mp z with z | z
    · unfold pickSrc at z
      split at z
      · obtain rfl := List.mem_singleton.mp z
        exact hx
      · cases z
    · obtain ⟨p, _, h⟩ := List.mem_filterMap.mp z
      split at h
      · cases h; trivial
      · cases h
  · obtain ⟨q, hq, z⟩ := List.mem_flatMap.mp z
    obtain ⟨p, _, h⟩ := List.mem_filterMap.mp z
    split at h
    · cases h; exact (po q hq).1
    · cases h
def sp_dead (A : Ads) : GSp := fun ds G PP _ => ∃ (s dx rd : Addr) (rows : Rows) (dw : D) (wish : List D) (e : Addr × Pick) (ws : List Str), ds = [.ref s, dw, .ref e.1, .lst (ws.map .str)] ∧ ShopAt A G s dx rd rows ∧ Small rows ∧ RowsGood rows ∧ ViewD G dw (.lst wish) ∧ wishOk (.lst wish) = true ∧ GrAt A G rd rows e ∧ (∀ x ∈ ws, wareS x = true) ∧ PP (encO (deadP rows wish e.2 ws)) G
theorem oks_ints (ms : List Int) : D.ok 64 (.lst (ms.map .int)) = true := by rw [D.ok_lst]; exact D.oks_map fun _ _ => D.ok_int
theorem has_dead_end (T : Tx K mg A) : HasF P w K mg base 6 "dead_end" ["shop", "wish", "granted", "wares"] (sp_dead A) := by
  refine has_body T.d_dead_end sc_dead_end (fun ds G P PX h => ?_) (fun f cdv _ outer s0 H E hr F0 R0 ds G PP PX h => ?_)
  · obtain ⟨_, _, _, _, _, _, _, _, rfl, _⟩ := h; rfl
  have nd := nd_dead_end
  obtain ⟨s, dx, rd, rows, dw, wish, e, ws, rfl, S, sm, rg, hv, hw, he, hws, q⟩ := h
  have hgl : e.2.length ≤ 12 := Nat.le_trans (pick_le he.nd he.po) sm.1
  refine gss_cons (gs_for (fun _ => PassesOwn.never) (gi_lst (ge_var 3 rfl) .rfl) (fun i ρ' G' => G' = G ∧ deadP rows wish e.2 ws = deadP rows wish e.2 (ws.drop i) ∧ ∃ (y4 y5 : SV), ρ' = [.dat (.ref s), .dat dw, .dat (.ref e.1), .dat (.lst (ws.map .str)), y4, y5]) ⟨rfl, rfl, _, _, rfl⟩ (fun _ _ _ _ => .rfl) (fun i d ρ' G' hi h => ?_) (fun ρ' G' h => ?_))
  · obtain ⟨rfl, hd, y4, y5, rfl⟩ := h
    rw [List.getElem?_map] at hi
    cases ex : ws[i]? with
    | none => rw [ex] at hi; cases hi
    | some x =>
    rw [ex] at hi; cases hi
    have hx := hws x (List.mem_of_getElem? ex)
    have hxi := List.getElem?_eq_some_iff.mp ex
    have hsl := srcFor_len (x := x) rg hw hgl
    have hd2 : deadP rows wish e.2 (ws.drop i) = if leftP rows x (srcFor rows wish e.2 x) = [] then some (.mk x (fewP rows x (srcFor rows wish e.2 x)) .nil) else deadP rows wish e.2 (ws.drop (i + 1)) := by
      rw [List.drop_eq_getElem_cons hxi.1, hxi.2]; rfl
    refine ⟨_, _, gg_name 4 nd, ?_⟩
    refine gss_cons (gs_set 5 nd (d := .lst ((srcFor rows wish e.2 x).map encS3)) (ge_n (gn_gw (gw_call (has_sources_for T) (gr_cons (ge_var 0 rfl) (gr_cons (ge_var 1 rfl) (gr_cons (ge_var 2 rfl) (gr_cons (ge_var 4 rfl) gr_nil)))) ⟨s, dx, rd, rows, dw, wish, e, x, rfl, S, sm, rg, hv, hw, he, fun l hl => ⟨l, rfl, hl, rfl⟩⟩))) ?_)
    refine gss_one (gs_if (x := decide (leftP rows x (srcFor rows wish e.2 x) = [])) (gt_is (gt_cmp (gc_eqD (gv_ge (ge_n (gn_gw (gw_call (has_left_by T) (gr_cons (ge_var 0 rfl) (gr_cons (ge_var 4 rfl) (gr_cons (ge_var 5 rfl) gr_nil))) ⟨s, dx, rd, rows, x, _, _, rfl, S, sm, hx, .rfl, by omega, fun l hl => ⟨l, rfl, hl, rfl⟩⟩)))) (gv_ge (ge_n (gn_lst gr_nil))) (oks_ints _) rfl)) (eqv_ints _ [])) (fun hc => ?_) (fun hc => ?_))
    · have hc := of_decide_eq_true hc
      refine gss_one (gs_retE (ge_tup (gr_cons (ge_var 4 rfl) (gr_cons (ge_n (gn_gw (gw_call (has_few_sources T) (gr_cons (ge_var 0 rfl) (gr_cons (ge_var 4 rfl) (gr_cons (ge_var 5 rfl) gr_nil))) ⟨s, dx, rd, rows, x, _, _, rfl, S, sm, hx, .rfl, by omega, srcFor_ok hx he.po, fun l hl => ⟨l, rfl, hl, rfl⟩⟩))) (gr_cons (ge_n (gn_lst gr_nil)) gr_nil)))) ?_)
      rw [hd, hd2, if_pos hc] at q
      have e1 : encO (some (.mk x (fewP rows x (srcFor rows wish e.2 x)) .nil)) = .tup [.str x, .lst ((fewP rows x (srcFor rows wish e.2 x)).map encSrc), .lst []] := by show encR (.mk _ _ _) = _; rw [encR_mk]; rfl
      rw [e1] at q; exact q
    · have hc := of_decide_eq_false hc
      refine gss_nil ⟨rfl, ?_, _, _, rfl⟩
      rw [hd, hd2, if_neg hc]
  · obtain ⟨rfl, hd, y4, y5, rfl⟩ := h
    rw [List.length_map, List.drop_length] at hd
    refine gss_one (gs_retE ge_non ?_)
    rw [hd] at q; exact q
end
end Gh
end

section
set_option Elab.async false
set_option linter.all false
set_option maxRecDepth 100000
set_option maxHeartbeats 4000000
namespace Gh
open PySem PySem.Spec PyProof.Rows L2
theorem pickK_put {p : Pick} {x : Str} {m : Int} : putD (pickK p) (kS x) (.int m) = pickK (lput p x m) := putD_code kS_inj
theorem ViewD.up {G G' : Gs} {d d' : D} (h : ViewD G d d') (e : GEx G G') : ViewD G' d d' := by
  rcases h with rfl | ⟨l, ds, rfl, h, rfl⟩ | ⟨l, ds, rfl, h, rfl⟩
  · exact .inl (Eq.refl _)
  · exact .inr (.inl ⟨l, ds, Eq.refl _, h.imp (e _ _) (fun ⟨ob, h⟩ => ⟨ob, e _ _ h⟩), Eq.refl _⟩)
  · exact .inr (.inr ⟨l, ds, Eq.refl _, h.imp (e _ _) (fun ⟨ob, h⟩ => ⟨ob, e _ _ h⟩), Eq.refl _⟩)
section
variable {A : Ads} {G G' : Gs} {nm : List Str} {s dx rd o : Addr} {rs : List Addr} {rows : Rows}
theorem Side.up (S : Side A G nm s dx rd o rs rows) (e : GEx G G') : Side A G' nm s dx rd o rs rows := S.frame fun a ha => by
  rcases ha with rfl | rfl | rfl | z
  · rw [S.shop.ins]; exact e _ _ S.shop.ins
  · rw [S.shop.dic]; exact e _ _ S.shop.dic
  · rw [S.out]; exact e _ _ S.out
  · obtain ⟨i, hi, ee⟩ := List.getElem_of_mem z
    have h2 : rs[i]? = some rs[i] := List.getElem?_eq_getElem hi
    have h1 : nm[i]? = some (nm[i]'(by rw [← S.len]; exact hi)) := List.getElem?_eq_getElem _
    have h3 := S.at_ i _ _ h1 h2
    rw [ee] at h3
    rw [h3]; exact e _ _ h3
end
end Gh
end

section
set_option Elab.async false
set_option linter.all false
set_option maxRecDepth 100000
set_option maxHeartbeats 4000000
namespace Gh
open PySem PySem.Spec PyProof.Rows L2
/-! search, settle -/
inductive Fnd
  | none (r : Rsn)
  | pick (g : Pick) (ag : List (List (Int × Rsn)))
noncomputable def loopS (rec : Pick → Fnd) (rows : Rows) (g : Pick) (w : Str) (ss : List S3) : List Int → List (Int × Rsn) → List (Int × Rsn) → Fnd
  | [], bs, _ => .none (.mk w (fewP rows w ss) (Brs.of bs))
  | m :: ms, bs, ag => match rec (g ++ [(w, m)]) with
    | .pick p a => .pick p (ag :: a)
    | .none r => if r.on w = false then .none r else loopS rec rows g w ss ms (if m ∈ leftP rows w ss then bs ++ [(m, r)] else bs) (ag ++ [(m, r)])
noncomputable def openP (rows : Rows) (wish : List D) (g : Pick) : List Str := (agOf rows wish g).filter fun x => !(look g x).isSome
noncomputable def searchP (rows : Rows) (wish : List D) : Nat → Pick → Fnd
  | 0, g => .pick g []
  | n + 1, g => match deadP rows wish g (agOf rows wish g) with
    | some r => .none r
    | none => match openP rows wish g with
      | [] => .pick g []
      | w :: _ => loopS (searchP rows wish n) rows g w (srcFor rows wish g w) (makesD rows w) [] []
theorem deadP_dep {rows : Rows} {wish : List D} {g : Pick} {r : Rsn} : ∀ {ws : List Str}, deadP rows wish g ws = some r → r.dep = 0
  | [], h => by cases h
  | x :: xs, h => by
    unfold deadP at h
    split at h
    · cases h; rw [Rsn.dep, Brs.dep]
    · exact deadP_dep h
theorem loopS_dep {rec : Pick → Fnd} {rows : Rows} {g : Pick} {w : Str} {ss : List S3} {n : Nat} (hr : ∀ p r, rec p = .none r → r.dep ≤ n) {r : Rsn} : ∀ {ms : List Int} {bs ag : List (Int × Rsn)}, (∀ b ∈ bs, b.2.dep ≤ n) → loopS rec rows g w ss ms bs ag = .none r → r.dep ≤ n + 1
  | [], bs, ag, hb, h => by
    unfold loopS at h
    cases h
    rw [Rsn.dep]
    exact Brs.dep_of fun b hb' => Nat.succ_le_succ (hb b hb')
  | m :: ms, bs, ag, hb, h => by
    unfold loopS at h
    split at h
    · cases h
    · rename_i r' e
      split at h
      · cases h; exact Nat.le_succ_of_le (hr _ _ e)
      · refine loopS_dep hr (fun b hb' => ?_) h
        split at hb'
        · rcases List.mem_append.mp hb' with z | z
          · exact hb b z
          · obtain rfl := List.mem_singleton.mp z
            exact hr _ _ e
        · exact hb b hb'
theorem searchP_dep {rows : Rows} {wish : List D} : ∀ {n : Nat} {g : Pick} {r : Rsn}, searchP rows wish n g = .none r → r.dep ≤ n
  | 0, g, r, h => by cases h
  | n + 1, g, r, h => by
    unfold searchP at h
    split at h
    · rename_i r' e
      cases h
      rw [deadP_dep e]; exact Nat.zero_le _
    · split at h
      · cases h
      · exact loopS_dep (fun p r h => searchP_dep h) (fun _ z => by cases z) h
def encAg (l : List (Int × Rsn)) : D := .lst (l.map encBr)
def FndAt (A : Ads) (G : Gs) (rd : Addr) (rows : Rows) (f : Fnd) (d : D) (G' : Gs) : Prop := GEx G G' ∧ match f with
  | .none r => d = .tup [.str "none", encR r]
  | .pick p ag => ∃ a, d = .tup [.str "pick", .ref a, .lst (ag.map encAg)] ∧ GrAt A G' rd rows (a, p)
def sp_search (A : Ads) (n : Nat) : GSp := fun ds G PP _ => ∃ (s dx rd : Addr) (rows : Rows) (dw : D) (wish : List D) (e : Addr × Pick), ds = [.ref s, dw, .ref e.1] ∧ ShopAt A G s dx rd rows ∧ Small rows ∧ (rows.map (·.1)).Nodup ∧ (∀ p ∈ rows, wareS p.1 = true) ∧ RowsGood rows ∧ ViewD G dw (.lst wish) ∧ wishOk (.lst wish) = true ∧ GrAt A G rd rows e ∧ e.2.length + n = rows.length + 1 ∧
  ∀ d G', FndAt A G rd rows (searchP rows wish n e.2) d G' → PP d G'
theorem ShopAt.up {A : Ads} {G G' : Gs} {s dx rd : Addr} {rows : Rows} (S : ShopAt A G s dx rd rows) (x : GEx G G') : ShopAt A G' s dx rd rows := ⟨x _ _ S.ins, x _ _ S.dic⟩
theorem GrAt.up {A : Ads} {G G' : Gs} {rd : Addr} {rows : Rows} {e : Addr × Pick} (h : GrAt A G rd rows e) (x : GEx G G') : GrAt A G' rd rows e := ⟨x _ _ h.at_, h.ard, h.nd, h.po⟩
theorem makesD_mem {rows : Rows} {x : Str} {m : Int} : m ∈ makesD rows x ↔ (look (rowOf rows x) m).isSome = true := by
  unfold makesD sortI
  rw [List.mem_reverse, (List.mergeSort_perm _ _).mem_iff, look_isSome, List.any_eq_true]
  constructor
  · intro h
    obtain ⟨q, hq, rfl⟩ := List.mem_map.mp h
    exact ⟨q, hq, by simp⟩
  · rintro ⟨q, hq, h⟩
    have h : q.1 = m := of_decide_eq_true h
    exact List.mem_map.mpr ⟨q, hq, h⟩
theorem loopS_ag {rec : Pick → Fnd} {rows : Rows} {g : Pick} {w : Str} {ss : List S3} {n : Nat} (hr : ∀ p q a, rec p = .pick q a → a.length ≤ n) {q : Pick} {a : List (List (Int × Rsn))} : ∀ {ms : List Int} {bs ag : List (Int × Rsn)}, loopS rec rows g w ss ms bs ag = .pick q a → a.length ≤ n + 1
  | [], bs, ag, h => by unfold loopS at h; cases h
  | m :: ms, bs, ag, h => by
    unfold loopS at h
    split at h
    · rename_i p' a' e
      cases h
      exact Nat.succ_le_succ (hr _ _ _ e)
    · split at h
      · cases h
      · exact loopS_ag hr h
theorem searchP_ag {rows : Rows} {wish : List D} : ∀ {n : Nat} {g q : Pick} {a : List (List (Int × Rsn))}, searchP rows wish n g = .pick q a → a.length ≤ n
  | 0, g, q, a, h => by cases h; exact Nat.le_refl _
  | n + 1, g, q, a, h => by
    unfold searchP at h
    split at h
    · cases h
    · split at h
      · cases h; exact Nat.zero_le _
      · exact loopS_ag (fun p q a h => searchP_ag h) h
theorem ge_is' {Y : Ctx} {e : Expr} {ρ : Rho} {G : Gs} {d d' : D} (h : GE Y e ρ G d) (q : d = d') : GE Y e ρ G d' := q ▸ h
theorem open_new {rows : Rows} {wish : List D} {g : Pick} {w : Str} (h : w ∈ openP rows wish g) : look g w = none ∧ w ∈ agOf rows wish g := by
  obtain ⟨h1, h2⟩ := List.mem_filter.mp h
  refine ⟨?_, h1⟩
  cases e : look g w with
  | none => rfl
  | some m => rw [e] at h2; cases h2
theorem look_out {p : Pick} {x : Str} (h : look p x = none) : x ∉ p.map (·.1) := fun z => by
  obtain ⟨q, hq, rfl⟩ := List.mem_map.mp z
  exact look_none h q hq rfl
section
variable {P : Program} {w : World} {K : PySem.W.Frag} {mg : Str → Option Value} {base : Heap} {A : Ads}
theorem has_search (T : Tx K mg A) : ∀ n, HasF P w K mg base (n + 7) "search" ["shop", "wish", "granted"] (sp_search A n) := fun n => by
  induction n with
  | zero =>
    refine has_body (k := 6) T.d_search sc_search (fun ds G P PX h => ?_) (fun f cdv _ outer s0 H E hr F0 R0 ds G PP PX h => ?_)
    · obtain ⟨_, _, _, _, _, _, _, rfl, _⟩ := h; rfl
    obtain ⟨s, dx, rd, rows, dw, wish, e, rfl, S, sm, hrn, hrw, rg, hv, hw, he, hn, q⟩ := h
    have := pick_le he.nd he.po
    omega
  | succ n ih =>
    refine has_body (k := n + 7) T.d_search sc_search (fun ds G P PX h => ?_) (fun f cdv _ outer s0 H E hr F0 R0 ds G PP PX h => ?_)
    · obtain ⟨_, _, _, _, _, _, _, rfl, _⟩ := h; rfl
    have nd := nd_search
    obtain ⟨s, dx, rd, rows, dw, wish, e, rfl, S, sm, hrn, hrw, rg, hv, hw, he, hn, q⟩ := h
    have hgl : e.2.length ≤ 12 := Nat.le_trans (pick_le he.nd he.po) sm.1
    have hag := agOf_wareG (p := e.2) rg hw
    have hagl : (agOf rows wish e.2).length ≤ 100 := by
      have h1 := List.Nodup.length_le_of_subset (agOf_nd (rows := rows) (wish := wish) (p := e.2)) fun x hx => agOf_sub hx
      rw [List.length_append, List.length_map] at h1
      have h2 : (e.2.flatMap fun q => (needsOf rows q.1 q.2).map D.nm).length ≤ e.2.length * 6 := flatMap_len fun q hq => by
        rw [List.length_map]; exact (needsOf_good rg _ _).1
      have := (wish8 hw).1
      omega
    refine gss_cons (gs_set 3 nd (d := .lst ((agOf rows wish e.2).map .str)) (ge_n (gn_gw (gw_call (hk := by exact Nat.le_trans (by decide : 4 ≤ 7) (Nat.le_add_left _ _)) (has_agenda_of T) (gr_cons (ge_var 0 rfl) (gr_cons (ge_var 1 rfl) (gr_cons (ge_var 2 rfl) gr_nil))) ⟨s, dx, rd, rows, dw, wish, .ref e.1, e.2, rfl, S, sm, rg, hv, hw, .dicR he.at_, he.po, fun R hR _ l hl => ⟨l, rfl, hl, by rw [agOf_eq hR]⟩⟩))) ?_)
    refine gss_cons (gs_set 4 nd (d := encO (deadP rows wish e.2 (agOf rows wish e.2))) (ge_gw (gw_call (hk := by exact Nat.le_trans (by decide : 6 ≤ 7) (Nat.le_add_left _ _)) (has_dead_end T) (gr_cons (ge_var 0 rfl) (gr_cons (ge_var 1 rfl) (gr_cons (ge_var 2 rfl) (gr_cons (ge_var 3 rfl) gr_nil)))) ⟨s, dx, rd, rows, dw, wish, e, _, rfl, S, sm, rg, hv, hw, he, hag, rfl, rfl⟩)) ?_)
    refine gss_cons (gs_if (x := (deadP rows wish e.2 (agOf rows wish e.2)).isSome) (gt_is (gt_cmp (gc_notN (gv_ge (ge_var 4 rfl)))) ?_) (fun hc => ?_) (fun hc => gss_nil ?_))
    · cases h : deadP rows wish e.2 (agOf rows wish e.2) with
      | none => rfl
      | some r => obtain ⟨x, ss, bs⟩ := r; show (!(encR (.mk x ss bs)).isNon) = true; rw [encR_mk]; rfl
    · obtain ⟨r, hr⟩ := Option.isSome_iff_exists.mp hc
      refine gss_one (gs_retE (ge_tup (gr_cons ge_str (gr_cons (ge_var 4 rfl) gr_nil))) (q _ _ ⟨GEx.refl _, ?_⟩))
      have e1 : searchP rows wish (n + 1) e.2 = .none r := by unfold searchP; rw [hr]
      rw [e1, hr]; rfl
    have hdead : deadP rows wish e.2 (agOf rows wish e.2) = none := by
      cases h : deadP rows wish e.2 (agOf rows wish e.2) with
      | none => rfl
      | some r => rw [h] at hc; cases hc
    rw [hdead]
    refine gss_cons (gs_lcIf 5 (ys := agOf rows wish e.2) (enc := .str) (f := .str) (pr := fun x => !(look e.2 x).isSome) [("ware", 6)] nd (gic_lst (ge_var 3 rfl) .rfl) (blkOk_by (N := N_search) (sc := defScope s_search) (by decide +kernel)) (fun y hy => gg_name 6 nd) (by decide) (fun y hy => gt_is (gt_cmp (gc_notIn (ge_var 6 rfl) (gv_view (ge_var 2 rfl) (.dicR he.at_)) .dicS)) (by rw [pickK_val, Option.isSome_map])) (fun y hy _ => ge_var 6 rfl) (by omega) ?_ ?_)
    · rintro j hj ⟨x, e1, e2⟩
      have : j = 6 := by simpa using hj
      subst this
      cases e1; cases e2
    refine gss_frz 5 rfl ?_
    show GSs _ _ [.dat (.ref s), .dat dw, .dat (.ref e.1), .dat (.lst ((agOf rows wish e.2).map .str)), .dat .non, .dat (.lst ((openP rows wish e.2).map .str)), .unk, .unk, .unk, .unk, .unk, .unk, .unk] _ _
    have hopl : ∀ x ∈ openP rows wish e.2, wareS x = true := fun x hx => hag x (open_new hx).2
    refine gss_cons (gs_if (x := decide (openP rows wish e.2 = [])) (gt_is (gt_cmp (gc_eqD (gv_ge (ge_var 5 rfl)) (gv_ge (ge_n (gn_lst gr_nil))) (ok_strs hopl) rfl)) (eqv_strs _ [])) (fun hc => ?_) (fun hc => gss_nil ?_))
    · have hc := of_decide_eq_true hc
      refine gss_one (gs_retE (ge_tup (gr_cons ge_str (gr_cons (ge_var 2 rfl) (gr_cons (ge_n (gn_lst gr_nil)) gr_nil)))) (q _ _ ⟨GEx.refl _, ?_⟩))
      have e1 : searchP rows wish (n + 1) e.2 = .pick e.2 [] := by unfold searchP; rw [hdead, hc]
      rw [e1]
      exact ⟨e.1, rfl, he⟩
    have hc := of_decide_eq_false hc
    obtain ⟨x, t, hop⟩ : ∃ x t, openP rows wish e.2 = x :: t := by
      cases h : openP rows wish e.2 with
      | nil => exact absurd h hc
      | cons x t => exact ⟨x, t, rfl⟩
    have hxo : x ∈ openP rows wish e.2 := by rw [hop]; exact List.mem_cons_self ..
    obtain ⟨hxn, hxa⟩ := open_new hxo
    have hx := hopl x hxo
    have hxk := look_out hxn
    have hsl := srcFor_len (x := x) rg hw hgl
    have hso := srcFor_ok (wish := wish) hx he.po
    have e0 : searchP rows wish (n + 1) e.2 = loopS (searchP rows wish n) rows e.2 x (srcFor rows wish e.2 x) (makesD rows x) [] [] := by
      rw [searchP, hdead]
      show (match openP rows wish e.2 with | [] => _ | w :: _ => _) = _
      rw [hop]
    refine gss_cons (gs_set 6 nd (d := .str x) (ge_ix (gv_ge (ge_var 5 rfl)) ge_int (.lst (by rw [hop]; exact atI_nat (j := 0) rfl))) ?_)
    refine gss_cons (gs_set 7 nd (d := .lst ((srcFor rows wish e.2 x).map encS3)) (ge_n (gn_gw (gw_call (hk := by exact Nat.le_trans (by decide : 4 ≤ 7) (Nat.le_add_left _ _)) (has_sources_for T) (gr_cons (ge_var 0 rfl) (gr_cons (ge_var 1 rfl) (gr_cons (ge_var 2 rfl) (gr_cons (ge_var 6 rfl) gr_nil)))) ⟨s, dx, rd, rows, dw, wish, e, x, rfl, S, sm, rg, hv, hw, he, fun l hl => ⟨l, rfl, hl, rfl⟩⟩))) ?_)
    refine gss_cons (gs_own 8 nd (gn_lst gr_nil) ?_)
    refine gss_cons (gs_own 9 nd (gn_lst gr_nil) ?_)
    have hml := makesD_len (x := x) sm
    generalize hss : srcFor rows wish e.2 x = ss at *
    show GSs _ _ [.dat (.ref s), .dat dw, .dat (.ref e.1), .dat (.lst ((agOf rows wish e.2).map .str)), .dat .non, .dat (.lst ((openP rows wish e.2).map .str)), .dat (.str x), .dat (.lst (ss.map encS3)), .own [], .own [], .unk, .unk, .unk] _ _
    generalize hW1 : D.lst ((agOf rows wish e.2).map .str) = w1
    generalize hW2 : D.lst ((openP rows wish e.2).map .str) = w2
    have hkL : 4 ≤ n + 7 := Nat.le_trans (by decide : 4 ≤ 7) (Nat.le_add_left _ _)
    have hkF : 5 ≤ n + 7 := Nat.le_trans (by decide : 5 ≤ 7) (Nat.le_add_left _ _)
    have hkR : n + 1 ≤ n + 7 := by omega
    refine gss_cons (gs_for (fun _ => PassesOwn.never) (gi_rev T.blt (ge_n (gn_gw (gw_meth (hk := by exact Nat.le_trans (by decide : 3 ≤ 7) (Nat.le_add_left _ _)) (pl := _) T.k_Shop.cls (has_Shop_makes T) (ge_var 0 rfl) S.ins rfl (gr_cons (ge_var 6 rfl) gr_nil) ⟨s, dx, rd, rows, _, .str x, rfl, S, sm, .rfl, rfl, fit_ware hx, fun z => (by rw [show (D.str x).ware = wareS x from rfl, hx] at z; cases z), fun _ l hl => ⟨l, rfl, hl, rfl⟩⟩))) .rfl) (fun i ρ' G' => ∃ (bs ag : List (Int × Rsn)) (y10 y11 y12 : SV), ρ' = [.dat (.ref s), .dat dw, .dat (.ref e.1), .dat w1, .dat .non, .dat w2, .dat (.str x), .dat (.lst (ss.map encS3)), .own (bs.map encBr), .own (ag.map encBr), y10, y11, y12] ∧ GEx G G' ∧ searchP rows wish (n + 1) e.2 = loopS (searchP rows wish n) rows e.2 x ss ((makesD rows x).drop i) bs ag ∧ bs.length ≤ i ∧ ag.length ≤ i) ⟨[], [], _, _, _, rfl, GEx.refl _, e0, Nat.le_refl _, Nat.le_refl _⟩ (fun _ _ _ _ => .rfl) (fun i d ρ' G' hi h => ?_) (fun ρ' G' h => ?_))
    · obtain ⟨bs, ag, y10, y11, y12, rfl, gx, e1, hbl, hagl2⟩ := h
      rw [← List.map_reverse, List.getElem?_map] at hi
      replace hi : ((makesD rows x)[i]?).map D.int = some d := hi
      cases em : (makesD rows x)[i]? with
      | none => rw [em] at hi; cases hi
      | some m =>
      rw [em] at hi; cases hi
      have hmi := List.getElem?_eq_some_iff.mp em
      have hms := makesD_mem.mp (List.mem_of_getElem? em)
      have hi8 : i < 8 := Nat.lt_of_lt_of_le hmi.1 hml
      rw [List.drop_eq_getElem_cons hmi.1, hmi.2] at e1
      have S' := S.up gx
      have he' := he.up gx
      have hv' := hv.up gx
      refine ⟨_, _, gg_name 10 nd, ?_⟩
      refine gss_cons (gs_ownd 11 nd (gn_dict T.blt (gv_view (ge_var 2 rfl) (.dicR he'.at_))) ?_)
      refine gss_cons (gs_dput (kS x) (gw_ge (ge_var 10 rfl) ⟨.slot 11, pickK e.2, gp_ownd 11 rfl, ge_var 6 rfl, rfl, ?_, ?_⟩))
      · unfold pickK codeL; rw [List.length_map]; omega
      rw [pickK_put, lput_new hxn]
      refine gss_pubd 11 rfl fun b hb => ?_
      replace hb : G' b = none := hb
      have gxb := gex_new (g := .dic (pickK (e.2 ++ [(x, m)]))) hb
      have hgb : GrAt A (gupd G' b (.dic (pickK (e.2 ++ [(x, m)])))) rd rows (b, e.2 ++ [(x, m)]) := by
        refine ⟨gupd_same, (by rintro rfl; have := S'.dic; rw [hb] at this; cases this), ?_, fun q hq => ?_⟩
        · rw [List.map_append, List.nodup_append]
          exact ⟨he.nd, by simp, fun a ha b hb e => by simp at hb; subst hb; subst e; exact hxk ha⟩
        · rcases List.mem_append.mp hq with z | z
          · exact he.po q z
          · obtain rfl := List.mem_singleton.mp z
            exact ⟨hx, hms⟩
      show GSs _ _ [.dat (.ref s), .dat dw, .dat (.ref e.1), .dat w1, .dat .non, .dat w2, .dat (.str x), .dat (.lst (ss.map encS3)), .own (bs.map encBr), .own (ag.map encBr), .dat (.int m), .dat (.ref b), y12] (gupd G' b (.dic (pickK (e.2 ++ [(x, m)])))) _
      generalize gupd G' b (.dic (pickK (e.2 ++ [(x, m)]))) = Gb at *
      have Sb := S'.up gxb
      have hvb := hv'.up gxb
      have hlen : (e.2 ++ [(x, m)]).length + n = rows.length + 1 := by rw [List.length_append]; simp; omega
      refine gss_cons (gs_setW 12 nd (gw_call (hk := Nat.le_refl _) ih (gr_cons (ge_var 0 rfl) (gr_cons (ge_var 1 rfl) (gr_cons (ge_var 11 rfl) gr_nil))) ⟨s, dx, rd, rows, dw, wish, (b, e.2 ++ [(x, m)]), rfl, Sb, sm, hrn, hrw, rg, hvb, hw, hgb, hlen, fun d2 G2 hF => ?_⟩))
      obtain ⟨gx2, hF⟩ := hF
      have gx3 := gx.trans (gxb.trans gx2)
      cases hsr : searchP rows wish n (e.2 ++ [(x, m)]) with
      | pick p a =>
        replace hF : ∃ a', d2 = .tup [.str "pick", .ref a', .lst (a.map encAg)] ∧ GrAt A G2 rd rows (a', p) := by
          have h2 : FndAt A Gb rd rows (searchP rows wish n (e.2 ++ [(x, m)])) d2 G2 := ⟨gx2, hF⟩
          rw [hsr] at h2; exact h2.2
        obtain ⟨a', rfl, hga⟩ := hF
        refine gss_cons (gs_if (x := true) (gt_is (gt_cmp (gc_eqS (ge_ix (d := .str "pick") (gv_ge (ge_var 12 rfl)) ge_int (.tup rfl)) ge_str)) (by simp)) (fun _ => gss_frz 9 rfl ?_) (fun h => by cases h))
        have hal := searchP_ag hsr
        have hn13 : n ≤ 13 := by have := sm.1; omega
        refine gss_one (gs_retE (ge_tup (gr_cons ge_str (gr_cons (ge_ix (d := .ref a') (gv_ge (ge_var 12 rfl)) ge_int (.tup rfl)) (gr_cons (ge_addD (gv_ge (ge_n (gn_lst (gr_cons (ge_var 9 rfl) gr_nil)))) (gv_ge (ge_ix (d := .lst (a.map encAg)) (gv_ge (ge_var 12 rfl)) ge_int (.tup rfl))) (.lst (by rw [List.length_map]; show 1 + a.length ≤ _; omega))) gr_nil)))) (q _ _ ⟨gx3, ?_⟩))
        have e2 : searchP rows wish (n + 1) e.2 = .pick p (ag :: a) := by rw [e1, loopS, hsr]
        rw [e2]
        exact ⟨a', rfl, hga⟩
      | none r =>
        replace hF : d2 = .tup [.str "none", encR r] := by
          have h2 : FndAt A Gb rd rows (searchP rows wish n (e.2 ++ [(x, m)])) d2 G2 := ⟨gx2, hF⟩
          rw [hsr] at h2; exact h2.2
        subst hF
        have hnp : (("none" : Str) = "pick") = False := eq_false (by decide +kernel)
        refine gss_cons (gs_if (x := false) (gt_is (gt_cmp (gc_eqS (ge_ix (d := .str "none") (gv_ge (ge_var 12 rfl)) ge_int (.tup rfl)) ge_str)) (by simp [hnp])) (fun h => by cases h) (fun _ => gss_nil ?_))
        refine gss_cons (gs_if (x := !r.on x) (gt_not (gt_val (ge_gw (gw_call (hk := hkR) (has_rests_on T n) (gr_cons (ge_ix (d := encR r) (gv_ge (ge_var 12 rfl)) ge_int (.tup rfl)) (gr_cons (ge_var 6 rfl) gr_nil)) ⟨r, x, rfl, searchP_dep hsr, rfl, rfl⟩)))) (fun hc => ?_) (fun hc => gss_nil ?_))
        · have hc : r.on x = false := by simpa using hc
          refine gss_one (gs_retE (ge_var 12 rfl) (q _ _ ⟨gx3, ?_⟩))
          have e2 : searchP rows wish (n + 1) e.2 = .none r := by
            rw [e1, loopS, hsr]
            show (if r.on x = false then _ else _) = _
            rw [if_pos hc]
          rw [e2]
        · have hc : r.on x = true := by simpa using hc
          have e2 : searchP rows wish (n + 1) e.2 = loopS (searchP rows wish n) rows e.2 x ss ((makesD rows x).drop (i + 1)) (if m ∈ leftP rows x ss then bs ++ [(m, r)] else bs) (ag ++ [(m, r)]) := by
            rw [e1, loopS, hsr]
            show (if r.on x = false then _ else _) = _
            rw [if_neg (by rw [hc]; simp)]
          have S2 := Sb.up gx2
          refine gss_cons (gs_appI 9 rfl (d := encBr (m, r)) (ge_tup (gr_cons (ge_var 10 rfl) (gr_cons (ge_ix (d := encR r) (gv_ge (ge_var 12 rfl)) ge_int (.tup rfl)) gr_nil))) (by rw [List.length_map]; omega) (ds' := (ag ++ [(m, r)]).map encBr) (by rw [List.map_append]; rfl) ?_)
          refine gss_one (gs_if (x := decide (m ∈ leftP rows x ss)) (gt_cmp (gc_in (ge_var 10 rfl) (gv_ge (ge_n (gn_gw (gw_call (hk := hkL) (has_left_by T) (gr_cons (ge_var 0 rfl) (gr_cons (ge_var 6 rfl) (gr_cons (ge_var 7 rfl) gr_nil))) ⟨s, dx, rd, rows, x, _, ss, rfl, S2, sm, hx, .rfl, by omega, fun l hl => ⟨l, rfl, hl, rfl⟩⟩)))) .lstI)) (fun hm => ?_) (fun hm => ?_))
          · have hm := of_decide_eq_true hm
            refine gss_one (gs_appI 8 rfl (d := encBr (m, r)) (ge_tup (gr_cons (ge_var 10 rfl) (gr_cons (ge_ix (d := encR r) (gv_ge (ge_var 12 rfl)) ge_int (.tup rfl)) gr_nil))) (by rw [List.length_map]; omega) (ds' := (bs ++ [(m, r)]).map encBr) (by rw [List.map_append]; rfl) ⟨bs ++ [(m, r)], ag ++ [(m, r)], _, _, _, rfl, gx3, by rw [e2, if_pos hm], by rw [List.length_append]; simp; omega, by rw [List.length_append]; simp; omega⟩)
          · have hm := of_decide_eq_false hm
            exact gss_nil ⟨bs, ag ++ [(m, r)], _, _, _, rfl, gx3, by rw [e2, if_neg hm], by omega, by rw [List.length_append]; simp; omega⟩
    · obtain ⟨bs, ag, y10, y11, y12, rfl, gx, e1, hbl, hagl2⟩ := h
      have el : ((sortI ((rowOf rows (D.str x).toS).map (·.1))).map D.int).reverse.length = (makesD rows x).length := by rw [List.length_reverse, List.length_map]; unfold makesD; rw [List.length_reverse]; rfl
      rw [el, List.drop_length] at e1
      refine gss_frz 8 rfl ?_
      have S' := S.up gx
      refine gss_one (gs_retE (ge_tup (gr_cons ge_str (gr_cons (d := encR (.mk x (fewP rows x ss) (Brs.of bs))) (ge_is' (ge_tup (gr_cons (ge_var 6 rfl) (gr_cons (ge_n (gn_gw (gw_call (hk := hkF) (has_few_sources T) (gr_cons (ge_var 0 rfl) (gr_cons (ge_var 6 rfl) (gr_cons (ge_var 7 rfl) gr_nil))) ⟨s, dx, rd, rows, x, _, ss, rfl, S', sm, hx, .rfl, by omega, hso, fun l hl => ⟨l, rfl, hl, rfl⟩⟩))) (gr_cons (ge_var 8 rfl) gr_nil)))) ?_) gr_nil))) (q _ _ ⟨gx, ?_⟩))
      · rw [encR_mk, Brs.list_of]
      · rw [e1, loopS]
end
end Gh
end

section
set_option Elab.async false
set_option linter.all false
set_option maxRecDepth 100000
set_option maxHeartbeats 4000000
namespace Gh
open PySem PySem.Spec PyProof.Rows L2
/-! settle -/
def prP (p : Str × Int) : D := .tup [.str p.1, .int p.2]
def encF : Fnd → D
  | .none r => .tup [.str "none", encR r]
  | .pick p ag => .tup [.str "pick", .lst (p.map prP), .lst (ag.map encAg)]
noncomputable def settleP (rows : Rows) (wish : List D) : Fnd := searchP rows wish (rows.length + 1) []
def sp_settle (A : Ads) : GSp := fun ds G PP _ => ∃ (s dx rd : Addr) (rows : Rows) (dw : D) (wish : List D), ds = [.ref s, dw] ∧ ShopAt A G s dx rd rows ∧ Small rows ∧ (rows.map (·.1)).Nodup ∧ (∀ p ∈ rows, wareS p.1 = true) ∧ RowsGood rows ∧ ViewD G dw (.lst wish) ∧ wishOk (.lst wish) = true ∧ (D.lst wish).seenAll = true ∧
  ∀ G', GEx G G' → PP (encF (settleP rows wish)) G'
section
variable {P : Program} {w : World} {K : PySem.W.Frag} {mg : Str → Option Value} {base : Heap} {A : Ads}
theorem has_settle (T : Tx K mg A) : HasF P w K mg base 22 "settle" ["shop", "wish"] (sp_settle A) := by
  refine has_bodyX T.d_settle sc_settle (fun ds G P PX h => ?_) (fun f cdv _ outer s0 H E hr F0 R0 ds G PP PX h hx ow => ?_)
  · obtain ⟨_, _, _, _, _, _, rfl, _⟩ := h; rfl
  have nd := nd_settle
  obtain ⟨s, dx, rd, rows, dw, wish, rfl, S, sm, hrn, hrw, rg, hv, hw, hws, q⟩ := h
  have hr12 := sm.1
  refine gss_cons (gs_expr (gw_callX hx (has_need_wish T) (gre_r (gr_cons (ge_var 1 rfl) gr_nil) ⟨rfl, dw, .lst wish, rfl, hv, rfl, hws, fun _ => ?_, fun z => (by rw [hw] at z; cases z)⟩)))
  refine gss_cons (gs_setW 2 nd (gw_callE (hk := by show rows.length + 1 + 7 ≤ 21; omega) (has_search T (rows.length + 1)) (gre_cons (gw_ge (P := fun d G' => d = .ref s ∧ G' = G) (ge_var 0 rfl) ⟨rfl, rfl⟩) fun d G1 ⟨e1, e2⟩ => (by
    subst e1 e2
    exact gre_cons (gw_ge (P := fun d G' => d = dw ∧ G' = G1) (ge_var 1 rfl) ⟨rfl, rfl⟩) fun d G2 ⟨e1, e2⟩ => (by
      subst e1 e2
      exact gre_cons (gw_n gn_dnew) fun d2 G3 ⟨l, ed, hl, eG⟩ => gre_r gr_nil (by
        subst ed eG
        have gx := gex_new (g := .dic []) hl
        refine ⟨rfl, s, dx, rd, rows, d, wish, (l, []), rfl, S.up gx, sm, hrn, hrw, rg, hv.up gx, hw, ⟨gupd_same, (by rintro rfl; have := S.dic; rw [hl] at this; cases this), .nil, fun _ z => by cases z⟩, (by simp), fun d2 G4 hF => ?_⟩
        obtain ⟨gx2, hF⟩ := hF
        have gx3 := gx.trans gx2
        have hq := q G4 gx3
        unfold settleP at hq
        have hnp : (("pick" : Str) = "none") = False := eq_false (by decide +kernel)
        cases hsr : searchP rows wish (rows.length + 1) [] with
        | none r =>
          replace hF : d2 = .tup [.str "none", encR r] := by
            have h2 : FndAt A (gupd G2 l (.dic [])) rd rows (searchP rows wish (rows.length + 1) []) d2 G4 := ⟨gx2, hF⟩
            rw [hsr] at h2; exact h2.2
          subst hF
          rw [hsr] at hq
          exact gss_cons (gs_if (x := true) (gt_is (gt_cmp (gc_eqS (ge_ix (d := .str "none") (gv_ge (ge_var 2 rfl)) ge_int (.tup rfl)) ge_str)) (by simp)) (fun _ => gss_one (gs_retE (ge_var 2 rfl) hq)) (fun h => by cases h))
        | pick p ag =>
          replace hF : ∃ a', d2 = .tup [.str "pick", .ref a', .lst (ag.map encAg)] ∧ GrAt A G4 rd rows (a', p) := by
            have h2 : FndAt A (gupd G2 l (.dic [])) rd rows (searchP rows wish (rows.length + 1) []) d2 G4 := ⟨gx2, hF⟩
            rw [hsr] at h2; exact h2.2
          obtain ⟨a', ed2, hga⟩ := hF
          subst ed2
          rw [hsr] at hq
          have hpl : p.length ≤ 12 := Nat.le_trans (pick_le hga.nd hga.po) sm.1
          refine gss_cons (gs_if (x := false) (gt_is (gt_cmp (gc_eqS (ge_ix (d := .str "pick") (gv_ge (ge_var 2 rfl)) ge_int (.tup rfl)) ge_str)) (by simp [hnp])) (fun h => by cases h) (fun _ => gss_nil ?_))
          refine gss_one (gs_retE (ge_tup (gr_cons ge_str (gr_cons (ge_n (gn_is (gn_lcD (ys := p.map (·.1)) (enc := .str) (f := fun x => prP (x, (look p x).getD 0)) [("ware", 3)] nd hga.at_ (fun ob => ge_ix (d := .ref a') (gv_ge (ge_var 2 rfl)) ge_int (.tup rfl)) (by rw [pickK_kD0, List.map_map]; rfl) (blkOk_by (N := N_settle) (sc := defScope s_settle) (by decide +kernel)) (fun y hy => gg_name 3 nd) (by decide) (fun ob y hy => ge_tup (gr_cons (ge_var 3 rfl) (gr_cons (ge_ix (d := .int ((look p y).getD 0)) (gv_view (ge_ix (d := .ref a') (gv_ge (ge_var 2 rfl)) ge_int (.tup rfl)) (ViewD.dicL gupd_same)) (ge_var 3 rfl) (.dicS ?_)) gr_nil))) (by rw [List.length_map]; omega) ?_) ?_)) (gr_cons (ge_ix (d := .lst (ag.map encAg)) (gv_ge (ge_var 2 rfl)) ge_int (.tup rfl)) gr_nil)))) hq)
          · obtain ⟨q, hq', rfl⟩ := List.mem_map.mp hy
            rw [pickK_val, look_nd hga.nd hq']; rfl
          · rintro j hj ⟨x, e1, e2⟩
            have : j = 3 := by simpa using hj
            subst this
            cases e1; cases e2
          · rw [List.map_map]
            refine congrArg GO.lst (List.map_congr_left fun q hq' => ?_)
            show prP (q.1, (look p q.1).getD 0) = prP q
            rw [look_nd hga.nd hq']; rfl))))))
end
end Gh
end

section
set_option Elab.async false
set_option linter.all false
set_option maxRecDepth 100000
set_option maxHeartbeats 4000000
namespace Gh
open PySem PySem.Spec PyProof.Rows L2
/-! which of two picks is ahead, in plain lists -/
theorem AgR.ex {nx : Str → List Str} {U : List Str} (hU : ∀ x y, y ∈ nx x → y ∈ U) : ∀ (n : Nat) (L : List Str) (a : Nat), U.length - a = n → L.Nodup → (∀ x ∈ L, x ∈ U) → ∃ R, AgR nx L a R := fun n => by
  induction n with
  | zero =>
    intro L a h hn hs
    have := List.Nodup.length_le_of_subset hn fun x hx => hs x hx
    exact ⟨L, .done (by omega)⟩
  | succ n ih =>
    intro L a h hn hs
    by_cases hl : L.length ≤ a
    · exact ⟨L, .done hl⟩
    · have e : L[a]? = some (L[a]'(by omega)) := List.getElem?_eq_getElem (by omega)
      obtain ⟨R, hR⟩ := ih (adds L (nx (L[a]'(by omega)))) (a + 1) (by omega) (adds_nd hn) fun y hy => (adds_mem.mp hy).elim (hs y) (hU _ y)
      exact ⟨R, .step e hR⟩
theorem agOf_spec {rows : Rows} {wish : List D} {p : Pick} : Agenda rows wish p (agOf rows wish p) := by
  have e : ∃ R, Agenda rows wish p R := AgR.ex (U := wish.map D.nm ++ p.flatMap fun q => (needsOf rows q.1 q.2).map D.nm) (fun x y h => List.mem_append_right _ (nxP_pick h)) _ _ _ rfl (adds_nd .nil) fun x hx => (adds_mem.mp hx).elim (fun z => by cases z) fun z => List.mem_append_left _ z
  obtain ⟨R, hR⟩ := e
  rw [← agOf_eq hR]
  exact hR
theorem AgR.pre {nx : Str → List Str} {L R : List Str} {a : Nat} (h : AgR nx L a R) : ∃ t, R = L ++ t := by
  induction h with
  | done _ => exact ⟨[], by simp⟩
  | @step L a x R _ _ ih =>
    obtain ⟨t, e⟩ := ih
    obtain ⟨u, e2⟩ := adds_pre (L := L) (xs := nx x)
    exact ⟨u ++ t, by rw [e, e2, List.append_assoc]⟩
theorem AgR.same {n1 n2 : Str → List Str} {L R1 R2 : List Str} {a i : Nat} {x : Str} (h1 : AgR n1 L a R1) (h2 : AgR n2 L a R2) (hi : R1[i]? = some x) (hs : ∀ j y, j < i → R1[j]? = some y → n1 y = n2 y) : R2[i]? = some x := by
  induction h1 generalizing R2 with
  | @done L a hl =>
    obtain ⟨t, e⟩ := h2.pre
    have := (List.getElem?_eq_some_iff.mp hi).1
    rw [e, List.getElem?_append_left this]; exact hi
  | @step L a x0 R e0 h ih =>
    have hal := (List.getElem?_eq_some_iff.mp e0).1
    have hp := (AgR.step e0 h).pre
    by_cases hia : i ≤ a
    · obtain ⟨t, e⟩ := h2.pre
      obtain ⟨u, e2⟩ := hp
      rw [e2, List.getElem?_append_left (by omega)] at hi
      rw [e, List.getElem?_append_left (by omega)]; exact hi
    · obtain ⟨u, e2⟩ := hp
      have hx0 : n1 x0 = n2 x0 := hs a x0 (by omega) (by rw [e2, List.getElem?_append_left hal]; exact e0)
      cases h2 with
      | done hl => omega
      | step e' h2 =>
        rw [e0] at e'; cases e'
        rw [← hx0] at h2
        exact ih h2 hi hs
theorem metB_mem {rows : Rows} {wish : List D} {p : Pick} (h : metB rows wish p = true) {x : Str} : x ∈ agOf rows wish p ↔ x ∈ p.map (·.1) := by
  unfold metB at h
  rw [Bool.and_eq_true] at h
  have e := of_decide_eq_true h.1
  rw [← sortS_mem (xs := agOf rows wish p), e, sortS_mem]
theorem look_ex {p : Pick} {x : Str} (h : x ∈ p.map (·.1)) : ∃ m, look p x = some m := by
  obtain ⟨q, hq, rfl⟩ := List.mem_map.mp h
  cases e : look p q.1 with
  | none => exact absurd rfl (look_none e q hq)
  | some m => exact ⟨m, rfl⟩
theorem ahead_there {rows : Rows} {wish : List D} {p1 p2 : Pick} (h1 : metB rows wish p1 = true) (h2 : metB rows wish p2 = true) {i : Nat} {x : Str} (hi : (agOf rows wish p1)[i]? = some x) (hs : ∀ j y, j < i → (agOf rows wish p1)[j]? = some y → look p1 y = look p2 y) : ∃ m1 m2, look p1 x = some m1 ∧ look p2 x = some m2 := by
  obtain ⟨m1, e1⟩ := look_ex ((metB_mem h1).mp (List.mem_of_getElem? hi))
  have e := AgR.same agOf_spec (agOf_spec (rows := rows) (wish := wish) (p := p2)) hi (fun j y hj hy => by unfold nxP; rw [hs j y hj hy])
  obtain ⟨m2, e2⟩ := look_ex ((metB_mem h2).mp (List.mem_of_getElem? e))
  exact ⟨m1, m2, e1, e2⟩
/-- whether the one is ahead, along some wares -/
def aheadL (p1 p2 : Pick) : List Str → Bool
  | [] => false
  | x :: xs => if look p1 x = look p2 x then aheadL p1 p2 xs else decide ((look p1 x).getD 0 > (look p2 x).getD 0)
noncomputable def aheadB (rows : Rows) (wish : List D) (p1 p2 : Pick) : Bool := aheadL p1 p2 (agOf rows wish p1)
theorem aheadL_drop {p1 p2 : Pick} {xs : List Str} {i : Nat} (h : ∀ j y, j < i → xs[j]? = some y → look p1 y = look p2 y) : aheadL p1 p2 xs = aheadL p1 p2 (xs.drop i) := by
  induction i generalizing xs with
  | zero => rfl
  | succ i ih =>
    cases xs with
    | nil => rfl
    | cons x xs =>
      have e := h 0 x (Nat.succ_pos _) rfl
      show (if look p1 x = look p2 x then aheadL p1 p2 xs else _) = aheadL p1 p2 (xs.drop i)
      rw [if_pos e]
      exact ih fun j y hj hy => h (j + 1) y (by omega) hy
end Gh
end

section
set_option Elab.async false
set_option linter.all false
set_option maxRecDepth 100000
set_option maxHeartbeats 4000000
namespace Gh
open PySem PySem.Spec PyProof.Rows L2
/-! what search tells, in plain lists: the best pick, or a reason why there is none -/
/-- a pick that meets the wish -/
structure Met (rows : Rows) (wish : List D) (p : Pick) : Prop where
  met : metB rows wish p = true
  ok : PickOk rows p
  nd : (p.map (·.1)).Nodup
def Ext (g p : Pick) : Prop := ∀ x m, look g x = some m → look p x = some m
theorem metN_iff {p : Pick} {d : D} (h : d.need = true) : metN p d = true ↔ ∃ m, look p d.nm = some m ∧ d.lo ≤ m ∧ m ≤ d.hi := by
  obtain ⟨x, lo, hi, rfl, _⟩ := need_ints h
  show (match look p x with | some m => decide (lo ≤ m) && decide (m ≤ hi) | none => false) = true ↔ ∃ m, look p x = some m ∧ lo ≤ m ∧ m ≤ hi
  cases e : look p x with
  | none => simp
  | some m => simp
section
variable {rows : Rows} {wish : List D} {g p : Pick} {x : Str}
theorem Met.ofWish (h : Met rows wish p) (hw : wishOk (.lst wish) = true) {d : D} (hd : d ∈ wish) : ∃ m, look p d.nm = some m ∧ d.lo ≤ m ∧ m ≤ d.hi := by
  have h1 := h.met
  unfold metB at h1
  rw [Bool.and_eq_true, Bool.and_eq_true] at h1
  exact (metN_iff ((wish8 hw).2 d hd)).mp (List.all_eq_true.mp h1.2.1 d hd)
theorem Met.need (h : Met rows wish p) (rg : RowsGood rows) {y : Str} {m : Int} (hy : look p y = some m) {d : D} (hd : d ∈ needsOf rows y m) : ∃ m, look p d.nm = some m ∧ d.lo ≤ m ∧ m ≤ d.hi := by
  have h1 := h.met
  unfold metB at h1
  rw [Bool.and_eq_true, Bool.and_eq_true] at h1
  have h2 := List.all_eq_true.mp h1.2.2 (y, m) (look_mem hy)
  exact (metN_iff ((needsOf_good rg y m).2 d hd)).mp (List.all_eq_true.mp h2 d hd)
theorem srcFor_on {s : S3} (hs : s ∈ srcFor rows wish g x) {y : Str} (hy : s.1.on y = true) : (look g y).isSome = true := by
  unfold srcFor at hs
  rcases List.mem_append.mp hs with z | z
  · rcases List.mem_append.mp z with z | z
    · unfold pickSrc at z
      split at z
      · rename_i m e
        obtain rfl := List.mem_singleton.mp z
        have : x = y := of_decide_eq_true hy
        rw [← this, e]; rfl
      · cases z
    · obtain ⟨q, _, h⟩ := List.mem_filterMap.mp z
      split at h
      · cases h; cases hy
      · cases h
  · obtain ⟨q, hq, z⟩ := List.mem_flatMap.mp z
    obtain ⟨d, _, h⟩ := List.mem_filterMap.mp z
    split at h
    · cases h
      have : q.1 = y := of_decide_eq_true hy
      rw [← this]
      cases e : look g q.1 with
      | some m => rfl
      | none => exact absurd rfl (look_none e q hq)
    · cases h
theorem src_holds (rg : RowsGood rows) (hw : wishOk (.lst wish) = true) (hg : (g.map (·.1)).Nodup) (hp : Met rows wish p) {s : S3} (hs : s ∈ srcFor rows wish g x) (ha : ∀ y, s.1.on y = true → look p y = look g y) : ∃ m, look p x = some m ∧ s.2.1 ≤ m ∧ m ≤ s.2.2 := by
  unfold srcFor at hs
  rcases List.mem_append.mp hs with z | z
  · rcases List.mem_append.mp z with z | z
    · unfold pickSrc at z
      split at z
      · rename_i m e
        obtain rfl := List.mem_singleton.mp z
        exact ⟨m, by rw [ha x (decide_eq_true rfl), e], Int.le_refl _, Int.le_refl _⟩
      · cases z
    · obtain ⟨q, hq, h⟩ := List.mem_filterMap.mp z
      split at h
      · rename_i hn
        cases h
        have hd : q.1 ∈ wish := by
          obtain ⟨d, k⟩ := q
          have := List.mem_zipIdx' hq
          rw [this.2]; exact List.getElem_mem _
        rw [← hn]
        exact hp.ofWish hw hd
      · cases h
  · obtain ⟨q, hq, z⟩ := List.mem_flatMap.mp z
    obtain ⟨d, hd, h⟩ := List.mem_filterMap.mp z
    split at h
    · rename_i hn
      cases h
      have hd : d.1 ∈ needsOf rows q.1 q.2 := by
        obtain ⟨d, k⟩ := d
        have := List.mem_zipIdx' hd
        rw [this.2]; exact List.getElem_mem _
      rw [← hn]
      exact hp.need rg (by rw [ha q.1 (decide_eq_true rfl), look_nd hg hq]) hd
    · cases h
theorem fewK_props {ss : List S3} (hne : ss ≠ []) : (∀ o ∈ fewK rows x ss, o ∈ ss) ∧ fewK rows x ss ≠ [] ∧ leftP rows x (fewK rows x ss) = leftP rows x ss := by
  have go : ∀ (os kept : List S3), (∀ o ∈ kept, o ∈ ss) → kept ≠ [] → leftP rows x kept = leftP rows x ss → (∀ o ∈ os.foldl (fewStep rows x (leftP rows x ss)) kept, o ∈ ss) ∧ os.foldl (fewStep rows x (leftP rows x ss)) kept ≠ [] ∧ leftP rows x (os.foldl (fewStep rows x (leftP rows x ss)) kept) = leftP rows x ss := fun os => by
    induction os with
    | nil => intro kept h1 h2 h3; exact ⟨h1, h2, h3⟩
    | cons o os ih =>
      intro kept h1 h2 h3
      rw [List.foldl_cons]
      refine ih _ (fun o' h => h1 o' (fewStep_sub.1 o' h)) ?_ ?_
      · unfold fewStep
        split
        · rename_i h; exact h.1
        · exact h2
      · unfold fewStep
        split
        · rename_i h; exact h.2
        · exact h3
  exact go _ ss (fun _ h => h) hne rfl
theorem few_hit (rg : RowsGood rows) (hw : wishOk (.lst wish) = true) (hg : (g.map (·.1)).Nodup) (hp : Met rows wish p) (hne : srcFor rows wish g x ≠ []) (ha : ∀ y, (fewP rows x (srcFor rows wish g x)).any (fun s => s.on y) = true → look p y = look g y) : ∃ m, look p x = some m ∧ m ∈ leftP rows x (srcFor rows wish g x) := by
  obtain ⟨h1, h2, h3⟩ := fewK_props (rows := rows) (x := x) hne
  have hol : ∀ s ∈ fewK rows x (srcFor rows wish g x), ∃ m, look p x = some m ∧ s.2.1 ≤ m ∧ m ≤ s.2.2 := fun s hs => src_holds rg hw hg hp (h1 s hs) fun y hy => ha y (List.any_eq_true.mpr ⟨s.1, List.mem_map_of_mem hs, hy⟩)
  obtain ⟨s0, t, e0⟩ : ∃ s0 t, fewK rows x (srcFor rows wish g x) = s0 :: t := by
    cases h : fewK rows x (srcFor rows wish g x) with
    | nil => exact absurd h h2
    | cons a b => exact ⟨a, b, rfl⟩
  obtain ⟨m, hm, _⟩ := hol s0 (by rw [e0]; exact List.mem_cons_self ..)
  refine ⟨m, hm, ?_⟩
  rw [← h3]
  refine List.mem_filter.mpr ⟨makesD_mem.mpr (hp.ok _ (look_mem hm)).2, List.all_eq_true.mpr fun s hs => ?_⟩
  obtain ⟨m', hm', a, b⟩ := hol s hs
  rw [hm] at hm'; cases hm'
  rw [decide_eq_true a, decide_eq_true b]; rfl
theorem srcFor_some (h : x ∈ agOf rows wish g) : srcFor rows wish g x ≠ [] := fun e => by
  have hn : ∀ s, s ∉ srcFor rows wish g x := fun s hs => by rw [e] at hs; cases hs
  rcases List.mem_append.mp (agOf_sub h) with z | z
  · obtain ⟨d, hd, ed⟩ := List.mem_map.mp z
    obtain ⟨k, hk, e1⟩ := List.getElem_of_mem hd
    refine hn (.wish k, d.lo, d.hi) ?_
    refine List.mem_append_left _ (List.mem_append_right _ (List.mem_filterMap.mpr ⟨(d, k), ?_, if_pos ed⟩))
    exact List.mem_of_getElem? (zip_at (by rw [List.getElem?_eq_getElem hk, e1]))
  · obtain ⟨q, hq, z⟩ := List.mem_flatMap.mp z
    obtain ⟨d, hd, ed⟩ := List.mem_map.mp z
    obtain ⟨k, hk, e1⟩ := List.getElem_of_mem hd
    refine hn (.need q.1 q.2 k, d.lo, d.hi) ?_
    refine List.mem_append_right _ (List.mem_flatMap.mpr ⟨q, hq, List.mem_filterMap.mpr ⟨(d, k), ?_, if_pos ed⟩⟩)
    exact List.mem_of_getElem? (zip_at (by rw [List.getElem?_eq_getElem hk, e1]))
/-- no pick meets the wish that agrees on what a reason rests on -/
def NoMeet (rows : Rows) (wish : List D) (r : Rsn) (g : Pick) : Prop := ∀ p, Met rows wish p → (∀ y, r.on y = true → (look g y).isSome = true → look p y = look g y) → False
theorem deadP_some (rg : RowsGood rows) (hw : wishOk (.lst wish) = true) (hg : (g.map (·.1)).Nodup) {r : Rsn} : ∀ {ws : List Str}, (∀ x ∈ ws, x ∈ agOf rows wish g) → deadP rows wish g ws = some r → NoMeet rows wish r g
  | [], _, h => by cases h
  | x :: xs, hs, h => by
    unfold deadP at h
    split at h
    · rename_i hl
      cases h
      intro p hp ha
      obtain ⟨m, _, hm⟩ := few_hit rg hw hg hp (srcFor_some (hs x (List.mem_cons_self ..))) fun y hy => by
        refine ha y (by rw [Rsn.on_mk, hy]; rfl) ?_
        obtain ⟨s, hs', h⟩ := List.any_eq_true.mp hy
        obtain ⟨o, ho, rfl⟩ := List.mem_map.mp hs'
        exact srcFor_on ((fewK_props (rows := rows) (x := x) (srcFor_some (hs x (List.mem_cons_self ..)))).1 o ho) h
      rw [hl] at hm; cases hm
    · exact deadP_some rg hw hg (fun y hy => hs y (List.mem_cons_of_mem _ hy)) h
theorem deadP_none : ∀ {ws : List Str}, deadP rows wish g ws = none → ∀ x ∈ ws, leftP rows x (srcFor rows wish g x) ≠ []
  | y :: ys, h, x, hx => by
    unfold deadP at h
    split at h
    · cases h
    · rename_i hl
      rcases List.mem_cons.mp hx with rfl | hx
      · exact hl
      · exact deadP_none h x hx
/-! ### agendas of picks that go on -/
theorem AgR.congr {n1 n2 : Str → List Str} {L R : List Str} {a : Nat} (h : AgR n1 L a R) (hs : ∀ x ∈ R, n1 x = n2 x) : AgR n2 L a R := by
  induction h with
  | done hl => exact .done hl
  | @step L a x R e h ih =>
    obtain ⟨t, et⟩ := (AgR.step e h).pre
    have hx : n1 x = n2 x := hs x (by rw [et]; exact List.mem_append_left _ (List.mem_of_getElem? e))
    rw [hx] at ih
    exact .step e (ih hs)
theorem AgR.closed {nx : Str → List Str} {L R : List Str} {a : Nat} (h : AgR nx L a R) : ∀ i x, a ≤ i → R[i]? = some x → ∀ y ∈ nx x, y ∈ R := by
  induction h with
  | @done L a hl => intro i x hi hx; have := (List.getElem?_eq_some_iff.mp hx).1; omega
  | @step L a x R e h ih =>
    intro i z hi hz y hy
    by_cases hia : i = a
    · subst hia
      obtain ⟨t, et⟩ := (AgR.step e h).pre
      have hal := (List.getElem?_eq_some_iff.mp e).1
      have : R[i]? = some x := by rw [et, List.getElem?_append_left hal]; exact e
      rw [this] at hz; cases hz
      obtain ⟨u, eu⟩ := h.pre
      rw [eu]
      exact List.mem_append_left _ (adds_mem.mpr (.inr hy))
    · exact ih i z (by omega) hz y hy
theorem agOf_wish {d : D} (hd : d ∈ wish) : d.nm ∈ agOf rows wish g := by
  obtain ⟨t, e⟩ := (agOf_spec (rows := rows) (wish := wish) (p := g)).pre
  rw [e]
  exact List.mem_append_left _ (adds_mem.mpr (.inr (List.mem_map_of_mem hd)))
theorem agOf_need {y : Str} {m : Int} (hy : y ∈ agOf rows wish g) (hm : look g y = some m) {d : D} (hd : d ∈ needsOf rows y m) : d.nm ∈ agOf rows wish g := by
  obtain ⟨i, hi, e⟩ := List.getElem_of_mem hy
  refine AgR.closed (agOf_spec (rows := rows) (wish := wish) (p := g)) i y (Nat.zero_le _) (by rw [List.getElem?_eq_getElem hi, e]) d.nm ?_
  unfold nxP
  rw [hm]
  exact List.mem_map_of_mem hd
/-- up to the first ware on which two picks differ their agendas are alike -/
theorem agOf_pre {p q : Pick} {i : Nat} {x : Str} (hi : (agOf rows wish p)[i]? = some x) (hs : ∀ j y, j < i → (agOf rows wish p)[j]? = some y → look p y = look q y) : (agOf rows wish q)[i]? = some x :=
  AgR.same agOf_spec (agOf_spec (rows := rows) (wish := wish) (p := q)) hi fun j y hj hy => by unfold nxP; rw [hs j y hj hy]
theorem agOf_eqOn {p q : Pick} (hs : ∀ x ∈ agOf rows wish p, look p x = look q x) : agOf rows wish p = agOf rows wish q := by
  have h := (agOf_spec (rows := rows) (wish := wish) (p := p)).congr (n2 := nxP rows q) fun x hx => by unfold nxP; rw [hs x hx]
  exact agOf_eq h
def Same (p q : Pick) : Prop := ∀ x, look p x = look q x
structure Best (rows : Rows) (wish : List D) (g p : Pick) : Prop where
  met : Met rows wish p
  ext : Ext g p
  ord : p.map (·.1) = agOf rows wish p
  best : ∀ q, Met rows wish q → Ext g q → Same p q ∨ aheadB rows wish p q = true
def Told (rows : Rows) (wish : List D) (g : Pick) : Fnd → Prop
  | .none r => NoMeet rows wish r g
  | .pick p _ => Best rows wish g p
/-- the granted wares are the first of the agenda -/
structure Inv1 (rows : Rows) (wish : List D) (g : Pick) : Prop where
  nd : (g.map (·.1)).Nodup
  ok : PickOk rows g
  ord : g.map (·.1) = (agOf rows wish g).take g.length
theorem Ext.trans' {a b c : Pick} (h : Ext a b) (k : Ext b c) : Ext a c := fun x m e => k x m (h x m e)
theorem look_isSome_mem {p : Pick} {x : Str} : (look p x).isSome = true ↔ x ∈ p.map (·.1) := by
  constructor
  · intro h
    obtain ⟨m, hm⟩ := Option.isSome_iff_exists.mp h
    exact List.mem_map.mpr ⟨_, look_mem hm, rfl⟩
  · intro h
    obtain ⟨m, hm⟩ := look_ex h
    rw [hm]; rfl
/-- a pick that goes on from granted pairs has their agenda as far as they go -/
theorem ext_pre (I : Inv1 rows wish g) {q : Pick} (h : Ext g q) : ∀ i x, i ≤ g.length → (agOf rows wish g)[i]? = some x → (agOf rows wish q)[i]? = some x := fun i x hi hx => by
  refine agOf_pre hx fun j y hj hy => ?_
  have hyg : y ∈ g.map (·.1) := by
    rw [I.ord]
    exact List.mem_of_getElem? (i := j) (by rw [List.getElem?_take_of_lt (by omega)]; exact hy)
  obtain ⟨m, hm⟩ := look_ex hyg
  rw [hm, h y m hm]
theorem left_all {m : Int} (hm : look g x = some m) (hl : leftP rows x (srcFor rows wish g x) ≠ []) : ∀ s ∈ srcFor rows wish g x, s.2.1 ≤ m ∧ m ≤ s.2.2 := by
  obtain ⟨m0, h0⟩ : ∃ m0, m0 ∈ leftP rows x (srcFor rows wish g x) := by
    cases h : leftP rows x (srcFor rows wish g x) with
    | nil => exact absurd h hl
    | cons a b => exact ⟨a, List.mem_cons_self ..⟩
  have h1 := List.all_eq_true.mp (List.mem_filter.mp h0).2
  have h2 : ∀ s ∈ srcFor rows wish g x, s.2.1 ≤ m0 ∧ m0 ≤ s.2.2 := fun s hs => by
    have := h1 s hs
    rw [Bool.and_eq_true, decide_eq_true_eq, decide_eq_true_eq] at this
    exact this
  have h3 := h2 (.pick x m, m, m) (by
    unfold srcFor pickSrc
    rw [hm]
    exact List.mem_append_left _ (List.mem_append_left _ (List.mem_singleton.mpr rfl)))
  have e : m0 = m := Int.le_antisymm h3.2 h3.1
  rw [← e]; exact h2
theorem leaf_best (rg : RowsGood rows) (hw : wishOk (.lst wish) = true) (I : Inv1 rows wish g) (hd : deadP rows wish g (agOf rows wish g) = none) (ho : openP rows wish g = []) : Best rows wish g g := by
  have hall : ∀ x ∈ agOf rows wish g, (look g x).isSome = true := fun x hx => by
    cases h : (look g x).isSome with
    | true => rfl
    | false =>
      have : x ∈ openP rows wish g := List.mem_filter.mpr ⟨hx, by rw [h]; rfl⟩
      rw [ho] at this; cases this
  have hord : g.map (·.1) = agOf rows wish g := by
    have h1 := List.Nodup.length_le_of_subset (agOf_nd (rows := rows) (wish := wish) (p := g)) (l₂ := g.map (·.1)) fun x hx => look_isSome_mem.mp (hall x hx)
    rw [List.length_map] at h1
    rw [I.ord, List.take_of_length_le h1]
  have hleft := deadP_none hd
  have hmet : Met rows wish g := by
    refine ⟨?_, I.ok, I.nd⟩
    unfold metB
    rw [Bool.and_eq_true, Bool.and_eq_true]
    refine ⟨decide_eq_true (by rw [hord]), List.all_eq_true.mpr fun d hdm => ?_, List.all_eq_true.mpr fun q hq => List.all_eq_true.mpr fun d hdm => ?_⟩
    · have hda : d.nm ∈ agOf rows wish g := agOf_wish hdm
      obtain ⟨m, hm⟩ := Option.isSome_iff_exists.mp (hall _ hda)
      obtain ⟨k, hk, e1⟩ := List.getElem_of_mem hdm
      refine (metN_iff ((wish8 hw).2 d hdm)).mpr ⟨m, hm, left_all hm (hleft _ hda) (.wish k, d.lo, d.hi) ?_⟩
      exact List.mem_append_left _ (List.mem_append_right _ (List.mem_filterMap.mpr ⟨(d, k), List.mem_of_getElem? (zip_at (by rw [List.getElem?_eq_getElem hk, e1])), if_pos rfl⟩))
    · have hqa : q.1 ∈ agOf rows wish g := by rw [← hord]; exact List.mem_map_of_mem hq
      have hda : d.nm ∈ agOf rows wish g := agOf_need hqa (look_nd I.nd hq) hdm
      obtain ⟨m, hm⟩ := Option.isSome_iff_exists.mp (hall _ hda)
      obtain ⟨k, hk, e1⟩ := List.getElem_of_mem hdm
      refine (metN_iff ((needsOf_good rg _ _).2 d hdm)).mpr ⟨m, hm, left_all hm (hleft _ hda) (.need q.1 q.2 k, d.lo, d.hi) ?_⟩
      exact List.mem_append_right _ (List.mem_flatMap.mpr ⟨q, hq, List.mem_filterMap.mpr ⟨(d, k), List.mem_of_getElem? (zip_at (by rw [List.getElem?_eq_getElem hk, e1])), if_pos rfl⟩⟩)
  refine ⟨hmet, fun _ _ h => h, hord, fun q hq he => .inl fun x => ?_⟩
  have hag : agOf rows wish g = agOf rows wish q := agOf_eqOn fun x hx => by
    obtain ⟨m, hm⟩ := Option.isSome_iff_exists.mp (hall x hx)
    rw [hm, he x m hm]
  cases e1 : look g x with
  | some m => rw [he x m e1]
  | none =>
    cases e2 : look q x with
    | none => rfl
    | some m =>
      have h1 : x ∈ agOf rows wish q := (metB_mem hq.met).mpr (look_isSome_mem.mp (by rw [e2]; rfl))
      rw [← hag] at h1
      have := hall x h1
      rw [e1] at this; cases this
/-! ### one ware more -/
theorem open_next (I : Inv1 rows wish g) {w : Str} {t : List Str} (ho : openP rows wish g = w :: t) : (agOf rows wish g)[g.length]? = some w := by
  have hnd := agOf_nd (rows := rows) (wish := wish) (p := g)
  have e1 : openP rows wish g = (agOf rows wish g).drop g.length := by
    unfold openP
    have h1 : (agOf rows wish g).filter (fun x => !(look g x).isSome) = ((agOf rows wish g).take g.length ++ (agOf rows wish g).drop g.length).filter (fun x => !(look g x).isSome) := by rw [List.take_append_drop]
    rw [h1, List.filter_append]
    have h2 : ((agOf rows wish g).take g.length).filter (fun x => !(look g x).isSome) = [] := List.filter_eq_nil_iff.mpr fun x hx => by
      rw [← I.ord] at hx
      rw [look_isSome_mem.mpr hx]; simp
    have h3 : ((agOf rows wish g).drop g.length).filter (fun x => !(look g x).isSome) = (agOf rows wish g).drop g.length := List.filter_eq_self.mpr fun x hx => by
      have hn : (look g x).isSome = false := by
        cases h : (look g x).isSome with
        | false => rfl
        | true =>
          have h4 := look_isSome_mem.mp h
          rw [I.ord] at h4
          rw [← List.take_append_drop g.length (agOf rows wish g), List.nodup_append] at hnd
          exact absurd rfl (hnd.2.2 x h4 x hx)
      rw [hn]; rfl
    rw [h2, h3, List.nil_append]
  rw [e1] at ho
  have h := congrArg List.head? ho
  rw [List.head?_drop] at h
  exact h
theorem inv_next (I : Inv1 rows wish g) {w : Str} {t : List Str} {m : Int} (ho : openP rows wish g = w :: t) (hw : wareS w = true) (hm : m ∈ makesD rows w) : Inv1 rows wish (g ++ [(w, m)]) := by
  have hwo : w ∈ openP rows wish g := by rw [ho]; exact List.mem_cons_self ..
  have hn := (open_new hwo).1
  have hk := look_out hn
  have hE : Ext g (g ++ [(w, m)]) := fun x k h => by rw [look_append, h]; rfl
  refine ⟨?_, fun q hq => ?_, ?_⟩
  · rw [List.map_append, List.nodup_append]
    exact ⟨I.nd, by simp, fun a ha b hb e => by simp at hb; subst hb; subst e; exact hk ha⟩
  · rcases List.mem_append.mp hq with z | z
    · exact I.ok q z
    · obtain rfl := List.mem_singleton.mp z
      exact ⟨hw, makesD_mem.mp hm⟩
  · have hat := open_next I ho
    have h1 : (agOf rows wish (g ++ [(w, m)])).take (g.length + 1) = (agOf rows wish g).take (g.length + 1) := by
      refine List.ext_getElem? fun i => ?_
      by_cases hi : i < g.length + 1
      · rw [List.getElem?_take_of_lt hi, List.getElem?_take_of_lt hi]
        have hl := (List.getElem?_eq_some_iff.mp hat).1
        have e := List.getElem?_eq_getElem (l := agOf rows wish g) (i := i) (by omega)
        rw [e, ext_pre I hE i _ (by omega) e]
      · rw [List.getElem?_eq_none (by rw [List.length_take]; omega), List.getElem?_eq_none (by rw [List.length_take]; omega)]
    rw [List.length_append, List.length_singleton, h1, take_snoc hat, List.map_append, I.ord]
    rfl
theorem look_one {w y : Str} {m : Int} : look ([(w, m)] : Pick) y = if w = y then some m else none := by rw [look_cons]; rfl
theorem look_more {w y : Str} {m : Int} (h : (look (g ++ [(w, m)]) y).isSome = true) : (∃ k, look g y = some k ∧ look (g ++ [(w, m)]) y = some k) ∨ (look g y = none ∧ y = w ∧ look (g ++ [(w, m)]) y = some m) := by
  rw [look_append] at h ⊢
  cases e : look g y with
  | some k => exact .inl ⟨k, rfl, rfl⟩
  | none =>
    rw [e, look_one] at h
    by_cases hw : w = y
    · exact .inr ⟨rfl, hw.symm, by rw [look_one, if_pos hw]; rfl⟩
    · rw [if_neg hw] at h; cases h
theorem makesD_pw : (makesD rows x).Pairwise (fun a b => b ≤ a) := List.pairwise_reverse.mpr (sortI_pw _)
theorem loopS_told (rg : RowsGood rows) (hw : wishOk (.lst wish) = true) (I : Inv1 rows wish g) {w : Str} {t : List Str} (ho : openP rows wish g = w :: t) {rec : Pick → Fnd} (hrec : ∀ m ∈ makesD rows w, Told rows wish (g ++ [(w, m)]) (rec (g ++ [(w, m)]))) :
    ∀ (ms done : List Int) (bs ag : List (Int × Rsn)), makesD rows w = done ++ ms → (∀ m ∈ done, ∃ r, NoMeet rows wish r (g ++ [(w, m)])) → (∀ m ∈ done, m ∈ leftP rows w (srcFor rows wish g w) → ∃ r, (m, r) ∈ bs ∧ NoMeet rows wish r (g ++ [(w, m)])) → Told rows wish g (loopS rec rows g w (srcFor rows wish g w) ms bs ag) := fun ms => by
  have hwo : w ∈ openP rows wish g := by rw [ho]; exact List.mem_cons_self ..
  have hwn := (open_new hwo).1
  have hwa := (open_new hwo).2
  have hat := open_next I ho
  induction ms with
  | nil =>
    intro done bs ag hd h1 h2
    rw [loopS]
    intro p hp ha
    obtain ⟨m, hm, hml⟩ := few_hit rg hw I.nd hp (srcFor_some hwa) fun y hy => by
      refine ha y (by rw [Rsn.on_mk, hy]; rfl) ?_
      obtain ⟨s, hs', h⟩ := List.any_eq_true.mp hy
      obtain ⟨o, ho', rfl⟩ := List.mem_map.mp hs'
      exact srcFor_on ((fewK_props (rows := rows) (x := w) (srcFor_some hwa)).1 o ho') h
    have hmd : m ∈ done := by
      have := (List.mem_filter.mp hml).1
      rw [hd, List.append_nil] at this; exact this
    obtain ⟨r, hr, hnm⟩ := h2 m hmd hml
    refine hnm p hp fun y hy hs => ?_
    rcases look_more hs with ⟨k, e1, e2⟩ | ⟨_, rfl, e2⟩
    · rw [e2, ← e1]
      refine ha y ?_ (by rw [e1]; rfl)
      rw [Rsn.on_mk, Brs.list_of, List.any_eq_true.mpr ⟨(m, r), hr, hy⟩, Bool.or_true]
    · rw [e2, hm]
  | cons m ms ih =>
    intro done bs ag hd h1 h2
    have hmm : m ∈ makesD rows w := by rw [hd]; exact List.mem_append_right _ (List.mem_cons_self ..)
    have hR := hrec m hmm
    rw [loopS]
    cases hsr : rec (g ++ [(w, m)]) with
    | pick p a =>
      rw [hsr] at hR
      have hR : Best rows wish (g ++ [(w, m)]) p := hR
      have hE : Ext g (g ++ [(w, m)]) := fun x k h => by rw [look_append, h]; rfl
      have hEp : Ext g p := hE.trans' hR.ext
      have hpw : look p w = some m := hR.ext w m (by rw [look_append, hwn, look_one, if_pos rfl]; rfl)
      refine ⟨hR.met, hEp, hR.ord, fun q hq hEq => ?_⟩
      have hqa := ext_pre I hEq _ _ (Nat.le_refl _) hat
      obtain ⟨m', hm'⟩ := look_ex ((metB_mem hq.met).mp (List.mem_of_getElem? hqa))
      have hExt : ∀ k, m' = k → Ext (g ++ [(w, k)]) q := fun k hk x j h => by
        rcases look_more (by rw [h]; rfl) with ⟨i, e1, e2⟩ | ⟨_, rfl, e2⟩
        · rw [h] at e2; cases e2
          exact hEq x j e1
        · rw [h] at e2; cases e2
          rw [hm', hk]
      have hmem : m' ∈ done ++ m :: ms := by rw [← hd]; exact makesD_mem.mpr (hq.ok _ (look_mem hm')).2
      rcases List.mem_append.mp hmem with z | z
      · obtain ⟨r, hr⟩ := h1 m' z
        refine (hr q hq fun y _ hs => ?_).elim
        obtain ⟨k, hk⟩ := Option.isSome_iff_exists.mp hs
        rw [hk, hExt m' rfl y k hk]
      · by_cases hmeq : m' = m
        · exact hR.best q hq (hExt m hmeq)
        · have hlt : m' < m := by
            have hpw := makesD_pw (rows := rows) (x := w)
            rw [hd, List.pairwise_append] at hpw
            rcases List.mem_cons.mp z with rfl | z
            · exact absurd rfl hmeq
            · have := (List.pairwise_cons.mp hpw.2.1).1 m' z
              omega
          refine .inr ?_
          have hpa := ext_pre I hEp _ _ (Nat.le_refl _) hat
          have hl := List.getElem?_eq_some_iff.mp hpa
          unfold aheadB
          rw [aheadL_drop (i := g.length) fun j y hj hy => ?_, List.drop_eq_getElem_cons hl.1]
          · show (if look p ((agOf rows wish p)[g.length]'hl.1) = look q ((agOf rows wish p)[g.length]'hl.1) then _ else _) = _
            rw [hl.2, hpw, hm', if_neg (fun h => hmeq (Option.some.inj h).symm)]
            exact decide_eq_true hlt
          · have hlg := (List.getElem?_eq_some_iff.mp hat).1
            have e := List.getElem?_eq_getElem (l := agOf rows wish g) (i := j) (by omega)
            have e2 := ext_pre I hEp j _ (by omega) e
            rw [hy] at e2; cases e2
            have hyg : (agOf rows wish g)[j]'(by omega) ∈ g.map (·.1) := by
              rw [I.ord]
              exact List.mem_of_getElem? (i := j) (by rw [List.getElem?_take_of_lt (by omega)]; exact e)
            obtain ⟨k, hk⟩ := look_ex hyg
            rw [hEp _ k hk, hEq _ k hk]
    | none r =>
      rw [hsr] at hR
      have hR : NoMeet rows wish r (g ++ [(w, m)]) := hR
      show Told rows wish g (if r.on w = false then .none r else _)
      split
      · rename_i hon
        intro p hp ha
        refine hR p hp fun y hy hs => ?_
        rcases look_more hs with ⟨k, e1, e2⟩ | ⟨_, rfl, _⟩
        · rw [e2, ← e1]
          exact ha y hy (by rw [e1]; rfl)
        · rw [hon] at hy; cases hy
      · refine ih (done ++ [m]) _ _ (by rw [hd, List.append_assoc]; rfl) (fun m' hm' => ?_) (fun m' hm' hl => ?_)
        · rcases List.mem_append.mp hm' with z | z
          · exact h1 m' z
          · obtain rfl := List.mem_singleton.mp z
            exact ⟨r, hR⟩
        · rcases List.mem_append.mp hm' with z | z
          · obtain ⟨r', h3, h4⟩ := h2 m' z hl
            refine ⟨r', ?_, h4⟩
            split
            · exact List.mem_append_left _ h3
            · exact h3
          · obtain rfl := List.mem_singleton.mp z
            refine ⟨r, ?_, hR⟩
            rw [if_pos hl]
            exact List.mem_append_right _ (List.mem_singleton.mpr rfl)
theorem search_told (rg : RowsGood rows) (hw : wishOk (.lst wish) = true) : ∀ (n : Nat) (g : Pick), Inv1 rows wish g → g.length + n = rows.length + 1 → Told rows wish g (searchP rows wish n g) := fun n => by
  induction n with
  | zero => intro g I h; have := pick_le I.nd I.ok; omega
  | succ n ih =>
    intro g I h
    rw [searchP]
    cases hd : deadP rows wish g (agOf rows wish g) with
    | some r => exact deadP_some rg hw I.nd (fun _ h => h) hd
    | none =>
      show Told rows wish g (match openP rows wish g with | [] => _ | w :: _ => _)
      cases ho : openP rows wish g with
      | nil => exact leaf_best rg hw I hd ho
      | cons w t =>
        have hwo : w ∈ openP rows wish g := by rw [ho]; exact List.mem_cons_self ..
        have hww := agOf_wareG (p := g) rg hw w (open_new hwo).2
        exact loopS_told rg hw I ho (fun m hm => ih _ (inv_next I ho hww hm) (by rw [List.length_append]; simp; omega)) _ [] [] [] (by rw [List.nil_append]) (fun _ z => by cases z) (fun _ z => by cases z)
theorem settle_told (rg : RowsGood rows) (hw : wishOk (.lst wish) = true) : Told rows wish [] (settleP rows wish) :=
  search_told rg hw _ [] ⟨.nil, fun _ z => (by cases z), rfl⟩ (by simp)
end
end Gh
end

section
set_option Elab.async false
set_option linter.all false
set_option maxRecDepth 100000
set_option maxHeartbeats 4000000
namespace Gh
open PySem PySem.Spec PyProof.Rows L2
/-! what settle tells is well made -/
mutual
def Rsn.Good : Rsn → Prop
  | .mk x ss bs => wareS x = true ∧ ss ≠ [] ∧ ss.length ≤ 100 ∧ (∀ s ∈ ss, SrcOk s) ∧ bs.list.length ≤ 8 ∧ bs.Good
def Brs.Good : Brs → Prop
  | .nil => True
  | .cons m r bs => (1 ≤ m ∧ m ≤ 999) ∧ r.Good ∧ bs.Good
end
theorem Rsn.good_mk {x : Str} {ss : List Src} {bs : Brs} : (Rsn.mk x ss bs).Good ↔ (wareS x = true ∧ ss ≠ [] ∧ ss.length ≤ 100 ∧ (∀ s ∈ ss, SrcOk s) ∧ bs.list.length ≤ 8 ∧ bs.Good) := by rw [Rsn.Good]
theorem Brs.good_all : ∀ {bs : Brs}, bs.Good ↔ ∀ b ∈ bs.list, (1 ≤ b.1 ∧ b.1 ≤ 999) ∧ b.2.Good
  | .nil => by rw [Brs.Good, Brs.list]; simp
  | .cons m r bs => by
    rw [Brs.Good, Brs.list, Brs.good_all (bs := bs)]
    simp [and_assoc]
theorem src_gd {s : Src} (h : SrcOk s) : D.gd 1 (encSrc s) = true := by
  have f1 : (D.str ("pick" : Str)).fit = true := by decide +kernel
  have f2 : (D.str ("wish" : Str)).fit = true := by decide +kernel
  have f3 : (D.str ("need" : Str)).fit = true := by decide +kernel
  cases s with
  | pick x m =>
    have hx : (D.str x).fit = true := fit_ware h
    show D.gd 1 (.tup [.str "pick", .str x, .int m]) = true
    rw [D.gd_tup, D.gds_cons, D.gds_cons, D.gds_cons, D.gds_nil]
    rw [D.gd, D.gd, D.gd, f1, hx]; rfl
  | wish k =>
    show D.gd 1 (.tup [.str "wish", .int k]) = true
    rw [D.gd_tup, D.gds_cons, D.gds_cons, D.gds_nil]
    rw [D.gd, D.gd, f2]; rfl
  | need x m k =>
    have hx : (D.str x).fit = true := fit_ware h
    show D.gd 1 (.tup [.str "need", .str x, .int m, .int k]) = true
    rw [D.gd_tup, D.gds_cons, D.gds_cons, D.gds_cons, D.gds_cons, D.gds_nil]
    rw [D.gd, D.gd, D.gd, D.gd, f3, hx]; rfl
mutual
theorem rsn_gd : ∀ (r : Rsn) (k : Nat), r.Good → r.dep ≤ k → D.gd (3 * k + 3) (encR r) = true
  | .mk x ss bs, k, h, hd => by
    obtain ⟨h1, h2, h3, h4, h5, h6⟩ := Rsn.good_mk.mp h
    rw [Rsn.dep] at hd
    have hx : (D.str x).fit = true := fit_ware h1
    rw [encR]
    show D.gd (3 * k + 2 + 1) _ = true
    rw [D.gd_tup, D.gds_cons, D.gds_cons, D.gds_cons, D.gds_nil]
    have e1 : D.gd (3 * k + 2) (.str x) = true := by rw [D.gd]; exact hx
    have e2 : D.gd (3 * k + 1 + 1) (.lst (ss.map encSrc)) = true := by
      rw [D.gd_lst, Bool.and_eq_true]
      refine ⟨decide_eq_true (by rw [List.length_map]; omega), D.gds_all.mpr fun d hd => ?_⟩
      obtain ⟨s, hs, rfl⟩ := List.mem_map.mp hd
      exact D.gd_mono 1 _ _ (by omega) (src_gd (h4 s hs))
    have e3 : D.gd (3 * k + 1 + 1) (.lst (encB bs)) = true := by
      rw [D.gd_lst, Bool.and_eq_true]
      exact ⟨decide_eq_true (by rw [encB_list, List.length_map]; omega), brs_gd bs k h6 hd⟩
    rw [e1, show 3 * k + 2 = 3 * k + 1 + 1 from rfl, e2, e3]; rfl
theorem brs_gd : ∀ (bs : Brs) (k : Nat), bs.Good → bs.dep ≤ k → D.gds (3 * k + 1) (encB bs) = true
  | .nil, k, h, hd => by rw [encB]; exact D.gds_nil
  | .cons m r bs, k, h, hd => by
    rw [Brs.Good] at h
    rw [Brs.dep] at hd
    rw [encB, D.gds_cons, Bool.and_eq_true]
    refine ⟨?_, brs_gd bs k h.2.2 (by omega)⟩
    obtain ⟨j, rfl⟩ : ∃ j, k = j + 1 := ⟨k - 1, by omega⟩
    have := rsn_gd r j h.2.1 (by omega)
    show D.gd (3 * (j + 1) + 1) _ = true
    rw [D.gd_tup, D.gds_cons, D.gds_cons, D.gds_nil, show 3 * (j + 1) = 3 * j + 3 from by omega, this, D.gd]; rfl
end
theorem fewK_len {rows : Rows} {x : Str} {ss : List S3} : (fewK rows x ss).length ≤ ss.length := by
  have go : ∀ (os kept : List S3), (os.foldl (fewStep rows x (leftP rows x ss)) kept).length ≤ kept.length := fun os => by
    induction os with
    | nil => intro kept; exact Nat.le_refl _
    | cons o os ih =>
      intro kept
      rw [List.foldl_cons]
      exact Nat.le_trans (ih _) fewStep_sub.2
  exact go _ ss
/-- the makes of the shop -/
def MkOk (rows : Rows) : Prop := ∀ x m, m ∈ makesD rows x → 1 ≤ m ∧ m ≤ 999
theorem mk_good {rows : Rows} {wish : List D} {g : Pick} {x : Str} {bs : List (Int × Rsn)} (rg : RowsGood rows) (hw : wishOk (.lst wish) = true) (po : PickOk rows g) (hg : g.length ≤ 12) (hx : x ∈ agOf rows wish g) (hb : ∀ b ∈ bs, (1 ≤ b.1 ∧ b.1 ≤ 999) ∧ b.2.Good) (hl : bs.length ≤ 8) : (Rsn.mk x (fewP rows x (srcFor rows wish g x)) (Brs.of bs)).Good := by
  have hxw := agOf_wareG rg hw x hx
  obtain ⟨h1, h2, h3⟩ := fewK_props (rows := rows) (x := x) (srcFor_some hx)
  refine Rsn.good_mk.mpr ⟨hxw, ?_, ?_, fun s hs => ?_, by rw [Brs.list_of]; exact hl, Brs.good_all.mpr (by rw [Brs.list_of]; exact hb)⟩
  · unfold fewP
    intro z
    exact h2 (List.map_eq_nil_iff.mp z)
  · unfold fewP
    rw [List.length_map]
    exact Nat.le_trans fewK_len (srcFor_len rg hw hg)
  · obtain ⟨o, ho, rfl⟩ := List.mem_map.mp hs
    exact srcFor_ok hxw po o (h1 o ho)
/-- what is told of newer makes -/
def AgGood (rows : Rows) (p : Pick) (k : Nat) (ag : List (List (Int × Rsn))) : Prop := ∀ i l, ag[i]? = some l → l.length ≤ 8 ∧ ∃ q, p[k + i]? = some q ∧ ∀ b ∈ l, b.1 ∈ makesD rows q.1 ∧ (1 ≤ b.1 ∧ b.1 ≤ 999) ∧ b.2.Good ∧ b.2.dep ≤ 13
def FGood (rows : Rows) (g : Pick) : Fnd → Prop
  | .none r => r.Good
  | .pick p ag => p.length = g.length + ag.length ∧ p.take g.length = g ∧ AgGood rows p g.length ag
theorem deadP_good {rows : Rows} {wish : List D} {g : Pick} (rg : RowsGood rows) (hw : wishOk (.lst wish) = true) (po : PickOk rows g) (hg : g.length ≤ 12) {r : Rsn} : ∀ {ws : List Str}, (∀ x ∈ ws, x ∈ agOf rows wish g) → deadP rows wish g ws = some r → r.Good
  | [], _, h => by cases h
  | x :: xs, hs, h => by
    unfold deadP at h
    split at h
    · cases h
      exact mk_good (bs := []) rg hw po hg (hs x List.mem_cons_self) (fun _ z => by cases z) (by decide)
    · exact deadP_good rg hw po hg (fun y hy => hs y (List.mem_cons_of_mem _ hy)) h
theorem loopS_good {rows : Rows} {wish : List D} {g : Pick} {w : Str} (mo : MkOk rows) (sm : Small rows) (rg : RowsGood rows) (hw : wishOk (.lst wish) = true) (po : PickOk rows g) (hg : g.length ≤ 12) (hwa : w ∈ agOf rows wish g) {rec : Pick → Fnd} {n : Nat} (hn : n ≤ 13) (hd : ∀ p r, rec p = .none r → r.dep ≤ n) (hrec : ∀ m ∈ makesD rows w, FGood rows (g ++ [(w, m)]) (rec (g ++ [(w, m)]))) :
    ∀ (ms done : List Int) (bs ag : List (Int × Rsn)), makesD rows w = done ++ ms → bs.length ≤ done.length → ag.length = done.length → (∀ b ∈ bs, (1 ≤ b.1 ∧ b.1 ≤ 999) ∧ b.2.Good) → (∀ b ∈ ag, b.1 ∈ makesD rows w ∧ (1 ≤ b.1 ∧ b.1 ≤ 999) ∧ b.2.Good ∧ b.2.dep ≤ 13) → FGood rows g (loopS rec rows g w (srcFor rows wish g w) ms bs ag) := fun ms => by
  induction ms with
  | nil =>
    intro done bs ag e h1 h2 h3 h4
    unfold loopS
    have := makesD_len (x := w) sm
    rw [e, List.append_nil] at this
    exact mk_good rg hw po hg hwa h3 (by omega)
  | cons m ms ih =>
    intro done bs ag e h1 h2 h3 h4
    have hm : m ∈ makesD rows w := by rw [e]; simp
    have hr := hrec m hm
    have h8 := makesD_len (x := w) sm
    rw [e, List.length_append, List.length_cons] at h8
    unfold loopS
    cases hs : rec (g ++ [(w, m)]) with
    | pick p a =>
      rw [hs] at hr
      obtain ⟨k1, k2, k3⟩ := hr
      rw [List.length_append] at k1 k2 k3
      have k2 : p.take (g.length + 1) = g ++ [(w, m)] := k2
      have hp : p[g.length]? = some (w, m) := by
        have : (p.take (g.length + 1))[g.length]? = some (w, m) := by rw [k2, List.getElem?_append_right (Nat.le_refl _)]; simp
        rwa [List.getElem?_take, if_pos (Nat.lt_succ_self _)] at this
      refine ⟨by rw [List.length_cons]; simp at k1; omega, ?_, fun i l hi => ?_⟩
      · have : (p.take (g.length + 1)).take g.length = g := by rw [k2]; simp
        rwa [List.take_take, Nat.min_eq_left (Nat.le_succ _)] at this
      · cases i with
        | zero =>
          simp at hi
          subst hi
          exact ⟨by omega, (w, m), hp, h4⟩
        | succ i =>
          simp at hi
          obtain ⟨z1, q, z2, z3⟩ := k3 i l hi
          exact ⟨z1, q, by rw [← z2]; congr 1; simp; omega, z3⟩
    | none r =>
      rw [hs] at hr
      have hr : r.Good := hr
      show FGood rows g (if r.on w = false then .none r else _)
      split
      · exact hr
      · have hd13 : r.dep ≤ 13 := Nat.le_trans (hd _ _ hs) hn
        refine ih (done ++ [m]) _ _ (by rw [e]; simp) ?_ (by simp [h2]) (fun b hb => ?_) (fun b hb => ?_)
        · split <;> simp <;> omega
        · split at hb
          · rcases List.mem_append.mp hb with z | z
            · exact h3 b z
            · obtain rfl := List.mem_singleton.mp z
              exact ⟨mo w m hm, hr⟩
          · exact h3 b hb
        · rcases List.mem_append.mp hb with z | z
          · exact h4 b z
          · obtain rfl := List.mem_singleton.mp z
            exact ⟨hm, mo w m hm, hr, hd13⟩
theorem search_good {rows : Rows} {wish : List D} (mo : MkOk rows) (sm : Small rows) (rg : RowsGood rows) (hw : wishOk (.lst wish) = true) : ∀ (n : Nat) (g : Pick), (g.map (·.1)).Nodup → PickOk rows g → g.length + n = rows.length + 1 → FGood rows g (searchP rows wish n g) := fun n => by
  induction n with
  | zero => intro g gn po h; have := pick_le gn po; omega
  | succ n ih =>
    intro g gn po h
    have hgl := pick_le gn po
    have h12 := sm.1
    rw [searchP]
    cases hd : deadP rows wish g (agOf rows wish g) with
    | some r => exact deadP_good rg hw po (by omega) (fun _ h => h) hd
    | none =>
      show FGood rows g (match openP rows wish g with | [] => _ | w :: _ => _)
      cases ho : openP rows wish g with
      | nil => exact ⟨rfl, List.take_length, fun i l h => by simp at h⟩
      | cons w t =>
        have hwo : w ∈ openP rows wish g := by rw [ho]; exact List.mem_cons_self ..
        obtain ⟨hwn, hwa⟩ := open_new hwo
        have hww := agOf_wareG (p := g) rg hw w hwa
        refine loopS_good mo sm rg hw po (by omega) hwa (n := n) (by omega) (fun p r h => searchP_dep h) (fun m hm => ih _ ?_ ?_ (by rw [List.length_append]; simp; omega)) _ [] [] [] (by rw [List.nil_append]) (Nat.le_refl _) rfl (fun _ z => by cases z) (fun _ z => by cases z)
        · rw [List.map_append, List.nodup_append]
          exact ⟨gn, by simp, fun a ha b hb e => by simp at hb; subst hb; subst e; exact look_out hwn ha⟩
        · intro q hq
          rcases List.mem_append.mp hq with z | z
          · exact po q z
          · obtain rfl := List.mem_singleton.mp z
            exact ⟨hww, makesD_mem.mp hm⟩
theorem settle_good {rows : Rows} {wish : List D} (mo : MkOk rows) (sm : Small rows) (rg : RowsGood rows) (hw : wishOk (.lst wish) = true) : FGood rows [] (settleP rows wish) := search_good mo sm rg hw _ [] .nil (fun _ z => by cases z) (by simp)
theorem settle_dep {rows : Rows} {wish : List D} (sm : Small rows) {r : Rsn} (h : settleP rows wish = .none r) : r.dep ≤ 13 := Nat.le_trans (searchP_dep h) (by have := sm.1; omega)
end Gh
end

section
set_option Elab.async false
set_option linter.all false
set_option maxRecDepth 100000
set_option maxHeartbeats 4000000
namespace Gh
open PySem PySem.Spec PyProof.Rows L2
/-! reasons looked at, in plain lists -/
def prI (p : Int × Int) : D := .tup [.int p.1, .int p.2]
def encPr : Option (Int × Int) → D
  | none => .non
  | some p => prI p
/-- the need at a place -/
def needAt (xs : List D) : D → Option D
  | .int i => if 0 ≤ i ∧ i < xs.length then xs[i.toNat]? else none
  | _ => none
def strOf (x : Str) : Option D → Option (Int × Int)
  | some (.tup [.str y, .int lo, .int hi]) => if y = x then some (lo, hi) else none
  | _ => none
/-- the need that a source stands for -/
def needB (rows : Rows) (wish : List D) (g : Pick) : List D → Option D
  | [.str t, p] => if t = "wish" then needAt wish p else none
  | [.str t, .str y, .int m] => if t = "pick" ∧ look g y = some m then some (.tup [.str y, .int m, .int m]) else none
  | [.str t, .str y, .int m, p] => if t = "need" ∧ look g y = some m then needAt (needsOf rows y m) p else none
  | _ => none
def srcB (rows : Rows) (wish : List D) (g : Pick) (x : Str) : D → Option (Int × Int)
  | .tup es => strOf x (needB rows wish g es)
  | _ => none
def srcsB (rows : Rows) (wish : List D) (g : Pick) (x : Str) : List D → Option (List (Int × Int))
  | [] => some []
  | s :: ss => match srcB rows wish g x s with
    | none => none
    | some a => match srcsB rows wish g x ss with
      | none => none
      | some as => some (a :: as)
def inB (tr : List (Int × Int)) (m : Int) : Bool := tr.all fun s => decide (s.1 ≤ m) && decide (m ≤ s.2)
def leftB (rows : Rows) (x : Str) (tr : List (Int × Int)) : List Int := (makesD rows x).filter (inB tr)
def brB (rec : D → Bool) (m : Int) : D → Bool
  | .tup [.int k, r] => decide (k = m) && rec r
  | _ => false
def holdsP (rows : Rows) (wish : List D) : Nat → Pick → D → Bool
  | 0, _, _ => false
  | n + 1, g, .tup [.str x, .lst ss, .lst bs] => !ss.isEmpty && (match srcsB rows wish g x ss with
    | none => false
    | some tr => (decide ((leftB rows x tr).length = bs.length) && !(!(leftB rows x tr).isEmpty && (look g x).isSome)) && ((leftB rows x tr).zip bs).all fun p => brB (fun r => holdsP rows wish n (lput g x p.1) r) p.1 p.2)
  | _ + 1, _, _ => false
theorem needAt_mem {xs : List D} {p d : D} (h : needAt xs p = some d) : d ∈ xs := by
  unfold needAt at h
  split at h
  · split at h
    · exact List.mem_of_getElem? h
    · cases h
  · cases h
theorem needB_form {rows : Rows} {wish : List D} {g : Pick} (rg : RowsGood rows) (hw : ∀ d ∈ wish, d.need = true) (po : PickOk rows g) {es : List D} {d : D} (h : needB rows wish g es = some d) : ∃ y lo hi, d = .tup [.str y, .int lo, .int hi] ∧ wareS y = true := by
  unfold needB at h
  split at h
  · split at h
    · obtain ⟨y, lo, hi, e, e2⟩ := need_ints (hw d (needAt_mem h)); exact ⟨y, lo, hi, e, e2⟩
    · cases h
  · rename_i t y m
    split at h
    · rename_i hc
      cases h
      exact ⟨y, m, m, rfl, (po (y, m) (look_mem hc.2)).1⟩
    · cases h
  · rename_i t y m p
    split at h
    · obtain ⟨y, lo, hi, e, e2⟩ := need_ints ((needsOf_good rg _ _).2 d (needAt_mem h)); exact ⟨y, lo, hi, e, e2⟩
    · cases h
  · cases h
theorem strOf_some {x : Str} {o : Option D} {p : Int × Int} (h : strOf x o = some p) : o = some (.tup [.str x, .int p.1, .int p.2]) := by
  unfold strOf at h
  split at h
  · split at h
    · rename_i e; cases h; rw [e]
    · cases h
  · cases h
theorem srcB_ware {rows : Rows} {wish : List D} {g : Pick} {x : Str} (rg : RowsGood rows) (hw : ∀ d ∈ wish, d.need = true) (po : PickOk rows g) {s : D} {p : Int × Int} (h : srcB rows wish g x s = some p) : wareS x = true := by
  unfold srcB at h
  split at h
  · obtain ⟨y, lo, hi, e, e2⟩ := needB_form rg hw po (strOf_some h)
    cases e; exact e2
  · cases h
theorem srcsB_ware {rows : Rows} {wish : List D} {g : Pick} {x : Str} (rg : RowsGood rows) (hw : ∀ d ∈ wish, d.need = true) (po : PickOk rows g) {ss : List D} {tr : List (Int × Int)} (h : srcsB rows wish g x ss = some tr) (hne : ss ≠ []) : wareS x = true := by
  cases ss with
  | nil => exact absurd rfl hne
  | cons s ss =>
    unfold srcsB at h
    cases e : srcB rows wish g x s with
    | none => rw [e] at h; cases h
    | some a => exact srcB_ware rg hw po e
theorem srcsB_map {rows : Rows} {wish : List D} {g : Pick} {x : Str} : ∀ {ss : List D} {tr : List (Int × Int)}, srcsB rows wish g x ss = some tr → ss.map (fun s => encPr (srcB rows wish g x s)) = tr.map prI ∧ tr.length = ss.length
  | [], tr, h => by cases h; exact ⟨rfl, rfl⟩
  | s :: ss, tr, h => by
    unfold srcsB at h
    cases e : srcB rows wish g x s with
    | none => rw [e] at h; cases h
    | some a =>
      rw [e] at h
      simp only at h
      cases e2 : srcsB rows wish g x ss with
      | none => rw [e2] at h; cases h
      | some as =>
        rw [e2] at h; cases h
        obtain ⟨h1, h2⟩ := srcsB_map e2
        rw [List.map_cons, List.map_cons, e, h1, List.length_cons, List.length_cons, h2]
        exact ⟨rfl, rfl⟩
theorem encPr_eqv (o : Option (Int × Int)) : D.eqv (encPr o) .non = o.isNone := by cases o <;> rfl
theorem srcsB_none {rows : Rows} {wish : List D} {g : Pick} {x : Str} : ∀ {ss : List D}, ((ss.map fun s => encPr (srcB rows wish g x s)).any fun d => D.eqv d .non) = (srcsB rows wish g x ss).isNone
  | [] => rfl
  | s :: ss => by
    have ih := srcsB_none (rows := rows) (wish := wish) (g := g) (x := x) (ss := ss)
    rw [List.map_cons, List.any_cons, encPr_eqv, ih, srcsB]
    cases srcB rows wish g x s with
    | none => rfl
    | some a =>
      simp only [Option.isNone_some, Bool.false_or]
      cases srcsB rows wish g x ss <;> rfl
theorem encPr_ok (o : Option (Int × Int)) : D.ok 60 (encPr o) = true := by
  cases o with
  | none => exact D.ok_non
  | some p => show D.ok 60 (.tup [.int p.1, .int p.2]) = true; rw [D.ok_tup, D.oks_cons, D.oks_cons, D.oks_nil, D.ok_int, D.ok_int]; rfl
def shapedB : D → Bool
  | .tup [a, .lst ss, .lst _] => a.ware && !ss.isEmpty
  | _ => false
theorem Sh.isI {d e : D} (h : Sh d e) : d.isI = e.isI := by rcases h with rfl | ⟨a, b, rfl, rfl⟩ | ⟨a, b, rfl, rfl⟩ <;> rfl
theorem Sh.fit {d e : D} (h : Sh d e) : d.fit = e.fit := by rcases h with rfl | ⟨a, b, rfl, rfl⟩ | ⟨a, b, rfl, rfl⟩ <;> rfl
theorem Sh.ware {d e : D} (h : Sh d e) : d.ware = e.ware := by rcases h with rfl | ⟨a, b, rfl, rfl⟩ | ⟨a, b, rfl, rfl⟩ <;> rfl
theorem Sh.toS {d e : D} (h : Sh d e) : d.toS = e.toS := by rcases h with rfl | ⟨a, b, rfl, rfl⟩ | ⟨a, b, rfl, rfl⟩ <;> rfl
theorem Sh.toI {d e : D} (h : Sh d e) : d.toI = e.toI := by rcases h with rfl | ⟨a, b, rfl, rfl⟩ | ⟨a, b, rfl, rfl⟩ <;> rfl
theorem Sh.hasB {rows : Rows} {d e d' e' : D} (h : Sh d e) (h' : Sh d' e') : hasB rows d d' = hasB rows e e' := by unfold Gh.hasB; rw [h.ware, h.toS, h'.isI, h'.toI]
theorem hasB_pick {rows : Rows} {g : Pick} (po : PickOk rows g) {y : Str} {m : Int} (h : look g y = some m) : hasB rows (.str y) (.int m) = true := by
  obtain ⟨h1, h2⟩ := po (y, m) (look_mem h)
  show (wareS y && (true && (look (rowOf rows y) m).isSome)) = true
  rw [h1, h2]; rfl
theorem hasB_form {rows : Rows} {a b : D} (h : hasB rows a b = true) : ∃ y m ns, a = .str y ∧ b = .int m ∧ wareS y = true ∧ look (rowOf rows y) m = some ns := by
  unfold hasB at h
  rw [Bool.and_eq_true, Bool.and_eq_true] at h
  have h1 := ware_str h.1
  have h2 : b = .int b.toI := by cases b <;> first | rfl | cases h.2.1
  obtain ⟨ns, e⟩ := Option.isSome_iff_exists.mp h.2.2
  refine ⟨a.toS, b.toI, ns, h1, h2, ?_, e⟩
  have := h.1
  rw [h1] at this
  exact this
theorem eqv_look (o : Option Int) (m : Int) : D.eqv ((o.map D.int).getD .non) (.int m) = decide (o = some m) := by
  cases o with
  | none => rfl
  | some k =>
    show (k == m) = decide (some k = some m)
    by_cases e : k = m <;> simp [e]
def inO : Option (Int × Int) → Int → Bool
  | none, _ => false
  | some p, m => decide (p.1 ≤ m) && decide (m ≤ p.2)
theorem zip_mem {G : Gs} {ds es : List D} {S : List Addr} (h : DVs G ds es S) {p : D × D} (hp : p ∈ ds.zip es) : ∃ S', DV G p.1 p.2 S' ∧ p.2 ∈ es ∧ ∀ a ∈ S', a ∈ S := by
  obtain ⟨i, hi, e⟩ := List.getElem_of_mem hp
  have e1 : (ds.zip es)[i]? = some p := by rw [List.getElem?_eq_getElem hi, e]
  rw [show p = (p.1, p.2) from rfl, List.getElem?_zip_eq_some] at e1
  obtain ⟨e', S', h1, h2, h3⟩ := h.get e1.1
  rw [e1.2] at h1; cases h1
  exact ⟨S', h2, List.mem_of_getElem? e1.2, h3⟩
theorem zip_fst {G : Gs} {ds es : List D} {S : List Addr} (h : DVs G ds es S) : (ds.zip es).map (fun p => p.1) = ds := List.map_fst_zip (Nat.le_of_eq h.length)
theorem zip_snd {G : Gs} {ds es : List D} {S : List Addr} (h : DVs G ds es S) {β : Type} (f : D → β) : (ds.zip es).map (fun p => f p.2) = es.map f := by
  rw [show (fun p : D × D => f p.2) = f ∘ Prod.snd from rfl, ← List.map_map, List.map_snd_zip (Nat.le_of_eq h.length.symm)]
theorem zip_len {G : Gs} {ds es : List D} {S : List Addr} (h : DVs G ds es S) : (ds.zip es).length = es.length := by rw [List.length_zip, h.length, Nat.min_self]
theorem holdsP_mk {rows : Rows} {wish : List D} {n : Nat} {g : Pick} {x : Str} {ss bs : List D} : holdsP rows wish (n + 1) g (.tup [.str x, .lst ss, .lst bs]) = (!ss.isEmpty && (match srcsB rows wish g x ss with
    | none => false
    | some tr => (decide ((leftB rows x tr).length = bs.length) && !(!(leftB rows x tr).isEmpty && (look g x).isSome)) && ((leftB rows x tr).zip bs).all fun p => brB (fun r => holdsP rows wish n (lput g x p.1) r) p.1 p.2)) := by rw [holdsP]
theorem shaped_form {e : D} (h : shapedB e = true) : ∃ x ss bs, e = .tup [.str x, .lst ss, .lst bs] ∧ wareS x = true ∧ ss ≠ [] := by
  cases e with
  | tup es =>
    match es, h with
    | [a, .lst ss, .lst bs], h =>
      have h : (a.ware && !ss.isEmpty) = true := h
      rw [Bool.and_eq_true] at h
      have h1 := h.1
      rw [ware_str h1] at h1
      exact ⟨a.toS, ss, bs, by rw [← ware_str h.1], h1, by rintro rfl; cases h.2⟩
  | _ => cases h
theorem holdsP_un {rows : Rows} {wish : List D} {n : Nat} {g : Pick} (rg : RowsGood rows) (hw : ∀ d ∈ wish, d.need = true) (po : PickOk rows g) {e : D} (h : shapedB e = false) : holdsP rows wish (n + 1) g e = false := by
  cases hc : holdsP rows wish (n + 1) g e with
  | false => rfl
  | true =>
    exfalso
    have main : ∀ x ss bs, e = .tup [.str x, .lst ss, .lst bs] → False := fun x ss bs e1 => by
      subst e1
      rw [holdsP_mk, Bool.and_eq_true] at hc
      obtain ⟨h1, h2⟩ := hc
      cases ht : srcsB rows wish g x ss with
      | none => rw [ht] at h2; cases h2
      | some tr =>
        have := srcsB_ware rg hw po ht (by rintro rfl; cases h1)
        have h3 : (wareS x && !ss.isEmpty) = false := h
        rw [this, h1] at h3; cases h3
    cases e with
    | tup es =>
      match es, hc with
      | [.str x, .lst ss, .lst bs], hc => exact main x ss bs rfl
    | _ => rw [holdsP] at hc <;> first | cases hc | (intro _ _ _ z; cases z)
theorem holdsP_nf {rows : Rows} {wish : List D} {n : Nat} {g : Pick} {e : D} (h : ∀ x ss bs, e ≠ .tup [.str x, .lst ss, .lst bs]) : holdsP rows wish (n + 1) g e = false := by
  cases hc : holdsP rows wish (n + 1) g e with
  | false => rfl
  | true =>
    exfalso
    cases e with
    | tup es =>
      match es, hc with
      | [.str x, .lst ss, .lst bs], hc => exact h x ss bs rfl
    | _ => rw [holdsP] at hc <;> first | cases hc | (intro _ _ _ z; cases z)
theorem inB_app {tr : List (Int × Int)} {p : Int × Int} {m : Int} : inB (tr ++ [p]) m = (inB tr m && (decide (p.1 ≤ m) && decide (m ≤ p.2))) := by
  unfold inB
  rw [List.all_append]; simp
end Gh
end

section
set_option Elab.async false
set_option linter.all false
set_option maxRecDepth 100000
set_option maxHeartbeats 4000000
namespace Gh
open PySem PySem.Spec PyProof.Rows L2
/-! the law's own copies -/
def CopyQ (PP : D → Gs → Prop) (G : Gs) : D → Prop
  | .lst es => ∀ l, G l = none → PP (.ref l) (gupd G l (.lst es))
  | e => PP e G
def sp_copy (n : Nat) : GSp := fun ds G PP _ => ∃ d e S, ds = [d] ∧ DV G d e S ∧ D.gd n e = true ∧ CopyQ PP G e
section
variable {P : Program} {w : World} {K : PySem.W.Frag} {mg : Str → Option Value} {base : Heap} {A : Ads}
theorem ge_copy {Y : Ctx} [Calm Y] {ρ : Rho} {G : Gs} {e : Expr} {d f : D} {S : List Addr} {n k : Nat} {pos p : Pos} (hf : HasF Y.P Y.w Y.K Y.mg Y.base k "_law_copy" ["_law_thing"] (sp_copy n)) (h : GE Y e ρ G d) (hv : DV G d f S) (hg : D.gd n f = true) (hk : k ≤ Y.k) (hgl : GlS Y.sc "_law_copy" := by rfl)
    (hs : ∀ env, starEach [e] env = (false, eval e env) :: starEach [] env := by intro _; rfl) (hdb : ∀ env, (backTo pos (starEach [] env)).any (·.1) = false := by intro _; rfl) : GE Y (.Call (.Name "_law_copy" p) [e] [] pos) ρ G f := by
  cases f with
  | lst es => exact ge_n (gn_gw (gw_call (hk := hk) (hg := hgl) (he := hs) (hpl := hdb) hf (gr_cons h gr_nil hs) ⟨d, _, S, rfl, hv, hg, fun l hl => ⟨l, rfl, hl, rfl⟩⟩))
  | _ => exact ge_gw (gw_call (hk := hk) (hg := hgl) (he := hs) (hpl := hdb) hf (gr_cons h gr_nil hs) ⟨d, _, S, rfl, hv, hg, ⟨rfl, rfl⟩⟩)
theorem gds_of {n : Nat} {e : D} {es : List D} (he : e = .lst es ∨ e = .tup es) (h : D.gd (n + 1) e = true) : es.length ≤ 1000 ∧ ∀ x ∈ es, D.gd n x = true := by
  rcases he with rfl | rfl
  · exact ⟨(D.gd_lst' h).1, D.gds_all.mp (D.gd_lst' h).2⟩
  · exact ⟨D.hdOk_len (D.gd_tup' h).1, D.gds_all.mp (D.gd_tup' h).2⟩
theorem has__law_copy (T : Tx K mg A) : ∀ n, HasF P w K mg base (n + 1) "_law_copy" ["_law_thing"] (sp_copy n) := by
  intro n
  have step : ∀ n, (∀ m, n = m + 1 → HasF P w K mg base (m + 1) "_law_copy" ["_law_thing"] (sp_copy m)) → HasF P w K mg base (n + 1) "_law_copy" ["_law_thing"] (sp_copy n) := by
    intro n ih
    refine has_body T.d__law_copy sc__law_copy (fun ds G P PX h => ?_) (fun f cdv _ outer s0 H E hr F0 R0 ds G PP PX h => ?_)
    · obtain ⟨_, _, _, rfl, _⟩ := h; rfl
    have nd := nd__law_copy
    obtain ⟨d, e, S, rfl, hv, hg, q⟩ := h
    have hd := D.gd_isD hg
    cases hLT : (e.isLst || e.isTup) with
    | false =>
      have hde : d = e := by cases hv <;> first | rfl | cases hLT
      subst hde
      have q : PP d G := by cases d <;> first | exact q | cases hLT
      exact gss_cons (gs_if (x := false) (gt_is (gt_val (ge_isiLT T.blt (ge_var 0 rfl) hv hd)) hLT) (fun z => nomatch z) (fun _ => gss_nil (gss_one (gs_retE (ge_var 0 rfl) q))))
    | true =>
    obtain ⟨es, he⟩ : ∃ es, e = .lst es ∨ e = .tup es := by cases e <;> first | exact ⟨_, .inl rfl⟩ | exact ⟨_, .inr rfl⟩ | cases hLT
    obtain ⟨m, rfl⟩ : ∃ m, n = m + 1 := by
      cases n with
      | zero => rcases he with rfl | rfl <;> (rw [D.gd] at hg; cases hg)
      | succ m => exact ⟨m, rfl⟩
    obtain ⟨hlen, hges⟩ := gds_of he hg
    have ih := ih m rfl
    refine gss_cons (gs_if (x := true) (gt_is (gt_val (ge_isiLT T.blt (ge_var 0 rfl) hv hd)) hLT) (fun _ => ?_) (fun z => nomatch z))
    obtain ⟨ds, S', hs, hgi⟩ : ∃ ds S', DVs G ds es S' ∧ ∀ {Y : Ctx} {tg e : Expr} {ρ : Rho}, GE Y e ρ G d → GIc Y tg e ρ G ds := by
      rcases he with rfl | rfl
      · obtain ⟨ds, S', h1, h2, _⟩ := hv.lst_inv
        exact ⟨ds, S', h2, fun h => gic_lst h h1⟩
      · obtain ⟨ds, rfl, h2⟩ := hv.tup_inv
        exact ⟨ds, S, h2, fun h => gic (gi_tup h) trivial⟩
    refine gss_cons (gs_lc 1 (ys := ds.zip es) (enc := fun p => p.1) (f := fun p => p.2) [("_law_part", 2)] nd (gic_to (hgi (ge_var 0 rfl)) (zip_fst hs).symm) (blkOk_by (N := N__law_copy) (sc := defScope s__law_copy) (by decide +kernel)) (fun y hy => gg_name 2 nd) (by decide) (fun p hp => ?_) (by rw [zip_len hs]; omega) ?_ ?_)
    · obtain ⟨S2, v2, hm, _⟩ := zip_mem hs hp
      exact ge_copy ih (ge_var 2 rfl) v2 (hges _ hm) (Nat.le_refl _)
    · rintro j hj ⟨x, e1, e2⟩
      have : j = 2 := by simpa using hj
      subst this
      cases e1; cases e2
    have hz : (ds.zip es).map (fun p => p.2) = es := (zip_snd hs (fun x => x)).trans (List.map_id' es)
    rw [hz]
    rcases he with rfl | rfl
    · refine gss_pub 1 rfl fun l hl => ?_
      have hl : G l = none := hl
      refine gss_one (gs_retE (ge_is (ge_if (x := false) (d2 := .ref l) (d1 := .non) (gt_val (ge_isiV T.blt (ge_var 0 rfl) (hv.up (gex_new hl)) (ge_ty T.blt.at (by decide +kernel)) (.tup hd))) (fun z => nomatch z) (fun _ => ge_var 1 rfl)) rfl) (q l hl))
    · refine gss_frz 1 rfl ?_
      exact gss_one (gs_retE (ge_is (ge_if (x := true) (d1 := .tup es) (d2 := .non) (gt_val (ge_isiV T.blt (ge_var 0 rfl) hv (ge_ty T.blt.at (by decide +kernel)) (.tup hd))) (fun _ => ge_tuple T.blt (gv_ge (ge_var 1 rfl))) (fun z => nomatch z)) rfl) q)
  induction n with
  | zero => exact step 0 fun m h => by omega
  | succ n ih => exact step (n + 1) fun m h => (by have e : n = m := by omega
                                                   rw [← e]; exact ih)
/-- a reason copied: its list of sources is new, and told by address -/
def sp_copyT (n : Nat) : GSp := fun ds G PP _ => ∃ (d : D) (x : Str) (ss bs : List D) (S : List Addr), ds = [d] ∧ DV G d (.tup [.str x, .lst ss, .lst bs]) S ∧ D.gd (n + 1) (.tup [.str x, .lst ss, .lst bs]) = true ∧ ∀ l G', GEx G G' → G l = none → G' l = some (.lst ss) → PP (.tup [.str x, .ref l, .lst bs]) G'
theorem has__law_copyT (T : Tx K mg A) (n : Nat) : HasF P w K mg base (n + 2) "_law_copy" ["_law_thing"] (sp_copyT n) := by
  refine has_body T.d__law_copy sc__law_copy (fun ds G P PX h => ?_) (fun f cdv _ outer s0 H E hr F0 R0 ds G PP PX h => ?_)
  · obtain ⟨_, _, _, _, _, rfl, _⟩ := h; rfl
  have nd := nd__law_copy
  obtain ⟨d, x, ss, bs, S, rfl, hv, hg, q⟩ := h
  have hd := D.gd_isD hg
  obtain ⟨hlen, hges⟩ := gds_of (.inr rfl) hg
  obtain ⟨ds, rfl, hs⟩ := hv.tup_inv
  obtain ⟨d0, d1, d2, rfl⟩ : ∃ d0 d1 d2, ds = [d0, d1, d2] := by match ds, hs.length with | [a, b, c], _ => exact ⟨a, b, c, rfl⟩
  obtain ⟨_, S0, k0, v0, _⟩ := hs.get' (i := 0) rfl
  obtain ⟨_, S1, k1, v1, _⟩ := hs.get' (i := 1) rfl
  obtain ⟨_, S2, k2, v2, _⟩ := hs.get' (i := 2) rfl
  cases k0; cases k1; cases k2
  have := v0.str_inv
  subst this
  have hc := has__law_copy (P := P) (w := w) (base := base) T n
  refine gss_cons (gs_if (x := true) (gt_is (gt_val (ge_isiLT T.blt (ge_var 0 rfl) hv hd)) rfl) (fun _ => ?_) (fun z => nomatch z))
  refine gss_cons (gs_lcW 1 (xs := [.str x, d1, d2]) (S := fun _ => True) [("_law_part", 2)] nd (gi_tup (ge_var 0 rfl)) (blkOk_by (N := N__law_copy) (sc := defScope s__law_copy) (by decide +kernel)) (fun i out G' => GEx G G' ∧ ((i = 0 ∧ out = []) ∨ (i = 1 ∧ out = [.str x]) ∨ (i = 2 ∧ ∃ l, out = [.str x, .ref l] ∧ G l = none ∧ G' l = some (.lst ss)) ∨ (i = 3 ∧ ∃ l, out = [.str x, .ref l, .lst bs] ∧ G l = none ∧ G' l = some (.lst ss)))) ⟨GEx.refl _, .inl ⟨rfl, rfl⟩⟩ (fun _ _ _ _ => trivial) (fun y hy => gg_name 2 nd) (by decide) (Nat.lt_of_lt_of_le (show 3 < 4 by decide) (by decide)) ?_ (fun i y out G' hi h _ => ?_) (fun out G' h _ => ?_))
  · rintro j hj ⟨x, e1, e2⟩
    have : j = 2 := by simpa using hj
    subst this
    cases e1; cases e2
  · obtain ⟨gx, h⟩ := h
    rcases h with ⟨rfl, rfl⟩ | ⟨rfl, rfl⟩ | ⟨rfl, l, rfl, hl, hl2⟩ | ⟨rfl, l, rfl, hl, hl2⟩
    · cases hi
      exact gw_ge (ge_copy hc (ge_var 2 rfl) (.eq (.str x)) (hges _ (by simp)) (Nat.le_refl _)) ⟨gx, .inr (.inl ⟨rfl, rfl⟩)⟩
    · cases hi
      exact gw_call (hk := Nat.le_refl _) hc (gr_cons (ge_var 2 rfl) gr_nil) ⟨d1, .lst ss, S1, rfl, v1.up gx, hges _ (by simp), fun l hl => ⟨gx.trans (gex_new hl), .inr (.inr (.inl ⟨rfl, l, rfl, gx.none hl, gupd_same⟩))⟩⟩
    · cases hi
      exact gw_ge (ge_copy hc (ge_var 2 rfl) (v2.up gx) (hges _ (by simp)) (Nat.le_refl _)) ⟨gx, .inr (.inr (.inr ⟨rfl, l, rfl, hl, hl2⟩))⟩
    · cases hi
  · obtain ⟨gx, h⟩ := h
    rcases h with ⟨z, _⟩ | ⟨z, _⟩ | ⟨z, _⟩ | ⟨_, l, rfl, hl, hl2⟩
    · cases z
    · cases z
    · cases z
    exact gss_one (gs_retE (ge_is (ge_if (x := true) (d1 := .tup [.str x, .ref l, .lst bs]) (d2 := .non) (gt_val (ge_isiV T.blt (ge_var 0 rfl) (hv.up gx) (ge_ty T.blt.at (by decide +kernel)) (.tup hd))) (fun _ => ge_tuple T.blt (gv_ge (ge_var 1 rfl))) (fun z => nomatch z)) rfl) (q l G' gx hl hl2))
end
end Gh
end

section
set_option Elab.async false
set_option linter.all false
set_option maxRecDepth 100000
set_option maxHeartbeats 4000000
namespace Gh
open PySem PySem.Spec PyProof.Rows L2
/-! law_k07: other lists of sources, other branches -/
theorem fit_digits : ∀ i : _root_.Fin 1000, (D.str (toString ((i.val : Nat) : Int))).fit = true := by decide +kernel
theorem mem_cutD {l : List D} {a b : Option Int} {x : D} (h : x ∈ cutD l a b) : x ∈ l := List.mem_of_mem_drop (List.mem_of_mem_take h)
theorem cutD_len {l : List D} {a b : Option Int} : (cutD l a b).length ≤ l.length := by unfold cutD; rw [List.length_take, List.length_drop]; omega
theorem gds_cut {n : Nat} {l : List D} {a b : Option Int} (h : D.gds n l = true) : D.gds n (cutD l a b) = true := D.gds_all.mpr fun x hx => D.gds_all.mp h x (mem_cutD hx)
theorem gds_app {n : Nat} {l m : List D} (h : D.gds n l = true) (h' : D.gds n m = true) : D.gds n (l ++ m) = true := D.gds_all.mpr fun x hx => (List.mem_append.mp hx).elim (D.gds_all.mp h x) (D.gds_all.mp h' x)
theorem gds_one {n : Nat} {d : D} (h : D.gd n d = true) : D.gds n [d] = true := by rw [D.gds_cons, D.gds_nil, h]; rfl
def isAtom : D → Prop
  | .int _ => True
  | .str x => (D.str x).fit = true
  | _ => False
def tru : D → D
  | .int i => if i ∈ ([0, 1] : List Int) then .bl (decide (i = 1)) else .int i
  | d => d
theorem src_atom {s : Src} (h : SrcOk s) : ∃ ps, encSrc s = .tup ps ∧ ps.length ≤ 4 ∧ ∀ d ∈ ps, isAtom d := by
  have f1 : (D.str ("pick" : Str)).fit = true := by decide +kernel
  have f2 : (D.str ("wish" : Str)).fit = true := by decide +kernel
  have f3 : (D.str ("need" : Str)).fit = true := by decide +kernel
  cases s with
  | pick x m =>
    refine ⟨[.str "pick", .str x, .int m], rfl, Nat.le_of_ble_eq_true rfl, fun d hd => ?_⟩
    simp only [List.mem_cons, List.not_mem_nil, or_false] at hd
    rcases hd with rfl | rfl | rfl
    · exact f1
    · exact fit_ware h
    · trivial
  | wish k =>
    refine ⟨[.str "wish", .int k], rfl, Nat.le_of_ble_eq_true rfl, fun d hd => ?_⟩
    simp only [List.mem_cons, List.not_mem_nil, or_false] at hd
    rcases hd with rfl | rfl
    · exact f2
    · trivial
  | need x m k =>
    refine ⟨[.str "need", .str x, .int m, .int k], rfl, Nat.le_of_ble_eq_true rfl, fun d hd => ?_⟩
    simp only [List.mem_cons, List.not_mem_nil, or_false] at hd
    rcases hd with rfl | rfl | rfl | rfl
    · exact f3
    · exact fit_ware h
    · trivial
    · trivial
theorem tru_gd {d : D} {n : Nat} (h : isAtom d) : D.gd n (tru d) = true ∧ (tru d).isDic = false := by
  cases d with
  | int i =>
    by_cases e : i ∈ ([0, 1] : List Int)
    · exact ⟨by rw [tru, if_pos e, D.gd], by rw [tru, if_pos e]; rfl⟩
    · exact ⟨by rw [tru, if_neg e, D.gd], by rw [tru, if_neg e]; rfl⟩
  | str x => exact ⟨by unfold tru; rw [D.gd]; exact h, rfl⟩
  | _ => exact h.elim
theorem truT_gd {ps : List D} {n : Nat} (hl : ps.length ≤ 4) (h : ∀ d ∈ ps, isAtom d) : D.gd (n + 1) (.tup (ps.map tru)) = true := by
  rw [D.gd_tup, Bool.and_eq_true]
  refine ⟨?_, D.gds_all.mpr fun d hd => ?_⟩
  · unfold D.hdOk
    rw [Bool.and_eq_true]
    refine ⟨decide_eq_true (by rw [List.length_map]; omega), ?_⟩
    cases ps with
    | nil => rfl
    | cons p ps =>
      have := (tru_gd (n := 0) (h p List.mem_cons_self)).2
      rw [List.map_cons]
      cases e : tru p <;> first | rfl | (rw [e] at this; cases this)
  · obtain ⟨p, hp, rfl⟩ := List.mem_map.mp hd
    exact (tru_gd (h p hp)).1
def sp_truths : GSp := fun ds G PP _ => ∃ ps, ds = [.tup ps] ∧ ps.length ≤ 4 ∧ (∀ d ∈ ps, isAtom d) ∧ PP (.tup (ps.map tru)) G
def sp_oddsrc : GSp := fun ds G PP _ => ∃ (nm : List Str) (n : Int), ds = [.lst (nm.map .str), .int n] ∧ 0 ≤ n ∧ 0 < nm.length ∧ nm.length ≤ 100 ∧ (∀ x ∈ nm, (D.str x).fit = true) ∧ ∀ d, D.gd 3 d = true → PP d G
def sp_osrcs : GSp := fun ds G PP _ => ∃ (dl : D) (ss : List Src) (nm : List Str) (n : Int), ds = [dl, .lst (nm.map .str), .int n] ∧ ViewD G dl (.lst (ss.map encSrc)) ∧ ss ≠ [] ∧ ss.length ≤ 100 ∧ (∀ s ∈ ss, SrcOk s) ∧ 0 ≤ n ∧ 0 < nm.length ∧ nm.length ≤ 100 ∧ (∀ x ∈ nm, (D.str x).fit = true) ∧ ∀ l ss', D.gds 3 ss' = true → ss'.length ≤ 300 → G l = none → PP (.ref l) (gupd G l (.lst ss'))
section
variable {P : Program} {w : World} {K : PySem.W.Frag} {mg : Str → Option Value} {base : Heap} {A : Ads}
theorem has__law_truths (T : Tx K mg A) : HasF P w K mg base 1 "_law_truths" ["_law_thing"] sp_truths := by
  refine has_body T.d__law_truths sc__law_truths (fun ds G P PX h => ?_) (fun f cdv _ outer s H E hr F0 R0 ds G PP PX h => ?_)
  · obtain ⟨_, rfl, _⟩ := h; rfl
  have nd := nd__law_truths
  obtain ⟨ps, rfl, hl, ha, q⟩ := h
  refine gss_cons (gs_own 1 nd (gn_lst gr_nil) ?_)
  refine gss_cons (gs_for (fun _ => PassesOwn.never) (gi_tup (ge_var 0 rfl)) (fun i ρ' G' => G' = G ∧ ∃ y2, ρ' = [.dat (.tup ps), .own ((ps.map tru).take i), y2]) ⟨rfl, .unk, rfl⟩ (fun _ _ _ _ => trivial) (fun i d ρ' G' hi h => ?_) (fun ρ' G' h => ?_))
  · obtain ⟨rfl, y2, rfl⟩ := h
    refine ⟨_, _, gg_name 2 nd, ?_⟩
    have hm := List.mem_of_getElem? hi
    have hat := ha d hm
    have hlt := (List.getElem?_eq_some_iff.mp hi).1
    have ht : (ps.map tru).take (i + 1) = (ps.map tru).take i ++ [tru d] := by rw [List.take_add_one, List.getElem?_map, hi]; rfl
    have hlen : ((ps.map tru).take i).length < 100000 := by rw [List.length_take, List.length_map]; omega
    cases d with
    | int k =>
      refine gss_one (gs_if (gt_cmp (gc_inTI (ys := [0, 1]) (ge_var 2 rfl) (gv_ge (ge_tup (gr_cons ge_int (gr_cons ge_int gr_nil)))))) (fun hc => ?_) (fun hc => ?_))
      · refine gss_one (gs_app 1 rfl (ge_cmp (gc_eqI (ge_var 2 rfl) ge_int)) hlen ⟨rfl, .dat (.int k), ?_⟩)
        rw [ht, tru, if_pos (of_decide_eq_true hc)]; rfl
      · refine gss_one (gs_app 1 rfl (ge_var 2 rfl) hlen ⟨rfl, .dat (.int k), ?_⟩)
        rw [ht, tru, if_neg (of_decide_eq_false hc)]; rfl
    | str x =>
      refine gss_one (gs_if (gt_cmp (gc_inTS (ys := [0, 1]) (ge_var 2 rfl) (gv_ge (ge_tup (gr_cons ge_int (gr_cons ge_int gr_nil)))))) (fun hc => nomatch hc) (fun hc => ?_))
      refine gss_one (gs_app 1 rfl (ge_var 2 rfl) hlen ⟨rfl, .dat (.str x), ?_⟩)
      rw [ht]; rfl
    | _ => exact hat.elim
  · obtain ⟨rfl, y2, rfl⟩ := h
    rw [List.take_of_length_le (by rw [List.length_map]; omega)]
    refine gss_frz 1 rfl ?_
    exact gss_one (gs_retE (ge_tuple T.blt (gv_ge (ge_var 1 rfl))) q)
theorem has__law_odd_source (T : Tx K mg A) : HasF P w K mg base 1 "_law_odd_source" ["_law_wares", "_law_number"] sp_oddsrc := by
  refine has_body T.d__law_odd_source sc__law_odd_source (fun ds G P PX h => ?_) (fun f cdv _ outer s H E hr F0 R0 ds G PP PX h => ?_)
  · obtain ⟨_, _, rfl, _⟩ := h; rfl
  have nd := nd__law_odd_source
  obtain ⟨nm, n, rfl, hn, hp, hl, hw, q⟩ := h
  obtain ⟨x, ex, hx⟩ := at_mod (xs := nm) (i := n / 9) (m := nm.length) rfl (by omega)
  refine gss_cons (gs_set 2 nd (d := .str x) (ge_ix (gv_ge (ge_var 0 rfl)) (ge_mod (ge_fdiv (ge_var 1 rfl) ge_int ⟨by decide, by decide⟩) (ge_len T.blt (gv_ge (ge_var 0 rfl)) .lst) (by rw [List.length_map]; omega)) (.lst (by rw [List.length_map, atI_map, ex]; rfl))) ?_)
  refine gss_cons (gs_set 3 nd (ge_mod (ge_fdiv (ge_var 1 rfl) ge_int ⟨by decide, by decide⟩) ge_int (by decide)) ?_)
  generalize n / 63 % 6 = mk
  refine gss_cons (gs_set 4 nd (ge_n (gn_lst (gr_cons (ge_tup (gr_cons ge_str (gr_cons (ge_mod (ge_fdiv (ge_var 1 rfl) ge_int ⟨by decide, by decide⟩) ge_int (by decide)) gr_nil))) (gr_cons (ge_tup (gr_cons ge_str (gr_cons (ge_var 2 rfl) (gr_cons (ge_var 3 rfl) gr_nil)))) (gr_cons (ge_tup (gr_cons ge_str (gr_cons (ge_var 2 rfl) (gr_cons (ge_var 3 rfl) (gr_cons (ge_mod (ge_fdiv (ge_var 1 rfl) ge_int ⟨by decide, by decide⟩) ge_int (by decide)) gr_nil))))) gr_nil))))) ?_)
  refine gss_cons (gs_set 4 nd (ge_addD (gv_ge (ge_var 4 rfl)) (gv_ge (ge_n (gn_lst (gr_cons (ge_tup (gr_cons ge_str (gr_cons (ge_neg ge_int) gr_nil))) (gr_cons (ge_tup (gr_cons ge_str (gr_cons ge_bl gr_nil))) (gr_cons (ge_tup (gr_cons ge_str gr_nil)) (gr_cons (ge_n (gn_lst (gr_cons ge_str (gr_cons ge_int gr_nil)))) (gr_cons ge_non (gr_cons (ge_tup (gr_cons ge_str (gr_cons ge_int gr_nil))) (gr_cons (ge_tup (gr_cons ge_str (gr_cons (ge_n (gn_lst (gr_cons (ge_var 2 rfl) gr_nil))) (gr_cons (ge_var 3 rfl) gr_nil)))) gr_nil)))))))))) (.lst (Nat.le_of_ble_eq_true rfl))) ?_)
  generalize n / 9 % 4 = k1
  generalize n / 7 % 3 = k2
  refine gss_eq (ρ' := [.dat (.lst (nm.map .str)), .dat (.int n), .dat (.str x), .dat (.int mk), .dat (.lst ([.tup [.str "wish", .int k1], .tup [.str "pick", .str x, .int mk], .tup [.str "need", .str x, .int mk, .int k2]] ++ [.tup [.str "wish", .int (-1)], .tup [.str "wish", .bl true], .tup [.str "wish"], .lst [.str "wish", .int 0], .non, .tup [.str "why", .int 0], .tup [.str "pick", .lst [.str x], .int mk]]))]) rfl ?_
  obtain ⟨d, ed, hd⟩ := at_in (xs := [.tup [.str "wish", .int k1], .tup [.str "pick", .str x, .int mk], .tup [.str "need", .str x, .int mk, .int k2], .tup [.str "wish", .int (-1)], .tup [.str "wish", .bl true], .tup [.str "wish"], .lst [.str "wish", .int 0], .non, .tup [.str "why", .int 0], .tup [.str "pick", .lst [.str x], .int mk], .tup [.str "need", .dic [], .int mk, .int 0], D.tup [.str "wish", .lst [.int 0]]]) (i := n % 12) (by omega) (by simp; omega)
  refine gss_one (gs_retE (d := d) (ge_ix (gv_ge (ge_addD (gv_ge (ge_var 4 rfl)) (gv_ge (ge_n (gn_lst (gr_cons (ge_tup (gr_cons ge_str (gr_cons (ge_nd gn_dnew) (gr_cons (ge_var 3 rfl) (gr_cons ge_int gr_nil))))) (gr_cons (ge_tup (gr_cons ge_str (gr_cons (ge_n (gn_lst (gr_cons ge_int gr_nil))) gr_nil))) gr_nil))))) (.lst (Nat.le_of_ble_eq_true rfl)))) (ge_mod (ge_var 1 rfl) ge_int (by decide)) (.lst ed)) (q d ?_))
  have f1 : (D.str ("pick" : Str)).fit = true := by decide +kernel
  have f2 : (D.str ("wish" : Str)).fit = true := by decide +kernel
  have f3 : (D.str ("need" : Str)).fit = true := by decide +kernel
  have f4 : (D.str ("why" : Str)).fit = true := by decide +kernel
  have fx := hw x hx
  simp only [List.mem_cons, List.not_mem_nil, or_false] at hd
  rcases hd with rfl | rfl | rfl | rfl | rfl | rfl | rfl | rfl | rfl | rfl | rfl | rfl <;> (simp only [D.gd, D.gds, f1, f2, f3, f4, fx, Bool.and_true, Bool.true_and] <;> rfl)
theorem has__law_other_sources (T : Tx K mg A) : HasF P w K mg base 2 "_law_other_sources" ["_law_sources", "_law_wares", "_law_number"] sp_osrcs := by
  refine has_body T.d__law_other_sources sc__law_other_sources (fun ds G P PX h => ?_) (fun f cdv _ outer s H E hr F0 R0 ds G PP PX h => ?_)
  · obtain ⟨_, _, _, _, rfl, _⟩ := h; rfl
  have nd := nd__law_other_sources
  obtain ⟨dl, ss, nm, n, rfl, hv, hne, hsl, hok, hn, hp, hl, hw, q⟩ := h
  have hsp : 0 < ss.length := List.length_pos_iff.mpr hne
  have gss : D.gds 3 (ss.map encSrc) = true := D.gds_all.mpr fun d hd => by
    obtain ⟨s, hs, rfl⟩ := List.mem_map.mp hd
    exact D.gd_mono 1 _ _ (by decide) (src_gd (hok s hs))
  have hcl : ∀ a b, (cutD (ss.map encSrc) a b).length ≤ 100 := fun a b => Nat.le_trans cutD_len (by rw [List.length_map]; exact hsl)
  obtain ⟨sx, ex, hx⟩ := at_mod (xs := ss) (i := n / 4) (m := ss.length) rfl (by omega)
  refine gss_cons (gs_set 3 nd (ge_mod (ge_fdiv (ge_var 2 rfl) ge_int ⟨by decide, by decide⟩) (ge_len T.blt (gv_view (ge_var 0 rfl) hv) .lst) (by rw [List.length_map]; omega)) ?_)
  rw [List.length_map]
  have hix : IxD (.lst (ss.map encSrc)) (.int (n / 4 % (ss.length : Int))) (encSrc sx) := .lst (by rw [atI_map, ex]; rfl)
  generalize n / 4 % (ss.length : Int) = at_ at *
  have gsx : D.gd 3 (encSrc sx) = true := D.gd_mono 1 _ _ (by decide) (src_gd (hok sx hx))
  have fin : ∀ a b c d x, D.gd 3 x = true → ∀ l, G l = none → PP (.ref l) (gupd G l (.lst (cutD (ss.map encSrc) a b ++ [x] ++ cutD (ss.map encSrc) c d))) := fun a b c d x hx l hl => q l _ (gds_app (gds_app (gds_cut gss) (gds_one hx)) (gds_cut gss)) (by have := hcl a b; have := hcl c d; simp; omega) hl
  refine gss_cons (gs_if (gt_cmp (gc_eqI (ge_mod (ge_fdiv (ge_var 2 rfl) ge_int ⟨by decide, by decide⟩) ge_int (by decide)) ge_int)) (fun hc => ?_) (fun hc => gss_nil ?_))
  · obtain ⟨ps, eps, hpl, hpa⟩ := src_atom (hok sx hx)
    refine gss_one (gs_ret (gf_n (gn_cat (gv_ge (ge_addD (gv_ge (ge_n (gn_slice (gv_view (ge_var 0 rfl) hv) go_none (go_some (ge_var 3 rfl))))) (gv_ge (ge_n (gn_lst (gr_cons (ge_gw (gw_call (hk := Nat.le_of_ble_eq_true rfl) (has__law_truths T) (gr_cons (ge_ix (d := .tup ps) (gv_view (ge_var 0 rfl) hv) (ge_var 3 rfl) (eps ▸ hix)) gr_nil) ⟨ps, rfl, hpl, hpa, rfl, rfl⟩)) gr_nil)))) (.lst (by have := hcl none (some at_); simp; omega)))) (gv_ge (ge_n (gn_slice (gv_view (ge_var 0 rfl) hv) (go_some (ge_add (ge_var 3 rfl) ge_int)) go_none))) (by have := hcl none (some at_); have := hcl (some (at_ + 1)) none; simp; omega)) (fin _ _ _ _ _ (truT_gd hpl hpa))))
  refine gss_cons (gs_if (gt_cmp (gc_eqI (ge_mod (ge_var 2 rfl) ge_int (by decide)) ge_int)) (fun hc => ?_) (fun hc => gss_nil ?_))
  · refine gss_one (gs_ret (gf_n (gn_cat (gv_ge (ge_n (gn_slice (gv_view (ge_var 0 rfl) hv) go_none (go_some (ge_var 3 rfl))))) (gv_ge (ge_n (gn_slice (gv_view (ge_var 0 rfl) hv) (go_some (ge_add (ge_var 3 rfl) ge_int)) go_none))) (by have := hcl none (some at_); have := hcl (some (at_ + 1)) none; omega)) (fun l hl => q l _ (gds_app (gds_cut gss) (gds_cut gss)) (by have := hcl none (some at_); have := hcl (some (at_ + 1)) none; simp; omega) hl)))
  refine gss_cons (gs_if (gt_cmp (gc_eqI (ge_mod (ge_var 2 rfl) ge_int (by decide)) ge_int)) (fun hc => ?_) (fun hc => gss_nil ?_))
  · refine gss_one (gs_ret (gf_n (gn_cat (gv_ge (ge_addD (gv_ge (ge_n (gn_slice (gv_view (ge_var 0 rfl) hv) go_none (go_some (ge_var 3 rfl))))) (gv_ge (ge_n (gn_lst (gr_cons (ge_ix (d := encSrc sx) (gv_view (ge_var 0 rfl) hv) (ge_var 3 rfl) hix) gr_nil)))) (.lst (by have := hcl none (some at_); simp; omega)))) (gv_ge (ge_n (gn_slice (gv_view (ge_var 0 rfl) hv) (go_some (ge_var 3 rfl)) go_none))) (by have := hcl none (some at_); have := hcl (some at_) none; simp; omega)) (fin _ _ _ _ _ gsx)))
  refine gss_one (gs_ret (gf_w (gw_cat (gw_catF (gw_ge (ge_n (gn_slice (gv_view (ge_var 0 rfl) hv) go_none (go_some (ge_var 3 rfl)))) ⟨rfl, _, rfl, gw_lst ?_⟩)))))
  refine gre_cons (P1 := fun d G' => G' = G ∧ D.gd 3 d = true) (gw_call (hk := Nat.le_of_ble_eq_true rfl) (has__law_odd_source T) (gr_cons (ge_var 1 rfl) (gr_cons (ge_fdiv (ge_var 2 rfl) ge_int ⟨by decide, by decide⟩) gr_nil)) ⟨nm, _, rfl, by omega, hp, hl, hw, fun d hd => ⟨rfl, hd⟩⟩) (fun d G' ⟨eG, hd⟩ => gre_r gr_nil ⟨Nat.le_of_ble_eq_true rfl, eG, _, rfl, (by have := hcl none (some at_); simp; omega), ?_⟩)
  exact gw_ge (ge_n (gn_slice (gv_view (ge_var 0 rfl) hv) (go_some (ge_add (ge_var 3 rfl) (ge_mod (ge_var 2 rfl) ge_int (by decide)))) go_none)) ⟨_, _, .rfl, .rfl, (by have := hcl none (some at_); have := hcl (some (at_ + n % 2)) none; simp; omega), fin _ _ _ _ _ hd⟩
end
end Gh
end

section
set_option Elab.async false
set_option linter.all false
set_option maxRecDepth 100000
set_option maxHeartbeats 4000000
namespace Gh
open PySem PySem.Spec PyProof.Rows L2
/-! law_k07: another reason -/
theorem gd_t {n : Nat} {es : List D} (h1 : D.hdOk es = true) (h : ∀ d ∈ es, D.gd n d = true) : D.gd (n + 1) (.tup es) = true := by rw [D.gd_tup, Bool.and_eq_true]; exact ⟨h1, D.gds_all.mpr h⟩
theorem gd_l {n : Nat} {es : List D} (h1 : es.length ≤ 1000) (h : D.gds n es = true) : D.gd (n + 1) (.lst es) = true := by rw [D.gd_lst, Bool.and_eq_true]; exact ⟨decide_eq_true h1, h⟩
theorem gd_i {n : Nat} {i : Int} : D.gd n (.int i) = true := by rw [D.gd]
theorem gd_b {n : Nat} {i : Bool} : D.gd n (.bl i) = true := by rw [D.gd]
theorem gd_n {n : Nat} : D.gd n .non = true := by rw [D.gd]
theorem gd_s {n : Nat} {x : Str} (h : (D.str x).fit = true) : D.gd n (.str x) = true := by rw [D.gd]; exact h
def Brn (n : Nat) (d : D) : Prop := ∃ m y ss bs, d = .tup [.int m, .tup [.str y, ss, bs]] ∧ 1 ≤ m ∧ m ≤ 999 ∧ D.gd (n + 1) (.tup [.str y, ss, bs]) = true
theorem Brn.gd {n : Nat} {d : D} (h : Brn n d) : D.gd (n + 2) d = true := by
  obtain ⟨m, y, ss, bs, rfl, _, _, g⟩ := h
  refine gd_t rfl fun d hd => ?_
  simp only [List.mem_cons, List.not_mem_nil, or_false] at hd
  rcases hd with rfl | rfl
  · exact gd_i
  · exact g
def sp_obrs (n : Nat) : GSp := fun ds G PP _ => ∃ (dbs : List D) (k : Int), ds = [.lst dbs, .int k] ∧ dbs ≠ [] ∧ dbs.length ≤ 8 ∧ 0 ≤ k ∧ (∀ d ∈ dbs, Brn n d) ∧ ∀ bs', D.gds (n + 2) bs' = true → bs'.length ≤ 20 → PP (.lst bs') G
section
variable {P : Program} {w : World} {K : PySem.W.Frag} {mg : Str → Option Value} {base : Heap} {A : Ads}
theorem has__law_other_branches (T : Tx K mg A) (n : Nat) : HasF P w K mg base 1 "_law_other_branches" ["_law_branches", "_law_number"] (sp_obrs n) := by
  refine has_body T.d__law_other_branches sc__law_other_branches (fun ds G P PX h => ?_) (fun f cdv _ outer s H E hr F0 R0 ds G PP PX h => ?_)
  · obtain ⟨_, _, rfl, _⟩ := h; rfl
  have nd := nd__law_other_branches
  obtain ⟨dbs, k, rfl, hne, hl, hk, hb, q⟩ := h
  have hp : 0 < dbs.length := List.length_pos_iff.mpr hne
  have gbs : D.gds (n + 2) dbs = true := D.gds_all.mpr fun d hd => (hb d hd).gd
  have hcl : ∀ a b, (cutD dbs a b).length ≤ 8 := fun a b => Nat.le_trans cutD_len hl
  obtain ⟨dx, ex, hx⟩ := at_mod (xs := dbs) (i := k / 6) (m := dbs.length) rfl (by omega)
  obtain ⟨m, y, ss, bs, rfl, h1, h2, g⟩ := hb dx hx
  have hix : IxD (.lst dbs) (.int (k / 6 % (dbs.length : Int))) (.tup [.int m, .tup [.str y, ss, bs]]) := .lst ex
  refine gss_cons (gs_set 2 nd (ge_mod (ge_fdiv (ge_var 1 rfl) ge_int ⟨by decide, by decide⟩) (ge_len T.blt (gv_ge (ge_var 0 rfl)) .lst) (by omega)) ?_)
  generalize k / 6 % (dbs.length : Int) = at_ at *
  have fin : ∀ a b c d x, D.gd (n + 2) x = true → PP (.lst (cutD dbs a b ++ [x] ++ cutD dbs c d)) G := fun a b c d x hx => q _ (gds_app (gds_app (gds_cut gbs) (gds_one hx)) (gds_cut gbs)) (by have := hcl a b; have := hcl c d; simp; omega)
  have gx : D.gd (n + 2) (.tup [.int m, .tup [.str y, ss, bs]]) = true := (hb _ hx).gd
  refine gss_cons (gs_asg (ge_ix (d := .tup [.int m, .tup [.str y, ss, bs]]) (gv_ge (ge_var 0 rfl)) (ge_var 2 rfl) hix) (gg_tup (ggs_cons (gg_name 3 nd) (ggs_cons (gg_name 4 nd) ggs_nil))) ?_)
  refine gss_cons (gs_set 5 nd (ge_mod (ge_var 1 rfl) ge_int (by decide)) ?_)
  refine gss_eq (ρ' := [.dat (.lst dbs), .dat (.int k), .dat (.int at_), .dat (.int m), .dat (.tup [.str y, ss, bs]), .dat (.int (k % 6)), .unk]) rfl ?_
  have h8 : ∀ a b c d, (cutD dbs a b).length + (cutD dbs c d).length ≤ 16 := fun a b c d => by have := hcl a b; have := hcl c d; omega
  refine gss_cons (gs_if (gt_cmp (gc_eqI (ge_var 5 rfl) ge_int)) (fun hc => ?_) (fun hc => gss_nil ?_))
  · exact gss_one (gs_retE (ge_addD (gv_ge (ge_n (gn_slice (gv_ge (ge_var 0 rfl)) go_none (go_some (ge_var 2 rfl))))) (gv_ge (ge_n (gn_slice (gv_ge (ge_var 0 rfl)) (go_some (ge_add (ge_var 2 rfl) ge_int)) go_none))) (.lst (by have := h8 none (some at_) (some (at_ + 1)) none; omega))) (q _ (gds_app (gds_cut gbs) (gds_cut gbs)) (by have := h8 none (some at_) (some (at_ + 1)) none; simp; omega)))
  refine gss_cons (gs_if (gt_cmp (gc_eqI (ge_var 5 rfl) ge_int)) (fun hc => ?_) (fun hc => gss_nil ?_))
  · exact gss_one (gs_retE (ge_addD (gv_ge (ge_addD (gv_ge (ge_n (gn_slice (gv_ge (ge_var 0 rfl)) go_none (go_some (ge_var 2 rfl))))) (gv_ge (ge_n (gn_lst (gr_cons (ge_ix (d := .tup [.int m, .tup [.str y, ss, bs]]) (gv_ge (ge_var 0 rfl)) (ge_var 2 rfl) hix) gr_nil)))) (.lst (by have := hcl none (some at_); simp; omega)))) (gv_ge (ge_n (gn_slice (gv_ge (ge_var 0 rfl)) (go_some (ge_var 2 rfl)) go_none))) (.lst (by have := h8 none (some at_) (some at_) none; simp; omega))) (fin _ _ _ _ _ gx))
  refine gss_cons (gs_if (gt_cmp (gc_eqI (ge_var 5 rfl) ge_int)) (fun hc => ?_) (fun hc => gss_nil ?_))
  · refine gss_one (gs_retE (ge_n (gn_step (i := -1) (gv_ge (ge_var 0 rfl)) (ge_neg ge_int) (.inr rfl))) (q _ ?_ ?_))
    · rw [if_neg (by decide)]
      exact D.gds_all.mpr fun d hd => D.gds_all.mp gbs d (List.mem_reverse.mp hd)
    · rw [if_neg (by decide), List.length_reverse]; omega
  have hd := fit_digits ⟨m.toNat, by omega⟩
  rw [show ((m.toNat : Nat) : Int) = m by omega] at hd
  have hlog : m.natAbs.log2 < 1920 := Nat.lt_of_le_of_lt (Nat.log2_le_self _) (by omega)
  have hcut : cutD [.str y, ss, bs] none (some 2) = [.str y, ss] := rfl
  refine gss_cons (gs_own 6 nd (gn_lst (gr_cons (ge_tup (gr_cons (ge_add (ge_var 3 rfl) ge_int) (gr_cons (ge_var 4 rfl) gr_nil))) (gr_cons (ge_n (gn_lst (gr_cons (ge_var 3 rfl) (gr_cons (ge_var 4 rfl) gr_nil)))) (gr_cons (ge_tup (gr_cons (ge_var 3 rfl) gr_nil)) (gr_cons (ge_tup (gr_cons (ge_strI T.blt (ge_var 3 rfl) hlog) (gr_cons (ge_var 4 rfl) gr_nil))) (gr_cons (ge_tup (gr_cons (ge_var 3 rfl) (gr_cons ge_non gr_nil))) (gr_cons (ge_tup (gr_cons (ge_var 3 rfl) (gr_cons (ge_sliceT (x := none) (y := some 2) (ge_var 4 rfl) go_none (go_some ge_int) (by simp [HT.sIx])) gr_nil))) gr_nil))))))) ?_)
  refine gss_cons (gs_app 6 rfl (ge_tup (gr_cons (ge_cmp (gc_eqI (ge_var 3 rfl) ge_int)) (gr_cons (ge_var 4 rfl) gr_nil))) (Nat.lt_of_le_of_lt (show 6 ≤ 6 from Nat.le_refl _) (by decide)) ?_)
  rw [hcut]
  obtain ⟨d, ed, hd2⟩ := at_in (xs := [.tup [.int (m + 1), .tup [.str y, ss, bs]], .lst [.int m, .tup [.str y, ss, bs]], .tup [.int m], .tup [.str (toString m), .tup [.str y, ss, bs]], .tup [.int m, .non], .tup [.int m, .tup [.str y, ss]], D.tup [.bl (decide (m = 1)), .tup [.str y, ss, bs]]]) (i := k / 42 % 7) (by omega) (by simp; omega)
  refine gss_eq (ρ' := [.dat (.lst dbs), .dat (.int k), .dat (.int at_), .dat (.int m), .dat (.tup [.str y, ss, bs]), .dat (.int (k % 6)), .own [.tup [.int (m + 1), .tup [.str y, ss, bs]], .lst [.int m, .tup [.str y, ss, bs]], .tup [.int m], .tup [.str (toString m), .tup [.str y, ss, bs]], .tup [.int m, .non], .tup [.int m, .tup [.str y, ss]], D.tup [.bl (decide (m = 1)), .tup [.str y, ss, bs]]]]) rfl ?_
  refine gss_one (gs_retE (ge_addD (gv_ge (ge_addD (gv_ge (ge_n (gn_slice (gv_ge (ge_var 0 rfl)) go_none (go_some (ge_var 2 rfl))))) (gv_ge (ge_n (gn_lst (gr_cons (ge_ix (d := d) (gv_own 6 rfl) (ge_mod (ge_fdiv (ge_var 1 rfl) ge_int ⟨by decide, by decide⟩) ge_int (by decide)) (.lst ed)) gr_nil)))) (.lst (by have := hcl none (some at_); simp; omega)))) (gv_ge (ge_n (gn_slice (gv_ge (ge_var 0 rfl)) (go_some (ge_add (ge_var 2 rfl) ge_int)) go_none))) (.lst (by have := h8 none (some at_) (some (at_ + 1)) none; simp; omega))) (fin _ _ _ _ _ ?_))
  have g2 : D.gd (n + 1) (.tup [.str y, ss]) = true := by
    obtain ⟨_, z⟩ := D.gd_tup' g
    exact gd_t rfl fun d hd => D.gds_all.mp z d (by simp only [List.mem_cons, List.not_mem_nil, or_false] at hd ⊢; rcases hd with rfl | rfl <;> simp)
  have two : ∀ a b : D, D.gd (n + 1) a = true → D.gd (n + 1) b = true → a.isDic = false → D.gd (n + 2) (.tup [a, b]) = true := fun a b ha hb hc => gd_t (by cases a <;> first | rfl | cases hc) fun d hd => by
    simp only [List.mem_cons, List.not_mem_nil, or_false] at hd
    rcases hd with rfl | rfl
    · exact ha
    · exact hb
  simp only [List.mem_cons, List.not_mem_nil, or_false] at hd2
  rcases hd2 with rfl | rfl | rfl | rfl | rfl | rfl | rfl
  · exact two _ _ gd_i g rfl
  · exact gd_l (Nat.le_of_ble_eq_true rfl) (by rw [D.gds_cons, D.gds_cons, D.gds_nil, gd_i, g]; rfl)
  · exact gd_t rfl fun d hd => by rw [List.mem_singleton.mp hd]; exact gd_i
  · exact two _ _ (gd_s hd) g rfl
  · exact two _ _ gd_i gd_n rfl
  · exact two _ _ gd_i g2 rfl
  · exact two _ _ gd_b g rfl
end
/-- what another reason is, over the sources that it keeps -/
structure Oth (n : Nat) (ss0 : List D) (f : D → D) : Prop where
  gd : D.gd n (f (.lst ss0)) = true
  nd : (f (.lst ss0)).isDic = false
  dv : ∀ (G : Gs) (sv : D) (S : List Addr), DV G sv (.lst ss0) S → ∃ S', DV G (f sv) (f (.lst ss0)) S' ∧ ∀ a ∈ S', a ∈ S
  keep : ∀ y ss' bs', f (.lst ss0) = .tup [.str y, .lst ss', .lst bs'] → ss' ≠ [] → ss' = ss0 ∧ ∀ sv, f sv = .tup [.str y, sv, .lst bs']
theorem Oth.tup3 {n : Nat} {ss0 bs : List D} {y : Str} (hy : (D.str y).fit = true) (h1 : D.gds n ss0 = true) (h2 : ss0.length ≤ 1000) (h3 : D.gds n bs = true) (h4 : bs.length ≤ 1000) : Oth (n + 2) ss0 (fun sv => .tup [.str y, sv, .lst bs]) := by
  refine ⟨gd_t rfl fun d hd => ?_, rfl, fun G sv S h => ⟨_, .tup (.cons (.eq _) (.cons h (.cons (.eq _) .nil))), fun a ha => by simpa using ha⟩, fun y' ss' bs' e _ => ?_⟩
  · simp only [List.mem_cons, List.not_mem_nil, or_false] at hd
    rcases hd with rfl | rfl | rfl
    · exact gd_s hy
    · exact gd_l h2 h1
    · exact gd_l h4 h3
  · cases e
    exact ⟨rfl, fun _ => rfl⟩
theorem Oth.up {n m : Nat} {ss0 : List D} {f : D → D} (h : Oth n ss0 f) (hm : n ≤ m) : Oth m ss0 f := ⟨D.gd_mono _ _ _ hm h.gd, h.nd, h.dv, h.keep⟩
theorem Oth.odd {n : Nat} {ss0 bs : List D} {y : Str} (hy : (D.str y).fit = true) (h1 : D.gds n ss0 = true) (h2 : ss0.length ≤ 1000) (h3 : D.gds n bs = true) (h4 : bs.length ≤ 1000) {i : Int} (h0 : 0 ≤ i) (h6 : i < 6) : ∃ f, Oth (n + 2) ss0 f ∧ ∀ sv, atI [.tup [.str y, sv], .lst [.str y, sv, .lst bs], .non, .tup [.str y, .lst [], .lst bs], .tup [.str y, sv, .non], .tup [.int 5, sv, .lst []]] i = some (f sv) := by
  have k1 : D.gd (n + 1) (.str y) = true := gd_s hy
  have k2 : D.gd (n + 1) (.lst ss0) = true := gd_l h2 h1
  have k3 : D.gd (n + 1) (.lst bs) = true := gd_l h4 h3
  have k4 : D.gd (n + 1) (.lst []) = true := gd_l (by decide) D.gds_nil
  have k5 : D.gd (n + 1) .non = true := gd_n
  have k6 : D.gd (n + 1) (.int 5) = true := gd_i
  obtain ⟨j, rfl⟩ : ∃ j : Nat, i = j := ⟨i.toNat, by omega⟩
  have hj : j = 0 ∨ j = 1 ∨ j = 2 ∨ j = 3 ∨ j = 4 ∨ j = 5 := by omega
  rcases hj with rfl | rfl | rfl | rfl | rfl | rfl
  · exact ⟨fun sv => .tup [.str y, sv], ⟨by rw [D.gd_tup, D.gds_cons, D.gds_cons, D.gds_nil, k1, k2]; rfl, rfl, fun G sv S h => ⟨_, .tup (.cons (.eq _) (.cons h .nil)), fun a ha => by simpa using ha⟩, fun y' ss' bs' e _ => by cases e⟩, fun sv => atI_nat rfl⟩
  · exact ⟨fun sv => .lst [.str y, sv, .lst bs], ⟨gd_l (Nat.le_of_ble_eq_true rfl) (by rw [D.gds_cons, D.gds_cons, D.gds_cons, D.gds_nil, k1, k2, k3]; rfl), rfl, fun G sv S h => ⟨_, .lst (.cons (.eq _) (.cons h (.cons (.eq _) .nil))), fun a ha => by simpa using ha⟩, fun y' ss' bs' e _ => by cases e⟩, fun sv => atI_nat rfl⟩
  · exact ⟨fun sv => .non, ⟨gd_n, rfl, fun G sv S h => ⟨_, .eq _, fun a ha => by cases ha⟩, fun y' ss' bs' e _ => by cases e⟩, fun sv => atI_nat rfl⟩
  · exact ⟨fun sv => .tup [.str y, .lst [], .lst bs], ⟨by rw [D.gd_tup, D.gds_cons, D.gds_cons, D.gds_cons, D.gds_nil, k1, k4, k3]; rfl, rfl, fun G sv S h => ⟨_, .eq _, fun a ha => by cases ha⟩, fun y' ss' bs' e hn => by cases e; exact absurd rfl hn⟩, fun sv => atI_nat rfl⟩
  · exact ⟨fun sv => .tup [.str y, sv, .non], ⟨by rw [D.gd_tup, D.gds_cons, D.gds_cons, D.gds_cons, D.gds_nil, k1, k2, k5]; rfl, rfl, fun G sv S h => ⟨_, .tup (.cons (.eq _) (.cons h (.cons (.eq _) .nil))), fun a ha => by simpa using ha⟩, fun y' ss' bs' e _ => by cases e⟩, fun sv => atI_nat rfl⟩
  · exact ⟨fun sv => .tup [.int 5, sv, .lst []], ⟨by rw [D.gd_tup, D.gds_cons, D.gds_cons, D.gds_cons, D.gds_nil, k6, k2, k4]; rfl, rfl, fun G sv S h => ⟨_, .tup (.cons (.eq _) (.cons h (.cons (.eq _) .nil))), fun a ha => by simpa using ha⟩, fun y' ss' bs' e _ => by cases e⟩, fun sv => atI_nat rfl⟩
def sp_other (k : Nat) : GSp := fun ds G PP _ => ∃ (top : Bool) (x : Str) (ss : List Src) (bs : Brs) (sv : D) (nm : List Str) (n : Int), ds = [.tup [.str x, sv, .lst (bs.list.map encBr)], .lst (nm.map .str), .int n] ∧ ViewD G sv (.lst (ss.map encSrc)) ∧ (Rsn.mk x ss bs).Good ∧ bs.dep ≤ k ∧ 0 ≤ n ∧ 0 < nm.length ∧ nm.length ≤ 100 ∧ (∀ x ∈ nm, (D.str x).fit = true) ∧
  (∀ f, D.gd (3 * k + 6) (f (.lst (ss.map encSrc))) = true → (top = true → Oth (3 * k + 6) (ss.map encSrc) f) → PP (f sv) G) ∧ (top = false → sv = .lst (ss.map encSrc)) ∧ (top = true → ∀ l ss', D.gds 3 ss' = true → ss'.length ≤ 300 → G l = none → PP (.tup [.str x, .ref l, .lst (bs.list.map encBr)]) (gupd G l (.lst ss')))
section
variable {P : Program} {w : World} {K : PySem.W.Frag} {mg : Str → Option Value} {base : Heap} {A : Ads}
theorem has__law_other (T : Tx K mg A) : ∀ k, HasF P w K mg base (k + 3) "_law_other" ["_law_reason", "_law_wares", "_law_number"] (sp_other k) := by
  intro k
  have step : ∀ k, (∀ m, k = m + 1 → HasF P w K mg base (m + 3) "_law_other" ["_law_reason", "_law_wares", "_law_number"] (sp_other m)) → HasF P w K mg base (k + 3) "_law_other" ["_law_reason", "_law_wares", "_law_number"] (sp_other k) := by
    intro k ih
    refine has_body T.d__law_other sc__law_other (fun ds G P PX h => ?_) (fun f cdv _ outer s H E hr F0 R0 ds G PP PX h => ?_)
    · obtain ⟨_, _, _, _, _, _, _, rfl, _⟩ := h; rfl
    have nd := nd__law_other
    obtain ⟨top, x, ss, bs, sv, nm, n, rfl, hv, hgood, hdep, hn, hp, hnl, hnw, q, q1, q2⟩ := h
    obtain ⟨hxw, hne, hsl, hok, hbl, hbg⟩ := Rsn.good_mk.mp hgood
    have hx : (D.str x).fit = true := fit_ware hxw
    have gss : D.gds (3 * k + 4) (ss.map encSrc) = true := D.gds_all.mpr fun d hd => by
      obtain ⟨s, hs, rfl⟩ := List.mem_map.mp hd
      exact D.gd_mono 1 _ _ (by omega) (src_gd (hok s hs))
    have hssl : (ss.map encSrc).length ≤ 1000 := by rw [List.length_map]; omega
    have gbs1 : D.gds (3 * k + 1) (bs.list.map encBr) = true := by rw [← encB_list]; exact brs_gd bs k hbg hdep
    have gbs : D.gds (3 * k + 4) (bs.list.map encBr) = true := D.gds_mono _ _ _ (by omega) gbs1
    have hbl2 : (bs.list.map encBr).length ≤ 8 := by rw [List.length_map]; exact hbl
    have hrun : ∀ b ∈ bs.list, b.2.dep + 1 ≤ k := fun b hb => Nat.le_trans (bs.dep_list b hb) hdep
    have good_b := Brs.good_all.mp hbg
    have oth : ∀ {f}, Oth (3 * k + 6) (ss.map encSrc) f → PP (f sv) G := fun h => q _ h.gd fun _ => h
    refine gss_cons (gs_asg (ge_var 0 rfl) (gg_tup (ggs_cons (gg_name 3 nd) (ggs_cons (gg_name 4 nd) (ggs_cons (gg_name 5 nd) ggs_nil)))) ?_)
    generalize edl : bs.list.map encBr = dbs at *
    refine gss_eq (ρ' := [.dat (.tup [.str x, sv, .lst dbs]), .dat (.lst (nm.map .str)), .dat (.int n), .dat (.str x), .dat sv, .dat (.lst dbs), .unk, .unk, .unk, .unk]) rfl ?_
    refine gss_cons (gs_if (x := !dbs.isEmpty && decide (n % 5 < 3)) (gt_w (gtw_and (gt_cmp (gc_neE (gv_ge (ge_var 5 rfl)) (gv_ge (ge_n (gn_lst gr_nil))))) fun _ => (gtw_and1 (gt_cmp (gc_lt (ge_mod (ge_var 2 rfl) ge_int (by decide)) ge_int))))) (fun hc => ?_) (fun hc => gss_nil ?_))
    · have hcl : ∀ a b, (cutD dbs a b).length ≤ 8 := fun a b => Nat.le_trans cutD_len hbl2
      have hbe : dbs ≠ [] := by rintro rfl; cases hc
      have hpos : 0 < dbs.length := List.length_pos_iff.mpr hbe
      obtain ⟨db, edb, hdb⟩ := at_mod (xs := dbs) (i := n / 5) (m := dbs.length) rfl (by omega)
      rw [← edl] at hdb
      obtain ⟨b, hb, rfl⟩ := List.mem_map.mp hdb
      refine gss_cons (gs_set 6 nd (ge_mod (ge_fdiv (ge_var 2 rfl) ge_int ⟨by decide, by decide⟩) (ge_len T.blt (gv_ge (ge_var 5 rfl)) .lst) (by omega)) ?_)
      have hix : IxD (.lst dbs) (.int (n / 5 % (dbs.length : Int))) (encBr b) := .lst edb
      generalize n / 5 % (dbs.length : Int) = at_ at *
      refine gss_cons (gs_asg (d := .tup [.int b.1, encR b.2]) (ge_ix (gv_ge (ge_var 5 rfl)) (ge_var 6 rfl) hix) (gg_tup (ggs_cons (gg_name 7 nd) (ggs_cons (gg_name 8 nd) ggs_nil))) ?_)
      obtain ⟨m, rfl⟩ : ∃ m, k = m + 1 := ⟨k - 1, by have := hrun b hb; omega⟩
      obtain ⟨bm, br⟩ := b
      obtain ⟨bx, bss, bbs⟩ := br
      have hbd := hrun _ hb
      rw [encR_mk]
      refine gss_eq (ρ' := [.dat (.tup [.str x, sv, .lst dbs]), .dat (.lst (nm.map .str)), .dat (.int n), .dat (.str x), .dat sv, .dat (.lst dbs), .dat (.int at_), .dat (.int bm), .dat (.tup [.str bx, .lst (bss.map encSrc), .lst (bbs.list.map encBr)]), .unk]) rfl ?_
      have hbd2 : bbs.dep ≤ m := by
        have e : (Rsn.mk bx bss bbs).dep = bbs.dep := by rw [Rsn.dep]
        simp only [e] at hbd; omega
      have h16 := hcl none (some at_)
      have h17 := hcl (some (at_ + 1)) none
      refine gss_one (gs_ret (gf_w (gw_tup (gre_1 (ge_var 3 rfl) (gre_1 (ge_var 4 rfl) ?_)))))
      refine gre_cons (P1 := fun d G' => G' = G ∧ ∃ bs', d = .lst bs' ∧ D.gds (3 * (m + 1) + 4) bs' = true ∧ bs'.length ≤ 20) ?_ (fun d G' ⟨eG, bs', ed, h1, h2⟩ => gre_r gr_nil ⟨Nat.le_of_ble_eq_true rfl, by
        subst eG ed
        exact oth (Oth.tup3 (n := 3 * (m + 1) + 4) hx gss hssl h1 (by omega))⟩)
      refine gw_catF (gw_catF (gw_ge (ge_n (gn_slice (gv_ge (ge_var 5 rfl)) go_none (go_some (ge_var 6 rfl)))) ⟨rfl, _, rfl, gw_lst ?_⟩))
      refine gre_cons (P1 := fun d G' => G' = G ∧ D.gd (3 * (m + 1) + 4) d = true) (gw_tup (gre_1 (ge_var 7 rfl) ?_)) (fun d G' ⟨eG, hd⟩ => gre_r gr_nil ⟨Nat.le_of_ble_eq_true rfl, eG, _, rfl, (by simp; omega), rfl, _, rfl, ?_⟩)
      · refine gre_cons (P1 := fun d G' => G' = G ∧ D.gd (3 * m + 6) d = true) (gw_call (hk := Nat.le_refl _) (ih m rfl) (gr_cons (ge_var 8 rfl) (gr_cons (ge_var 1 rfl) (gr_cons (ge_fdiv (ge_var 2 rfl) ge_int ⟨by decide, by decide⟩) gr_nil))) ⟨false, bx, bss, bbs, _, nm, _, rfl, .rfl, (good_b _ hb).2, hbd2, by omega, hp, hnl, hnw, fun f hf _ => ⟨rfl, hf⟩, fun _ => rfl, fun z => nomatch z⟩) (fun d G' ⟨eG, hd⟩ => gre_r gr_nil ⟨Nat.le_of_ble_eq_true rfl, eG, gd_t rfl fun y hy => ?_⟩)
        simp only [List.mem_cons, List.not_mem_nil, or_false] at hy
        rcases hy with rfl | rfl
        · exact gd_i
        · exact D.gd_mono _ _ _ (by omega) hd
      · subst eG
        refine gw_ge (ge_n (gn_slice (gv_ge (ge_var 5 rfl)) (go_some (ge_add (ge_var 6 rfl) ge_int)) go_none)) ⟨rfl, _, rfl, ?_, rfl, _, rfl, gds_app (gds_app (gds_cut gbs) (gds_one hd)) (gds_cut gbs), ?_⟩
        · simp; omega
        · simp; omega
    refine gss_cons (gs_if (x := !dbs.isEmpty && decide (n % 5 = 3)) (gt_w (gtw_and (gt_cmp (gc_neE (gv_ge (ge_var 5 rfl)) (gv_ge (ge_n (gn_lst gr_nil))))) fun _ => (gtw_and1 (gt_cmp (gc_eqI (ge_mod (ge_var 2 rfl) ge_int (by decide)) ge_int))))) (fun hc => ?_) (fun hc => gss_nil ?_))
    · have hbe : dbs ≠ [] := by rintro rfl; cases hc
      obtain ⟨b0, hb0⟩ : ∃ b, b ∈ bs.list := by
        cases e : bs.list with
        | nil => rw [e] at edl; exact absurd edl.symm hbe
        | cons b t => exact ⟨b, List.mem_cons_self⟩
      obtain ⟨m, rfl⟩ : ∃ m, k = m + 1 := ⟨k - 1, by have := hrun b0 hb0; omega⟩
      refine gss_one (gs_ret (gf_w (gw_tup (gre_1 (ge_var 3 rfl) (gre_1 (ge_var 4 rfl) ?_)))))
      refine gre_cons (P1 := fun d G' => G' = G ∧ ∃ bs', d = .lst bs' ∧ D.gds (3 * (m + 1) + 4) bs' = true ∧ bs'.length ≤ 20) (gw_call (hk := Nat.le_trans (show 1 ≤ 2 by decide) (Nat.le_add_left 2 _)) (has__law_other_branches T (3 * m + 3)) (gr_cons (ge_var 5 rfl) (gr_cons (ge_fdiv (ge_var 2 rfl) ge_int ⟨by decide, by decide⟩) gr_nil)) ⟨dbs, _, rfl, hbe, hbl2, by omega, fun d hd => ?_, fun bs' h1 h2 => ⟨rfl, bs', rfl, D.gds_mono _ _ _ (by omega) h1, h2⟩⟩) (fun d G' ⟨eG, bs', ed, h1, h2⟩ => gre_r gr_nil ⟨Nat.le_of_ble_eq_true rfl, by
        subst eG ed
        exact oth (Oth.tup3 (n := 3 * (m + 1) + 4) hx gss hssl h1 (by omega))⟩)
      rw [← edl] at hd
      obtain ⟨⟨bm, br⟩, hb, rfl⟩ := List.mem_map.mp hd
      have hg := good_b _ hb
      have hdp := hrun _ hb
      obtain ⟨bx, bss, bbs⟩ := br
      refine ⟨bm, bx, .lst (bss.map encSrc), .lst (bbs.list.map encBr), (by rw [encBr, encR_mk]), hg.1.1, hg.1.2, ?_⟩
      rw [← encR_mk]
      exact D.gd_mono _ _ _ (by omega) (rsn_gd _ m hg.2 (Nat.le_of_succ_le_succ hdp))
    refine gss_cons (gs_if (gt_cmp (gc_eqI (ge_mod (ge_fdiv (ge_var 2 rfl) ge_int ⟨by decide, by decide⟩) ge_int (by decide)) ge_int)) (fun hc => ?_) (fun hc => gss_nil ?_))
    · obtain ⟨y, ey, hy⟩ := at_mod (xs := nm) (i := n / 40) (m := nm.length) rfl (by omega)
      exact gss_one (gs_retE (ge_tup (gr_cons (ge_ix (d := .str y) (gv_ge (ge_var 1 rfl)) (ge_mod (ge_fdiv (ge_var 2 rfl) ge_int ⟨by decide, by decide⟩) (ge_len T.blt (gv_ge (ge_var 1 rfl)) .lst) (by rw [List.length_map]; omega)) (.lst (by rw [List.length_map, atI_map, ey]; rfl))) (gr_cons (ge_var 4 rfl) (gr_cons (ge_var 5 rfl) gr_nil)))) (oth (Oth.tup3 (n := 3 * k + 4) (hnw y hy) gss hssl gbs (by omega))))
    refine gss_cons (gs_if (gt_cmp (gc_eqI (ge_mod (ge_fdiv (ge_var 2 rfl) ge_int ⟨by decide, by decide⟩) ge_int (by decide)) ge_int)) (fun hc => ?_) (fun hc => gss_nil ?_))
    · refine gss_cons (gs_own 9 nd (gn_lst (gr_cons (ge_tup (gr_cons (ge_var 3 rfl) (gr_cons (ge_var 4 rfl) gr_nil))) (gr_cons (ge_n (gn_lst (gr_cons (ge_var 3 rfl) (gr_cons (ge_var 4 rfl) (gr_cons (ge_var 5 rfl) gr_nil))))) (gr_cons ge_non (gr_cons (ge_tup (gr_cons (ge_var 3 rfl) (gr_cons (ge_n (gn_lst gr_nil)) (gr_cons (ge_var 5 rfl) gr_nil)))) (gr_cons (ge_tup (gr_cons (ge_var 3 rfl) (gr_cons (ge_var 4 rfl) (gr_cons ge_non gr_nil)))) gr_nil)))))) ?_)
      refine gss_cons (gs_app 9 rfl (ge_tup (gr_cons ge_int (gr_cons (ge_var 4 rfl) (gr_cons (ge_n (gn_lst gr_nil)) gr_nil)))) (Nat.lt_of_le_of_lt (show 5 ≤ 5 from Nat.le_refl _) (by decide)) ?_)
      obtain ⟨f, hf, ef⟩ := Oth.odd (n := 3 * k + 4) (i := n / 40 % 6) hx gss hssl gbs (by omega) (by omega) (by omega)
      exact gss_one (gs_retE (ge_ix (d := f sv) (gv_own 9 rfl) (ge_mod (ge_fdiv (ge_var 2 rfl) ge_int ⟨by decide, by decide⟩) ge_int (by decide)) (.lst (ef sv))) (oth hf))
    refine gss_one (gs_ret (gf_w (gw_tup (gre_1 (ge_var 3 rfl) ?_))))
    cases top with
    | false =>
      refine gre_cons (P1 := fun d G' => G' = G ∧ ∃ ss', d = .lst ss' ∧ D.gds 3 ss' = true ∧ ss'.length ≤ 300) (gw_fz (gw_call (hk := Nat.le_add_left 2 _) (has__law_other_sources T) (gr_cons (ge_var 4 rfl) (gr_cons (ge_var 1 rfl) (gr_cons (ge_fdiv (ge_var 2 rfl) ge_int ⟨by decide, by decide⟩) gr_nil))) ⟨sv, ss, nm, _, rfl, hv, hne, hsl, hok, by omega, hp, hnl, hnw, fun l ss' h1 h2 h3 => ⟨l, ss', rfl, h3, rfl, rfl, ss', rfl, h1, h2⟩⟩)) (fun d G' ⟨eG, ss', ed, h1, h2⟩ => gre_r (gr_cons (ge_var 5 rfl) gr_nil) ⟨Nat.le_of_ble_eq_true rfl, ?_⟩)
      subst eG ed
      refine q (fun _ => .tup [.str x, .lst ss', .lst dbs]) (gd_t rfl fun d hd => ?_) fun z => nomatch z
      simp only [List.mem_cons, List.not_mem_nil, or_false] at hd
      rcases hd with rfl | rfl | rfl
      · exact gd_s hx
      · exact gd_l (by omega) (D.gds_mono 3 _ _ (by omega) h1)
      · exact gd_l (by omega) gbs
    | true =>
      refine gre_cons (P1 := fun d G' => ∃ l ss', d = .ref l ∧ G' = gupd G l (.lst ss') ∧ G l = none ∧ D.gds 3 ss' = true ∧ ss'.length ≤ 300) (gw_call (hk := Nat.le_add_left 2 _) (has__law_other_sources T) (gr_cons (ge_var 4 rfl) (gr_cons (ge_var 1 rfl) (gr_cons (ge_fdiv (ge_var 2 rfl) ge_int ⟨by decide, by decide⟩) gr_nil))) ⟨sv, ss, nm, _, rfl, hv, hne, hsl, hok, by omega, hp, hnl, hnw, fun l ss' h1 h2 h3 => ⟨l, ss', rfl, rfl, h3, h1, h2⟩⟩) (fun d G' ⟨l, ss', ed, eG, h3, h1, h2⟩ => gre_r (gr_cons (ge_var 5 rfl) gr_nil) ⟨Nat.le_of_ble_eq_true rfl, ?_⟩)
      subst eG ed
      exact q2 rfl l ss' h1 h2 h3
  induction k with
  | zero => exact step 0 fun m h => by omega
  | succ n ih => exact step (n + 1) fun m h => (by have e : n = m := by omega
                                                   rw [← e]; exact ih)
end
end Gh
end

section
set_option Elab.async false
set_option linter.all false
set_option maxRecDepth 100000
set_option maxHeartbeats 4000000
namespace Gh
open PySem PySem.Spec PyProof.Rows L2
/-! law_k07: a reason that is told -/
structure PrRsn (rows : Rows) (g : Pick) (r : Rsn) : Prop where
  nd : (g.map (·.1)).Nodup
  ok : PickOk rows g
  good : r.Good
  dep : r.dep ≤ 13
def encPR (g : Pick) (r : Rsn) : D := .tup [.lst (g.map prP), encR r]
theorem prRsn_nothing {rows : Rows} {g : Pick} (nd : (g.map (·.1)).Nodup) (ok : PickOk rows g) : PrRsn rows g (.mk "nothing" [.wish 0] .nil) := by
  refine ⟨nd, ok, Rsn.good_mk.mpr ⟨by decide +kernel, (fun z => by cases z), by decide, fun s hs => ?_, by decide, by rw [Brs.Good]; trivial⟩, by rw [Rsn.dep, Brs.dep]; omega⟩
  rw [List.mem_singleton.mp hs]
  exact trivial
theorem prRsn_item {rows : Rows} {p : Pick} {k : Nat} {q : Str × Int} {b : Int × Rsn} (nd : (p.map (·.1)).Nodup) (ok : PickOk rows p) (hq : p[k]? = some q) (hm : b.1 ∈ makesD rows q.1) (hg : b.2.Good) (hd : b.2.dep ≤ 13) : PrRsn rows (p.take k ++ [(q.1, b.1)]) b.2 := by
  refine ⟨?_, fun z hz => ?_, hg, hd⟩
  · have e : (p.take k ++ [(q.1, b.1)]).map (·.1) = (p.map (·.1)).take (k + 1) := by
      rw [← List.map_take, List.take_add_one, hq, List.map_append, List.map_append]; rfl
    rw [e]
    exact nd.sublist (List.take_sublist _ _)
  · rcases List.mem_append.mp hz with hz | hz
    · exact ok z (List.mem_of_mem_take hz)
    · rw [List.mem_singleton.mp hz]
      exact ⟨(ok q (List.mem_of_getElem? hq)).1, makesD_mem.mp hm⟩
def sp_told (A : Ads) : GSp := fun ds G PP _ => ∃ (s dx rd : Addr) (rows : Rows) (dw : D) (wish : List D) (n : Int), ds = [.ref s, dw, .int n] ∧ ShopAt A G s dx rd rows ∧ Small rows ∧ (rows.map (·.1)).Nodup ∧ (∀ p ∈ rows, wareS p.1 = true) ∧ RowsGood rows ∧ ViewD G dw (.lst wish) ∧ wishOk (.lst wish) = true ∧ (D.lst wish).seenAll = true ∧ MkOk rows ∧ 0 ≤ n ∧
  ∀ g r, PrRsn rows g r → PP (encPR g r) G
section
variable {P : Program} {w : World} {K : PySem.W.Frag} {mg : Str → Option Value} {base : Heap} {A : Ads}
theorem has__law_told (T : Tx K mg A) : HasF P w K mg base 23 "_law_told" ["_law_shop_here", "_law_wish_here", "_law_number"] (sp_told A) := by
  refine has_body T.d__law_told sc__law_told (fun ds G P PX h => ?_) (fun f cdv _ outer s0 H E hr F0 R0 ds G PP PX h => ?_)
  · obtain ⟨_, _, _, _, _, _, _, rfl, _⟩ := h; rfl
  have nd := nd__law_told
  obtain ⟨s, dx, rd, rows, dw, wish, n, rfl, S, sm, hrn, hrw, rg, hv, hw, hws, mo, hn, q⟩ := h
  refine gss_cons (gs_set 3 nd (d := encF (settleP rows wish)) (ge_gw (gw_less (gw_call (has_settle T) (gr_cons (ge_var 0 rfl) (gr_cons (ge_n (gn_list T.blt (gv_view (ge_var 1 rfl) hv))) gr_nil)) ⟨s, dx, rd, rows, _, wish, rfl, S, sm, hrn, hrw, rg, .rfl, hw, hws, fun G' gx => ⟨G, gx, rfl, rfl⟩⟩))) ?_)
  have htold := settle_told rg hw
  have hgood := settle_good mo sm rg hw
  have hnp : decide (("pick" : Str) = "none") = false := by decide +kernel
  cases hs : settleP rows wish with
  | none r =>
    have hdep := settle_dep sm hs
    rw [hs] at hgood
    exact gss_cons (gs_if (x := true) (gt_is (gt_cmp (gc_eqS (ge_ix (d := .str "none") (gv_ge (ge_var 3 rfl)) ge_int (.tup rfl)) ge_str)) (by decide +kernel)) (fun hc => gss_one (gs_retE (ge_tup (gr_cons (ge_n (gn_lst gr_nil)) (gr_cons (ge_ix (d := encR r) (gv_ge (ge_var 3 rfl)) ge_int (.tup rfl)) gr_nil))) (q [] r ⟨.nil, fun _ z => (by cases z), hgood, hdep⟩))) (fun z => nomatch z))
  | pick p ag =>
    rw [hs] at hgood htold
    obtain ⟨hlen, _, hag⟩ := hgood
    have hmet : Met rows wish p := htold.met
    have hple := pick_le hmet.nd hmet.ok
    have hr12 := sm.1
    have hlen : p.length = ag.length := by rw [hlen]; simp
    have i1 : IxD (encF (.pick p ag)) (.int 1) (.lst (p.map prP)) := .tup rfl
    have i2 : IxD (encF (.pick p ag)) (.int 2) (.lst (ag.map encAg)) := .tup rfl
    refine gss_cons (gs_if (x := false) (gt_is (gt_cmp (gc_eqS (ge_ix (d := .str "pick") (gv_ge (ge_var 3 rfl)) ge_int (.tup rfl)) ge_str)) hnp) (fun z => nomatch z) (fun _ => gss_nil ?_))
    refine gss_cons (gs_own 4 nd (gn_lst gr_nil) ?_)
    generalize hF : encF (.pick p ag) = dF at i1 i2
    refine gss_eq (ρ' := [.dat (.ref s), .dat dw, .dat (.int n), .dat dF, .own [], .unk, .unk, .unk]) rfl ?_
    refine gss_cut (fun ρ' G' => G' = G ∧ ∃ (its : List (Pick × Rsn)) (y5 y6 y7 : SV), ρ' = [.dat (.ref s), .dat dw, .dat (.int n), .dat dF, .own (its.map fun b => encPR b.1 b.2), y5, y6, y7] ∧ its.length ≤ 200 ∧ ∀ b ∈ its, PrRsn rows b.1 b.2) (gs_for (fun _ => PassesOwn.never) (gi_range1 T.blt (ge_len T.blt (gv_ge (ge_ix (gv_ge (ge_var 3 rfl)) ge_int i1)) .lst) (by rw [List.length_map]; omega)) (fun i ρ' G' => G' = G ∧ ∃ (its : List (Pick × Rsn)) (y5 y6 y7 : SV), ρ' = [.dat (.ref s), .dat dw, .dat (.int n), .dat dF, .own (its.map fun b => encPR b.1 b.2), y5, y6, y7] ∧ its.length ≤ 8 * i ∧ ∀ b ∈ its, PrRsn rows b.1 b.2) ⟨rfl, [], _, _, _, rfl, Nat.zero_le _, fun _ z => (by cases z)⟩ (fun _ _ _ _ => trivial) (fun i d ρ' G' hi h => ?_) (fun ρ' G' h => ?_)) (fun ρ' G' ⟨eG, its, y5, y6, y7, eρ, hl, hit⟩ => ?_)
    · obtain ⟨rfl, its, y5, y6, y7, rfl, hl, hit⟩ := h
      obtain ⟨rfl, hlt⟩ := rngD_get hi
      rw [List.length_map] at hlt
      have hlt : i < p.length := by omega
      refine ⟨_, _, gg_name 5 nd, ?_⟩
      have hia : i < ag.length := by omega
      have ea : ag[i]? = some ag[i] := List.getElem?_eq_getElem hia
      generalize ag[i] = al at ea
      obtain ⟨hal, qq, hq, hbs⟩ := hag i al ea
      have hq : p[i]? = some qq := by rw [← hq]; congr 1; simp
      have i3 : IxD (.lst (ag.map encAg)) (.int (0 + (i : Int))) (.lst (al.map encBr)) := .lst (by rw [atI_map, Int.zero_add, atI_nat ea]; rfl)
      have i4 : IxD (.lst (p.map prP)) (.int (0 + (i : Int))) (.tup [.str qq.1, .int qq.2]) := .lst (by rw [atI_map, Int.zero_add, atI_nat hq]; rfl)
      refine gss_one (gs_for (fun _ => PassesOwn.never) (gi_lst (ge_ix (gv_ge (ge_ix (gv_ge (ge_var 3 rfl)) ge_int i2)) (ge_var 5 rfl) i3) .rfl) (fun j ρ' G2 => G2 = G' ∧ ∃ (its2 : List (Pick × Rsn)) (y6 y7 : SV), ρ' = [.dat (.ref s), .dat dw, .dat (.int n), .dat dF, .own (its2.map fun b => encPR b.1 b.2), .dat (.int (0 + (i : Int))), y6, y7] ∧ its2.length ≤ 8 * i + j ∧ ∀ b ∈ its2, PrRsn rows b.1 b.2) ⟨rfl, its, y6, y7, rfl, by omega, hit⟩ (fun _ _ _ h => (by rw [h.1]; exact .rfl)) (fun j d ρ' G2 hj h => ?_) (fun ρ' G2 h => ?_))
      · obtain ⟨rfl, its2, y6, y7, rfl, hl2, hit2⟩ := h
        rw [List.getElem?_map] at hj
        cases eb : al[j]? with
        | none => rw [eb] at hj; cases hj
        | some b =>
          rw [eb] at hj; cases hj
          have hb := hbs b (List.mem_of_getElem? eb)
          have hjl := (List.getElem?_eq_some_iff.mp eb).1
          refine ⟨_, _, gg_tup (ggs_cons (gg_name 6 nd) (ggs_cons (gg_name 7 nd) ggs_nil)), ?_⟩
          have hcut : cutD (p.map prP) none (some (0 + (i : Int))) ++ [.tup [.str qq.1, .int b.1]] = (p.take i ++ [(qq.1, b.1)]).map prP := by
            rw [Int.zero_add, cutD_to, List.map_append, List.map_take]; rfl
          have hcl : (cutD (p.map prP) none (some (0 + (i : Int)))).length ≤ p.length := Nat.le_trans cutD_len (by rw [List.length_map]; exact Nat.le_refl _)
          refine gss_one (gs_app 4 rfl (d := encPR (p.take i ++ [(qq.1, b.1)]) b.2) (ge_tup (gr_cons (ge_is (ge_addD (gv_ge (ge_n (gn_slice (gv_ge (ge_ix (gv_ge (ge_var 3 rfl)) ge_int i1)) go_none (go_some (ge_var 5 rfl))))) (gv_ge (ge_n (gn_lst (gr_cons (ge_tup (gr_cons (ge_ix (d := .str qq.1) (gv_ge (ge_ix (gv_ge (ge_ix (gv_ge (ge_var 3 rfl)) ge_int i1)) (ge_var 5 rfl) i4)) ge_int (.tup rfl)) (gr_cons (ge_var 6 rfl) gr_nil))) gr_nil)))) (.lst (by simp only [List.length_cons, List.length_nil]; omega))) (congrArg D.lst hcut)) (gr_cons (ge_var 7 rfl) gr_nil))) (by rw [List.length_map]; omega) ⟨rfl, its2 ++ [(p.take i ++ [(qq.1, b.1)], b.2)], _, _, (by rw [List.map_append]; rfl), (by simp; omega), fun z hz => ?_⟩)
          rcases List.mem_append.mp hz with hz | hz
          · exact hit2 z hz
          · rw [List.mem_singleton.mp hz]
            exact prRsn_item hmet.nd hmet.ok hq hb.1 hb.2.2.1 hb.2.2.2
      · obtain ⟨rfl, its2, y6, y7, rfl, hl2, hit2⟩ := h
        rw [List.length_map] at hl2
        exact ⟨rfl, its2, _, _, _, rfl, by omega, hit2⟩
    · obtain ⟨rfl, its, y5, y6, y7, rfl, hl, hit⟩ := h
      rw [rngD_length, List.length_map] at hl
      exact ⟨rfl, its, _, _, _, rfl, by omega, hit⟩
    · subst eρ
      replace eG := eG.symm
      subst eG
      refine gss_cons (gs_if (gt_cmp (gc_eqE (gv_own 4 rfl) (gv_ge (ge_n (gn_lst gr_nil))))) (fun hc => ?_) (fun hc => gss_nil ?_))
      · refine gss_one (gs_retE (ge_tup (gr_cons (ge_n (gn_list T.blt (gv_ge (ge_ix (gv_ge (ge_var 3 rfl)) ge_int i1)))) (gr_cons (ge_tup (gr_cons ge_str (gr_cons (ge_n (gn_lst (gr_cons (ge_tup (gr_cons ge_str (gr_cons ge_int gr_nil))) gr_nil))) (gr_cons (ge_n (gn_lst gr_nil)) gr_nil)))) gr_nil))) ?_)
        exact q p _ (prRsn_nothing hmet.nd hmet.ok)
      · have hne : 0 < its.length := by
          cases its with
          | nil => cases hc
          | cons b t => simp
        obtain ⟨b, eb, hb⟩ := at_mod (xs := its) (i := n) (m := its.length) rfl (by omega)
        exact gss_one (gs_retE (ge_ix (d := encPR b.1 b.2) (gv_own 4 rfl) (ge_mod (ge_var 2 rfl) (ge_len T.blt (gv_own 4 rfl) .lst) (by rw [List.length_map]; omega)) (.lst (by rw [List.length_map, atI_map, eb]; rfl))) (q _ _ (hit b hb)))
end
end Gh
end

section
set_option Elab.async false
set_option linter.all false
set_option maxRecDepth 100000
set_option maxHeartbeats 4000000
namespace Gh
open PySem PySem.Spec PyProof.Rows L2
/-! what the program's and the law's own look at a reason have in common -/
structure Wh (wish : List D) : Prop where
  len : wish.length ≤ 8
  need : ∀ d ∈ wish, d.need = true
theorem needB_wish {rows : Rows} {wish : List D} {g : Pick} {t : Str} {e : D} (h : t = "wish") : needB rows wish g [.str t, e] = needAt wish e := if_pos h
theorem needB_two {rows : Rows} {wish : List D} {g : Pick} {t : Str} {es : List D} (h : needB rows wish g (.str t :: es) ≠ none) : (t = "wish" ∧ es.length = 1) ∨ (t = "pick" ∧ es.length = 2) ∨ (t = "need" ∧ es.length = 3) := by
  unfold needB at h
  split at h
  · rename_i z; cases z
    by_cases e : t = "wish"
    · exact .inl ⟨e, rfl⟩
    · rw [if_neg e] at h; exact absurd rfl h
  · rename_i y m z; cases z
    by_cases e : t = "pick" ∧ look g y = some m
    · exact .inr (.inl ⟨e.1, rfl⟩)
    · rw [if_neg e] at h; exact absurd rfl h
  · rename_i y m p z; cases z
    by_cases e : t = "need" ∧ look g y = some m
    · exact .inr (.inr ⟨e.1, rfl⟩)
    · rw [if_neg e] at h; exact absurd rfl h
  · exact absurd rfl h
theorem needB_need {rows : Rows} {wish : List D} {g : Pick} (po : PickOk rows g) {t : Str} {e1 e2 e3 : D} (h : needB rows wish g [.str t, e1, e2, e3] ≠ none) : ∃ y m, e1 = .str y ∧ e2 = .int m ∧ look g y = some m := by
  unfold needB at h
  split at h
  · rename_i z; cases z
  · rename_i z; cases z
  · rename_i y m p z; cases z
    by_cases e : t = "need" ∧ look g y = some m
    · exact ⟨y, m, rfl, rfl, e.2⟩
    · rw [if_neg e] at h; exact absurd rfl h
  · exact absurd rfl h
theorem needB_pick {rows : Rows} {wish : List D} {g : Pick} (po : PickOk rows g) {t : Str} {e1 e2 : D} (h : needB rows wish g [.str t, e1, e2] ≠ none) : ∃ y m, e1 = .str y ∧ e2 = .int m ∧ look g y = some m := by
  unfold needB at h
  split at h
  · rename_i z; cases z
  · rename_i y m z; cases z
    by_cases e : t = "pick" ∧ look g y = some m
    · exact ⟨y, m, rfl, rfl, e.2⟩
    · rw [if_neg e] at h; exact absurd rfl h
  · rename_i z; cases z
  · exact absurd rfl h
theorem inB_take {tr : List (Int × Int)} {i : Nat} {p : Int × Int} {m : Int} (h : tr[i]? = some p) : inB (tr.take (i + 1)) m = (inB (tr.take i) m && (decide (p.1 ≤ m) && decide (m ≤ p.2))) := by
  unfold inB
  rw [take_snoc h, List.all_append]; simp
theorem gs_retL {Y : Ctx} {ρ : Rho} {G G0 : Gs} {E : GEnds} {e : Expr} {d : D} {pos : Pos} (h : GE Y e ρ G d) (x : GEx G0 G) (q : E.rt d G0) : GS Y (.Return (some e) pos) ρ G E := gs_ret (gf_w (gw_less (gw_ge h ⟨G0, x, q⟩)))
end Gh
end

section
set_option Elab.async false
set_option linter.all false
set_option maxRecDepth 100000
set_option maxHeartbeats 4000000
namespace Gh
open PySem PySem.Spec PyProof.Rows L2
/-! pickfloor/reasons.py: need_at, stretch_of, left_of, is_shaped -/
def sp_need_at : GSp := fun ds G PP _ => ∃ dr xs dp pe S, ds = [dr, dp] ∧ ViewD G dr (.lst xs) ∧ DV G dp pe S ∧ pe.isD = true ∧ PP ((needAt xs pe).getD .non) G
def sp_strof (A : Ads) : GSp := fun ds G PP _ => ∃ (s dx rd : Addr) (rows : Rows) (dw : D) (wish : List D) (dg : D) (g : Pick) (x : Str) (d e : D) (S : List Addr) (n : Nat), ds = [.ref s, dw, dg, .str x, d] ∧ ShopAt A G s dx rd rows ∧ RowsGood rows ∧ ViewD G dw (.lst wish) ∧ Wh wish ∧ ViewD G dg (.dic (pickK g)) ∧ PickOk rows g ∧ DV G d e S ∧ D.gd n e = true ∧ PP (encPr (srcB rows wish g x e)) G
def sp_left (A : Ads) : GSp := fun ds G PP _ => ∃ (s dx rd : Addr) (rows : Rows) (x : Str) (tr : List (Int × Int)), ds = [.ref s, .str x, .lst (tr.map prI)] ∧ ShopAt A G s dx rd rows ∧ Small rows ∧ wareS x = true ∧ tr ≠ [] ∧ tr.length ≤ 1000 ∧ ∀ l, G l = none → PP (.ref l) (gupd G l (.lst ((leftB rows x tr).map .int)))
def sp_shaped : GSp := fun ds G PP _ => ∃ d e S n, ds = [d] ∧ DV G d e S ∧ D.gd n e = true ∧ PP (.bl (shapedB e)) G
def encO2 : Option (Int × Int) → D := encPr
def joinO : Option (Int × Int) → Int × Int → Option (Int × Int)
  | none, _ => none
  | some p, q => if max p.1 q.1 > min p.2 q.2 then none else some (max p.1 q.1, min p.2 q.2)
theorem joinO_in {o : Option (Int × Int)} {q : Int × Int} {m : Int} : inO (joinO o q) m = (inO o m && (decide (q.1 ≤ m) && decide (m ≤ q.2))) := by
  cases o with
  | none => rfl
  | some p =>
    show inO (if max p.1 q.1 > min p.2 q.2 then none else some (max p.1 q.1, min p.2 q.2)) m = _
    split
    · show false = ((decide (p.1 ≤ m) && decide (m ≤ p.2)) && (decide (q.1 ≤ m) && decide (m ≤ q.2)))
      rename_i h
      rw [Bool.eq_iff_iff]
      simp only [Bool.and_eq_true, decide_eq_true_eq, Bool.false_eq_true, false_iff]
      omega
    · show (decide (max p.1 q.1 ≤ m) && decide (m ≤ min p.2 q.2)) = ((decide (p.1 ≤ m) && decide (m ≤ p.2)) && (decide (q.1 ≤ m) && decide (m ≤ q.2)))
      rw [Bool.eq_iff_iff]
      simp only [Bool.and_eq_true, decide_eq_true_eq]
      omega
def sp_joined : GSp := fun ds G PP _ => ∃ p q, ds = [prI p, prI q] ∧ PP (encPr (joinO (some p) q)) G
section
variable {P : Program} {w : World} {K : PySem.W.Frag} {mg : Str → Option Value} {base : Heap} {A : Ads}
theorem has_joined (T : Tx K mg A) : HasF P w K mg base 1 "joined" ["one", "other"] sp_joined := by
  refine has_body T.d_joined sc_joined (fun ds G P PX h => ?_) (fun f cdv A outer s H E hr F0 R0 ds G PP PX h => ?_)
  · obtain ⟨_, _, rfl, _⟩ := h; rfl
  have nd := nd_joined
  obtain ⟨p, t, rfl, q⟩ := h
  refine gss_cons (gs_set 2 nd (ge_max T.blt (ge_ix (gv_ge (ge_var 0 rfl)) ge_int (.tup rfl)) (ge_ix (gv_ge (ge_var 1 rfl)) ge_int (.tup rfl))) ?_)
  refine gss_cons (gs_set 3 nd (ge_min T.blt (ge_ix (gv_ge (ge_var 0 rfl)) ge_int (.tup rfl)) (ge_ix (gv_ge (ge_var 1 rfl)) ge_int (.tup rfl))) ?_)
  refine gss_cons (gs_if (gt_cmp (gc_gt (ge_var 2 rfl) (ge_var 3 rfl))) (fun hc => ?_) (fun hc => ?_))
  · refine gss_one (gs_retE ge_non ?_)
    have e : joinO (some p) t = none := if_pos (by simpa using hc)
    rw [e] at q; exact q
  refine gss_nil (gss_one (gs_retE (ge_tup (gr_cons (ge_var 2 rfl) (gr_cons (ge_var 3 rfl) gr_nil))) ?_))
  have e : joinO (some p) t = some (max p.1 t.1, min p.2 t.2) := if_neg (by simpa using hc)
  rw [e] at q; exact q
theorem has_need_at (T : Tx K mg A) : HasF P w K mg base 2 "need_at" ["row", "place"] sp_need_at := by
  refine has_body T.d_need_at sc_need_at (fun ds G P PX h => ?_) (fun f cdv _ outer s0 H E hr F0 R0 ds G PP PX h => ?_)
  · obtain ⟨_, _, _, _, _, rfl, _⟩ := h; rfl
  obtain ⟨dr, xs, dp, pe, S, rfl, hv, hp, hd, q⟩ := h
  obtain ⟨d1, h1, h2⟩ := hp.sh
  cases hI : pe.isI with
  | false =>
    refine gss_cons (gs_if (x := false) (gt_w (gtw_and (x := false) (y := false) (gt_val (ge_gw (gw_call (has_is_whole T) (gr_cons (ge_var 1 rfl) gr_nil) ⟨dp, d1, rfl, h1, h2.isD.trans hd, by rw [h2.isI, hI]; exact ⟨rfl, rfl⟩⟩))) (fun z => nomatch z))) (fun z => nomatch z) (fun _ => gss_nil (gss_one (gs_retE ge_non ?_))))
    have e : needAt xs pe = none := by cases pe <;> first | rfl | cases hI
    rw [e] at q; exact q
  | true =>
    obtain ⟨i, rfl⟩ : ∃ i, pe = .int i := by cases pe <;> first | exact ⟨_, rfl⟩ | cases hI
    have := hp.int_inv
    subst this
    refine gss_cons (gs_if (x := decide (0 ≤ i) && decide (i < (xs.length : Int))) (gt_w (gtw_and (x := true) (gt_val (ge_gw (gw_call (has_is_whole T) (gr_cons (ge_var 1 rfl) gr_nil) ⟨_, _, rfl, .rfl, rfl, rfl, rfl⟩))) fun _ => gtw_and1 (gt_chain (f := fun i j => decide (i ≤ j)) (f' := fun i j => decide (i < j)) (fun _ => op_le) (fun _ => op_lt) ge_int (ge_var 1 rfl) (ge_len T.blt (gv_view (ge_var 0 rfl) hv) .lst)))) (fun hc => ?_) (fun hc => gss_nil (gss_one (gs_retE ge_non ?_))))
    · rw [Bool.and_eq_true] at hc
      have c1 := of_decide_eq_true hc.1
      have c2 := of_decide_eq_true hc.2
      have hx : xs[i.toNat]? = some (xs[i.toNat]'(by omega)) := List.getElem?_eq_getElem _
      have e : needAt xs (.int i) = xs[i.toNat]? := if_pos ⟨c1, c2⟩
      rw [e, hx] at q
      refine gss_one (gs_retE (ge_ix (gv_view (ge_var 0 rfl) hv) (ge_var 1 rfl) (.lst ?_)) q)
      have := atI_nat (xs := xs) (j := i.toNat) hx
      rwa [show ((i.toNat : Nat) : Int) = i by omega] at this
    · have e : needAt xs (.int i) = none := if_neg fun z => by rw [decide_eq_true z.1, decide_eq_true z.2] at hc; cases hc
      rw [e] at q; exact q
theorem has_is_shaped (T : Tx K mg A) : HasF P w K mg base 2 "is_shaped" ["thing"] sp_shaped := by
  refine has_body T.d_is_shaped sc_is_shaped (fun ds G P PX h => ?_) (fun f cdv _ outer s0 H E hr F0 R0 ds G PP PX h => ?_)
  · obtain ⟨_, _, _, _, rfl, _⟩ := h; rfl
  obtain ⟨d, e, S, n, rfl, hv, hg, q⟩ := h
  have hd := D.gd_isD hg
  cases hT : e.isTup with
  | false =>
    have e1 : shapedB e = false := by cases e <;> first | rfl | cases hT
    rw [e1] at q
    exact gss_cons (gs_if (x := true) (gt_w (gtw_or (x := true) (y := false) (gt_is (gt_not (gt_val (ge_isiV T.blt (ge_var 0 rfl) hv (ge_ty T.blt.at (by decide +kernel)) (.tup hd)))) (by rw [hT]; rfl)) fun z => nomatch z)) (fun _ => gss_one (gs_retE ge_bl q)) (fun z => nomatch z))
  | true =>
    obtain ⟨es, rfl⟩ : ∃ es, e = .tup es := by cases e <;> first | exact ⟨_, rfl⟩ | cases hT
    obtain ⟨ds, rfl, hs⟩ := hv.tup_inv
    have hl := hs.length
    by_cases h3 : es.length = 3
    · obtain ⟨e0, e1, e2, rfl⟩ : ∃ e0 e1 e2, es = [e0, e1, e2] := by match es, h3 with | [a, b, c], _ => exact ⟨a, b, c, rfl⟩
      obtain ⟨n, rfl⟩ : ∃ k, n = k + 1 := by cases n with | zero => rw [D.gd] at hg; cases hg | succ k => exact ⟨k, rfl⟩
      replace hg := (D.gd_tup' hg).2
      have hga := D.gds_all.mp hg
      obtain ⟨d0, S0, k0, v0, _⟩ := hs.get' (i := 0) rfl
      obtain ⟨d1, S1, k1, v1, _⟩ := hs.get' (i := 1) rfl
      obtain ⟨d2, S2, k2, v2, _⟩ := hs.get' (i := 2) rfl
      have g0 := hga e0 (by simp)
      have g1 := hga e1 (by simp)
      have g2 := hga e2 (by simp)
      obtain ⟨c0, hc0, sh0⟩ := v0.sh
      have i0 : IxD (.tup ds) (.int 0) d0 := .tup (atI_nat (j := 0) k0)
      have i1 : IxD (.tup ds) (.int 1) d1 := .tup (atI_nat (j := 1) k1)
      have i2 : IxD (.tup ds) (.int 2) d2 := .tup (atI_nat (j := 2) k2)
      refine gss_cons (gs_if (x := !e0.ware) (gt_is (gt_w (gtw_or (x := false) (gt_is (gt_not (gt_val (ge_isiV T.blt (ge_var 0 rfl) hv (ge_ty T.blt.at (by decide +kernel)) (.tup hd)))) rfl) fun _ => gtw_or (x := false) (gt_is (gt_cmp (gc_neI (ge_len T.blt (gv_ge (ge_var 0 rfl)) .tup) ge_int)) (by rw [hl]; rfl)) fun _ => gtw_or1 (gt_not (gt_val (ge_gw (gw_call (has_is_ware T) (gr_cons (ge_ix (gv_ge (ge_var 0 rfl)) ge_int i0) gr_nil) ⟨d0, c0, rfl, hc0, sh0.isD.trans (D.gd_isD g0), sh0.fit.trans (D.gd_fit g0), by rw [sh0.ware]; exact ⟨rfl, rfl⟩⟩)))))) rfl) (fun hc => ?_) (fun hc => gss_nil ?_))
      · have hc : e0.ware = false := by simpa using hc
        have e' : shapedB (.tup [e0, e1, e2]) = false := by
          unfold shapedB
          split
          · rename_i a ss bs h; cases h; rw [hc]; rfl
          · rfl
        rw [e'] at q
        exact gss_one (gs_retE ge_bl q)
      have hc : e0.ware = true := by simpa using hc
      -- the parts
      cases hL1 : e1.isLst with
      | false =>
        have e' : shapedB (.tup [e0, e1, e2]) = false := by
          unfold shapedB
          split
          · rename_i a ss bs h; cases h; cases hL1
          · rfl
        rw [e'] at q
        exact gss_one (gs_retE (ge_is (ge_and (x := false) (y := false) (ge_is (ge_isiV T.blt (ge_ix (gv_ge (ge_var 0 rfl)) ge_int i1) v1 (ge_ty T.blt.at (by decide +kernel)) (.lst (D.gd_isD g1))) (by rw [hL1])) (fun z => nomatch z)) rfl) q)
      | true =>
        obtain ⟨ss, rfl⟩ : ∃ ss, e1 = .lst ss := by cases e1 <;> first | exact ⟨_, rfl⟩ | cases hL1
        obtain ⟨dss, S1', w1, _, _⟩ := v1.lst_inv
        have hdl : dss.length = ss.length := by rename_i z1 z2; exact z1.length
        refine gss_one (gs_retE (ge_is (ge_and (x := true) (y := !ss.isEmpty && e2.isLst) (ge_isiV T.blt (ge_ix (gv_ge (ge_var 0 rfl)) ge_int i1) v1 (ge_ty T.blt.at (by decide +kernel)) (.lst (D.gd_isD g1))) fun _ => ge_and (x := !ss.isEmpty) (y := e2.isLst) (ge_is (ge_cmp (gc_gt (ge_len T.blt (gv_view (ge_ix (gv_ge (ge_var 0 rfl)) ge_int i1) w1) .lst) ge_int)) ?_) fun _ => ge_one (ge_isiV T.blt (ge_ix (gv_ge (ge_var 0 rfl)) ge_int i2) v2 (ge_ty T.blt.at (by decide +kernel)) (.lst (D.gd_isD g2)))) ?_) q)
        · rw [hdl]
          cases ss with
          | nil => rfl
          | cons a b => show D.bl (decide (0 < ((a :: b).length : Int))) = D.bl true; rw [decide_eq_true (by rw [List.length_cons]; omega)]
        · cases hL2 : e2.isLst with
          | false =>
            have e' : shapedB (.tup [e0, .lst ss, e2]) = false := by
              unfold shapedB
              split
              · rename_i a ss bs h; cases h; cases hL2
              · rfl
            rw [e']; simp
          | true =>
            obtain ⟨bs, rfl⟩ : ∃ bs, e2 = .lst bs := by cases e2 <;> first | exact ⟨_, rfl⟩ | cases hL2
            show _ = D.bl (e0.ware && !ss.isEmpty)
            rw [hc]; simp
    · have e1 : shapedB (.tup es) = false := by
        unfold shapedB
        split
        · rename_i a ss bs h; cases h; exact absurd rfl h3
        · rfl
      rw [e1] at q
      exact gss_cons (gs_if (x := true) (gt_w (gtw_or (x := false) (y := true) (gt_is (gt_not (gt_val (ge_isiV T.blt (ge_var 0 rfl) hv (ge_ty T.blt.at (by decide +kernel)) (.tup hd)))) rfl) fun _ => gtw_or (x := true) (y := false) (gt_is (gt_cmp (gc_neI (ge_len T.blt (gv_ge (ge_var 0 rfl)) .tup) ge_int)) (by rw [hl]; simp; omega)) fun z => nomatch z)) (fun _ => gss_one (gs_retE ge_bl q)) (fun z => nomatch z))
end
end Gh
end

section
set_option Elab.async false
set_option linter.all false
set_option maxRecDepth 100000
set_option maxHeartbeats 4000000
namespace Gh
open PySem PySem.Spec PyProof.Rows L2
/-! pickfloor/reasons.py: stretch_of, left_of -/
section
variable {P : Program} {w : World} {K : PySem.W.Frag} {mg : Str → Option Value} {base : Heap} {A : Ads}
theorem has_stretch_of (T : Tx K mg A) : HasF P w K mg base 4 "stretch_of" ["shop", "wish", "granted", "ware", "source"] (sp_strof A) := by
  refine has_body T.d_stretch_of sc_stretch_of (fun ds G P PX h => ?_) (fun f cdv _ outer s0 H E hr F0 R0 ds G PP PX h => ?_)
  · obtain ⟨_, _, _, _, _, _, _, _, _, _, _, _, _, rfl, _⟩ := h; rfl
  have nd := nd_stretch_of
  obtain ⟨s, dx, rd, rows, dw, wish, dg, g, x, d, e, S, n, rfl, SH, rg, hw, W, hg, po, hv, gd, q⟩ := h
  have hd := D.gd_isD gd
  cases hT : e.isTup with
  | false =>
    have e1 : srcB rows wish g x e = none := by cases e <;> first | rfl | cases hT
    rw [e1] at q
    exact gss_cons (gs_if (x := true) (gt_w (gtw_or (x := true) (y := false) (gt_is (gt_not (gt_val (ge_isiV T.blt (ge_var 4 rfl) hv (ge_ty T.blt.at (by decide +kernel)) (.tup hd)))) (by rw [hT]; rfl)) fun z => nomatch z)) (fun _ => gss_one (gs_retE ge_non q)) (fun z => nomatch z))
  | true =>
  obtain ⟨es, rfl⟩ : ∃ es, e = .tup es := by cases e <;> first | exact ⟨_, rfl⟩ | cases hT
  obtain ⟨ds, rfl, hs⟩ := hv.tup_inv
  have hl := hs.length
  obtain ⟨n, rfl⟩ : ∃ k, n = k + 1 := by cases n with | zero => rw [D.gd] at gd; cases gd | succ k => exact ⟨k, rfl⟩
  replace gd := (D.gd_tup' gd).2
  have hga := D.gds_all.mp gd
  by_cases h2 : es.length < 2
  · have e1 : srcB rows wish g x (.tup es) = none := by
      show strOf x (needB rows wish g es) = none
      have : needB rows wish g es = none := by
        match es, h2 with
        | [], _ => rfl
        | [a], _ => unfold needB; split <;> first | rfl | (rename_i z; cases z)
      rw [this]; rfl
    rw [e1] at q
    exact gss_cons (gs_if (x := true) (gt_w (gtw_or (x := false) (y := true) (gt_is (gt_not (gt_val (ge_isiV T.blt (ge_var 4 rfl) hv (ge_ty T.blt.at (by decide +kernel)) (.tup hd)))) rfl) fun _ => gtw_or (x := true) (y := false) (gt_is (gt_cmp (gc_lt (ge_len T.blt (gv_ge (ge_var 4 rfl)) .tup) ge_int)) (by rw [hl]; simp; omega)) fun z => nomatch z)) (fun _ => gss_one (gs_retE ge_non q)) (fun z => nomatch z))
  obtain ⟨e0, e1, er, rfl⟩ : ∃ e0 e1 er, es = e0 :: e1 :: er := by
    match es, h2 with
    | [], h => exact absurd (by simp) h
    | [a], h => exact absurd (by simp) h
    | a :: b :: c, _ => exact ⟨a, b, c, rfl⟩
  obtain ⟨d0, S0, k0, v0, _⟩ := hs.get' (i := 0) rfl
  obtain ⟨d1, S1, k1, v1, _⟩ := hs.get' (i := 1) rfl
  have g0 := hga e0 (by simp)
  have g1 := hga e1 (by simp)
  have i0 : IxD (.tup ds) (.int 0) d0 := .tup (atI_nat (j := 0) k0)
  have i1 : IxD (.tup ds) (.int 1) d1 := .tup (atI_nat (j := 1) k1)
  have hlt : ¬ ((ds.length : Int) < 2) := by rw [hl]; simp; omega
  cases hS : e0.isStr with
  | false =>
    have e1 : srcB rows wish g x (.tup (e0 :: e1 :: er)) = none := by
      show strOf x (needB rows wish g (e0 :: e1 :: er)) = none
      have : needB rows wish g (e0 :: e1 :: er) = none := by
        unfold needB
        split <;> first | rfl | (rename_i z; cases z; cases hS)
      rw [this]; rfl
    rw [e1] at q
    exact gss_cons (gs_if (x := true) (gt_w (gtw_or (x := false) (y := true) (gt_is (gt_not (gt_val (ge_isiV T.blt (ge_var 4 rfl) hv (ge_ty T.blt.at (by decide +kernel)) (.tup hd)))) rfl) fun _ => gtw_or (x := false) (y := true) (gt_is (gt_cmp (gc_lt (ge_len T.blt (gv_ge (ge_var 4 rfl)) .tup) ge_int)) (decide_eq_false hlt)) fun _ => gtw_or1 (gt_is (gt_not (gt_val (ge_isiV T.blt (ge_ix (gv_ge (ge_var 4 rfl)) ge_int i0) v0 (ge_ty T.blt.at (by decide +kernel)) (.str (D.gd_isD g0))))) (by rw [hS]; rfl)))) (fun _ => gss_one (gs_retE ge_non q)) (fun z => nomatch z))
  | true =>
  obtain ⟨t, rfl⟩ : ∃ t, e0 = .str t := by cases e0 <;> first | exact ⟨_, rfl⟩ | cases hS
  have := v0.str_inv
  subst this
  refine gss_cons (gs_if (x := false) (gt_w (gtw_or (x := false) (y := false) (gt_is (gt_not (gt_val (ge_isiV T.blt (ge_var 4 rfl) hv (ge_ty T.blt.at (by decide +kernel)) (.tup hd)))) rfl) fun _ => gtw_or (x := false) (y := false) (gt_is (gt_cmp (gc_lt (ge_len T.blt (gv_ge (ge_var 4 rfl)) .tup) ge_int)) (decide_eq_false hlt)) fun _ => gtw_or1 (gt_is (gt_not (gt_val (ge_isiV T.blt (ge_ix (gv_ge (ge_var 4 rfl)) ge_int i0) v0 (ge_ty T.blt.at (by decide +kernel)) (.str (D.gd_isD g0))))) rfl))) (fun z => nomatch z) (fun _ => gss_nil ?_))
  refine gss_cons (gs_set 5 nd ge_non ?_)
  show GSs _ _ [.dat (.ref s), .dat dw, .dat dg, .dat (.str x), .dat (.tup ds), .dat .non] _ _
  refine gss_cut (fun ρ' G' => G' = G ∧ ρ' = [.dat (.ref s), .dat dw, .dat dg, .dat (.str x), .dat (.tup ds), .dat ((needB rows wish g (.str t :: e1 :: er)).getD .non)]) ?_ (fun ρ' G' ⟨eG, eρ⟩ => ?_)
  · have none_ : (needB rows wish g (.str t :: e1 :: er)) = none → (.dat ((needB rows wish g (.str t :: e1 :: er)).getD .non) : SV) = .dat .non := fun h => by rw [h]; rfl
    have stay : (needB rows wish g (.str t :: e1 :: er)) = none → G = G ∧ ([.dat (.ref s), .dat dw, .dat dg, .dat (.str x), .dat (.tup ds), .dat .non] : Rho) = [.dat (.ref s), .dat dw, .dat dg, .dat (.str x), .dat (.tup ds), .dat ((needB rows wish g (.str t :: e1 :: er)).getD .non)] := fun h => ⟨rfl, by rw [none_ h]⟩
    -- wish
    refine gs_if (x := decide (t = "wish") && decide (((er.length + 2 : Nat) : Int) = 2)) (gt_w (gtw_and (gt_cmp (gc_eqS (ge_ix (gv_ge (ge_var 4 rfl)) ge_int i0) ge_str)) fun _ => gtw_and1 (gt_is (gt_cmp (gc_eqI (ge_len T.blt (gv_ge (ge_var 4 rfl)) .tup) ge_int)) (by rw [hl]; rfl)))) (fun hc => ?_) (fun hc1 => gss_one ?_)
    · rw [Bool.and_eq_true] at hc
      have c1 := of_decide_eq_true hc.1
      have c2 : er = [] := by
        have := of_decide_eq_true hc.2
        exact List.length_eq_zero_iff.mp (by omega)
      subst c2
      exact gss_one (gs_set 5 nd (ge_gw (gw_call (has_need_at T) (gr_cons (ge_var 1 rfl) (gr_cons (ge_ix (gv_ge (ge_var 4 rfl)) ge_int i1) gr_nil)) ⟨dw, wish, d1, e1, S1, rfl, hw, v1, D.gd_isD g1, rfl, rfl⟩)) ⟨rfl, by rw [needB_wish c1]; rfl⟩)
    -- need
    by_cases cn : t = "need" ∧ er.length = 2
    · obtain ⟨ct, cl⟩ := cn
      obtain ⟨e2, e3, rfl⟩ : ∃ e2 e3, er = [e2, e3] := by match er, cl with | [a, b], _ => exact ⟨a, b, rfl⟩
      obtain ⟨d2, S2, k2, v2, _⟩ := hs.get' (i := 2) rfl
      obtain ⟨d3, S3, k3, v3, _⟩ := hs.get' (i := 3) rfl
      have g2 := hga e2 (by simp)
      have g3 := hga e3 (by simp)
      have i2 : IxD (.tup ds) (.int 2) d2 := .tup (atI_nat (j := 2) k2)
      have i3 : IxD (.tup ds) (.int 3) d3 := .tup (atI_nat (j := 3) k3)
      obtain ⟨c1, hc1', sh1⟩ := v1.sh
      obtain ⟨c2, hc2', sh2⟩ := v2.sh
      have hl4 : ds.length = 4 := hl
      refine gs_if (x := hasB rows e1 e2) (gt_is (gt_w (gtw_and (x := true) (y := hasB rows e1 e2) (gt_is (gt_cmp (gc_eqS (ge_ix (gv_ge (ge_var 4 rfl)) ge_int i0) ge_str)) (decide_eq_true ct)) fun _ => gtw_and (x := true) (y := hasB rows e1 e2) (gt_is (gt_cmp (gc_eqI (ge_len T.blt (gv_ge (ge_var 4 rfl)) .tup) ge_int)) (by rw [hl4]; rfl)) fun _ => gtw_and1 (gt_val (ge_gw (gw_meth (pl := _) T.k_Shop.cls (has_Shop_has T) (ge_var 0 rfl) SH.ins rfl (gr_cons (ge_ix (gv_ge (ge_var 4 rfl)) ge_int i1) (gr_cons (ge_ix (gv_ge (ge_var 4 rfl)) ge_int i2) gr_nil)) ⟨s, dx, rd, rows, d1, c1, d2, c2, rfl, SH, hc1', sh1.isD.trans (D.gd_isD g1), sh1.fit.trans (D.gd_fit g1), hc2', sh2.isD.trans (D.gd_isD g2), by rw [sh1.hasB sh2]; exact ⟨rfl, rfl⟩⟩))))) (by simp)) (fun hb => gss_one ?_) (fun hb => gss_one ?_)
      · obtain ⟨y, m, ns, rfl, rfl, hyw, hns⟩ := hasB_form hb
        have := v1.str_inv
        subst this
        have := v2.int_inv
        subst this
        refine gs_if (x := decide (look g y = some m)) (gt_is (gt_cmp (gc_eqD (gv_ge (ge_dget1 (kS y) (gv_view (ge_var 2 rfl) hg) (ge_ix (gv_ge (ge_var 4 rfl)) ge_int i1))) (gv_ge (ge_ix (gv_ge (ge_var 4 rfl)) ge_int i2)) (by rw [show valD (pickK g) (kS y) = _ from pickK_val]; cases look g y <;> rfl) rfl)) (by rw [show valD (pickK g) (kS y) = _ from pickK_val]; exact eqv_look _ _)) (fun hm => gss_one ?_) (fun hm => gss_nil (stay ?_))
        · have hm := of_decide_eq_true hm
          refine gs_set 5 nd (ge_gw (gw_call (has_need_at T) (gr_cons (ge_n (ds := ns) (gn_gw (gw_meth (pl := _) T.k_Shop.cls (has_Shop_needs T) (ge_var 0 rfl) SH.ins rfl (gr_cons (ge_ix (gv_ge (ge_var 4 rfl)) ge_int i1) (gr_cons (ge_ix (gv_ge (ge_var 4 rfl)) ge_int i2) gr_nil)) ⟨s, dx, rd, rows, _, .str y, _, .int m, rfl, SH, .rfl, rfl, fit_ware hyw, .rfl, rfl, fun z => (by rw [hb] at z; cases z), fun _ l ns' hns' hl => (by rw [show look (rowOf rows (D.str y).toS) (D.int m).toI = look (rowOf rows y) m from rfl, hns] at hns'; cases hns'; exact ⟨l, rfl, hl, rfl⟩)⟩))) (gr_cons (ge_ix (gv_ge (ge_var 4 rfl)) ge_int i3) gr_nil)) ⟨.lst ns, ns, d3, e3, S3, rfl, .rfl, v3, D.gd_isD g3, rfl, rfl⟩)) ⟨rfl, ?_⟩
          · have e' : needB rows wish g [.str t, .str y, .int m, e3] = needAt (needsOf rows y m) e3 := if_pos ⟨ct, hm⟩
            have en : needsOf rows y m = ns := by unfold needsOf; rw [hns]; rfl
            rw [e', en]; rfl
        · have hm := of_decide_eq_false hm
          exact if_neg fun z => hm z.2
      · refine gs_if (x := false) (gt_is (gt_w (gtw_and (x := false) (y := false) (gt_is (gt_cmp (gc_eqS (ge_ix (gv_ge (ge_var 4 rfl)) ge_int i0) ge_str)) (decide_eq_false (by rw [ct]; decide))) fun z => nomatch z)) rfl) (fun z => nomatch z) (fun _ => gss_nil (stay ?_))
        cases hN : needB rows wish g [.str t, e1, e2, e3] with
        | none => rfl
        | some z =>
          obtain ⟨y, m, rfl, rfl, hm⟩ := needB_need po (rows := rows) (wish := wish) (t := t) (e3 := e3) (by rw [hN]; simp)
          rw [hasB_pick po hm] at hb; cases hb
    · refine gs_if (x := false) (gt_w ?_) (fun z => nomatch z) (fun _ => gss_one ?_)
      · by_cases ct : t = "need"
        · refine gtw_and (x := true) (y := false) (gt_is (gt_cmp (gc_eqS (ge_ix (gv_ge (ge_var 4 rfl)) ge_int i0) ge_str)) (decide_eq_true ct)) fun _ => gtw_and (x := false) (y := false) (gt_is (gt_cmp (gc_eqI (ge_len T.blt (gv_ge (ge_var 4 rfl)) .tup) ge_int)) (decide_eq_false (by rw [hl]; intro z; exact cn ⟨ct, by simp at z; omega⟩))) fun z => nomatch z
        · exact gtw_and (x := false) (y := false) (gt_is (gt_cmp (gc_eqS (ge_ix (gv_ge (ge_var 4 rfl)) ge_int i0) ge_str)) (decide_eq_false ct)) fun z => nomatch z
      by_cases cp : t = "pick" ∧ er.length = 1
      · obtain ⟨ct, cl⟩ := cp
        obtain ⟨e2, rfl⟩ : ∃ e2, er = [e2] := by match er, cl with | [a], _ => exact ⟨a, rfl⟩
        obtain ⟨d2, S2, k2, v2, _⟩ := hs.get' (i := 2) rfl
        have g2 := hga e2 (by simp)
        have i2 : IxD (.tup ds) (.int 2) d2 := .tup (atI_nat (j := 2) k2)
        obtain ⟨c1, hc1', sh1⟩ := v1.sh
        obtain ⟨c2, hc2', sh2⟩ := v2.sh
        have hl3 : ds.length = 3 := hl
        refine gs_if (x := hasB rows e1 e2) (gt_is (gt_w (gtw_and (x := true) (y := hasB rows e1 e2) (gt_is (gt_cmp (gc_eqS (ge_ix (gv_ge (ge_var 4 rfl)) ge_int i0) ge_str)) (decide_eq_true ct)) fun _ => gtw_and (x := true) (y := hasB rows e1 e2) (gt_is (gt_cmp (gc_eqI (ge_len T.blt (gv_ge (ge_var 4 rfl)) .tup) ge_int)) (by rw [hl3]; rfl)) fun _ => gtw_and1 (gt_val (ge_gw (gw_meth (pl := _) T.k_Shop.cls (has_Shop_has T) (ge_var 0 rfl) SH.ins rfl (gr_cons (ge_ix (gv_ge (ge_var 4 rfl)) ge_int i1) (gr_cons (ge_ix (gv_ge (ge_var 4 rfl)) ge_int i2) gr_nil)) ⟨s, dx, rd, rows, d1, c1, d2, c2, rfl, SH, hc1', sh1.isD.trans (D.gd_isD g1), sh1.fit.trans (D.gd_fit g1), hc2', sh2.isD.trans (D.gd_isD g2), by rw [sh1.hasB sh2]; exact ⟨rfl, rfl⟩⟩))))) (by simp)) (fun hb => gss_one ?_) (fun hb => gss_nil (stay ?_))
        · obtain ⟨y, m, ns, rfl, rfl, hyw, hns⟩ := hasB_form hb
          have := v1.str_inv
          subst this
          have := v2.int_inv
          subst this
          refine gs_if (x := decide (look g y = some m)) (gt_is (gt_cmp (gc_eqD (gv_ge (ge_dget1 (kS y) (gv_view (ge_var 2 rfl) hg) (ge_ix (gv_ge (ge_var 4 rfl)) ge_int i1))) (gv_ge (ge_ix (gv_ge (ge_var 4 rfl)) ge_int i2)) (by rw [show valD (pickK g) (kS y) = _ from pickK_val]; cases look g y <;> rfl) rfl)) (by rw [show valD (pickK g) (kS y) = _ from pickK_val]; exact eqv_look _ _)) (fun hm => gss_one ?_) (fun hm => gss_nil (stay ?_))
          · have hm := of_decide_eq_true hm
            refine gs_set 5 nd (ge_tup (gr_cons (ge_ix (gv_ge (ge_var 4 rfl)) ge_int i1) (gr_cons (ge_ix (gv_ge (ge_var 4 rfl)) ge_int i2) (gr_cons (ge_ix (gv_ge (ge_var 4 rfl)) ge_int i2) gr_nil)))) ⟨rfl, ?_⟩
            have e' : needB rows wish g [.str t, .str y, .int m] = some (.tup [.str y, .int m, .int m]) := if_pos ⟨ct, hm⟩
            rw [e']; rfl
          · have hm := of_decide_eq_false hm
            exact if_neg fun z => hm z.2
        · cases hN : needB rows wish g [.str t, e1, e2] with
          | none => rfl
          | some z =>
            obtain ⟨y, m, rfl, rfl, hm⟩ := needB_pick po (rows := rows) (wish := wish) (t := t) (by rw [hN]; simp)
            rw [hasB_pick po hm] at hb; cases hb
      · refine gs_if (x := false) (gt_w ?_) (fun z => nomatch z) (fun _ => gss_nil (stay ?_))
        · by_cases ct : t = "pick"
          · refine gtw_and (x := true) (y := false) (gt_is (gt_cmp (gc_eqS (ge_ix (gv_ge (ge_var 4 rfl)) ge_int i0) ge_str)) (decide_eq_true ct)) fun _ => gtw_and (x := false) (y := false) (gt_is (gt_cmp (gc_eqI (ge_len T.blt (gv_ge (ge_var 4 rfl)) .tup) ge_int)) (decide_eq_false (by rw [hl]; intro z; exact cp ⟨ct, by simp at z; omega⟩))) fun z => nomatch z
          · exact gtw_and (x := false) (y := false) (gt_is (gt_cmp (gc_eqS (ge_ix (gv_ge (ge_var 4 rfl)) ge_int i0) ge_str)) (decide_eq_false ct)) fun z => nomatch z
        · cases hN : needB rows wish g (.str t :: e1 :: er) with
          | none => rfl
          | some z =>
            rcases needB_two (rows := rows) (wish := wish) (g := g) (t := t) (es := e1 :: er) (by rw [hN]; simp) with ⟨a, b⟩ | ⟨a, b⟩ | ⟨a, b⟩
            · rw [decide_eq_true a, decide_eq_true (by rw [List.length_cons] at b; omega)] at hc1; cases hc1
            · exact absurd ⟨a, by rw [List.length_cons] at b; omega⟩ cp
            · exact absurd ⟨a, by rw [List.length_cons] at b; omega⟩ cn
  · subst eG eρ
    have q : PP (encPr (strOf x (needB rows wish g (.str t :: e1 :: er)))) G' := q
    cases hN : needB rows wish g (.str t :: e1 :: er) with
    | none =>
      rw [hN] at q
      exact gss_cons (gs_if (x := true) (gt_w (gtw_or (x := true) (y := false) (gt_is (gt_cmp (gc_isN (gv_ge (ge_var 5 rfl)))) rfl) fun z => nomatch z)) (fun _ => gss_one (gs_retE ge_non q)) (fun z => nomatch z))
    | some z =>
      obtain ⟨y, lo, hi, rfl, _⟩ := needB_form rg W.need po hN
      rw [hN] at q
      refine gss_cons (gs_if (x := !decide (y = x)) (gt_is (gt_w (gtw_or (x := false) (gt_is (gt_cmp (gc_isN (d := .tup [.str y, .int lo, .int hi]) (gv_ge (ge_var 5 rfl)))) rfl) fun _ => gtw_or1 (gt_cmp (gc_neS (ge_ix (d := .str y) (gv_ge (ge_var 5 rfl)) ge_int (.tup rfl)) (ge_var 3 rfl))))) rfl) (fun hc => gss_one (gs_retE ge_non ?_)) (fun hc => gss_nil (gss_one (gs_retE (ge_tup (gr_cons (ge_ix (d := .int lo) (gv_ge (ge_var 5 rfl)) ge_int (.tup rfl)) (gr_cons (ge_ix (d := .int hi) (gv_ge (ge_var 5 rfl)) ge_int (.tup rfl)) gr_nil))) ?_))))
      · have hc : y ≠ x := by simpa using hc
        have e' : strOf x (some (.tup [.str y, .int lo, .int hi])) = none := if_neg hc
        rw [e'] at q; exact q
      · have hc : y = x := by simpa using hc
        have e' : strOf x (some (.tup [.str y, .int lo, .int hi])) = some (lo, hi) := if_pos hc
        rw [e'] at q; exact q
end
end Gh
end

section
set_option Elab.async false
set_option linter.all false
set_option maxRecDepth 100000
set_option maxHeartbeats 4000000
namespace Gh
open PySem PySem.Spec PyProof.Rows L2
/-! pickfloor/reasons.py: left_of, is_reason, need_pairs, holds -/
def sp_isr (A : Ads) (n : Nat) : GSp := fun ds G PP _ => ∃ (s dx rd : Addr) (rows : Rows) (dw : D) (wish : List D) (dg : D) (g : Pick) (d e : D) (S : List Addr), ds = [.ref s, dw, dg, d] ∧ ShopAt A G s dx rd rows ∧ Small rows ∧ RowsGood rows ∧ ViewD G dw (.lst wish) ∧ Wh wish ∧ ViewD G dg (.dic (pickK g)) ∧ (g.map (·.1)).Nodup ∧ PickOk rows g ∧ g.length + n = rows.length + 1 ∧ DV G d e S ∧ D.gd 50 e = true ∧ PP (.bl (holdsP rows wish n g e)) G
def sp_npairs (A : Ads) : GSp := fun ds G PP _ => ∃ (s dx rd : Addr) (rows : Rows) (dp : D) (g : Pick), ds = [.ref s, dp] ∧ ShopAt A G s dx rd rows ∧ ViewD G dp (.lst (g.map prP)) ∧ g.length ≤ 1000 ∧ (g.map (·.1)).Nodup ∧ PickOk rows g ∧ ∀ l, G l = none → PP (.ref l) (gupd G l (.dic (pickK g)))
def sp_holds (A : Ads) : GSp := fun ds G PP _ => ∃ (s dx rd : Addr) (rows : Rows) (dw : D) (wish : List D) (dp : D) (g : Pick) (d e : D) (S : List Addr), ds = [.ref s, dw, dp, d] ∧ ShopAt A G s dx rd rows ∧ Small rows ∧ RowsGood rows ∧ ViewD G dw (.lst wish) ∧ wishOk (.lst wish) = true ∧ (D.lst wish).seenAll = true ∧ ViewD G dp (.lst (g.map prP)) ∧ (g.map (·.1)).Nodup ∧ PickOk rows g ∧ DV G d e S ∧ D.gd 50 e = true ∧ PP (.bl (holdsP rows wish (rows.length + 1 - g.length) g e)) G
section
variable {P : Program} {w : World} {K : PySem.W.Frag} {mg : Str → Option Value} {base : Heap} {A : Ads}
theorem has_left_of (T : Tx K mg A) : HasF P w K mg base 4 "left_of" ["shop", "ware", "stretches"] (sp_left A) := by
  refine has_body T.d_left_of sc_left_of (fun ds G P PX h => ?_) (fun f cdv _ outer s0 H E hr F0 R0 ds G PP PX h => ?_)
  · obtain ⟨_, _, _, _, _, _, rfl, _⟩ := h; rfl
  have nd := nd_left_of
  obtain ⟨s, dx, rd, rows, x, tr, rfl, S, sm, hx, hne, hlen, q⟩ := h
  obtain ⟨p0, t, rfl⟩ := List.exists_cons_of_ne_nil hne
  refine gss_cons (gs_set 3 nd (d := encPr (some p0)) (ge_ix (gv_ge (ge_var 2 rfl)) ge_int (.lst (atI_nat (j := 0) rfl))) ?_)
  have hcut : cutD ((p0 :: t).map prI) (some 1) none = t.map prI := (cutD_from (xs := (p0 :: t).map prI) (k := 1)).trans rfl
  refine gss_cons (gs_for (fun _ => PassesOwn.never) (gi_lst (xs := t.map prI) (ge_is (ge_n (gn_slice (gv_ge (ge_var 2 rfl)) (go_some ge_int) go_none)) (congrArg D.lst hcut)) .rfl) (fun i ρ' G' => G' = G ∧ ∃ o y, ρ' = [.dat (.ref s), .dat (.str x), .dat (.lst ((p0 :: t).map prI)), .dat (encPr o), y, .unk] ∧ ∀ m, inO o m = inB ((p0 :: t).take (i + 1)) m) ⟨rfl, some p0, _, rfl, fun m => by unfold inB; simp [inO]⟩ (fun _ _ _ _ => .rfl) (fun i d ρ' G' hi h => ?_) (fun ρ' G' h => ?_))
  · obtain ⟨rfl, o, y, rfl, ho⟩ := h
    rw [List.getElem?_map] at hi
    obtain ⟨p, hp, rfl⟩ := Option.map_eq_some_iff.mp hi
    have hp' : (p0 :: t)[i + 1]? = some p := by simpa using hp
    refine ⟨_, _, gg_name 4 nd, ?_⟩
    cases o with
    | none =>
      refine gss_one (gs_if (x := false) (gt_is (gt_cmp (gc_notN (gv_ge (ge_var 3 rfl)))) rfl) (fun z => nomatch z) (fun _ => gss_nil ⟨rfl, none, _, rfl, fun m => ?_⟩))
      rw [inB_take hp', ← ho m]; rfl
    | some p1 =>
      refine gss_one (gs_if (x := true) (gt_is (gt_cmp (gc_notN (d := prI p1) (gv_ge (ge_var 3 rfl)))) rfl) (fun _ => gss_one (gs_set 3 nd (ge_gw (gw_call (has_joined T) (gr_cons (ge_var 3 rfl) (gr_cons (ge_var 4 rfl) gr_nil)) ⟨p1, p, rfl, rfl, rfl⟩)) ⟨rfl, joinO (some p1) p, _, rfl, fun m => ?_⟩)) (fun z => nomatch z))
      rw [inB_take hp', ← ho m, joinO_in]
  obtain ⟨rfl, o, y, rfl, ho⟩ := h
  have hall : ∀ m, inO o m = inB (p0 :: t) m := fun m => by
    rw [ho m, List.length_map, show t.length + 1 = (p0 :: t).length from rfl, List.take_length]
  cases o with
  | none =>
    have e : leftB rows x (p0 :: t) = [] := by
      unfold leftB
      rw [List.filter_eq_nil_iff]
      intro m _ h
      rw [← hall m] at h; cases h
    rw [e] at q
    exact gss_cons (gs_if (x := true) (gt_is (gt_cmp (gc_isN (gv_ge (ge_var 3 rfl)))) rfl) (fun _ => gss_one (gs_ret (gf_n (gn_lst gr_nil) q))) (fun z => nomatch z))
  | some p =>
    refine gss_cons (gs_if (x := false) (gt_is (gt_cmp (gc_isN (d := prI p) (gv_ge (ge_var 3 rfl)))) rfl) (fun z => nomatch z) (fun _ => gss_nil ?_))
    have hml : (makesD rows x).length ≤ 8 := makesD_len sm
    refine gss_one (gs_ret (gf_n (gn_is (gn_lcIf (ys := makesD rows x) (enc := .int) (f := .int) (pr := fun m => decide (p.1 ≤ m) && decide (m ≤ p.2)) [("make", 5)] nd (gic_to (gic (gi_rev T.blt (ge_n (gn_gw (gw_meth (pl := _) T.k_Shop.cls (has_Shop_makes T) (ge_var 0 rfl) S.ins rfl (gr_cons (ge_var 1 rfl) gr_nil) ⟨s, dx, rd, rows, _, .str x, rfl, S, sm, .rfl, rfl, fit_ware hx, fun z => (by rw [show (D.str x).ware = true from hx] at z; cases z), fun _ l hl => ⟨l, rfl, hl, rfl⟩⟩))) .rfl) .rfl) (by unfold makesD; rw [List.map_reverse]; rfl)) (blkOk_by (N := N_left_of) (sc := defScope s_left_of) (by decide +kernel)) (fun y hy => gg_name 5 nd) (by decide) (fun m hm => gt_chain (fun _ => op_le) (fun _ => op_le) (ge_ix (d := .int p.1) (gv_ge (ge_var 3 rfl)) ge_int (.tup rfl)) (ge_var 5 rfl) (ge_ix (d := .int p.2) (gv_ge (ge_var 3 rfl)) ge_int (.tup rfl))) (fun m hm _ => ge_var 5 rfl) (by omega) ?_) ?_) q))
    · rintro j hj ⟨x, e1, e2⟩
      have : j = 5 := by simpa using hj
      subst this
      cases e1; cases e2
    · refine congrArg (fun l : List Int => GO.lst (l.map D.int)) (List.filter_congr fun m _ => ?_)
      exact hall m
theorem has_is_reason (T : Tx K mg A) : ∀ n, HasF P w K mg base (n + 5) "is_reason" ["shop", "wish", "granted", "thing"] (sp_isr A n) := by
  intro n
  induction n with
  | zero =>
    refine has_body T.d_is_reason sc_is_reason (fun ds G P PX h => ?_) (fun f cdv _ outer s0 H E hr F0 R0 ds G PP PX h => ?_)
    · obtain ⟨_, _, _, _, _, _, _, _, _, _, _, rfl, _⟩ := h; rfl
    obtain ⟨s, dx, rd, rows, dw, wish, dg, g, d, e, S, rfl, SH, sm, rg, hv, W, hg, gn, po, hl, _⟩ := h
    have := pick_le gn po
    omega
  | succ n ih =>
    refine has_body T.d_is_reason sc_is_reason (fun ds G P PX h => ?_) (fun f cdv _ outer s0 H E hr F0 R0 ds G PP PX h => ?_)
    · obtain ⟨_, _, _, _, _, _, _, _, _, _, _, rfl, _⟩ := h; rfl
    have nd := nd_is_reason
    obtain ⟨s, dx, rd, rows, dw, wish, dg, g, d, e, S, rfl, SH, sm, rg, hv, W, hg, gn, po, hl, hd, gd, q⟩ := h
    have hk2 : 2 ≤ n + 5 := Nat.le_trans (by decide : 2 ≤ 5) (Nat.le_add_left _ _)
    have hk4 : 4 ≤ n + 5 := Nat.le_trans (by decide : 4 ≤ 5) (Nat.le_add_left _ _)
    refine gss_cons (gs_if (x := !shapedB e) (gt_not (gt_val (ge_gw (gw_call (hk := hk2) (has_is_shaped T) (gr_cons (ge_var 3 rfl) gr_nil) ⟨d, e, S, 50, rfl, hd, gd, rfl, rfl⟩)))) (fun hc => ?_) (fun hc => gss_nil ?_))
    · have hc : shapedB e = false := by simpa using hc
      have e1 : holdsP rows wish (n + 1) g e = false := holdsP_un rg W.need po hc
      rw [e1] at q
      exact gss_one (gs_retE ge_bl q)
    have hc : shapedB e = true := by simpa using hc
    obtain ⟨x, ss, bs, rfl, hx, hne⟩ := shaped_form hc
    have gds := D.gds_all.mp (D.gd_tup' gd).2
    obtain ⟨hssl, gss⟩ := D.gd_lst' (gds (.lst ss) (by simp))
    obtain ⟨hbsl, gbs⟩ := D.gd_lst' (gds (.lst bs) (by simp))
    replace gss := D.gds_all.mp gss
    replace gbs := D.gds_all.mp gbs
    obtain ⟨ds, rfl, hs⟩ := hd.tup_inv
    have hdl : ds.length = 3 := hs.length
    obtain ⟨d0, d1, d2, rfl⟩ : ∃ d0 d1 d2, ds = [d0, d1, d2] := by match ds, hdl with | [a, b, c], _ => exact ⟨a, b, c, rfl⟩
    obtain ⟨_, S0, k0, v0, _⟩ := hs.get' (i := 0) rfl
    obtain ⟨_, S1, k1, v1, _⟩ := hs.get' (i := 1) rfl
    obtain ⟨_, S2, k2, v2, _⟩ := hs.get' (i := 2) rfl
    cases k0; cases k1; cases k2
    have := v0.str_inv
    subst this
    obtain ⟨dss, T1, w1, u1, _⟩ := v1.lst_inv
    obtain ⟨dbs, T2, w2, u2, _⟩ := v2.lst_inv
    refine gss_cons (gs_asg (ge_var 3 rfl) (gg_tup (ggs_cons (gg_name 4 nd) (ggs_cons (gg_name 5 nd) (ggs_cons (gg_name 6 nd) ggs_nil)))) ?_)
    refine gss_cons (gs_lc 7 (ys := dss.zip ss) (enc := fun p => p.1) (f := fun p => encPr (srcB rows wish g x p.2)) [("source", 12)] nd (gic_to (gic_lst (ge_var 5 rfl) w1) (zip_fst u1).symm) (blkOk_by (N := N_is_reason) (sc := defScope s_is_reason) (by decide +kernel)) (fun y hy => gg_name 12 nd) (by decide) (fun p hp => ?_) (by rw [zip_len u1]; omega) ?_ ?_)
    · obtain ⟨S', v, hm, _⟩ := zip_mem u1 hp
      exact ge_gw (gw_call (hk := hk4) (has_stretch_of T) (gr_cons (ge_var 0 rfl) (gr_cons (ge_var 1 rfl) (gr_cons (ge_var 2 rfl) (gr_cons (ge_var 4 rfl) (gr_cons (ge_var 12 rfl) gr_nil))))) ⟨s, dx, rd, rows, dw, wish, dg, g, x, p.1, p.2, S', 48, rfl, SH, rg, hv, W, hg, po, v, gss p.2 hm, rfl, rfl⟩)
    · rintro j hj ⟨x, e1, e2⟩
      have : j = 12 := by simpa using hj
      subst this
      cases e1; cases e2
    refine gss_frz 7 rfl ?_
    refine gss_eq (ρ' := [.dat (.ref s), .dat dw, .dat dg, .dat (.tup [.str x, d1, d2]), .dat (.str x), .dat d1, .dat d2, .dat (.lst (ss.map fun s => encPr (srcB rows wish g x s))), .unk, .unk, .unk, .unk, .unk]) (by rw [← zip_snd u1 (fun s => encPr (srcB rows wish g x s))]; rfl) ?_
    rw [holdsP_mk] at q
    have hse : ss.isEmpty = false := by cases ss with | nil => exact absurd rfl hne | cons a b => rfl
    rw [hse, Bool.not_false, Bool.true_and] at q
    refine gss_cons (gs_if (x := (srcsB rows wish g x ss).isNone) (gt_is (gt_cmp (gc_inD (gv_ge ge_non) (gv_ge (ge_var 7 rfl)) D.ok_non (D.oks_map fun s _ => encPr_ok _) D.ok_mono)) srcsB_none) (fun hc => ?_) (fun hc => gss_nil ?_))
    · cases ht : srcsB rows wish g x ss with
      | none => rw [ht] at q; exact gss_one (gs_retE ge_bl q)
      | some tr => rw [ht] at hc; cases hc
    cases ht : srcsB rows wish g x ss with
    | none => rw [ht] at hc; cases hc
    | some tr =>
    rw [ht] at q
    dsimp only at q
    obtain ⟨htm, htl⟩ := srcsB_map ht
    rw [htm]
    have htne : tr ≠ [] := by rintro rfl; rw [List.length_nil] at htl; exact hne (List.length_eq_zero_iff.mp htl.symm)
    refine gss_cons (gs_set 8 nd (ge_n (gn_gw (gw_call (hk := hk4) (has_left_of T) (gr_cons (ge_var 0 rfl) (gr_cons (ge_var 4 rfl) (gr_cons (ge_var 7 rfl) gr_nil))) ⟨s, dx, rd, rows, x, tr, rfl, SH, sm, hx, htne, by omega, fun l hl => ⟨l, rfl, hl, rfl⟩⟩))) ?_)
    have hml : (leftB rows x tr).length ≤ 8 := Nat.le_trans (List.length_filter_le _ _) (makesD_len sm)
    have hdbl : dbs.length = bs.length := u2.length
    have hmem : ∀ m ∈ leftB rows x tr, (look (rowOf rows x) m).isSome = true := fun m hm => makesD_mem.mp (List.mem_filter.mp hm).1
    generalize leftB rows x tr = L at *
    refine gss_cons (gs_if (x := !decide (L.length = bs.length) || (!L.isEmpty && (look g x).isSome)) (gt_is (gt_w (gtw_or (gt_cmp (gc_neI (ge_len T.blt (gv_ge (ge_var 8 rfl)) .lst) (ge_len T.blt (gv_view (ge_var 6 rfl) w2) .lst))) fun _ => gtw_or1 (gt_w (gtw_and (gt_cmp (gc_gt (ge_len T.blt (gv_ge (ge_var 8 rfl)) .lst) ge_int)) fun _ => gtw_and1 (gt_cmp (gc_in (ge_var 4 rfl) (gv_view (ge_var 2 rfl) hg) .dicS)))))) ?_) (fun hc => ?_) (fun hc => gss_nil ?_))
    · rw [List.length_map, hdbl, pickK_val, Option.isSome_map]
      congr 1
      · congr 1
        exact decide_eq_decide.mpr ⟨fun z => by omega, fun z => by omega⟩
      · congr 1
        cases L with
        | nil => rfl
        | cons a b => exact decide_eq_true (by rw [List.length_cons]; omega)
    · have e1 : (decide (L.length = bs.length) && !(!L.isEmpty && (look g x).isSome)) = false := by
        cases h1 : decide (L.length = bs.length) with
        | false => rfl
        | true => rw [h1, Bool.not_true, Bool.false_or] at hc; rw [hc]; rfl
      rw [e1, Bool.false_and] at q
      exact gss_one (gs_retE ge_bl q)
    rw [Bool.or_eq_false_iff] at hc
    have hLb : L.length = bs.length := by simpa using hc.1
    have hLn : L ≠ [] → look g x = none := fun hne => by
      have h1 : L.isEmpty = false := by cases L with | nil => exact absurd rfl hne | cons a b => rfl
      have h2 := hc.2
      rw [h1, Bool.not_false, Bool.true_and] at h2
      cases e0 : look g x with
      | none => rfl
      | some _ => rw [e0] at h2; cases h2
    rw [decide_eq_true hLb, hc.2, Bool.not_false, Bool.true_and, Bool.true_and] at q
    generalize hf : (fun p : Int × D => brB (fun r => holdsP rows wish n (lput g x p.1) r) p.1 p.2) = f at q
    refine gss_cons (gs_for (fun _ => PassesOwn.never) (gi_zip T.blt (ge_var 8 rfl) .rfl (ge_var 6 rfl) w2) (fun i ρ' G' => GEx G G' ∧ (∃ y9 y10 y11, ρ' = [.dat (.ref s), .dat dw, .dat dg, .dat (.tup [.str x, d1, d2]), .dat (.str x), .dat d1, .dat d2, .dat (.lst (tr.map prI)), .dat (.lst (L.map .int)), y9, y10, y11, .unk]) ∧ (L.zip bs).all f = ((L.zip bs).drop i).all f) ⟨GEx.refl _, ⟨_, _, _, rfl⟩, rfl⟩ (fun _ _ _ h => ⟨.rfl, w2.up h.1⟩) (fun i d ρ' G' hi h => ?_) (fun ρ' G' h => ?_))
    · obtain ⟨gx, ⟨y9, y10, y11, rfl⟩, ha⟩ := h
      obtain ⟨c, db, hc1, hc2, rfl⟩ := zipD_get hi
      rw [List.getElem?_map] at hc1
      obtain ⟨m, hm, rfl⟩ := Option.map_eq_some_iff.mp hc1
      obtain ⟨be, Sb, hbe, vb, _⟩ := u2.get hc2
      have hz : (L.zip bs)[i]? = some (m, be) := List.getElem?_zip_eq_some.mpr ⟨hm, hbe⟩
      have hzl := (List.getElem?_eq_some_iff.mp hz)
      rw [List.drop_eq_getElem_cons hzl.1, hzl.2, List.all_cons] at ha
      have gbe := gbs be (List.mem_of_getElem? hbe)
      have hbd := D.gd_isD gbe
      have vb := vb.up gx
      refine ⟨_, _, gg_tup (ggs_cons (gg_name 9 nd) (ggs_cons (gg_name 10 nd) ggs_nil)), ?_⟩
      show GSs _ _ [.dat (.ref s), .dat dw, .dat dg, .dat (.tup [.str x, d1, d2]), .dat (.str x), .dat d1, .dat d2, .dat (.lst (tr.map prI)), .dat (.lst (L.map .int)), .dat (.int m), .dat db, y11, .unk] _ _
      have fl : f (m, be) = false → PP (.bl false) G := fun h => by rw [ha, h, Bool.false_and] at q; exact q
      have hfe : f (m, be) = brB (fun r => holdsP rows wish n (lput g x m) r) m be := by rw [← hf]
      cases hT : be.isTup with
      | false =>
        have e1 : f (m, be) = false := by rw [hfe]; cases be <;> first | rfl | cases hT
        exact gss_cons (gs_if (x := true) (gt_w (gtw_or (x := true) (y := false) (gt_is (gt_not (gt_val (ge_isiV T.blt (ge_var 10 rfl) vb (ge_ty T.blt.at (by decide +kernel)) (.tup hbd)))) (by rw [hT]; rfl)) fun z => nomatch z)) (fun _ => gss_one (gs_retL ge_bl gx (fl e1))) (fun z => nomatch z))
      | true =>
      obtain ⟨bes, rfl⟩ : ∃ bes, be = .tup bes := by cases be <;> first | exact ⟨_, rfl⟩ | cases hT
      obtain ⟨bds, rfl, hbs⟩ := vb.tup_inv
      have hbl2 := hbs.length
      by_cases h2 : bes.length = 2
      case neg =>
        have e1 : f (m, .tup bes) = false := by
          rw [hfe]
          unfold brB
          split
          · rename_i k r z; cases z; exact absurd rfl h2
          · rfl
        exact gss_cons (gs_if (x := true) (gt_w (gtw_or (x := false) (y := true) (gt_is (gt_not (gt_val (ge_isiV T.blt (ge_var 10 rfl) vb (ge_ty T.blt.at (by decide +kernel)) (.tup hbd)))) rfl) fun _ => gtw_or (x := true) (y := false) (gt_is (gt_cmp (gc_neI (ge_len T.blt (gv_ge (ge_var 10 rfl)) .tup) ge_int)) (by rw [hbl2]; simp; omega)) fun z => nomatch z)) (fun _ => gss_one (gs_retL ge_bl gx (fl e1))) (fun z => nomatch z))
      obtain ⟨b0, r, rfl⟩ : ∃ b0 r, bes = [b0, r] := by match bes, h2 with | [a, b], _ => exact ⟨a, b, rfl⟩
      obtain ⟨c0, c1, rfl⟩ : ∃ c0 c1, bds = [c0, c1] := by match bds, hbl2 with | [a, b], _ => exact ⟨a, b, rfl⟩
      obtain ⟨_, T0, z0, x0, _⟩ := hbs.get' (i := 0) rfl
      obtain ⟨_, T1, z1, x1, _⟩ := hbs.get' (i := 1) rfl
      cases z0; cases z1
      have gbb := D.gds_all.mp (D.gd_tup' gbe).2
      have g0 := gbb b0 (by simp)
      obtain ⟨c0v, hc0v, sh0⟩ := x0.sh
      have hk1 : 1 ≤ n + 5 := Nat.le_trans (by decide : 1 ≤ 5) (Nat.le_add_left _ _)
      cases hI : b0.isI with
      | false =>
        have e1 : f (m, .tup [b0, r]) = false := by
          rw [hfe]
          unfold brB
          split
          · rename_i k r' z; cases z; cases hI
          · rfl
        exact gss_cons (gs_if (x := true) (gt_w (gtw_or (x := false) (y := true) (gt_is (gt_not (gt_val (ge_isiV T.blt (ge_var 10 rfl) vb (ge_ty T.blt.at (by decide +kernel)) (.tup hbd)))) rfl) fun _ => gtw_or (x := false) (y := true) (gt_is (gt_cmp (gc_neI (ge_len T.blt (gv_ge (ge_var 10 rfl)) .tup) ge_int)) rfl) fun _ => gtw_or (x := true) (y := false) (gt_is (gt_not (gt_val (ge_gw (gw_call (hk := hk1) (has_is_whole T) (gr_cons (ge_ix (d := c0) (gv_ge (ge_var 10 rfl)) ge_int (.tup rfl)) gr_nil) ⟨c0, c0v, rfl, hc0v, sh0.isD.trans (D.gd_isD g0), by rw [sh0.isI, hI]; exact ⟨rfl, rfl⟩⟩)))) rfl) fun z => nomatch z)) (fun _ => gss_one (gs_retL ge_bl gx (fl e1))) (fun z => nomatch z))
      | true =>
      obtain ⟨k, rfl⟩ : ∃ k, b0 = .int k := by cases b0 <;> first | exact ⟨_, rfl⟩ | cases hI
      have := x0.int_inv
      subst this
      have hfe2 : f (m, .tup [.int k, r]) = (decide (k = m) && holdsP rows wish n (lput g x m) r) := hfe
      refine gss_cons (gs_if (x := !decide (k = m)) (gt_is (gt_w (gtw_or (x := false) (gt_is (gt_not (gt_val (ge_isiV T.blt (ge_var 10 rfl) vb (ge_ty T.blt.at (by decide +kernel)) (.tup hbd)))) rfl) fun _ => gtw_or (x := false) (gt_is (gt_cmp (gc_neI (ge_len T.blt (gv_ge (ge_var 10 rfl)) .tup) ge_int)) rfl) fun _ => gtw_or (x := false) (gt_is (gt_not (gt_val (ge_gw (gw_call (hk := hk1) (has_is_whole T) (gr_cons (ge_ix (d := .int k) (gv_ge (ge_var 10 rfl)) ge_int (.tup rfl)) gr_nil) ⟨_, _, rfl, .rfl, rfl, rfl, rfl⟩)))) rfl) fun _ => gtw_or1 (gt_cmp (gc_neI (ge_ix (d := .int k) (gv_ge (ge_var 10 rfl)) ge_int (.tup rfl)) (ge_var 9 rfl))))) rfl) (fun hc => ?_) (fun hc => gss_nil ?_))
      · have hc : decide (k = m) = false := by simpa using hc
        exact gss_one (gs_retL ge_bl gx (fl (by rw [hfe2, hc]; rfl)))
      have hkm : decide (k = m) = true := by simpa using hc
      rw [hkm, Bool.true_and] at hfe2
      have hgx := hg.up gx
      have hxn : look g x = none := hLn (by rintro rfl; simp at hm)
      have hgl := pick_le gn po
      have hr12 := sm.1
      refine gss_cons (gs_ownd 11 nd (gn_dict T.blt (gv_view (ge_var 2 rfl) hgx)) ?_)
      refine gss_cons (gs_dput (kS x) (gw_ge (ge_var 9 rfl) ⟨.slot 11, pickK g, gp_ownd 11 rfl, ge_var 4 rfl, rfl, by unfold pickK; rw [codeL_length]; omega, ?_⟩))
      rw [pickK_put]
      refine gss_pubd 11 rfl fun b hb => ?_
      replace hb : G' b = none := hb
      have gxb := gex_new (g := .dic (pickK (lput g x m))) hb
      have gx2 := gx.trans gxb
      have hmsome := hmem m (List.mem_of_getElem? hm)
      show GSs _ _ [.dat (.ref s), .dat dw, .dat dg, .dat (.tup [.str x, d1, d2]), .dat (.str x), .dat d1, .dat d2, .dat (.lst (tr.map prI)), .dat (.lst (L.map .int)), .dat (.int m), .dat (.tup [.int k, c1]), .dat (.ref b), .unk] (gupd G' b (.dic (pickK (lput g x m)))) _
      refine gss_one (gs_if (x := !holdsP rows wish n (lput g x m) r) (gt_not (gt_val (ge_gw (gw_call (hk := Nat.le_refl _) ih (gr_cons (ge_var 0 rfl) (gr_cons (ge_var 1 rfl) (gr_cons (ge_var 11 rfl) (gr_cons (ge_ix (d := c1) (gv_ge (ge_var 10 rfl)) ge_int (.tup rfl)) gr_nil)))) ⟨s, dx, rd, rows, dw, wish, .ref b, lput g x m, c1, r, T1, rfl, SH.upG gx2, sm, rg, hv.up gx2, W, .dicR gupd_same, lput_nd gn, fun p hp => ?_, by rw [lput_length, hxn]; simp; omega, x1.up gxb, D.gd_mono 47 50 r (by decide) (gbb r (by simp)), rfl, rfl⟩)))) (fun hc => ?_) (fun hc => gss_nil ⟨gx2, ⟨_, _, _, rfl⟩, ?_⟩))
      · rcases mem_lput hp with rfl | hp
        · exact ⟨hx, hmsome⟩
        · exact po p hp
      · have hc : holdsP rows wish n (lput g x m) r = false := by simpa using hc
        exact gss_one (gs_retL ge_bl gx2 (fl (by rw [hfe2, hc])))
      · have hc : holdsP rows wish n (lput g x m) r = true := by simpa using hc
        rw [ha, hfe2, hc, Bool.true_and]
    · obtain ⟨gx, ⟨y9, y10, y11, rfl⟩, ha⟩ := h
      have hzl : (zipD (L.map D.int) dbs).length = (L.zip bs).length := by
        unfold zipD
        rw [List.length_map, List.length_zip, List.length_zip, List.length_map, hdbl]
      rw [hzl, List.drop_length] at ha
      rw [ha] at q
      exact gss_one (gs_retL ge_bl gx q)
theorem has_need_pairs (T : Tx K mg A) : HasF P w K mg base 3 "need_pairs" ["shop", "pairs"] (sp_npairs A) := by
  refine has_body T.d_need_pairs sc_need_pairs (fun ds G P PX h => ?_) (fun f cdv _ outer s0 H E hr F0 R0 ds G PP PX h => ?_)
  · obtain ⟨_, _, _, _, _, _, rfl, _⟩ := h; rfl
  have nd := nd_need_pairs
  obtain ⟨s, dx, rd, rows, dp, g, rfl, S, hv, hl, gn, po, q⟩ := h
  refine gss_cons (gs_if (x := false) (gt_is (gt_not (gt_val (ge_isiD T.blt (gv_view (ge_var 1 rfl) hv) (ge_ty T.blt.at (by decide +kernel)) (.lst rfl)))) rfl) (fun z => nomatch z) (fun _ => gss_nil ?_))
  refine gss_cons (gs_ownd 2 nd gn_dnew ?_)
  refine gss_cons (gs_for (fun _ => PassesOwn.never) (gi_lst (ge_var 1 rfl) hv) (fun i ρ' G' => G' = G ∧ ∃ y, ρ' = [.dat (.ref s), .dat dp, .ownd (pickK (g.take i)), y]) ⟨rfl, _, rfl⟩ (fun _ _ _ h => (by rw [h.1]; exact hv)) (fun i d ρ' G' hi h => ?_) (fun ρ' G' h => ?_))
  · obtain ⟨rfl, y, rfl⟩ := h
    rw [List.getElem?_map] at hi
    obtain ⟨p, hp, rfl⟩ := Option.map_eq_some_iff.mp hi
    have hpm := List.mem_of_getElem? hp
    obtain ⟨hw, hm⟩ := po p hpm
    have hnew : look (g.take i) p.1 = none := by
      refine look_fst fun z => ?_
      have h2 : ((g.take (i + 1)).map (·.1)).Nodup := gn.sublist ((List.take_sublist _ _).map _)
      rw [take_snoc hp, List.map_append, List.nodup_append] at h2
      exact h2.2.2 p.1 z p.1 (by simp) rfl
    have hil := (List.getElem?_eq_some_iff.mp hp).1
    refine ⟨_, _, gg_name 3 nd, ?_⟩
    refine gss_cons (gs_if (x := false) (gt_w (gtw_or (x := false) (y := false) (gt_is (gt_not (gt_val (ge_isiD T.blt (gv_ge (ge_var 3 rfl)) (ge_ty T.blt.at (by decide +kernel)) (.tup rfl)))) rfl) fun _ => gtw_or (x := false) (y := false) (gt_is (gt_cmp (gc_neI (ge_len T.blt (gv_ge (ge_var 3 rfl)) .tup) ge_int)) rfl) fun _ => gtw_or (x := false) (y := false) (gt_is (gt_not (gt_val (ge_gw (gw_meth (pl := _) T.k_Shop.cls (has_Shop_has T) (ge_var 0 rfl) S.ins rfl (gr_cons (ge_ix (d := .str p.1) (gv_ge (ge_var 3 rfl)) ge_int (.tup rfl)) (gr_cons (ge_ix (d := .int p.2) (gv_ge (ge_var 3 rfl)) ge_int (.tup rfl)) gr_nil)) ⟨s, dx, rd, rows, _, .str p.1, _, .int p.2, rfl, S, .rfl, rfl, fit_ware hw, .rfl, rfl, rfl, rfl⟩)))) (by
      show (!(wareS p.1 && (true && (look (rowOf rows p.1) p.2).isSome))) = false
      rw [hw, hm]; rfl)) fun _ => gtw_or1 (gt_is (gt_cmp (gc_in (ge_ix (d := .str p.1) (gv_ge (ge_var 3 rfl)) ge_int (.tup rfl)) (gv_ownd 2 rfl) .dicS)) (by rw [pickK_val, hnew]; rfl)))) (fun z => nomatch z) (fun _ => gss_nil ?_))
    refine gss_one (gs_dput (kS p.1) (gw_ge (ge_ix (d := .int p.2) (gv_ge (ge_var 3 rfl)) ge_int (.tup rfl)) ⟨.slot 2, _, gp_ownd 2 rfl, ge_ix (d := .str p.1) (gv_ge (ge_var 3 rfl)) ge_int (.tup rfl), rfl, by unfold pickK; rw [codeL_length, List.length_take]; omega, rfl, .dat (prP p), ?_⟩))
    show [SV.dat (.ref s), .dat dp, .ownd (putD (pickK (g.take i)) (kS p.1) (.int p.2)), .dat (prP p)] = _
    rw [pickK_put, lput_new hnew, take_snoc hp]
  · obtain ⟨rfl, y, rfl⟩ := h
    rw [List.length_map, List.take_length]
    exact gss_one (gs_ret (gf_owndR 2 rfl fun l hl => q l hl))
theorem has_holds (T : Tx K mg A) : HasF P w K mg base 19 "holds" ["shop", "wish", "pairs", "thing"] (sp_holds A) := by
  refine has_bodyX T.d_holds sc_holds (fun ds G P PX h => ?_) (fun f cdv _ outer s0 H E hr F0 R0 ds G PP PX h hx ow => ?_)
  · obtain ⟨_, _, _, _, _, _, _, _, _, _, _, rfl, _⟩ := h; rfl
  have nd := nd_holds
  obtain ⟨s, dx, rd, rows, dw, wish, dp, g, d, e, S, rfl, SH, sm, rg, hv, hw, hws, hp, gn, po, hd, gd, q⟩ := h
  have W := wish8 hw
  have hgl := pick_le gn po
  have hr12 := sm.1
  refine gss_cons (gs_expr (gw_callX hx (has_need_wish T) (gre_r (gr_cons (ge_var 1 rfl) gr_nil) ⟨rfl, dw, .lst wish, rfl, hv, rfl, hws, fun _ => ?_, fun z => (by rw [hw] at z; cases z)⟩)))
  refine gss_one (gs_ret (gf_w (gw_less (gw_callE (hk := by show rows.length + 1 - g.length + 5 ≤ 18; omega) (has_is_reason T (rows.length + 1 - g.length)) (gre_1 (ge_var 0 rfl) (gre_1 (ge_var 1 rfl) (gre_cons (P1 := fun d' G' => ∃ l, d' = .ref l ∧ G l = none ∧ G' = gupd G l (.dic (pickK g))) (gw_call (has_need_pairs T) (gr_cons (ge_var 0 rfl) (gr_cons (ge_var 2 rfl) gr_nil)) ⟨s, dx, rd, rows, dp, g, rfl, SH, hp, by omega, gn, po, fun l hl => ⟨l, rfl, hl, rfl⟩⟩) (fun d' G' h => ?_))))))))
  obtain ⟨l, rfl, hl, rfl⟩ := h
  have gx := gex_new (g := .dic (pickK g)) hl
  exact gre_r (gr_cons (ge_var 3 rfl) gr_nil) ⟨rfl, s, dx, rd, rows, dw, wish, .ref l, g, d, e, S, rfl, SH.upG gx, sm, rg, hv.up gx, ⟨W.1, W.2⟩, .dicR gupd_same, gn, po, by omega, hd.up gx, gd, ⟨G, gx, q⟩⟩
end
end Gh
end

section
set_option Elab.async false
set_option linter.all false
set_option maxRecDepth 100000
set_option maxHeartbeats 4000000
namespace Gh
open PySem PySem.Spec PyProof.Rows L2
/-! law_k07: a reason that is spoilt -/
theorem srcsB_bad {rows : Rows} {wish : List D} {g : Pick} {x : Str} {s : D} (h : srcB rows wish g x s = none) : ∀ ss : List D, s ∈ ss → srcsB rows wish g x ss = none
  | [], hm => by cases hm
  | t :: ss, hm => by
    rw [srcsB]
    rcases List.mem_cons.mp hm with rfl | hm
    · rw [h]
    · rw [srcsB_bad h ss hm]
      cases srcB rows wish g x t <;> rfl
theorem holds_spoilt {rows : Rows} {wish : List D} {n : Nat} {g : Pick} {x : Str} {ss bs : List D} (hl : wish.length ≤ 99) : holdsP rows wish (n + 1) g (.tup [.str x, .lst (ss ++ [.tup [.str "wish", .int 99]]), .lst bs]) = false := by
  have h : srcB rows wish g x (.tup [.str "wish", .int 99]) = none := by
    show strOf x (if ("wish" : Str) = "wish" then needAt wish (.int 99) else none) = none
    rw [if_pos rfl]
    have : needAt wish (.int 99) = none := if_neg (by omega)
    rw [this]; rfl
  rw [holdsP_mk, srcsB_bad h _ (by simp)]
  simp
def sp_spoilt (A : Ads) : GSp := fun ds G PP _ => ∃ (s dx rd : Addr) (rows : Rows) (wa : Addr) (wish : List D) (hh : Addr) (g : Pick) (y : Str) (l : Addr) (ss bs : List D), ds = [.ref s, .ref wa, .ref hh, .tup [.str y, .ref l, .lst bs]] ∧ ShopAt A G s dx rd rows ∧ Small rows ∧ RowsGood rows ∧ G wa = some (.lst wish) ∧ wish.length ≤ 90 ∧ wishOk (.lst wish) = true ∧ (D.lst wish).seenAll = true ∧
  G hh = some (.lst (g.map prP)) ∧ (g.map (·.1)).Nodup ∧ PickOk rows g ∧ G l = some (.lst ss) ∧ l ≠ wa ∧ l ≠ hh ∧ ss.length ≤ 900 ∧ D.gd 50 (.tup [.str y, .lst ss, .lst bs]) = true ∧ holdsP rows wish (rows.length + 1 - g.length) g (.tup [.str y, .lst ss, .lst bs]) = true ∧ PP (.bl true) G
theorem dv_thing {G : Gs} {y : Str} {l : Addr} {ss bs : List D} (h : G l = some (.lst ss)) : DV G (.tup [.str y, .ref l, .lst bs]) (.tup [.str y, .lst ss, .lst bs]) ([] ++ ((l :: []) ++ ([] ++ []))) := .tup (.cons (.eq _) (.cons (.ref h (.refl ss)) (.cons (.eq _) .nil)))
section
variable {P : Program} {w : World} {K : PySem.W.Frag} {mg : Str → Option Value} {base : Heap} {A : Ads}
theorem has__law_spoilt (T : Tx K mg A) : HasF P w K mg base 20 "_law_spoilt" ["_law_shop_here", "_law_wish_here", "_law_pairs", "_law_thing"] (sp_spoilt A) := by
  refine has_body T.d__law_spoilt sc__law_spoilt (fun ds G P PX h => ?_) (fun f cdv _ outer s0 H E hr F0 R0 ds G PP PX h => ?_)
  · obtain ⟨_, _, _, _, _, _, _, _, _, _, _, _, rfl, _⟩ := h; rfl
  have nd := nd__law_spoilt
  obtain ⟨s, dx, rd, rows, wa, wish, hh, g, y, l, ss, bs, rfl, S, sm, rg, ha, hwl, hw, hws, hhh, gn, po, hl, hla, hlh, hsl, gd, hol, q⟩ := h
  have hgl := pick_le gn po
  obtain ⟨n, hn⟩ : ∃ n, rows.length + 1 - g.length = n + 1 := ⟨rows.length - g.length, by omega⟩
  have gds := D.gds_all.mp (D.gd_tup' gd).2
  have gss := (D.gd_lst' (n := 48) (gds (.lst ss) (by simp))).2
  have f2 : (D.str ("wish" : Str)).fit = true := by decide +kernel
  have gw : D.gd 48 (.tup [.str "wish", .int 99]) = true := by
    refine gd_t (n := 47) rfl fun d hd => ?_
    simp only [List.mem_cons, List.not_mem_nil, or_false] at hd
    rcases hd with rfl | rfl
    · exact gd_s f2
    · exact gd_i
  have gd2 : D.gd 50 (.tup [.str y, .lst (ss ++ [.tup [.str "wish", .int 99]]), .lst bs]) = true := by
    refine gd_t (n := 49) rfl fun d hd => ?_
    simp only [List.mem_cons, List.not_mem_nil, or_false] at hd
    rcases hd with rfl | rfl | rfl
    · exact gds _ (by simp)
    · exact gd_l (n := 48) (by simp; omega) (gds_app gss (gds_one gw))
    · exact gds _ (by simp)
  refine gss_cons (gs_exprX (gx_app (pl := .at l) (d := .tup [.str "wish", .int 99]) (gp_at (ge_ix (d := .ref l) (gv_ge (ge_var 3 rfl)) ge_int (.tup rfl))) hl (ge_tup (gr_cons ge_str (gr_cons ge_int gr_nil))) (by omega) ?_))
  have hls : l ≠ s := by rintro rfl; have := S.ins; rw [hl] at this; cases this
  have hlr : l ≠ rd := by rintro rfl; have := S.dic; rw [hl] at this; cases this
  show GSs _ _ _ (gupd G l (.lst (ss ++ [.tup [.str "wish", .int 99]]))) _
  have S2 : ShopAt A (gupd G l (.lst (ss ++ [.tup [.str "wish", .int 99]]))) s dx rd rows := ⟨by rw [gupd_ne hls.symm]; exact S.ins, by rw [gupd_ne hlr.symm]; exact S.dic⟩
  have ha2 : (gupd G l (.lst (ss ++ [.tup [.str "wish", .int 99]]))) wa = some (.lst wish) := by rw [gupd_ne hla.symm]; exact ha
  have hh2 : (gupd G l (.lst (ss ++ [.tup [.str "wish", .int 99]]))) hh = some (.lst (g.map prP)) := by rw [gupd_ne hlh.symm]; exact hhh
  refine gss_cons (gs_if (x := false) (gt_is (gt_cmp (gc_notB (ge_gw (gw_call (has_holds T) (gr_cons (ge_var 0 rfl) (gr_cons (ge_n (gn_list T.blt (gv_view (ge_var 1 rfl) (.lstR ha2)))) (gr_cons (ge_var 2 rfl) (gr_cons (ge_var 3 rfl) gr_nil)))) ⟨s, dx, rd, rows, _, wish, .ref hh, g, _, _, _, rfl, S2, sm, rg, .rfl, hw, hws, .lstR hh2, gn, po, dv_thing gupd_same, gd2, rfl, rfl⟩)) ge_bl)) (by rw [hn, holds_spoilt (by omega)]; rfl)) (fun z => nomatch z) (fun _ => gss_nil ?_))
  refine gss_cons (gs_exprX (gx_pop (pl := .at l) (d := .tup [.str "wish", .int 99]) (gp_at (ge_ix (d := .ref l) (gv_ge (ge_var 3 rfl)) ge_int (.tup rfl))) gupd_same (by simp) ?_))
  show GSs _ _ _ (gupd (gupd G l (.lst (ss ++ [.tup [.str "wish", .int 99]]))) l (.lst (ss ++ [D.tup [.str "wish", .int 99]]).dropLast)) _
  rw [List.dropLast_concat, gupd_back hl]
  refine gss_one (gs_retE (ge_is (ge_cmp (gc_isB (ge_gw (gw_call (has_holds T) (gr_cons (ge_var 0 rfl) (gr_cons (ge_n (gn_list T.blt (gv_view (ge_var 1 rfl) (.lstR ha)))) (gr_cons (ge_var 2 rfl) (gr_cons (ge_var 3 rfl) gr_nil)))) ⟨s, dx, rd, rows, _, wish, .ref hh, g, _, _, _, rfl, S, sm, rg, .rfl, hw, hws, .lstR hhh, gn, po, dv_thing hl, gd, rfl, rfl⟩)) ge_bl)) (by rw [hol]; rfl)) q)
end
end Gh
end

section
set_option Elab.async false
set_option linter.all false
set_option maxRecDepth 100000
set_option maxHeartbeats 4000000
namespace Gh
open PySem PySem.Spec PyProof.Rows L2
/-! the law's own look at a reason: places, granted pairs, sources -/
def placeB : D → Nat → Bool
  | .int i, n => decide (0 ≤ i) && decide (i < (n : Int))
  | _, _ => false
theorem placeB_yes {xs : List D} {e : D} (h : placeB e xs.length = true) : ∃ i d, e = .int i ∧ atI xs i = some d ∧ needAt xs e = some d := by
  cases e with
  | int i =>
    have h : (decide (0 ≤ i) && decide (i < (xs.length : Int))) = true := h
    rw [Bool.and_eq_true] at h
    have h1 := of_decide_eq_true h.1
    have h2 := of_decide_eq_true h.2
    have hx : xs[i.toNat]? = some (xs[i.toNat]'(by omega)) := List.getElem?_eq_getElem _
    refine ⟨i, _, rfl, ?_, (if_pos ⟨h1, h2⟩ : needAt xs (.int i) = _).trans hx⟩
    have := atI_nat (xs := xs) (j := i.toNat) hx
    rwa [show ((i.toNat : Nat) : Int) = i by omega] at this
  | _ => cases h
theorem placeB_no {xs : List D} {e : D} (h : placeB e xs.length = false) : needAt xs e = none := by
  cases e with
  | int i =>
    refine if_neg fun z => ?_
    have h : (decide (0 ≤ i) && decide (i < (xs.length : Int))) = false := h
    rw [decide_eq_true z.1, decide_eq_true z.2] at h
    cases h
  | _ => rfl
def grB (g : Pick) : D → D → Bool
  | .str y, .int m => decide (look g y = some m)
  | _, _ => false
theorem grB_yes {g : Pick} {a b : D} (h : grB g a b = true) : ∃ y m, a = .str y ∧ b = .int m ∧ look g y = some m := by
  unfold grB at h
  split at h
  · exact ⟨_, _, rfl, rfl, of_decide_eq_true h⟩
  · cases h
def sp_lplace : GSp := fun ds G PP _ => ∃ (d e : D) (S : List Addr) (n m : Nat), ds = [d, .int (m : Int)] ∧ DV G d e S ∧ D.gd n e = true ∧ PP (.bl (placeB e m)) G
def sp_lgranted : GSp := fun ds G PP _ => ∃ dg g ds' e0 e1 e2 er S n, ds = [dg, .tup ds'] ∧ ViewD G dg (.dic (pickK g)) ∧ DVs G ds' (e0 :: e1 :: e2 :: er) S ∧ D.gds n (e0 :: e1 :: e2 :: er) = true ∧ PP (.bl (grB g e1 e2)) G
def sp_lsource (A : Ads) : GSp := fun ds G PP _ => ∃ (s dx rd o : Addr) (rs : List Addr) (rows : Rows) (nm : List Str) (dw : D) (wish : List D) (dg : D) (g : Pick) (x : Str) (d e : D) (S : List Addr) (n : Nat), ds = [.ref o, dw, dg, .str x, d] ∧ Side A G nm s dx rd o rs rows ∧ nm.Nodup ∧ ViewD G dw (.lst wish) ∧ Wh wish ∧ ViewD G dg (.dic (pickK g)) ∧ PickOk rows g ∧ DV G d e S ∧ D.gd n e = true ∧ PP (encPr (srcB rows wish g x e)) G
theorem Side.mem {A : Ads} {G : Gs} {nm : List Str} {s dx rd o : Addr} {rs : List Addr} {rows : Rows} (S : Side A G nm s dx rd o rs rows) {x : Str} {m : Int} (h : (look (rowOf rows x) m).isSome = true) : x ∈ nm := by
  cases e : look rows x with
  | none => unfold rowOf at h; rw [e] at h; cases h
  | some r => exact (S.keys _ (look_mem e)).1
section
variable {P : Program} {w : World} {K : PySem.W.Frag} {mg : Str → Option Value} {base : Heap} {A : Ads}
theorem has__law_place (T : Tx K mg A) : HasF P w K mg base 1 "_law_place" ["_law_thing", "_law_many"] sp_lplace := by
  refine has_body T.d__law_place sc__law_place (fun ds G P PX h => ?_) (fun f cdv _ outer s0 H E hr F0 R0 ds G PP PX h => ?_)
  · obtain ⟨_, _, _, _, _, rfl, _⟩ := h; rfl
  obtain ⟨d, e, S, n, m, rfl, hv, hg, q⟩ := h
  have hd := D.gd_isD hg
  cases hI : e.isI with
  | false =>
    have e1 : placeB e m = false := by cases e <;> first | rfl | cases hI
    rw [e1] at q
    cases hB : e.isBl with
    | false =>
      have e2 : e.isInt = false := by cases e <;> first | rfl | (cases hI; done) | (cases hB; done)
      exact gss_one (gs_retE (ge_is (ge_and (x := false) (y := false) (ge_is (ge_isiV T.blt (ge_var 0 rfl) hv (ge_ty T.blt.at (by decide +kernel)) (.int hd)) (by rw [e2])) (fun z => nomatch z)) rfl) q)
    | true =>
      have e2 : e.isInt = true := by cases e <;> first | rfl | cases hB
      exact gss_one (gs_retE (ge_is (ge_and (x := true) (y := false) (ge_is (ge_isiV T.blt (ge_var 0 rfl) hv (ge_ty T.blt.at (by decide +kernel)) (.int hd)) (by rw [e2])) (fun _ => ge_and (x := false) (y := false) (ge_is (ge_not (ge_isiV T.blt (ge_var 0 rfl) hv (ge_ty T.blt.at (by decide +kernel)) (.bl hd))) (by rw [hB]; rfl)) (fun z => nomatch z))) rfl) q)
  | true =>
    obtain ⟨i, rfl⟩ : ∃ i, e = .int i := by cases e <;> first | exact ⟨_, rfl⟩ | cases hI
    have := hv.int_inv
    subst this
    exact gss_one (gs_retE (ge_is (ge_and (x := true) (y := placeB (.int i) m) (ge_isiV T.blt (ge_var 0 rfl) (.eq _) (ge_ty T.blt.at (by decide +kernel)) (.int hd)) (fun _ => ge_and (x := true) (y := placeB (.int i) m) (ge_is (ge_not (ge_isiV T.blt (ge_var 0 rfl) (.eq _) (ge_ty T.blt.at (by decide +kernel)) (.bl hd))) rfl) (fun _ => ge_one (ge_chain (f := fun i j => decide (i ≤ j)) (f' := fun i j => decide (i < j)) (fun _ => op_le) (fun _ => op_lt) ge_int (ge_var 0 rfl) (ge_var 1 rfl))))) rfl) q)
theorem has__law_granted (T : Tx K mg A) : HasF P w K mg base 1 "_law_granted" ["_law_granted_here", "_law_source_here"] sp_lgranted := by
  refine has_body T.d__law_granted sc__law_granted (fun ds G P PX h => ?_) (fun f cdv _ outer s0 H E hr F0 R0 ds G PP PX h => ?_)
  · obtain ⟨_, _, _, _, _, _, _, _, _, rfl, _⟩ := h; rfl
  obtain ⟨dg, g, ds', e0, e1, e2, er, S, n, rfl, hg, hs, gd, q⟩ := h
  have hga := D.gds_all.mp gd
  obtain ⟨d1, S1, k1, v1, _⟩ := hs.get' (i := 1) rfl
  obtain ⟨d2, S2, k2, v2, _⟩ := hs.get' (i := 2) rfl
  have g1 := D.gd_isD (hga e1 (by simp))
  have g2 := D.gd_isD (hga e2 (by simp))
  have i1 : IxD (.tup ds') (.int 1) d1 := .tup (atI_nat (j := 1) k1)
  have i2 : IxD (.tup ds') (.int 2) d2 := .tup (atI_nat (j := 2) k2)
  refine gss_cons (gs_if (x := !e1.isStr || (!e2.isInt || e2.isBl)) (gt_w (gtw_or (gt_not (gt_val (ge_isiV T.blt (ge_ix (gv_ge (ge_var 1 rfl)) ge_int i1) v1 (ge_ty T.blt.at (by decide +kernel)) (.str g1)))) fun _ => gtw_or (gt_not (gt_val (ge_isiV T.blt (ge_ix (gv_ge (ge_var 1 rfl)) ge_int i2) v2 (ge_ty T.blt.at (by decide +kernel)) (.int g2)))) fun _ => gtw_or1 (gt_val (ge_isiV T.blt (ge_ix (gv_ge (ge_var 1 rfl)) ge_int i2) v2 (ge_ty T.blt.at (by decide +kernel)) (.bl g2))))) (fun hc => ?_) (fun hc => gss_nil ?_))
  · have e' : grB g e1 e2 = false := by
      unfold grB
      split
      · cases hc
      · rfl
    rw [e'] at q
    exact gss_one (gs_retE ge_bl q)
  rw [Bool.or_eq_false_iff, Bool.or_eq_false_iff] at hc
  obtain ⟨y, rfl⟩ : ∃ y, e1 = .str y := by cases e1 <;> first | exact ⟨_, rfl⟩ | cases hc.1
  obtain ⟨m, rfl⟩ : ∃ m, e2 = .int m := by cases e2 <;> first | exact ⟨_, rfl⟩ | (cases hc.2.1; done) | (cases hc.2.2; done)
  have := v1.str_inv
  subst this
  have := v2.int_inv
  subst this
  have q : PP (.bl (decide (look g y = some m))) G := q
  cases hl : look g y with
  | none =>
    rw [hl] at q
    exact gss_one (gs_retE (ge_is (ge_and (x := false) (y := false) (ge_is (ge_cmp (gc_in (ge_ix (gv_ge (ge_var 1 rfl)) ge_int i1) (gv_view (ge_var 0 rfl) hg) .dicS)) (by rw [pickK_val, hl]; rfl)) (fun z => nomatch z)) rfl) q)
  | some k =>
    rw [hl] at q
    refine gss_one (gs_retE (ge_is (ge_and (x := true) (y := decide (k = m)) (ge_is (ge_cmp (gc_in (ge_ix (gv_ge (ge_var 1 rfl)) ge_int i1) (gv_view (ge_var 0 rfl) hg) .dicS)) (by rw [pickK_val, hl]; rfl)) (fun _ => ge_one (ge_cmp (gc_eqI (ge_ix (d := .int k) (gv_view (ge_var 0 rfl) hg) (ge_ix (gv_ge (ge_var 1 rfl)) ge_int i1) (.dicS (by rw [pickK_val, hl]; rfl))) (ge_ix (gv_ge (ge_var 1 rfl)) ge_int i2))))) ?_) q)
    show D.bl (decide (k = m)) = D.bl (decide (some k = some m))
    congr 1
    exact decide_eq_decide.mpr ⟨fun z => by rw [z], fun z => Option.some.inj z⟩
theorem has__law_source (T : Tx K mg A) : HasF P w K mg base 2 "_law_source" ["_law_rows_here", "_law_wish_here", "_law_granted_here", "_law_ware", "_law_source_here"] (sp_lsource A) := by
  refine has_body T.d__law_source sc__law_source (fun ds G P PX h => ?_) (fun f cdv _ outer s0 H E hr F0 R0 ds G PP PX h => ?_)
  · obtain ⟨_, _, _, _, _, _, _, _, _, _, _, _, _, _, _, _, rfl, _⟩ := h; rfl
  have nd := nd__law_source
  obtain ⟨s, dx, rd, o, rs, rows, nm, dw, wish, dg, g, x, d, e, S, n, rfl, SH, hnm, hw, W, hg, po, hv, gd, q⟩ := h
  have hd := D.gd_isD gd
  have rg := SH.rg
  refine gss_cons (gs_set 5 nd ge_non ?_)
  cases hT : e.isTup with
  | false =>
    have e1 : srcB rows wish g x e = none := by cases e <;> first | rfl | cases hT
    rw [e1] at q
    exact gss_cons (gs_if (x := true) (gt_w (gtw_or (x := true) (y := false) (gt_is (gt_not (gt_val (ge_isiV T.blt (ge_var 4 rfl) hv (ge_ty T.blt.at (by decide +kernel)) (.tup hd)))) (by rw [hT]; rfl)) fun z => nomatch z)) (fun _ => gss_one (gs_retE ge_non q)) (fun z => nomatch z))
  | true =>
  obtain ⟨es, rfl⟩ : ∃ es, e = .tup es := by cases e <;> first | exact ⟨_, rfl⟩ | cases hT
  obtain ⟨ds, rfl, hs⟩ := hv.tup_inv
  have hl := hs.length
  obtain ⟨n, rfl⟩ : ∃ k, n = k + 1 := by cases n with | zero => rw [D.gd] at gd; cases gd | succ k => exact ⟨k, rfl⟩
  replace gd := (D.gd_tup' gd).2
  have hga := D.gds_all.mp gd
  by_cases h2 : es.length < 2
  · have e1 : srcB rows wish g x (.tup es) = none := by
      show strOf x (needB rows wish g es) = none
      have : needB rows wish g es = none := by
        match es, h2 with
        | [], _ => rfl
        | [a], _ => unfold needB; split <;> first | rfl | (rename_i z; cases z)
      rw [this]; rfl
    rw [e1] at q
    exact gss_cons (gs_if (x := true) (gt_w (gtw_or (x := false) (y := true) (gt_is (gt_not (gt_val (ge_isiV T.blt (ge_var 4 rfl) hv (ge_ty T.blt.at (by decide +kernel)) (.tup hd)))) rfl) fun _ => gtw_or (x := true) (y := false) (gt_is (gt_cmp (gc_lt (ge_len T.blt (gv_ge (ge_var 4 rfl)) .tup) ge_int)) (by rw [hl]; simp; omega)) fun z => nomatch z)) (fun _ => gss_one (gs_retE ge_non q)) (fun z => nomatch z))
  obtain ⟨e0, e1, er, rfl⟩ : ∃ e0 e1 er, es = e0 :: e1 :: er := by
    match es, h2 with
    | [], h => exact absurd (by simp) h
    | [a], h => exact absurd (by simp) h
    | a :: b :: c, _ => exact ⟨a, b, c, rfl⟩
  obtain ⟨d0, S0, k0, v0, _⟩ := hs.get' (i := 0) rfl
  obtain ⟨d1, S1, k1, v1, _⟩ := hs.get' (i := 1) rfl
  have g0 := hga e0 (by simp)
  have g1 := hga e1 (by simp)
  have i0 : IxD (.tup ds) (.int 0) d0 := .tup (atI_nat (j := 0) k0)
  have i1 : IxD (.tup ds) (.int 1) d1 := .tup (atI_nat (j := 1) k1)
  have hlt : ¬ ((ds.length : Int) < 2) := by rw [hl]; simp; omega
  cases hS : e0.isStr with
  | false =>
    have e1 : srcB rows wish g x (.tup (e0 :: e1 :: er)) = none := by
      show strOf x (needB rows wish g (e0 :: e1 :: er)) = none
      have : needB rows wish g (e0 :: e1 :: er) = none := by
        unfold needB
        split <;> first | rfl | (rename_i z; cases z; cases hS)
      rw [this]; rfl
    rw [e1] at q
    exact gss_cons (gs_if (x := true) (gt_w (gtw_or (x := false) (y := true) (gt_is (gt_not (gt_val (ge_isiV T.blt (ge_var 4 rfl) hv (ge_ty T.blt.at (by decide +kernel)) (.tup hd)))) rfl) fun _ => gtw_or (x := false) (y := true) (gt_is (gt_cmp (gc_lt (ge_len T.blt (gv_ge (ge_var 4 rfl)) .tup) ge_int)) (decide_eq_false hlt)) fun _ => gtw_or1 (gt_is (gt_not (gt_val (ge_isiV T.blt (ge_ix (gv_ge (ge_var 4 rfl)) ge_int i0) v0 (ge_ty T.blt.at (by decide +kernel)) (.str (D.gd_isD g0))))) (by rw [hS]; rfl)))) (fun _ => gss_one (gs_retE ge_non q)) (fun z => nomatch z))
  | true =>
  obtain ⟨t, rfl⟩ : ∃ t, e0 = .str t := by cases e0 <;> first | exact ⟨_, rfl⟩ | cases hS
  have := v0.str_inv
  subst this
  refine gss_cons (gs_if (x := false) (gt_w (gtw_or (x := false) (y := false) (gt_is (gt_not (gt_val (ge_isiV T.blt (ge_var 4 rfl) hv (ge_ty T.blt.at (by decide +kernel)) (.tup hd)))) rfl) fun _ => gtw_or (x := false) (y := false) (gt_is (gt_cmp (gc_lt (ge_len T.blt (gv_ge (ge_var 4 rfl)) .tup) ge_int)) (decide_eq_false hlt)) fun _ => gtw_or1 (gt_is (gt_not (gt_val (ge_isiV T.blt (ge_ix (gv_ge (ge_var 4 rfl)) ge_int i0) v0 (ge_ty T.blt.at (by decide +kernel)) (.str (D.gd_isD g0))))) rfl))) (fun z => nomatch z) (fun _ => gss_nil ?_))
  show GSs _ _ [.dat (.ref o), .dat dw, .dat dg, .dat (.str x), .dat (.tup ds), .dat .non, .unk] _ _
  have two := needB_two (rows := rows) (wish := wish) (g := g) (t := t) (es := e1 :: er)
  have q : PP (encPr (strOf x (needB rows wish g (.str t :: e1 :: er)))) G := q
  have hlen : ds.length = er.length + 2 := hl
  -- wish
  refine gss_cut (fun ρ' G' => G' = G ∧ ρ' = [.dat (.ref o), .dat dw, .dat dg, .dat (.str x), .dat (.tup ds), .dat ((if t = "wish" ∧ er.length = 0 then needB rows wish g (.str t :: e1 :: er) else none).getD .non), .unk])
    (gs_if (x := decide (t = "wish") && (decide ((ds.length : Int) = 2) && placeB e1 wish.length)) (gt_w (gtw_and (gt_cmp (gc_eqS (ge_ix (gv_ge (ge_var 4 rfl)) ge_int i0) ge_str)) fun _ => gtw_and (gt_cmp (gc_eqI (ge_len T.blt (gv_ge (ge_var 4 rfl)) .tup) ge_int)) fun _ => gtw_and1 (gt_val (ge_gw (gw_call (has__law_place T) (gr_cons (ge_ix (gv_ge (ge_var 4 rfl)) ge_int i1) (gr_cons (ge_len T.blt (gv_view (ge_var 1 rfl) hw) .lst) gr_nil)) ⟨d1, e1, S1, n, wish.length, rfl, v1, g1, rfl, rfl⟩))))) (fun hc => ?_) (fun hc => gss_nil ⟨rfl, ?_⟩)) (fun ρ' G' ⟨eG, eρ⟩ => ?_)
  · rw [Bool.and_eq_true, Bool.and_eq_true] at hc
    have c1 := of_decide_eq_true hc.1
    have c2 := of_decide_eq_true hc.2.1
    have c0 : er = [] := List.length_eq_zero_iff.mp (by omega)
    subst c0
    obtain ⟨i, dd, rfl, ha, hn⟩ := placeB_yes hc.2.2
    have := v1.int_inv
    subst this
    refine gss_one (gs_set 5 nd (d := dd) (ge_ix (gv_view (ge_var 1 rfl) hw) (ge_ix (gv_ge (ge_var 4 rfl)) ge_int i1) (.lst ha)) ⟨rfl, ?_⟩)
    rw [if_pos ⟨c1, rfl⟩, needB_wish c1, hn]; rfl
  · by_cases c : t = "wish" ∧ er.length = 0
    · obtain ⟨c1, c2⟩ := c
      have c0 : er = [] := List.length_eq_zero_iff.mp c2
      subst c0
      rw [decide_eq_true c1, decide_eq_true (by rw [hlen]; rfl), Bool.true_and, Bool.true_and] at hc
      rw [if_pos ⟨c1, rfl⟩, needB_wish c1, placeB_no hc]; rfl
    · rw [if_neg c]; rfl
  subst eG eρ
  -- need
  refine gss_cut (fun ρ' G'' => G'' = G' ∧ ∃ y6, ρ' = [.dat (.ref o), .dat dw, .dat dg, .dat (.str x), .dat (.tup ds), .dat ((if (t = "wish" ∧ er.length = 0) ∨ (t = "need" ∧ er.length = 2) then needB rows wish g (.str t :: e1 :: er) else none).getD .non), y6])
    (gs_if (x := decide (t = "need") && (decide ((ds.length : Int) = 4) && grB g e1 ((er[0]?).getD .non))) (gt_w (gtw_and (gt_cmp (gc_eqS (ge_ix (gv_ge (ge_var 4 rfl)) ge_int i0) ge_str)) fun _ => gtw_and (gt_cmp (gc_eqI (ge_len T.blt (gv_ge (ge_var 4 rfl)) .tup) ge_int)) fun hx => gtw_and1 ?_)) (fun hc => ?_) (fun hc => gss_nil ⟨rfl, .unk, ?_⟩)) (fun ρ' G'' ⟨eG, y6, eρ⟩ => ?_)
  · have c2 : er.length = 2 := by have := of_decide_eq_true hx; omega
    obtain ⟨e2, e3, rfl⟩ : ∃ e2 e3, er = [e2, e3] := by match er, c2 with | [a, b], _ => exact ⟨a, b, rfl⟩
    exact gt_val (ge_gw (gw_call (has__law_granted T) (gr_cons (ge_var 2 rfl) (gr_cons (ge_var 4 rfl) gr_nil)) ⟨dg, g, ds, _, e1, e2, [e3], S, n, rfl, hg, hs, gd, rfl, rfl⟩))
  · rw [Bool.and_eq_true, Bool.and_eq_true] at hc
    have c1 := of_decide_eq_true hc.1
    have c2 : er.length = 2 := by have := of_decide_eq_true hc.2.1; omega
    obtain ⟨e2, e3, rfl⟩ : ∃ e2 e3, er = [e2, e3] := by match er, c2 with | [a, b], _ => exact ⟨a, b, rfl⟩
    obtain ⟨y, m, rfl, h2', hm⟩ := grB_yes hc.2.2
    have : e2 = .int m := h2'
    subst this
    obtain ⟨d2, S2, k2, v2, _⟩ := hs.get' (i := 2) rfl
    obtain ⟨d3, S3, k3, v3, _⟩ := hs.get' (i := 3) rfl
    have := v1.str_inv
    subst this
    have := v2.int_inv
    subst this
    have i2 : IxD (.tup ds) (.int 2) (.int m) := .tup (atI_nat (j := 2) k2)
    have i3 : IxD (.tup ds) (.int 3) d3 := .tup (atI_nat (j := 3) k3)
    obtain ⟨hyw, hms⟩ := po (y, m) (look_mem hm)
    obtain ⟨ns, hns⟩ := Option.isSome_iff_exists.mp hms
    obtain ⟨_, r, _, _, hr1, hr2, _, _⟩ := SH.find hnm (SH.mem hms)
    have hN : needsOf rows y m = ns := by unfold needsOf; rw [hns]; rfl
    have hW : ¬ (t = "wish" ∧ ([.int m, e3] : List D).length = 0) := fun z => by cases z.2
    have e' : needB rows wish g [.str t, .str y, .int m, e3] = needAt ns e3 := by rw [← hN]; exact if_pos ⟨c1, hm⟩
    rw [if_neg hW, if_pos (.inr ⟨c1, rfl⟩), e']
    refine gss_cons (gs_set 6 nd (d := .lst ns) (ge_ix (gv_view (ge_ix (gv_view (ge_var 0 rfl) (.dicR SH.out)) (ge_ix (gv_ge (ge_var 4 rfl)) ge_int i1) (.dicS hr1)) (.dicR hr2)) (ge_ix (gv_ge (ge_var 4 rfl)) ge_int i2) (.dicI (by rw [rowK_val, hns]; rfl))) ?_)
    refine gss_one (gs_if (x := placeB e3 ns.length) (gt_val (ge_gw (gw_call (has__law_place T) (gr_cons (ge_ix (gv_ge (ge_var 4 rfl)) ge_int i3) (gr_cons (ge_len T.blt (gv_ge (ge_var 6 rfl)) .lst) gr_nil)) ⟨d3, e3, S3, n, ns.length, rfl, v3, hga e3 (by simp), rfl, rfl⟩))) (fun hc => ?_) (fun hc => gss_nil ⟨rfl, _, by rw [placeB_no hc]; rfl⟩))
    obtain ⟨i, dd, rfl, ha, hn⟩ := placeB_yes hc
    have := v3.int_inv
    subst this
    exact gss_one (gs_set 5 nd (d := dd) (ge_ix (gv_ge (ge_var 6 rfl)) (ge_ix (gv_ge (ge_var 4 rfl)) ge_int i3) (.lst ha)) ⟨rfl, _, by rw [hn]; rfl⟩)
  · by_cases c : t = "need" ∧ er.length = 2
    · obtain ⟨c1, c2⟩ := c
      obtain ⟨e2, e3, rfl⟩ : ∃ e2 e3, er = [e2, e3] := by match er, c2 with | [a, b], _ => exact ⟨a, b, rfl⟩
      rw [decide_eq_true c1, decide_eq_true (by rw [hlen]; rfl), Bool.true_and, Bool.true_and] at hc
      have e' : needB rows wish g [.str t, e1, e2, e3] = none := by
        cases hN : needB rows wish g [.str t, e1, e2, e3] with
        | none => rfl
        | some z =>
          obtain ⟨y, m, rfl, rfl, hm⟩ := needB_need po (rows := rows) (wish := wish) (t := t) (e3 := e3) (by rw [hN]; simp)
          have hc : decide (look g y = some m) = false := hc
          rw [decide_eq_true hm] at hc; cases hc
      rw [e']
      simp
    · by_cases w0 : t = "wish" ∧ er.length = 0
      · rw [if_pos w0, if_pos (.inl w0)]
      · rw [if_neg w0, if_neg fun z => z.elim w0 c]
  subst eG eρ
  -- pick
  refine gss_cut (fun ρ' G' => G' = G'' ∧ ∃ y6, ρ' = [.dat (.ref o), .dat dw, .dat dg, .dat (.str x), .dat (.tup ds), .dat ((needB rows wish g (.str t :: e1 :: er)).getD .non), y6])
    (gs_if (x := decide (t = "pick") && (decide ((ds.length : Int) = 3) && grB g e1 ((er[0]?).getD .non))) (gt_w (gtw_and (gt_cmp (gc_eqS (ge_ix (gv_ge (ge_var 4 rfl)) ge_int i0) ge_str)) fun _ => gtw_and (gt_cmp (gc_eqI (ge_len T.blt (gv_ge (ge_var 4 rfl)) .tup) ge_int)) fun hx => gtw_and1 ?_)) (fun hc => ?_) (fun hc => gss_nil ⟨rfl, y6, ?_⟩)) (fun ρ' G' ⟨eG, y6, eρ⟩ => ?_)
  · have c2 : er.length = 1 := by have := of_decide_eq_true hx; omega
    obtain ⟨e2, rfl⟩ : ∃ e2, er = [e2] := by match er, c2 with | [a], _ => exact ⟨a, rfl⟩
    exact gt_val (ge_gw (gw_call (has__law_granted T) (gr_cons (ge_var 2 rfl) (gr_cons (ge_var 4 rfl) gr_nil)) ⟨dg, g, ds, _, e1, e2, [], S, n, rfl, hg, hs, gd, rfl, rfl⟩))
  · rw [Bool.and_eq_true, Bool.and_eq_true] at hc
    have c1 := of_decide_eq_true hc.1
    have c2 : er.length = 1 := by have := of_decide_eq_true hc.2.1; omega
    obtain ⟨e2, rfl⟩ : ∃ e2, er = [e2] := by match er, c2 with | [a], _ => exact ⟨a, rfl⟩
    obtain ⟨y, m, rfl, h2', hm⟩ := grB_yes hc.2.2
    have : e2 = .int m := h2'
    subst this
    obtain ⟨d2, S2, k2, v2, _⟩ := hs.get' (i := 2) rfl
    have := v1.str_inv
    subst this
    have := v2.int_inv
    subst this
    have i2 : IxD (.tup ds) (.int 2) (.int m) := .tup (atI_nat (j := 2) k2)
    have e' : needB rows wish g [.str t, .str y, .int m] = some (.tup [.str y, .int m, .int m]) := if_pos ⟨c1, hm⟩
    rw [e']
    exact gss_one (gs_set 5 nd (ge_tup (gr_cons (ge_ix (gv_ge (ge_var 4 rfl)) ge_int i1) (gr_cons (ge_ix (gv_ge (ge_var 4 rfl)) ge_int i2) (gr_cons (ge_ix (gv_ge (ge_var 4 rfl)) ge_int i2) gr_nil)))) ⟨rfl, _, rfl⟩)
  · by_cases c : (t = "wish" ∧ er.length = 0) ∨ (t = "need" ∧ er.length = 2)
    · rw [if_pos c]
    · rw [if_neg c]
      cases hN : needB rows wish g (.str t :: e1 :: er) with
      | none => rfl
      | some z =>
        exfalso
        rcases two (by rw [hN]; simp) with ⟨a, b⟩ | ⟨a, b⟩ | ⟨a, b⟩
        · exact c (.inl ⟨a, by rw [List.length_cons] at b; omega⟩)
        · have c2 : er.length = 1 := by rw [List.length_cons] at b; omega
          obtain ⟨e2, rfl⟩ : ∃ e2, er = [e2] := by match er, c2 with | [a], _ => exact ⟨a, rfl⟩
          obtain ⟨y, m, rfl, rfl, hm⟩ := needB_pick po (rows := rows) (wish := wish) (t := t) (by rw [hN]; simp)
          rw [decide_eq_true a, decide_eq_true (by rw [hlen]; rfl), Bool.true_and, Bool.true_and] at hc
          have hc : decide (look g y = some m) = false := hc
          rw [decide_eq_true hm] at hc; cases hc
        · exact c (.inr ⟨a, by rw [List.length_cons] at b; omega⟩)
  subst eG eρ
  cases hN : needB rows wish g (.str t :: e1 :: er) with
  | none =>
    rw [hN] at q
    exact gss_cons (gs_if (x := true) (gt_w (gtw_or (x := true) (y := false) (gt_is (gt_cmp (gc_isN (gv_ge (ge_var 5 rfl)))) rfl) fun z => nomatch z)) (fun _ => gss_one (gs_retE ge_non q)) (fun z => nomatch z))
  | some z =>
    obtain ⟨y, lo, hi, rfl, _⟩ := needB_form rg W.need po hN
    rw [hN] at q
    refine gss_cons (gs_if (x := !decide (y = x)) (gt_is (gt_w (gtw_or (x := false) (gt_is (gt_cmp (gc_isN (d := .tup [.str y, .int lo, .int hi]) (gv_ge (ge_var 5 rfl)))) rfl) fun _ => gtw_or1 (gt_cmp (gc_neS (ge_ix (d := .str y) (gv_ge (ge_var 5 rfl)) ge_int (.tup rfl)) (ge_var 3 rfl))))) rfl) (fun hc => gss_one (gs_retE ge_non ?_)) (fun hc => gss_nil (gss_one (gs_retE (ge_tup (gr_cons (ge_ix (d := .int lo) (gv_ge (ge_var 5 rfl)) ge_int (.tup rfl)) (gr_cons (ge_ix (d := .int hi) (gv_ge (ge_var 5 rfl)) ge_int (.tup rfl)) gr_nil))) ?_))))
    · have hc : y ≠ x := by simpa using hc
      have e' : strOf x (some (.tup [.str y, .int lo, .int hi])) = none := if_neg hc
      rw [e'] at q; exact q
    · have hc : y = x := by simpa using hc
      have e' : strOf x (some (.tup [.str y, .int lo, .int hi])) = some (lo, hi) := if_pos hc
      rw [e'] at q; exact q
end
end Gh
end

section
set_option Elab.async false
set_option linter.all false
set_option maxRecDepth 100000
set_option maxHeartbeats 4000000
namespace Gh
open PySem PySem.Spec PyProof.Rows L2
/-! the law's own look at a reason -/
def sp_lholds (A : Ads) (n : Nat) : GSp := fun ds G PP _ => ∃ (s dx rd o : Addr) (rs : List Addr) (rows : Rows) (nm : List Str) (dw : D) (wish : List D) (dg : D) (g : Pick) (d e : D) (S : List Addr), ds = [.ref o, dw, dg, d] ∧ Side A G nm s dx rd o rs rows ∧ nm.Nodup ∧ (∀ x ∈ nm, wareS x = true) ∧ ViewD G dw (.lst wish) ∧ Wh wish ∧ ViewD G dg (.dic (pickK g)) ∧ (g.map (·.1)).Nodup ∧ PickOk rows g ∧ g.length + n = rows.length + 1 ∧ DV G d e S ∧ D.gd 50 e = true ∧ PP (.bl (holdsP rows wish n g e)) G
theorem tabK_none {nm : List Str} {rs : List Addr} (hl : rs.length = nm.length) {x : Str} (h : x ∉ nm) : valD (tabK nm rs) (.inr x) = none := by
  cases e : valD (tabK nm rs) (.inr x) with
  | none => rfl
  | some d =>
    exfalso
    unfold valD at e
    cases e2 : (tabK nm rs).find? (fun kv => decide (kv.1 = .inr x)) with
    | none => rw [e2] at e; cases e
    | some kv =>
      have h1 := List.mem_of_find?_eq_some e2
      have h2 := List.find?_some e2
      have h3 : kv.1 ∈ (tabK nm rs).map (·.1) := List.mem_map.mpr ⟨kv, h1, rfl⟩
      rw [tabK_fst hl, show kv.1 = .inr x by simpa using h2] at h3
      obtain ⟨z, hz, e⟩ := List.mem_map.mp h3
      exact h (Sum.inr.inj e ▸ hz)
theorem Side.getrow {A : Ads} {G : Gs} {nm : List Str} {s dx rd o : Addr} {rs : List Addr} {rows : Rows} (S : Side A G nm s dx rd o rs rows) (hnm : nm.Nodup) (x : Str) : ∃ kds, ViewD G ((valD (tabK nm rs) (.inr x)).getD (.dic [])) (.dic kds) ∧ kds.map (·.1) = ((rowOf rows x).map (·.1)).map Sum.inl := by
  by_cases h : x ∈ nm
  · obtain ⟨_, r, _, _, h1, h2, _, _⟩ := S.find hnm h
    rw [h1]
    exact ⟨_, .dicR h2, rowK_keys⟩
  · rw [tabK_none S.len h]
    have : look rows x = none := look_fst fun z => by
      obtain ⟨p, hp, e⟩ := List.mem_map.mp z
      exact h (e ▸ (S.keys p hp).1)
    refine ⟨[], .rfl, ?_⟩
    unfold rowOf
    rw [this]; rfl
section
variable {P : Program} {w : World} {K : PySem.W.Frag} {mg : Str → Option Value} {base : Heap} {A : Ads}
theorem has__law_holds (T : Tx K mg A) : ∀ n, HasF P w K mg base (n + 3) "_law_holds" ["_law_rows_here", "_law_wish_here", "_law_granted_here", "_law_thing"] (sp_lholds A n) := by
  intro n
  induction n with
  | zero =>
    refine has_body T.d__law_holds sc__law_holds (fun ds G P PX h => ?_) (fun f cdv _ outer s0 H E hr F0 R0 ds G PP PX h => ?_)
    · obtain ⟨_, _, _, _, _, _, _, _, _, _, _, _, _, _, rfl, _⟩ := h; rfl
    obtain ⟨s, dx, rd, o, rs, rows, nm, dw, wish, dg, g, d, e, S, rfl, SH, hnm, hwn, hv, W, hg, gn, po, hl, _⟩ := h
    have := pick_le gn po
    omega
  | succ n ih =>
    refine has_body T.d__law_holds sc__law_holds (fun ds G P PX h => ?_) (fun f cdv _ outer s0 H E hr F0 R0 ds G PP PX h => ?_)
    · obtain ⟨_, _, _, _, _, _, _, _, _, _, _, _, _, _, rfl, _⟩ := h; rfl
    have nd := nd__law_holds
    obtain ⟨s, dx, rd, o, rs, rows, nm, dw, wish, dg, g, d, e, S, rfl, SH, hnm, hwn, hv, W, hg, gn, po, hl, hd, gd, q⟩ := h
    have hk2 : 2 ≤ n + 3 := Nat.le_trans (by decide : 2 ≤ 3) (Nat.le_add_left _ _)
    have hdd := D.gd_isD gd
    have sm := SH.small
    have rg := SH.rg
    have nf : (∀ x ss bs, e ≠ .tup [.str x, .lst ss, .lst bs]) → PP (.bl false) G := fun h => by rw [holdsP_nf h] at q; exact q
    cases hT : e.isTup with
    | false => exact gss_cons (gs_if (x := true) (gt_w (gtw_or (x := true) (y := false) (gt_is (gt_not (gt_val (ge_isiV T.blt (ge_var 3 rfl) hd (ge_ty T.blt.at (by decide +kernel)) (.tup hdd)))) (by rw [hT]; rfl)) fun z => nomatch z)) (fun _ => gss_one (gs_retE ge_bl (nf (by rintro _ _ _ rfl; cases hT)))) (fun z => nomatch z))
    | true =>
    obtain ⟨es, rfl⟩ : ∃ es, e = .tup es := by cases e <;> first | exact ⟨_, rfl⟩ | cases hT
    obtain ⟨ds, rfl, hs⟩ := hd.tup_inv
    have hdl : ds.length = es.length := hs.length
    by_cases h3 : es.length = 3
    case neg => exact gss_cons (gs_if (x := true) (gt_w (gtw_or (x := false) (y := true) (gt_is (gt_not (gt_val (ge_isiV T.blt (ge_var 3 rfl) hd (ge_ty T.blt.at (by decide +kernel)) (.tup hdd)))) rfl) fun _ => gtw_or (x := true) (y := false) (gt_is (gt_cmp (gc_neI (ge_len T.blt (gv_ge (ge_var 3 rfl)) .tup) ge_int)) (by rw [hdl]; simp; omega)) fun z => nomatch z)) (fun _ => gss_one (gs_retE ge_bl (nf (by rintro _ _ _ z; cases z; exact h3 rfl)))) (fun z => nomatch z))
    obtain ⟨e0, e1, e2, rfl⟩ : ∃ e0 e1 e2, es = [e0, e1, e2] := by match es, h3 with | [a, b, c], _ => exact ⟨a, b, c, rfl⟩
    obtain ⟨d0, d1, d2, rfl⟩ : ∃ d0 d1 d2, ds = [d0, d1, d2] := by match ds, hdl with | [a, b, c], _ => exact ⟨a, b, c, rfl⟩
    obtain ⟨_, S0, k0, v0, _⟩ := hs.get' (i := 0) rfl
    obtain ⟨_, S1, k1, v1, _⟩ := hs.get' (i := 1) rfl
    obtain ⟨_, S2, k2, v2, _⟩ := hs.get' (i := 2) rfl
    cases k0; cases k1; cases k2
    have gds := D.gds_all.mp (D.gd_tup' gd).2
    have g0 := D.gd_isD (gds e0 (by simp))
    have g1 := D.gd_isD (gds e1 (by simp))
    have g2 := D.gd_isD (gds e2 (by simp))
    have i0 : IxD (.tup [d0, d1, d2]) (.int 0) d0 := .tup rfl
    have i1 : IxD (.tup [d0, d1, d2]) (.int 1) d1 := .tup rfl
    have i2 : IxD (.tup [d0, d1, d2]) (.int 2) d2 := .tup rfl
    refine gss_cons (gs_if (x := !e0.isStr) (gt_is (gt_w (gtw_or (x := false) (gt_is (gt_not (gt_val (ge_isiV T.blt (ge_var 3 rfl) hd (ge_ty T.blt.at (by decide +kernel)) (.tup hdd)))) rfl) fun _ => gtw_or (x := false) (gt_is (gt_cmp (gc_neI (ge_len T.blt (gv_ge (ge_var 3 rfl)) .tup) ge_int)) rfl) fun _ => gtw_or1 (gt_not (gt_val (ge_isiV T.blt (ge_ix (gv_ge (ge_var 3 rfl)) ge_int i0) v0 (ge_ty T.blt.at (by decide +kernel)) (.str g0)))))) rfl) (fun hc => gss_one (gs_retE ge_bl (nf (by rintro _ _ _ z; cases z; cases hc)))) (fun hc => gss_nil ?_))
    obtain ⟨x, rfl⟩ : ∃ x, e0 = .str x := by cases e0 <;> first | exact ⟨_, rfl⟩ | cases hc
    have := v0.str_inv
    subst this
    cases hL1 : e1.isLst with
    | false => exact gss_cons (gs_if (x := true) (gt_w (gtw_or (x := true) (y := false) (gt_is (gt_not (gt_val (ge_isiV T.blt (ge_ix (gv_ge (ge_var 3 rfl)) ge_int i1) v1 (ge_ty T.blt.at (by decide +kernel)) (.lst g1)))) (by rw [hL1]; rfl)) fun z => nomatch z)) (fun _ => gss_one (gs_retE ge_bl (nf (by rintro _ _ _ z; cases z; cases hL1)))) (fun z => nomatch z))
    | true =>
    obtain ⟨ss, rfl⟩ : ∃ ss, e1 = .lst ss := by cases e1 <;> first | exact ⟨_, rfl⟩ | cases hL1
    obtain ⟨dss, T1, w1, u1, _⟩ := v1.lst_inv
    have hdss : dss.isEmpty = ss.isEmpty := by have := u1.length; cases dss <;> cases ss <;> first | rfl | cases this
    cases hse : ss.isEmpty with
    | true =>
      have ef : PP (.bl false) G := by
        cases hL2 : e2.isLst with
        | false => exact nf (by rintro _ _ _ z; cases z; cases hL2)
        | true =>
          obtain ⟨bs, rfl⟩ : ∃ bs, e2 = .lst bs := by cases e2 <;> first | exact ⟨_, rfl⟩ | cases hL2
          rw [holdsP_mk, hse] at q
          exact q
      exact gss_cons (gs_if (x := true) (gt_w (gtw_or (x := false) (y := true) (gt_is (gt_not (gt_val (ge_isiV T.blt (ge_ix (gv_ge (ge_var 3 rfl)) ge_int i1) v1 (ge_ty T.blt.at (by decide +kernel)) (.lst g1)))) rfl) fun _ => gtw_or (x := true) (y := false) (gt_is (gt_cmp (gc_eqE (gv_view (ge_ix (gv_ge (ge_var 3 rfl)) ge_int i1) w1) (gv_ge (ge_n (gn_lst gr_nil))))) (by rw [hdss, hse])) fun z => nomatch z)) (fun _ => gss_one (gs_retE ge_bl ef)) (fun z => nomatch z))
    | false =>
    refine gss_cons (gs_if (x := !e2.isLst) (gt_is (gt_w (gtw_or (x := false) (gt_is (gt_not (gt_val (ge_isiV T.blt (ge_ix (gv_ge (ge_var 3 rfl)) ge_int i1) v1 (ge_ty T.blt.at (by decide +kernel)) (.lst g1)))) rfl) fun _ => gtw_or (x := false) (gt_is (gt_cmp (gc_eqE (gv_view (ge_ix (gv_ge (ge_var 3 rfl)) ge_int i1) w1) (gv_ge (ge_n (gn_lst gr_nil))))) (by rw [hdss, hse])) fun _ => gtw_or1 (gt_not (gt_val (ge_isiV T.blt (ge_ix (gv_ge (ge_var 3 rfl)) ge_int i2) v2 (ge_ty T.blt.at (by decide +kernel)) (.lst g2)))))) rfl) (fun hc => gss_one (gs_retE ge_bl (nf (by rintro _ _ _ z; cases z; cases hc)))) (fun hc => gss_nil ?_))
    obtain ⟨bs, rfl⟩ : ∃ bs, e2 = .lst bs := by cases e2 <;> first | exact ⟨_, rfl⟩ | cases hc
    obtain ⟨dbs, T2, w2, u2, _⟩ := v2.lst_inv
    obtain ⟨hssl, gss⟩ := D.gd_lst' (gds (.lst ss) (by simp))
    obtain ⟨hbsl, gbs⟩ := D.gd_lst' (gds (.lst bs) (by simp))
    replace gss := D.gds_all.mp gss
    replace gbs := D.gds_all.mp gbs
    rw [holdsP_mk, hse, Bool.not_false, Bool.true_and] at q
    obtain ⟨kds, hkv, hkk⟩ := SH.getrow hnm x
    have hml : (makesD rows x).length ≤ 8 := makesD_len sm
    have hrl : ((rowOf rows x).map (·.1)).length < 64 := by rw [List.length_map]; have := sm.row x; omega
    refine gss_cons (gs_set 4 nd (d := .lst (((makesD rows x).filter (inB [])).map .int)) (ge_is (ge_n (gn_step (i := -1) (gv_ge (ge_n (gn_sorted T.blt (gv_view (ge_dget2 (kS x) (gv_view (ge_var 0 rfl) (.dicR SH.out)) (ge_ix (gv_ge (ge_var 3 rfl)) ge_int i0) (ge_nd gn_dnew)) hkv) (.dicI _ hkk hrl)))) (ge_neg ge_int) (.inr rfl))) ?_) ?_)
    · rw [if_neg (by decide), show (makesD rows x).filter (inB []) = makesD rows x from List.filter_eq_self.mpr fun _ _ => rfl]
      unfold makesD
      rw [List.map_reverse]
    have hdbl : dbs.length = bs.length := u2.length
    refine gss_cut (fun ρ' G' => G' = G ∧ ∃ tr y5 y6, srcsB rows wish g x ss = some tr ∧ ρ' = [.dat (.ref o), .dat dw, .dat dg, .dat (.tup [.str x, d1, d2]), .dat (.lst ((leftB rows x tr).map .int)), y5, y6, .unk, .unk, .unk]) (gs_for (fun _ => PassesOwn.never) (gi_lst (ge_ix (gv_ge (ge_var 3 rfl)) ge_int i1) w1) (fun i ρ' G' => G' = G ∧ ∃ tr y5 y6, srcsB rows wish g x ss = (srcsB rows wish g x (ss.drop i)).map (fun t => tr ++ t) ∧ ρ' = [.dat (.ref o), .dat dw, .dat dg, .dat (.tup [.str x, d1, d2]), .dat (.lst (((makesD rows x).filter (inB tr)).map .int)), y5, y6, .unk, .unk, .unk]) ⟨rfl, [], _, _, (by simp), rfl⟩ (fun _ _ _ h => (by rw [h.1]; exact w1)) (fun i dsrc ρ' G' hi h => ?_) (fun ρ' G' h => ?_)) (fun ρ' G' ⟨eG, tr, y5, y6, ht, eρ⟩ => ?_)
    · obtain ⟨rfl, tr, y5, y6, ht, rfl⟩ := h
      obtain ⟨src, Sb, hsrc, vsrc, _⟩ := u1.get hi
      have hsl := List.getElem?_eq_some_iff.mp hsrc
      have hdrop : ss.drop i = src :: ss.drop (i + 1) := by rw [List.drop_eq_getElem_cons hsl.1, hsl.2]
      rw [hdrop, srcsB] at ht
      refine ⟨_, _, gg_name 5 nd, ?_⟩
      refine gss_cons (gs_set 6 nd (ge_gw (gw_call (hk := hk2) (has__law_source T) (gr_cons (ge_var 0 rfl) (gr_cons (ge_var 1 rfl) (gr_cons (ge_var 2 rfl) (gr_cons (ge_ix (gv_ge (ge_var 3 rfl)) ge_int i0) (gr_cons (ge_var 5 rfl) gr_nil))))) ⟨s, dx, rd, o, rs, rows, nm, dw, wish, dg, g, x, dsrc, src, Sb, 48, rfl, SH, hnm, hv, W, hg, po, vsrc, gss src (List.mem_of_getElem? hsrc), rfl, rfl⟩)) ?_)
      cases hsb : srcB rows wish g x src with
      | none =>
        rw [hsb] at ht
        have ht : srcsB rows wish g x ss = none := ht
        rw [ht] at q
        exact gss_cons (gs_if (x := true) (gt_is (gt_cmp (gc_isN (gv_ge (ge_var 6 rfl)))) rfl) (fun _ => gss_one (gs_retE ge_bl q)) (fun z => nomatch z))
      | some p =>
        rw [hsb] at ht
        refine gss_cons (gs_if (x := false) (gt_is (gt_cmp (gc_isN (d := prI p) (gv_ge (ge_var 6 rfl)))) rfl) (fun z => nomatch z) (fun _ => gss_nil ?_))
        refine gss_cons (gs_lcIf 4 (ys := (makesD rows x).filter (inB tr)) (enc := .int) (f := .int) (pr := fun m => decide (p.1 ≤ m) && decide (m ≤ p.2)) [("_law_make", 7)] nd (gic_lst (ge_var 4 rfl) .rfl) (blkOk_by (N := N__law_holds) (sc := defScope s__law_holds) (by decide +kernel)) (fun y hy => gg_name 7 nd) (by decide) (fun m hm => gt_chain (fun _ => op_le) (fun _ => op_le) (ge_ix (d := .int p.1) (gv_ge (ge_var 6 rfl)) ge_int (.tup rfl)) (ge_var 7 rfl) (ge_ix (d := .int p.2) (gv_ge (ge_var 6 rfl)) ge_int (.tup rfl))) (fun m hm _ => ge_var 7 rfl) (by have := List.length_filter_le (inB tr) (makesD rows x); omega) ?_ ?_)
        · rintro j hj ⟨x, e1, e2⟩
          have : j = 7 := by simpa using hj
          subst this
          cases e1; cases e2
        · refine gss_frz 4 rfl (gss_nil ⟨rfl, tr ++ [p], .dat dsrc, .dat (encPr (some p)), ?_, ?_⟩)
          · rw [ht]
            cases srcsB rows wish g x (ss.drop (i + 1)) with
            | none => rfl
            | some t => simp
          · rw [List.filter_filter]
            rw [show (fun m => decide (p.1 ≤ m) && decide (m ≤ p.2) && inB tr m) = inB (tr ++ [p]) from funext fun m => by rw [inB_app, Bool.and_comm]]
            rfl
    · obtain ⟨rfl, tr, y5, y6, ht, rfl⟩ := h
      rw [u1.length, List.drop_length, srcsB] at ht
      exact ⟨rfl, tr, y5, y6, by rw [ht]; simp, rfl⟩
    replace eG := eG.symm
    subst eG eρ
    rw [ht] at q
    dsimp only at q
    have hne : ss ≠ [] := by rintro rfl; cases hse
    have hx := srcsB_ware rg W.need po ht hne
    have hmem : ∀ m ∈ leftB rows x tr, (look (rowOf rows x) m).isSome = true := fun m hm => makesD_mem.mp (List.mem_filter.mp hm).1
    have hml2 : (leftB rows x tr).length ≤ 8 := Nat.le_trans (List.length_filter_le _ _) hml
    generalize leftB rows x tr = L at *
    refine gss_cons (gs_if (x := !decide (L.length = bs.length) || (!L.isEmpty && (look g x).isSome)) (gt_is (gt_w (gtw_or (gt_cmp (gc_neI (ge_len T.blt (gv_ge (ge_var 4 rfl)) .lst) (ge_len T.blt (gv_view (ge_ix (gv_ge (ge_var 3 rfl)) ge_int i2) w2) .lst))) fun _ => gtw_or1 (gt_w (gtw_and (gt_cmp (gc_neE (gv_ge (ge_var 4 rfl)) (gv_ge (ge_n (gn_lst gr_nil))))) fun _ => gtw_and1 (gt_cmp (gc_in (ge_ix (gv_ge (ge_var 3 rfl)) ge_int i0) (gv_view (ge_var 2 rfl) hg) .dicS)))))) ?_) (fun hc => ?_) (fun hc => gss_nil ?_))
    · rw [List.length_map, hdbl, pickK_val, Option.isSome_map]
      congr 1
      · congr 1
        exact decide_eq_decide.mpr ⟨fun z => by omega, fun z => by omega⟩
      · congr 1
        cases L <;> rfl
    · have e1 : (decide (L.length = bs.length) && !(!L.isEmpty && (look g x).isSome)) = false := by
        cases h1 : decide (L.length = bs.length) with
        | false => rfl
        | true => rw [h1, Bool.not_true, Bool.false_or] at hc; rw [hc]; rfl
      rw [e1, Bool.false_and] at q
      exact gss_one (gs_retE ge_bl q)
    rw [Bool.or_eq_false_iff] at hc
    have hLb : L.length = bs.length := by simpa using hc.1
    have hLn : L ≠ [] → look g x = none := fun hne => by
      have h1 : L.isEmpty = false := by cases L with | nil => exact absurd rfl hne | cons a b => rfl
      have h2 := hc.2
      rw [h1, Bool.not_false, Bool.true_and] at h2
      cases e0 : look g x with
      | none => rfl
      | some _ => rw [e0] at h2; cases h2
    rw [decide_eq_true hLb, hc.2, Bool.not_false, Bool.true_and, Bool.true_and] at q
    generalize hf : (fun p : Int × D => brB (fun r => holdsP rows wish n (lput g x p.1) r) p.1 p.2) = f at q
    refine gss_cons (gs_for (fun _ => PassesOwn.never) (gi_zip T.blt (ge_var 4 rfl) .rfl (ge_ix (gv_ge (ge_var 3 rfl)) ge_int i2) w2) (fun i ρ' G' => GEx G G' ∧ (∃ y7 y8 y9, ρ' = [.dat (.ref o), .dat dw, .dat dg, .dat (.tup [.str x, d1, d2]), .dat (.lst (L.map .int)), y5, y6, y7, y8, y9]) ∧ (L.zip bs).all f = ((L.zip bs).drop i).all f) ⟨GEx.refl _, ⟨_, _, _, rfl⟩, rfl⟩ (fun _ _ _ h => ⟨.rfl, w2.up h.1⟩) (fun i d ρ' G' hi h => ?_) (fun ρ' G' h => ?_))
    · obtain ⟨gx, ⟨y7, y8, y9, rfl⟩, ha⟩ := h
      obtain ⟨c, db, hc1, hc2, rfl⟩ := zipD_get hi
      rw [List.getElem?_map] at hc1
      obtain ⟨m, hm, rfl⟩ := Option.map_eq_some_iff.mp hc1
      obtain ⟨be, Sb, hbe, vb, _⟩ := u2.get hc2
      have hz : (L.zip bs)[i]? = some (m, be) := List.getElem?_zip_eq_some.mpr ⟨hm, hbe⟩
      have hzl := (List.getElem?_eq_some_iff.mp hz)
      rw [List.drop_eq_getElem_cons hzl.1, hzl.2, List.all_cons] at ha
      have gbe := gbs be (List.mem_of_getElem? hbe)
      have hbd := D.gd_isD gbe
      have vb := vb.up gx
      refine ⟨_, _, gg_tup (ggs_cons (gg_name 7 nd) (ggs_cons (gg_name 8 nd) ggs_nil)), ?_⟩
      show GSs _ _ [.dat (.ref o), .dat dw, .dat dg, .dat (.tup [.str x, d1, d2]), .dat (.lst (L.map .int)), y5, y6, .dat (.int m), .dat db, y9] _ _
      have fl : f (m, be) = false → PP (.bl false) G := fun h => by rw [ha, h, Bool.false_and] at q; exact q
      have hfe : f (m, be) = brB (fun r => holdsP rows wish n (lput g x m) r) m be := by rw [← hf]
      cases hT : be.isTup with
      | false =>
        have e1 : f (m, be) = false := by rw [hfe]; cases be <;> first | rfl | cases hT
        exact gss_cons (gs_if (x := true) (gt_w (gtw_or (x := true) (y := false) (gt_is (gt_not (gt_val (ge_isiV T.blt (ge_var 8 rfl) vb (ge_ty T.blt.at (by decide +kernel)) (.tup hbd)))) (by rw [hT]; rfl)) fun z => nomatch z)) (fun _ => gss_one (gs_retL ge_bl gx (fl e1))) (fun z => nomatch z))
      | true =>
      obtain ⟨bes, rfl⟩ : ∃ bes, be = .tup bes := by cases be <;> first | exact ⟨_, rfl⟩ | cases hT
      obtain ⟨bds, rfl, hbs⟩ := vb.tup_inv
      have hbl2 := hbs.length
      by_cases h2 : bes.length = 2
      case neg =>
        have e1 : f (m, .tup bes) = false := by
          rw [hfe]
          unfold brB
          split
          · rename_i k r z; cases z; exact absurd rfl h2
          · rfl
        exact gss_cons (gs_if (x := true) (gt_w (gtw_or (x := false) (y := true) (gt_is (gt_not (gt_val (ge_isiV T.blt (ge_var 8 rfl) vb (ge_ty T.blt.at (by decide +kernel)) (.tup hbd)))) rfl) fun _ => gtw_or (x := true) (y := false) (gt_is (gt_cmp (gc_neI (ge_len T.blt (gv_ge (ge_var 8 rfl)) .tup) ge_int)) (by rw [hbl2]; simp; omega)) fun z => nomatch z)) (fun _ => gss_one (gs_retL ge_bl gx (fl e1))) (fun z => nomatch z))
      obtain ⟨b0, r, rfl⟩ : ∃ b0 r, bes = [b0, r] := by match bes, h2 with | [a, b], _ => exact ⟨a, b, rfl⟩
      obtain ⟨c0, c1, rfl⟩ : ∃ c0 c1, bds = [c0, c1] := by match bds, hbl2 with | [a, b], _ => exact ⟨a, b, rfl⟩
      obtain ⟨_, T0', z0, x0, _⟩ := hbs.get' (i := 0) rfl
      obtain ⟨_, T1', z1, x1, _⟩ := hbs.get' (i := 1) rfl
      cases z0; cases z1
      have gbb := D.gds_all.mp (D.gd_tup' gbe).2
      have g0 := gbb b0 (by simp)
      have hho := (D.gd_tup' gbe).1
      have hb0d : b0.isDic = false := by cases b0 <;> first | rfl | cases hho
      cases hB : b0.isBl with
      | true =>
        have e1 : f (m, .tup [b0, r]) = false := by
          rw [hfe]
          unfold brB
          split
          · rename_i k r' z; cases z; cases hB
          · rfl
        exact gss_cons (gs_if (x := true) (gt_w (gtw_or (x := false) (y := true) (gt_is (gt_not (gt_val (ge_isiV T.blt (ge_var 8 rfl) vb (ge_ty T.blt.at (by decide +kernel)) (.tup hbd)))) rfl) fun _ => gtw_or (x := false) (y := true) (gt_is (gt_cmp (gc_neI (ge_len T.blt (gv_ge (ge_var 8 rfl)) .tup) ge_int)) rfl) fun _ => gtw_or (x := true) (y := false) (gt_is (gt_val (ge_isiV T.blt (ge_ix (d := c0) (gv_ge (ge_var 8 rfl)) ge_int (.tup rfl)) x0 (ge_ty T.blt.at (by decide +kernel)) (.bl (D.gd_isD g0)))) hB) fun z => nomatch z)) (fun _ => gss_one (gs_retL ge_bl gx (fl e1))) (fun z => nomatch z))
      | false =>
      cases hI : b0.isI with
      | false =>
        have e1 : f (m, .tup [b0, r]) = false := by
          rw [hfe]
          unfold brB
          split
          · rename_i k r' z; cases z; cases hI
          · rfl
        have hi0 : b0.isInt = false := by cases b0 <;> first | rfl | (cases hI; done) | (cases hB; done)
        exact gss_cons (gs_if (x := true) (gt_w (gtw_or (x := false) (y := true) (gt_is (gt_not (gt_val (ge_isiV T.blt (ge_var 8 rfl) vb (ge_ty T.blt.at (by decide +kernel)) (.tup hbd)))) rfl) fun _ => gtw_or (x := false) (y := true) (gt_is (gt_cmp (gc_neI (ge_len T.blt (gv_ge (ge_var 8 rfl)) .tup) ge_int)) rfl) fun _ => gtw_or (x := false) (y := true) (gt_is (gt_val (ge_isiV T.blt (ge_ix (d := c0) (gv_ge (ge_var 8 rfl)) ge_int (.tup rfl)) x0 (ge_ty T.blt.at (by decide +kernel)) (.bl (D.gd_isD g0)))) hB) fun _ => gtw_or1 (gt_cmp (gc_neHI (ge_ix (d := c0) (gv_ge (ge_var 8 rfl)) ge_int (.tup rfl)) (ge_var 7 rfl) x0 g0 hi0 hb0d)))) (fun _ => gss_one (gs_retL ge_bl gx (fl e1))) (fun z => nomatch z))
      | true =>
      obtain ⟨k, rfl⟩ : ∃ k, b0 = .int k := by cases b0 <;> first | exact ⟨_, rfl⟩ | cases hI
      have := x0.int_inv
      subst this
      have hfe2 : f (m, .tup [.int k, r]) = (decide (k = m) && holdsP rows wish n (lput g x m) r) := hfe
      refine gss_cons (gs_if (x := !decide (k = m)) (gt_is (gt_w (gtw_or (x := false) (gt_is (gt_not (gt_val (ge_isiV T.blt (ge_var 8 rfl) vb (ge_ty T.blt.at (by decide +kernel)) (.tup hbd)))) rfl) fun _ => gtw_or (x := false) (gt_is (gt_cmp (gc_neI (ge_len T.blt (gv_ge (ge_var 8 rfl)) .tup) ge_int)) rfl) fun _ => gtw_or (x := false) (gt_is (gt_val (ge_isiV T.blt (ge_ix (d := .int k) (gv_ge (ge_var 8 rfl)) ge_int (.tup rfl)) (.eq _) (ge_ty T.blt.at (by decide +kernel)) (.bl rfl))) rfl) fun _ => gtw_or1 (gt_cmp (gc_neI (ge_ix (d := .int k) (gv_ge (ge_var 8 rfl)) ge_int (.tup rfl)) (ge_var 7 rfl))))) rfl) (fun hc => ?_) (fun hc => gss_nil ?_))
      · have hc : decide (k = m) = false := by simpa using hc
        exact gss_one (gs_retL ge_bl gx (fl (by rw [hfe2, hc]; rfl)))
      have hkm : decide (k = m) = true := by simpa using hc
      rw [hkm, Bool.true_and] at hfe2
      have hgx := hg.up gx
      have hxn : look g x = none := hLn (by rintro rfl; simp at hm)
      have hgl := pick_le gn po
      have hr12 := sm.1
      refine gss_cons (gs_ownd 9 nd (gn_dict T.blt (gv_view (ge_var 2 rfl) hgx)) ?_)
      refine gss_cons (gs_dput (kS x) (gw_ge (ge_var 7 rfl) ⟨.slot 9, pickK g, gp_ownd 9 rfl, ge_ix (gv_ge (ge_var 3 rfl)) ge_int i0, rfl, by unfold pickK; rw [codeL_length]; omega, ?_⟩))
      rw [pickK_put]
      refine gss_pubd 9 rfl fun b hb => ?_
      replace hb : G' b = none := hb
      have gxb := gex_new (g := .dic (pickK (lput g x m))) hb
      have gx2 := gx.trans gxb
      have hmsome := hmem m (List.mem_of_getElem? hm)
      show GSs _ _ [.dat (.ref o), .dat dw, .dat dg, .dat (.tup [.str x, d1, d2]), .dat (.lst (L.map .int)), y5, y6, .dat (.int m), .dat (.tup [.int k, c1]), .dat (.ref b)] (gupd G' b (.dic (pickK (lput g x m)))) _
      refine gss_one (gs_if (x := !holdsP rows wish n (lput g x m) r) (gt_not (gt_val (ge_gw (gw_call (hk := Nat.le_refl _) ih (gr_cons (ge_var 0 rfl) (gr_cons (ge_var 1 rfl) (gr_cons (ge_var 9 rfl) (gr_cons (ge_ix (d := c1) (gv_ge (ge_var 8 rfl)) ge_int (.tup rfl)) gr_nil)))) ⟨s, dx, rd, o, rs, rows, nm, dw, wish, .ref b, lput g x m, c1, r, T1', rfl, SH.up gx2, hnm, hwn, hv.up gx2, W, .dicR gupd_same, lput_nd gn, fun p hp => ?_, by rw [lput_length, hxn]; simp; omega, x1.up gxb, D.gd_mono 47 50 r (by decide) (gbb r (by simp)), rfl, rfl⟩)))) (fun hc => ?_) (fun hc => gss_nil ⟨gx2, ⟨_, _, _, rfl⟩, ?_⟩))
      · rcases mem_lput hp with rfl | hp
        · exact ⟨hx, hmsome⟩
        · exact po p hp
      · have hc : holdsP rows wish n (lput g x m) r = false := by simpa using hc
        exact gss_one (gs_retL ge_bl gx2 (fl (by rw [hfe2, hc])))
      · have hc : holdsP rows wish n (lput g x m) r = true := by simpa using hc
        rw [ha, hfe2, hc, Bool.true_and]
    · obtain ⟨gx, ⟨y7, y8, y9, rfl⟩, ha⟩ := h
      have hzl : (zipD (L.map D.int) dbs).length = (L.zip bs).length := by
        unfold zipD
        rw [List.length_map, List.length_zip, List.length_zip, List.length_map, hdbl]
      rw [hzl, List.drop_length] at ha
      rw [ha] at q
      exact gss_one (gs_retL ge_bl gx q)
end
end Gh
end

section
set_option Elab.async false
set_option linter.all false
set_option maxRecDepth 100000
set_option maxHeartbeats 4000000
namespace Gh
open PySem PySem.Spec PyProof.Rows L2
/-! a make is taken out, and may come back otherwise -/
theorem Needs.sub {x : Str} {l l' : List D} (h : Needs x l) (s : l'.Sublist l) : Needs x l' := ⟨Nat.le_trans s.length_le h.1, fun d hd => h.2.1 d (s.subset hd), h.2.2.sublist (List.Sublist.cons₂ _ (s.map _))⟩
theorem cutD_sub {l : List D} {a b : Option Int} : (cutD l a b).Sublist l := (List.take_sublist _ _).trans (List.drop_sublist _ _)
theorem ldrop_lt {α β : Type} [DecidableEq α] {l : List (α × β)} {k : α} (h : (look l k).isSome = true) : (ldrop l k).length < l.length := by
  rw [look_isSome, List.any_eq_true] at h
  obtain ⟨p, hp, e⟩ := h
  unfold ldrop
  have e : p.1 = k := by simpa using e
  induction l with
  | nil => cases hp
  | cons q l ih =>
    rw [List.filter_cons]
    have hle : (l.filter fun p => decide (p.1 ≠ k)).length ≤ l.length := List.length_filter_le ..
    rcases List.mem_cons.mp hp with rfl | hp
    · rw [if_neg (by simp [e]), List.length_cons]; omega
    · have := ih hp
      split <;> simp only [List.length_cons] <;> omega
section
variable {A : Ads} {G : Gs} {nm : List Str} {s dx rd o : Addr} {rs : List Addr} {rows : Rows} {x : Str} {i : Nat} {r : Addr} {m : Int} {l : List D}
theorem Side.room (S : Side A G nm s dx rd o rs rows) (hl : nm.length ≤ 12) (hx : x ∈ nm) : ¬ (look rows x).isSome = true → rows.length < 12 := fun h => by
  have hx' : x ∉ rows.map (·.1) := fun z => by
    obtain ⟨p, hp, rfl⟩ := List.mem_map.mp z
    apply h
    rw [look_isSome, List.any_eq_true]
    exact ⟨p, hp, by simp⟩
  have h1 : (x :: rows.map (·.1)).Nodup := List.nodup_cons.mpr ⟨hx', S.nd⟩
  have h2 := List.Nodup.length_le_of_subset h1 (l₂ := nm) fun y hy => by
    rcases List.mem_cons.mp hy with rfl | hy
    · exact hx
    · obtain ⟨p, hp, rfl⟩ := List.mem_map.mp hy
      exact (S.keys p hp).1
  rw [List.length_cons, List.length_map] at h2
  omega
theorem Side.putErr (S : Side A G nm s dx rd o rs rows) (hw : wareS x = true) (hl : nm.length ≤ 12) (hx : x ∈ nm) (hm : 1 ≤ m ∧ m ≤ 999) (hN : Needs x l) (hno : look (rowOf rows x) m = none) (h8 : (rowOf rows x).length < 8) : putErr A rows (.str x) (.int m) (.lst l) = none := by
  have k1 : ¬ (D.str x).ware = false := by rw [show (D.str x).ware = wareS x from rfl, hw]; simp
  have k2 : ¬ (D.int m).make = false := by
    show ¬ (decide (1 ≤ m) && decide (m ≤ 999)) = false
    rw [decide_eq_true hm.1, decide_eq_true hm.2]; simp
  have k3 : ¬ needsOk (D.str x).toS (.lst l) = false := by rw [show needsOk (D.str x).toS (.lst l) = needsOk x (.lst l) from rfl, hN.ok.1]; simp
  have k4 : ¬ (look (rowOf rows (D.str x).toS) (D.int m).toI).isSome = true := by
    show ¬ (look (rowOf rows x) m).isSome = true
    rw [hno]; simp
  have k5 : ¬ ((look rows (D.str x).toS).isSome = false ∧ rows.length = 12) := by
    rintro ⟨y1, y2⟩
    have y1 : (look rows x).isSome = false := y1
    have := S.room hl hx (by rw [y1]; simp)
    omega
  have k6 : ¬ (rowOf rows (D.str x).toS).length = 8 := by
    show ¬ (rowOf rows x).length = 8
    omega
  unfold Gh.putErr
  rw [if_neg k1, if_neg k2, if_neg k3, if_neg k4, if_neg k5, if_neg k6]
end
theorem gic_keysI {Y : Ctx} {ρ : Rho} {G : Gs} {tg e : Expr} {l : Addr} {od : Obj} {kvs : List (Key × V)} {kds : List (Key × D)} {α : Type} {ys : List α} {enc : α → D} (he : GE Y e ρ G (.ref l)) (h : G l = some (.lk (od, .dK kvs) (.dic kds))) (hys : (kds.map fun kv => kD kv.1) = ys.map enc) : GIc Y tg e ρ G (ys.map enc) := by
  rw [← hys]; exact gic (gi_keys he h) h
def sp_lchanged (A : Ads) : GSp := fun ds G PP _ => ∃ s dx rd o rs rows nm n, ds = [.ref s, .ref o, .int n] ∧ Side A G nm s dx rd o rs rows ∧ nm.Nodup ∧ (∀ x ∈ nm, wareS x = true) ∧ nm.length ≤ 12 ∧ 0 < rows.length ∧ 0 ≤ n ∧
  ∀ rows' G', Side A G' nm s dx rd o rs rows' → (∀ b, b ≠ rd → b ∉ rs → G' b = G b) → PP .non G'
section
variable {P : Program} {w : World} {K : PySem.W.Frag} {mg : Str → Option Value} {base : Heap} {A : Ads}
theorem has__law_shop_changed (T : Tx K mg A) : HasF P w K mg base 6 "_law_shop_changed" ["_law_shop_here", "_law_rows_here", "_law_number"] (sp_lchanged A) := by
  refine has_body T.d__law_shop_changed sc__law_shop_changed (fun ds G P PX h => ?_) (fun f cdv _ outer s0 H E hr F0 R0 ds G PP PX h => ?_)
  · obtain ⟨_, _, _, _, _, _, _, _, rfl, _⟩ := h; rfl
  have nd := nd__law_shop_changed
  obtain ⟨s, dx, rd, o, rs, rows, nm, n, rfl, S, hnm, hw, hl12, hpos, hn0, q⟩ := h
  -- the wares that are there
  have hfl : 0 < (nm.filter fun x => !decide ((rowOf rows x).length = 0)).length := by
    have hp : rows[0]? = some rows[0] := List.getElem?_eq_getElem hpos
    have hm := List.mem_of_getElem? hp
    generalize rows[0] = p at hp hm
    refine List.length_pos_of_mem (a := p.1) (List.mem_filter.mpr ⟨(S.keys p hm).1, ?_⟩)
    have : ¬ (rowOf rows p.1).length = 0 := by
      rw [rowOf_ne fun p hp => (S.keys p hp).2]
      exact fun z => z (List.mem_map.mpr ⟨p, hm, rfl⟩)
    simpa using this
  refine gss_cons (gs_lock o S.out fun od kvs => gs_lcIf 3 (ys := nm) (enc := .str) (f := .str) (pr := fun x => !decide ((rowOf rows x).length = 0)) [("_law_ware", 4)] nd (gic_keysI (ge_var 1 rfl) gupd_same (tabK_keys S.len)) (blkOk_by (N := N__law_shop_changed) (sc := defScope s__law_shop_changed) (by decide +kernel)) (fun y hy => gg_name 4 nd) (by decide) (fun y hy => ?_) (fun y hy _ => ge_var 4 rfl) (by omega) ?_ ⟨G, rfl, S.out, ?_⟩)
  · obtain ⟨i1, r1, z1, z2, z3, z4, z5, z6⟩ := S.find hnm hy
    have hg1 : gupd G o (.lk (od, .dK kvs) (.dic (tabK nm rs))) o = some (.lk (od, .dK kvs) (.dic (tabK nm rs))) := gupd_same
    have hg2 : gupd G o (.lk (od, .dK kvs) (.dic (tabK nm rs))) r1 = some (.dic (rowK (rowOf rows y))) := by rw [gupd_ne z5]; exact z4
    refine gt_is (gt_cmp (gc_neDic (gv_view (ge_ix (gv_view (ge_var 1 rfl) (.inr (.inr ⟨o, _, rfl, .inr ⟨_, hg1⟩, rfl⟩))) (ge_var 4 rfl) (.dicS z3)) (.dicR hg2)) (gv_ge (ge_nd gn_dnew)) deq_nil)) ?_
    rw [rowK_len]
    generalize (rowOf rows y).length = n
    cases n <;> rfl
  · rintro j hj ⟨x, e1, e2⟩
    have : j = 4 := by simpa using hj
    subst this
    cases e1; cases e2
  refine gss_frz 3 rfl ?_
  have hflm : ∀ x ∈ nm.filter fun x => !decide ((rowOf rows x).length = 0), x ∈ nm ∧ ¬ (rowOf rows x).length = 0 := fun x hx => by
    have := List.mem_filter.mp hx
    exact ⟨this.1, by simpa using this.2⟩
  generalize (nm.filter fun x => !decide ((rowOf rows x).length = 0)) = ws at *
  obtain ⟨x, ex, hx⟩ := at_mod (xs := ws) (i := n) (m := (ws.length : Int)) rfl (by omega)
  obtain ⟨hxn, hrow⟩ := hflm x hx
  refine gss_cons (gs_set 4 nd (d := .str x) (ge_ix (gv_ge (ge_var 3 rfl)) (ge_mod (ge_var 2 rfl) (ge_len T.blt (gv_ge (ge_var 3 rfl)) .lst) (by rw [List.length_map]; omega)) (.lst (by rw [List.length_map, atI_map, ex]; rfl))) ?_)
  obtain ⟨i, r, e1, e2, hv, hr', hro, hrd⟩ := S.find hnm hxn
  have hwx := hw x hxn
  have hrs : r ∈ rs := List.mem_of_getElem? e2
  have hsr : s ≠ r := by rintro rfl; have := S.shop.ins; rw [hr'] at this; cases this
  obtain ⟨p, ep, hp⟩ := at_mod (xs := rowOf rows x) (i := n / 7) (m := ((rowOf rows x).length : Int)) rfl (by omega)
  obtain ⟨l, hl, hpl⟩ := look_key hp
  obtain ⟨hm1, hm2, hN⟩ := S.row hpl
  generalize em : p.1 = m at *
  have hgr : ∀ {ρ : Rho} {Y : Ctx} {b c : Expr} {pos : Pos}, GE Y b ρ G (.ref o) → GE Y c ρ G (.str x) → PlainIx c → GE Y (.Subscript b c pos) ρ G (.ref r) := fun hb hc hs => ge_ix (gv_view hb (.dicR S.out)) hc (.dicS hv) hs
  have ek := row_keys (r := rowOf rows x)
  refine gss_cons (gs_set 5 nd (d := .int m) (ge_ix (gv_ge (ge_n (gn_is (gn_listD T.blt (gv_view (hgr (ge_var 1 rfl) (ge_var 4 rfl) (fun _ _ => rfl)) (.dicR hr'))) (congrArg GO.lst ek)))) (ge_mod (ge_fdiv (ge_var 2 rfl) ge_int ⟨by decide, by decide⟩) (ge_len T.blt (gv_view (hgr (ge_var 1 rfl) (ge_var 4 rfl) (fun _ _ => rfl)) (.dicR hr')) .dic) (by rw [rowK_len]; omega)) (.lst (by rw [rowK_len, atI_map, ep]; show some (D.int p.1) = _; rw [em]))) ?_)
  have hv1 : valD (rowK (rowOf rows x)) (.inl m) = some (.lst l) := by rw [rowK_val, hl]; rfl
  refine gss_cons (gs_setX 6 nd (gx_dpop (pl := .at r) (d := .lst l) (kI m) (gp_at (hgr (ge_var 1 rfl) (ge_var 4 rfl) (fun _ _ => rfl))) hr' (ge_var 5 rfl) hv1 ?_))
  have eG : (Pl.at r).putG G (.dic (dropD (rowK (rowOf rows x)) (kI m))) = gupd G r (.dic (rowK (ldrop (rowOf rows x) m))) := by
    show gupd G r _ = _
    rw [show dropD (rowK (rowOf rows x)) (kI m) = rowK (ldrop (rowOf rows x) m) from rowK_drop]
  show GSs _ _ _ ((Pl.at r).putG G (.dic (dropD (rowK (rowOf rows x)) (kI m)))) _
  rw [eG]
  have S1 : ShopAt A (gupd G r (.dic (rowK (ldrop (rowOf rows x) m)))) s dx rd rows := ⟨by rw [gupd_ne hsr]; exact S.shop.ins, by rw [gupd_ne (Ne.symm hrd)]; exact S.shop.dic⟩
  refine gss_cons (gs_expr (gw_meth (pl := _) T.k_Shop.cls (has_Shop_take T) (ge_var 0 rfl) S1.ins rfl (gr_cons (ge_var 4 rfl) (gr_cons (ge_var 5 rfl) gr_nil)) ⟨s, dx, rd, rows, _, .str x, _, .int m, rfl, S1, S.small, .rfl, rfl, fit_ware hwx, .rfl, rfl, fun z => (by rw [hasB_of hwx hl] at z; cases z), fun _ => ?_⟩))
  have U := S.take (m := m) hnm e1 e2
  have fr : ∀ b, b ≠ rd → b ∉ rs → (gupd (gupd G r (.dic (rowK (ldrop (rowOf rows x) m)))) rd (.dic (rowsK (takeR rows x m)))) b = G b := fun b h1 h2 => by rw [gupd_ne h1, gupd_ne (show b ≠ r from fun e => h2 (e ▸ hrs))]
  have hrow1 : rowOf (takeR rows x m) x = ldrop (rowOf rows x) m := by rw [rowOf_takeR, if_pos rfl]
  have h8 : (rowOf (takeR rows x m) x).length < 8 := by
    rw [hrow1]
    have h1 := ldrop_lt (l := rowOf rows x) (k := m) (by rw [hl]; rfl)
    have h2 := S.small.row x
    omega
  have hno : look (rowOf (takeR rows x m) x) m = none := by rw [hrow1, look_ldrop, if_pos rfl]
  show GSs _ _ _ (gupd (gupd G r (.dic (rowK (ldrop (rowOf rows x) m)))) rd (.dic (rowsK (takeR rows x m)))) _
  generalize gupd (gupd G r (.dic (rowK (ldrop (rowOf rows x) m)))) rd (.dic (rowsK (takeR rows x m))) = G1 at *
  generalize takeR rows x m = R1 at *
  have hr1 := U.at_ i x r e1 e2
  refine gss_cons (gs_set 7 nd (ge_add ge_int (ge_mod (ge_add (ge_var 5 rfl) (ge_fdiv (ge_var 2 rfl) ge_int ⟨by decide, by decide⟩)) ge_int (by decide))) ?_)
  generalize eo : 1 + (m + n / 147) % 999 = om
  have hom : 1 ≤ om ∧ om ≤ 999 := by omega
  -- one put
  have put : ∀ {m' : Int} {l' : List D}, 1 ≤ m' ∧ m' ≤ 999 → Needs x l' → look (rowOf R1 x) m' = none → Side A (gupd (gupd G1 rd (.dic (rowsK (putR R1 x m' l')))) r (.dic (rowK (lput (rowOf R1 x) m' l')))) nm s dx rd o rs (putR R1 x m' l') ∧ ∀ b, b ≠ rd → b ∉ rs → gupd (gupd G1 rd (.dic (rowsK (putR R1 x m' l')))) r (.dic (rowK (lput (rowOf R1 x) m' l'))) b = G b := fun {m' l'} hm hN hno => by
    have h1 := U.put hnm e1 e2 (U.room hl12 hxn) h8 hm hN
    rw [gupd_comm hrd] at h1
    exact ⟨h1, fun b b1 b2 => by rw [gupd_ne (show b ≠ r from fun e => b2 (e ▸ hrs)), gupd_ne b1]; exact fr b b1 b2⟩
  have hgr1 : ∀ {G' : Gs} {ρ : Rho} {Y : Ctx} {b c : Expr} {pos : Pos}, G' o = G1 o → GE Y b ρ G' (.ref o) → GE Y c ρ G' (.str x) → PlainIx c → GE Y (.Subscript b c pos) ρ G' (.ref r) := fun e hb hc hs => ge_ix (gv_view hb (.dicR (by rw [e]; exact U.out))) hc (.dicS hv) hs
  have hor : o ≠ rd := fun e => by have := U.dis; rw [e] at this; simp at this
  refine gss_cut (fun ρ' G' => (∃ ρ6, ρ' = [.dat (.ref s), .dat (.ref o), .dat (.int n), ρ6, .dat (.str x), .dat (.int m), .dat (.lst l), .dat (.int om)]) ∧ ((G' = G1 ∧ ¬ n / 49 % 3 = 1) ∨ (n / 49 % 3 = 1 ∧ ∃ R2, Side A G' nm s dx rd o rs R2 ∧ ∀ b, b ≠ rd → b ∉ rs → G' b = G b))) (gs_if (gt_cmp (gc_eqI (ge_mod (ge_fdiv (ge_var 2 rfl) ge_int ⟨by decide, by decide⟩) ge_int (by decide)) ge_int)) (fun hc => ?_) (fun hc => ?_)) (fun ρ' G' ⟨⟨ρ6, eρ⟩, hG⟩ => ?_)
  · have hN' : Needs x (cutD l (some 1) none) := hN.sub cutD_sub
    obtain ⟨p1, p2⟩ := put ⟨hm1, hm2⟩ hN' hno
    have hpe := U.putErr (m := m) hwx hl12 hxn ⟨hm1, hm2⟩ hN' hno h8
    refine gss_cons (gs_expr (gw_meth (pl := _) T.k_Shop.cls (has_Shop_put T) (ge_var 0 rfl) U.shop.ins rfl (gr_cons (ge_var 4 rfl) (gr_cons (ge_var 5 rfl) (gr_cons (ge_n (gn_slice (gv_ge (ge_var 6 rfl)) (go_some ge_int) go_none)) gr_nil))) ⟨s, dx, rd, R1, _, .str x, _, .int m, _, .lst (cutD l (some 1) none), rfl, U.shop, U.small, .rfl, rfl, fit_ware hwx, .rfl, rfl, .rfl, rfl, hN'.ok.2.1, fun c z => (by rw [hpe] at z; cases z), fun _ => ?_⟩))
    refine gss_one (gs_dput (kI m) (gw_ge (ge_n (gn_slice (gv_ge (ge_var 6 rfl)) (go_some ge_int) go_none)) ⟨.at r, rowK (rowOf R1 x), gp_at (hgr1 (gupd_ne hor) (ge_var 1 rfl) (ge_var 4 rfl) (fun _ _ => rfl)), ge_var 5 rfl, (gupd_ne hrd).trans hr1, by rw [rowK_len]; omega, ⟨_, rfl⟩, .inr ⟨by simpa using hc, putR R1 x m (cutD l (some 1) none), ?_, ?_⟩⟩))
    · show Side A (gupd (gupd G1 rd _) r (.dic (putD (rowK (rowOf R1 x)) (kI m) (.lst (cutD l (some 1) none))))) _ _ _ _ _ _ _
      rw [show putD (rowK (rowOf R1 x)) (kI m) (.lst (cutD l (some 1) none)) = rowK (lput (rowOf R1 x) m (cutD l (some 1) none)) from rowK_put]
      exact p1
    · intro b b1 b2
      show gupd (gupd G1 rd _) r (.dic (putD (rowK (rowOf R1 x)) (kI m) (.lst (cutD l (some 1) none)))) b = _
      rw [show putD (rowK (rowOf R1 x)) (kI m) (.lst (cutD l (some 1) none)) = rowK (lput (rowOf R1 x) m (cutD l (some 1) none)) from rowK_put]
      exact p2 b b1 b2
  · exact gss_nil ⟨⟨_, rfl⟩, .inl ⟨rfl, by simpa using hc⟩⟩
  · subst eρ
    rcases hG with ⟨rfl, hn1⟩ | ⟨hn1, R2, S2, f2⟩
    · refine gss_one (gs_if (gt_w (gtw_and (gt_cmp (gc_eqI (ge_mod (ge_fdiv (ge_var 2 rfl) ge_int ⟨by decide, by decide⟩) ge_int (by decide)) ge_int)) fun _ => (gtw_and1 (gt_cmp (gc_notIn (ge_var 7 rfl) (gv_view (hgr1 rfl (ge_var 1 rfl) (ge_var 4 rfl) (fun _ _ => rfl)) (.dicR hr1)) .dicI))))) (fun hc => ?_) (fun hc => ?_))
      · have hno2 : look (rowOf R1 x) om = none := by
          rw [rowK_val, Option.isSome_map] at hc
          cases e : look (rowOf R1 x) om with
          | none => rfl
          | some v => rw [e] at hc; simp at hc
        obtain ⟨p1, p2⟩ := put hom hN hno2
        have hpe := U.putErr (m := om) hwx hl12 hxn hom hN hno2 h8
        refine gss_cons (gs_expr (gw_meth (pl := _) T.k_Shop.cls (has_Shop_put T) (ge_var 0 rfl) U.shop.ins rfl (gr_cons (ge_var 4 rfl) (gr_cons (ge_var 7 rfl) (gr_cons (ge_n (gn_list T.blt (gv_ge (ge_var 6 rfl)))) gr_nil))) ⟨s, dx, rd, R1, _, .str x, _, .int om, _, .lst l, rfl, U.shop, U.small, .rfl, rfl, fit_ware hwx, .rfl, rfl, .rfl, rfl, hN.ok.2.1, fun c z => (by rw [hpe] at z; cases z), fun _ => ?_⟩))
        refine gss_one (gs_dput (kI om) (gw_ge (ge_var 6 rfl) ⟨.at r, rowK (rowOf R1 x), gp_at (hgr1 (gupd_ne hor) (ge_var 1 rfl) (ge_var 4 rfl) (fun _ _ => rfl)), ge_var 7 rfl, (gupd_ne hrd).trans hr1, by rw [rowK_len]; omega, ?_⟩))
        show PP .non (gupd (gupd _ rd _) r (.dic (putD (rowK (rowOf R1 x)) (kI om) (.lst l))))
        rw [show putD (rowK (rowOf R1 x)) (kI om) (.lst l) = rowK (lput (rowOf R1 x) om l) from rowK_put]
        exact q _ _ p1 p2
      · exact gss_nil (q _ _ U fr)
    · refine gss_one (gs_if (x := false) (gt_is (gt_w (gtw_and (y := true) (gt_cmp (gc_eqI (ge_mod (ge_fdiv (ge_var 2 rfl) ge_int ⟨by decide, by decide⟩) ge_int (by decide)) ge_int)) fun h => (by rw [hn1] at h; cases h))) (by rw [hn1]; rfl)) (fun h => by cases h) (fun _ => gss_nil (q _ _ S2 f2)))
end
end Gh
end

section
set_option Elab.async false
set_option linter.all false
set_option maxRecDepth 100000
set_option maxHeartbeats 4000000
namespace Gh
open PySem PySem.Spec PyProof.Rows L2
/-! law_k04: whether the makes of some pairs are there -/
def prSD (p : Str × Int) : D := .tup [.str p.1, .int p.2]
def sp_lthere (A : Ads) : GSp := fun ds G PP _ => ∃ (s dx rd o : Addr) (rs : List Addr) (rows : Rows) (nm : List Str) (ps : Pick), ds = [.ref o, .lst (ps.map prSD)] ∧ Side A G nm s dx rd o rs rows ∧ nm.Nodup ∧ (∀ p ∈ ps, p.1 ∈ nm) ∧ ps.length < 1000 ∧
  PP (.bl (ps.all fun p => (look (rowOf rows p.1) p.2).isSome)) G
section
variable {P : Program} {w : World} {K : PySem.W.Frag} {mg : Str → Option Value} {base : Heap} {A : Ads}
theorem has__law_there (T : Tx K mg A) : HasF P w K mg base 1 "_law_there" ["_law_rows_here", "_law_pairs"] (sp_lthere A) := by
  refine has_body T.d__law_there sc__law_there (fun ds G P PX h => ?_) (fun f cdv _ outer s0 H E hr F0 R0 ds G PP PX h => ?_)
  · obtain ⟨_, _, _, _, _, _, _, _, rfl, _⟩ := h; rfl
  have nd := nd__law_there
  obtain ⟨s, dx, rd, o, rs, rows, nm, ps, rfl, S, hnm, hps, hpl, q⟩ := h
  refine gss_one (gs_retE (ge_cmp (gc_eqD (gv_ge (ge_n (gn_lcIf (ys := ps) (enc := prSD) (f := fun _ => .int 1) (pr := fun p => !(look (rowOf rows p.1) p.2).isSome) [("_law_ware", 2), ("_law_make", 3)] nd (gic_lst (ge_var 1 rfl) .rfl) (blkOk_by (N := N__law_there) (sc := defScope s__law_there) (by decide +kernel)) (fun y hy => gg_tup (ggs_cons (gg_name 2 nd) (ggs_cons (gg_name 3 nd) ggs_nil))) (by decide) (fun y hy => ?_) (fun y hy _ => ge_int) (by omega) ?_))) (gv_ge (ge_n (gn_lst gr_nil))) ?_ rfl)) ?_)
  · obtain ⟨i, r, z1, z2, hv, hr', hro, hrd⟩ := S.find hnm (hps y hy)
    refine gt_is (gt_cmp (gc_notIn (ge_var 3 rfl) (gv_view (d := .ref r) (ge_is (ge_dget2 (kS y.1) (gv_view (ge_var 0 rfl) (.dicR S.out)) (ge_var 2 rfl) (ge_nd gn_dnew)) (by rw [show kS y.1 = Sum.inr y.1 from rfl, hv]; rfl)) (.dicR hr')) .dicI)) ?_
    rw [rowK_val, Option.isSome_map]
  · rintro j hj ⟨x, e1, e2⟩
    have : j = 2 ∨ j = 3 := by simpa using hj
    rcases this with rfl | rfl
    · cases e1; cases e2
    · cases e1; cases e2
  · rw [D.ok_lst]; exact D.oks_map fun x hx => rfl
  · rw [eqv_nil]
    have e : (List.map (fun _ => D.int 1) (List.filter (fun p => !(look (rowOf rows p.1) p.2).isSome) ps)).isEmpty = ps.all fun p => (look (rowOf rows p.1) p.2).isSome := by
      rw [List.isEmpty_map]
      clear q hps hpl
      induction ps with
      | nil => rfl
      | cons p ps ih =>
        rw [List.filter_cons, List.all_cons]
        cases hh : (look (rowOf rows p.1) p.2).isSome
        · rfl
        · simpa using ih
    rw [e]; exact q
end
end Gh
end

section
set_option Elab.async false
set_option linter.all false
set_option maxRecDepth 100000
set_option maxHeartbeats 8000000
namespace Gh
open PySem PySem.Spec PyProof.Rows L2
/-! law_k07: what is asked -/
structure It where
  sl : Addr
  g : Pick
  d : D
  e : D
  S : List Addr
  b : Bool
def encIt (t : It) : D := .tup [.ref t.sl, t.d, .bl t.b]
structure ItOk (G : Gs) (hh : Addr) (t : It) : Prop where
  at_ : G t.sl = some (.lst (t.g.map prP))
  nd : (t.g.map (·.1)).Nodup
  dv : DV G t.d t.e t.S
  gd : D.gd 50 t.e = true
  ne : t.sl ≠ hh ∧ ∀ a ∈ t.S, a ≠ hh
theorem ItOk.frame {G G' : Gs} {hh : Addr} {t : It} (h : ItOk G hh t) (q : ∀ a ds, G a = some (.lst ds) → a ≠ hh → G' a = G a) : ItOk G' hh t :=
  ⟨by rw [q _ _ h.at_ h.ne.1]; exact h.at_, h.nd, h.dv.frame fun a ha => (by
    obtain ⟨ds, z⟩ := h.dv.here a ha
    exact q a ds z (h.ne.2 a ha)), h.gd, h.ne⟩
theorem ItOk.up {G G' : Gs} {hh : Addr} {t : It} (h : ItOk G hh t) (q : GEx G G') : ItOk G' hh t := h.frame fun a ds z _ => by rw [z]; exact q _ _ z
structure MidOk (G G3 : Gs) (rows : Rows) (sl : Addr) (g : Pick) (d e : D) (S : List Addr) : Prop where
  ex : GEx G G3
  sn : G sl = none
  at_ : G3 sl = some (.lst (g.map prP))
  nd : (g.map (·.1)).Nodup
  ok : PickOk rows g
  dv : DV G3 d e S
  fr : ∀ a ∈ S, G a = none ∧ a ≠ sl
  gd : D.gd 50 e = true
  ndic : e.isDic = false
  keep : ∀ y ss bs, e = .tup [.str y, .lst ss, .lst bs] → ss ≠ [] → ∃ l, d = .tup [.str y, .ref l, .lst bs] ∧ G3 l = some (.lst ss) ∧ ss.length ≤ 900 ∧ l ≠ sl ∧ G l = none
theorem MidOk.put {G G3 : Gs} {rows : Rows} {sl : Addr} {g g' : Pick} {d e : D} {S : List Addr} (M : MidOk G G3 rows sl g d e S) (nd : (g'.map (·.1)).Nodup) (ok : PickOk rows g') : MidOk G (gupd G3 sl (.lst (g'.map prP))) rows sl g' d e S :=
  ⟨fun a o z => by rw [gupd_ne (by rintro rfl; rw [M.sn] at z; cases z)]; exact M.ex _ _ z, M.sn, gupd_same, nd, ok, M.dv.frame fun a ha => gupd_ne (M.fr a ha).2, M.fr, M.gd, M.ndic, fun y ss bs e hne => by
    obtain ⟨l, h1, h2, h3, h4, h5⟩ := M.keep y ss bs e hne
    exact ⟨l, h1, by rw [gupd_ne h4]; exact h2, h3, h4, h5⟩⟩
theorem gd_prs {rows : Rows} {g : Pick} (ok : PickOk rows g) (hl : g.length ≤ 1000) : D.gd 50 (.lst (g.map prP)) = true := by
  refine gd_l (n := 49) (by rw [List.length_map]; exact hl) (D.gds_all.mpr fun d hd => ?_)
  obtain ⟨p, hp, rfl⟩ := List.mem_map.mp hd
  refine gd_t (n := 48) rfl fun d hd => ?_
  simp only [List.mem_cons, List.not_mem_nil, or_false] at hd
  rcases hd with rfl | rfl
  · exact gd_s (fit_ware (ok p hp).1)
  · exact gd_i
theorem prs_pairs (g : Pick) : g.map prP = (pickK g).map pairK := by
  induction g with
  | nil => rfl
  | cons p g ih =>
    rw [List.map_cons, ih]; rfl
theorem mk_side {A : Ads} {G : Gs} {nm : List Str} {s dx rd o : Addr} {rs : List Addr} {rows : Rows} (S : Side A G nm s dx rd o rs rows) : MkOk rows := fun x m hm => by
  have h := makesD_mem.mp hm
  cases e : look (rowOf rows x) m with
  | none => rw [e] at h; cases h
  | some ns =>
    have := S.row (look_mem e)
    exact ⟨this.1, this.2.1⟩
theorem Wish.wh {l : List D} (h : Wish l) : Wh l := ⟨h.1, fun d hd => by
  have z : (decide _ && List.all l D.need) = true := h.ok.1
  rw [Bool.and_eq_true] at z
  exact List.all_eq_true.mp z.2 d hd⟩
theorem seqIx {i : Int} {n : Nat} (h0 : 0 ≤ i) (h1 : i < n) : seqIndex? i n = some i.toNat := by
  unfold seqIndex?
  simp only [show ¬ i < 0 by omega, if_false]
  rw [if_pos (by simp; omega)]
theorem nodup_inr {xs : List Str} (h : xs.Nodup) : (xs.map (Sum.inr : Str → Key)).Nodup := List.Pairwise.map _ (fun a b hne e => hne (Sum.inr.inj e)) h
theorem eqv_bl (b : Bool) : D.eqv (.bl b) (.bl b) = true := by cases b <;> rfl
theorem holds_form {rows : Rows} {wish : List D} {n : Nat} {g : Pick} {e : D} (h : holdsP rows wish (n + 1) g e = true) : ∃ y ss bs, e = .tup [.str y, .lst ss, .lst bs] ∧ ss ≠ [] := by
  by_cases hf : ∃ x ss bs, e = .tup [.str x, .lst ss, .lst bs]
  · obtain ⟨x, ss, bs, rfl⟩ := hf
    refine ⟨x, ss, bs, rfl, ?_⟩
    rintro rfl
    rw [holdsP_mk] at h; cases h
  · rw [holdsP_nf fun x ss bs e => hf ⟨x, ss, bs, e⟩] at h; cases h
theorem mapErase (g : Pick) : ∀ k, (g.map prP).eraseIdx k = (g.eraseIdx k).map prP := by
  induction g with
  | nil => intro k; rfl
  | cons p g ih => intro k; cases k with
    | zero => rfl
    | succ k => rw [List.map_cons, List.eraseIdx_cons_succ, List.eraseIdx_cons_succ, List.map_cons, ih]
theorem setKeys : ∀ (g : Pick) (j : Nat) (x : Str) (m m' : Int), g[j]? = some (x, m) → (g.set j (x, m')).map (·.1) = g.map (·.1)
  | [], j, x, m, m', h => by cases h
  | p :: g, 0, x, m, m', h => by
    have e : p = (x, m) := by simpa using h
    rw [e]; rfl
  | p :: g, j + 1, x, m, m', h => by
    rw [List.set_cons_succ, List.map_cons, setKeys g j x m m' (by simpa using h), List.map_cons]
theorem mem_set {g : Pick} {j : Nat} {a q : Str × Int} (h : q ∈ g.set j a) : q ∈ g ∨ q = a := by
  induction g generalizing j with
  | nil => cases h
  | cons p g ih =>
    cases j with
    | zero =>
      rcases List.mem_cons.mp h with rfl | h
      · exact .inr rfl
      · exact .inl (List.mem_cons_of_mem _ h)
    | succ j =>
      rcases List.mem_cons.mp h with rfl | h
      · exact .inl List.mem_cons_self
      · exact (ih h).imp (List.mem_cons_of_mem _) id
def sp_lthereV (A : Ads) : GSp := fun ds G PP _ => ∃ (s dx rd o : Addr) (rs : List Addr) (rows : Rows) (nm : List Str) (dp : D) (ps : Pick), ds = [.ref o, dp] ∧ ViewD G dp (.lst (ps.map prP)) ∧ Side A G nm s dx rd o rs rows ∧ nm.Nodup ∧ (∀ p ∈ ps, p.1 ∈ nm) ∧ ps.length < 1000 ∧
  PP (.bl (ps.all fun p => (look (rowOf rows p.1) p.2).isSome)) G
section
variable {P : Program} {w : World} {K : PySem.W.Frag} {mg : Str → Option Value} {base : Heap} {A : Ads}
theorem has__law_thereV (T : Tx K mg A) : HasF P w K mg base 1 "_law_there" ["_law_rows_here", "_law_pairs"] (sp_lthereV A) := by
  refine has_body T.d__law_there sc__law_there (fun ds G P PX h => ?_) (fun f cdv _ outer s0 H E hr F0 R0 ds G PP PX h => ?_)
  · obtain ⟨_, _, _, _, _, _, _, _, _, rfl, _⟩ := h; rfl
  have nd := nd__law_there
  obtain ⟨s, dx, rd, o, rs, rows, nm, dp, ps, rfl, hv, S, hnm, hps, hpl, q⟩ := h
  refine gss_one (gs_retE (ge_cmp (gc_eqD (gv_ge (ge_n (gn_lcIf (ys := ps) (enc := prP) (f := fun _ => .int 1) (pr := fun p => !(look (rowOf rows p.1) p.2).isSome) [("_law_ware", 2), ("_law_make", 3)] nd (gic_lst (ge_var 1 rfl) hv) (blkOk_by (N := N__law_there) (sc := defScope s__law_there) (by decide +kernel)) (fun y hy => gg_tup (ggs_cons (gg_name 2 nd) (ggs_cons (gg_name 3 nd) ggs_nil))) (by decide) (fun y hy => ?_) (fun y hy _ => ge_int) (by omega) ?_))) (gv_ge (ge_n (gn_lst gr_nil))) ?_ rfl)) ?_)
  · obtain ⟨i, r, z1, z2, hv', hr', hro, hrd⟩ := S.find hnm (hps y hy)
    refine gt_is (gt_cmp (gc_notIn (ge_var 3 rfl) (gv_view (d := .ref r) (ge_is (ge_dget2 (kS y.1) (gv_view (ge_var 0 rfl) (.dicR S.out)) (ge_var 2 rfl) (ge_nd gn_dnew)) (by rw [show kS y.1 = Sum.inr y.1 from rfl, hv']; rfl)) (.dicR hr')) .dicI)) ?_
    rw [rowK_val, Option.isSome_map]
  · rintro j hj ⟨x, e1, e2⟩
    have : j = 2 ∨ j = 3 := by simpa using hj
    rcases this with rfl | rfl
    · cases e1; cases e2
    · cases e1; cases e2
  · rw [D.ok_lst]; exact D.oks_map fun x hx => rfl
  · rw [eqv_nil]
    have e : (List.map (fun _ => D.int 1) (List.filter (fun p => !(look (rowOf rows p.1) p.2).isSome) ps)).isEmpty = ps.all fun p => (look (rowOf rows p.1) p.2).isSome := by
      rw [List.isEmpty_map]
      clear q hps hpl hv
      induction ps with
      | nil => rfl
      | cons p ps ih =>
        rw [List.filter_cons, List.all_cons]
        cases hh : (look (rowOf rows p.1) p.2).isSome
        · rfl
        · simpa using ih
    rw [e]; exact q
theorem has_law (T : Tx K mg A) : HasF P w K mg base 52 "law" ["_law_script"] (sp_true 63) := by
  refine has_body T.d_law sc_law (fun ds G P PX h => ?_) (fun f cdv _ outer s0 H E hr F0 R0 ds G PP PX h => ?_)
  · obtain ⟨_, rfl, _⟩ := h; rfl
  have nd := nd_law
  obtain ⟨ns, rfl, hns, q⟩ := h
  have hkk : ∀ k, k ≤ 51 → k ≤ (ctx0 P w K mg base N_law "law" (defScope s_law) f cdv ‹_› outer s0 H E 51 hr F0 R0).k := fun k h => h
  refine gss_cons (gs_setW 1 nd (gw_call (has__law_rowsM T) (gr_cons (ge_var 0 rfl) (gr_cons ge_int (gr_cons ge_int gr_nil))) ⟨ns, 5, 3, rfl, by decide, by decide, by decide, by decide, fun G1 nm o rs rows L h2 hl5 hf gx => ?_⟩))
  refine gss_cons (gs_setW 2 nd (gw_call (has__law_wish T) (gr_cons (ge_var 0 rfl) (gr_cons (ge_var 1 rfl) (gr_cons ge_int gr_nil))) ⟨ns, nm, o, rs, rows, 3, rfl, L, by decide, by decide, fun wish wa hwi hwa => ?_⟩))
  have L2 := L.up (gex_new (g := .lst wish) hwa)
  have hwa2 : (gupd G1 wa (.lst wish)) wa = some (.lst wish) := gupd_same
  generalize gupd G1 wa (.lst wish) = G2 at *
  clear hwa L gx hf
  refine gss_cons (gs_setW 3 nd (gw_call (has__law_shop T) (gr_cons (ge_var 1 rfl) gr_nil) ⟨nm, o, rs, rows, rfl, L2, fun s dx rd G3 S hs hrd hsr gx3 => ?_⟩))
  have hwa3 := gx3 _ _ hwa2
  have L3 := L2.up gx3
  have hnm := L3.nmn
  have hwn := L3.ware
  have hpos := L3.pos
  have hr0 : 0 < rows.length := by rw [← List.length_map (f := (·.1)), L3.keys]; exact hpos
  clear L2 hwa2 gx3 hs hrd hsr L3
  have hwo := hwi.ok
  have hwh := hwi.wh
  have sm := S.small
  have hr12 := sm.1
  refine gss_cons (gs_asgW (gw_call (has__law_told T) (gr_cons (ge_var 3 rfl) (gr_cons (ge_var 2 rfl) (gr_cons (ge_gw (gw_call (has__law_mixed T) (gr_cons (ge_var 0 rfl) (gr_cons ge_int gr_nil)) ⟨ns, 300, rfl, by decide, by decide, rfl, rfl⟩)) gr_nil))) ⟨s, dx, rd, rows, .ref wa, wish, _, rfl, S.shop, sm, S.nd, fun p hp => hwn _ (S.keys p hp).1, S.rg, .lstR hwa3, hwo.1, hwo.2.1, mk_side S, mixedI_nn, fun g r pr => ⟨_, _, gg_tup (ggs_cons (gg_name 4 nd) (ggs_cons (gg_name 5 nd) ggs_nil)), ?_⟩⟩))
  obtain ⟨x, ss, bs⟩ := r
  have hgl := pick_le pr.nd pr.ok
  have hrd : bs.dep ≤ 13 := by have e : (Rsn.mk x ss bs).dep = bs.dep := by rw [Rsn.dep]
                               rw [← e]; exact pr.dep
  have gdR : D.gd 42 (encR (.mk x ss bs)) = true := rsn_gd _ 13 pr.good pr.dep
  have hgood := Rsn.good_mk.mp pr.good
  rw [encR_mk] at gdR ⊢
  generalize hss0 : ss.map encSrc = ss0 at *
  have hss0l : ss0.length ≤ 100 := by rw [← hss0, List.length_map]; exact hgood.2.2.1
  refine gss_cons (gs_own 6 nd (gn_lst gr_nil) ?_)
  refine gss_cons (gs_own 7 nd (gn_lst gr_nil) ?_)
  refine gss_pub 7 rfl fun hh hhn => ?_
  have hhwa : wa ≠ hh := by rintro rfl; rw [hwa3] at hhn; cases hhn
  have S1 := S.up (gex_new (g := .lst []) hhn)
  have hwa4 := gex_new (g := .lst []) hhn _ _ hwa3
  have hhh : (gupd G3 hh (.lst [])) hh = some (.lst []) := gupd_same
  generalize gupd G3 hh (.lst []) = G4 at *
  clear S hwa3 hhn
  generalize hbl : bs.list.map encBr = dbs at *
  refine gss_eq (ρ' := [.dat (.lst (ns.map .int)), .dat (.ref o), .dat (.ref wa), .dat (.ref s), .dat (.lst (g.map prP)), .dat (.tup [.str x, .lst ss0, .lst dbs]), .own ([].map encIt), .dat (.ref hh), .unk, .unk, .unk, .unk, .unk, .unk, .unk, .unk, .unk, .unk]) rfl ?_
  refine gss_cut (fun ρ' G' => ∃ (its : List It) (y8 y9 y10 y11 y12 y13 y14 y15 y16 : SV), ρ' = [.dat (.lst (ns.map .int)), .dat (.ref o), .dat (.ref wa), .dat (.ref s), .dat (.lst (g.map prP)), .dat (.tup [.str x, .lst ss0, .lst dbs]), .own (its.map encIt), .dat (.ref hh), y8, y9, y10, y11, y12, y13, y14, y15, y16, .unk] ∧ Side A G' nm s dx rd o rs rows ∧ G' wa = some (.lst wish) ∧ (∃ g0, G' hh = some (.lst g0)) ∧ its.length ≤ 12 ∧ ∀ t ∈ its, ItOk G' hh t ∧ PickOk rows t.g ∧ t.b = holdsP rows wish (rows.length + 1 - t.g.length) t.g t.e) (gs_for (fun _ => PassesOwn.never) (gi_range1 T.blt ge_int (by decide)) (fun i ρ' G' => ∃ (its : List It) (y8 y9 y10 y11 y12 y13 y14 y15 y16 : SV), ρ' = [.dat (.lst (ns.map .int)), .dat (.ref o), .dat (.ref wa), .dat (.ref s), .dat (.lst (g.map prP)), .dat (.tup [.str x, .lst ss0, .lst dbs]), .own (its.map encIt), .dat (.ref hh), y8, y9, y10, y11, y12, y13, y14, y15, y16, .unk] ∧ Side A G' nm s dx rd o rs rows ∧ G' wa = some (.lst wish) ∧ (∃ g0, G' hh = some (.lst g0)) ∧ its.length ≤ i ∧ ∀ t ∈ its, ItOk G' hh t ∧ PickOk rows t.g ∧ t.b = holdsP rows wish (rows.length + 1 - t.g.length) t.g t.e) ⟨[], _, _, _, _, _, _, _, _, _, rfl, S1, hwa4, ⟨_, hhh⟩, Nat.zero_le _, fun _ z => (by cases z)⟩ (fun _ _ _ _ => trivial) (fun i d ρ' G' hi h => ?_) (fun ρ' G' h => ?_)) (fun ρ' G' ⟨its, y8, y9, y10, y11, y12, y13, y14, y15, y16, eρ, S2, hwa5, ⟨g0, hh5⟩, hil, hit⟩ => ?_)
  · clear S1 hwa4 hhh
    obtain ⟨its, y8, y9, y10, y11, y12, y13, y14, y15, y16, rfl, S, hwa, ⟨g0, hhh⟩, hil, hit⟩ := h
    obtain ⟨rfl, hi'⟩ := rngD_get hi
    have hi2 : i < 12 := hi'
    refine ⟨_, _, gg_name 8 nd, ?_⟩
    refine gss_cons (gs_set 9 nd (ge_gw (gw_call (has__law_mixed T) (gr_cons (ge_var 0 rfl) (gr_cons (ge_add ge_int (ge_var 8 rfl)) gr_nil)) ⟨ns, 301 + (0 + (i : Int)), rfl, by omega, by omega, rfl, rfl⟩)) ?_)
    have hn0 : 0 ≤ mixedI ns (301 + (0 + (i : Int))) := mixedI_nn
    generalize mixedI ns (301 + (0 + (i : Int))) = n at *
    refine gss_cons (gs_setW 10 nd (gw_call (hk := by show 43 ≤ 51; decide) (has__law_copyT T 41) (gr_cons (ge_var 5 rfl) gr_nil) ⟨_, x, ss0, dbs, [], rfl, .eq _, gdR, fun l G1 gx1 hl hl1 => ?_⟩))
    refine gss_cons (gs_own 11 nd (gn_list T.blt (gv_ge (ge_var 4 rfl))) ?_)
    refine gss_pub 11 rfl fun sl hsl => ?_
    have gx2 := gx1.trans (gex_new (g := .lst (g.map prP)) hsl)
    have hlsl : l ≠ sl := by rintro rfl; rw [hl1] at hsl; cases hsl
    have hl2 : (gupd G1 sl (.lst (g.map prP))) l = some (.lst ss0) := by rw [gupd_ne hlsl]; exact hl1
    have hsl2 : (gupd G1 sl (.lst (g.map prP))) sl = some (.lst (g.map prP)) := gupd_same
    have hsln : G' sl = none := gx1.none hsl
    generalize gupd G1 sl (.lst (g.map prP)) = G2 at *
    clear hsl gx1 hl1 G1
    refine gss_eq (ρ' := [.dat (.lst (ns.map .int)), .dat (.ref o), .dat (.ref wa), .dat (.ref s), .dat (.lst (g.map prP)), .dat (.tup [.str x, .lst ss0, .lst dbs]), .own (its.map encIt), .dat (.ref hh), .dat (.int (0 + (i : Int))), .dat (.int n), .dat (.tup [.str x, .ref l, .lst dbs]), .dat (.ref sl), y12, y13, y14, y15, y16, .unk]) rfl ?_
    have mid0 : MidOk G' G2 rows sl g (.tup [.str x, .ref l, .lst dbs]) (.tup [.str x, .lst ss0, .lst dbs]) ([] ++ ((l :: []) ++ ([] ++ []))) := by
      refine ⟨gx2, hsln, hsl2, pr.nd, pr.ok, dv_thing hl2, fun a ha => ?_, D.gd_mono _ _ _ (by decide) gdR, rfl, fun y ss' bs' e _ => ?_⟩
      · have : a = l := by simpa using ha
        subst this; exact ⟨hl, hlsl⟩
      · cases e
        exact ⟨l, rfl, hl2, by omega, hlsl, hl⟩
    refine gss_cut (fun ρ' G3 => ∃ (g3 : Pick) (d3 e3 : D) (S3 : List Addr) (y12 y13 : SV), ρ' = [.dat (.lst (ns.map .int)), .dat (.ref o), .dat (.ref wa), .dat (.ref s), .dat (.lst (g.map prP)), .dat (.tup [.str x, .lst ss0, .lst dbs]), .own (its.map encIt), .dat (.ref hh), .dat (.int (0 + (i : Int))), .dat (.int n), .dat d3, .dat (.ref sl), y12, y13, y14, y15, y16, .unk] ∧ MidOk G' G3 rows sl g3 d3 e3 S3) ?_ (fun ρ' G3 ⟨g3, d3, e3, S3, y12, y13, eρ, M⟩ => ?_)
    · refine gs_if (gt_w (gtw_and (gt_cmp (gc_gt (ge_var 8 rfl) ge_int)) fun _ => (gtw_and (gt_cmp (gc_eqI (ge_mod (ge_var 9 rfl) ge_int (by decide)) ge_int)) fun _ => (gtw_and1 (gt_cmp (gc_neE (gv_view (ge_var 11 rfl) (.lstR hsl2)) (gv_ge (ge_n (gn_lst gr_nil))))))))) (fun hc => ?_) (fun _ => ?_)
      · have hg0 : 0 < g.length := by
          rw [Bool.and_eq_true, Bool.and_eq_true] at hc
          cases g with
          | nil => exact absurd hc.2.2 (by simp)
          | cons a t => simp
        obtain ⟨p, ep, hp⟩ := at_mod (xs := g) (i := n / 9) (m := g.length) rfl (by omega)
        have h1 : 0 ≤ n / 9 % (g.length : Int) := Int.emod_nonneg _ (by omega)
        have h2 : n / 9 % (g.length : Int) < g.length := Int.emod_lt_of_pos _ (by omega)
        have hlt : (n / 9 % (g.length : Int)).toNat < g.length := by omega
        have hsx := seqIx h1 h2
        refine gss_one (gs_exprX (gx_popAt (pl := .at sl) (i := n / 9 % (g.length : Int)) (k := (n / 9 % (g.length : Int)).toNat) (d := prP (g[(n / 9 % (g.length : Int)).toNat])) (gp_at (ge_var 11 rfl)) hsl2 (ge_is (ge_mod (ge_fdiv (ge_var 9 rfl) ge_int ⟨by decide, by decide⟩) (ge_len T.blt (gv_view (ge_var 11 rfl) (.lstR hsl2)) .lst) (by rw [List.length_map]; omega)) (by rw [List.length_map])) ⟨by omega, by omega⟩ (by rw [List.length_map]; exact hsx) (by rw [List.getElem?_map, List.getElem?_eq_getElem hlt]; rfl) ⟨g.eraseIdx (n / 9 % (g.length : Int)).toNat, .tup [.str x, .ref l, .lst dbs], .tup [.str x, .lst ss0, .lst dbs], [] ++ ((l :: []) ++ ([] ++ [])), y12, y13, rfl, ?_⟩))
        show MidOk G' (gupd G2 sl (.lst ((g.map prP).eraseIdx _))) rows sl _ _ _ _
        rw [mapErase]
        have hsub := List.eraseIdx_sublist g (n / 9 % (g.length : Int)).toNat
        exact mid0.put (pr.nd.sublist (hsub.map _)) fun z hz => pr.ok z (hsub.subset hz)
      refine gss_one (gs_if (gt_w (gtw_and (gt_cmp (gc_gt (ge_var 8 rfl) ge_int)) fun _ => (gtw_and (gt_cmp (gc_gt (ge_mod (ge_var 9 rfl) ge_int (by decide)) ge_int)) fun _ => (gtw_and1 (gt_cmp (gc_neE (gv_view (ge_var 11 rfl) (.lstR hsl2)) (gv_ge (ge_n (gn_lst gr_nil))))))))) (fun hc => ?_) (fun _ => ?_))
      · have hg0 : 0 < g.length := by
          rw [Bool.and_eq_true, Bool.and_eq_true] at hc
          cases g with
          | nil => exact absurd hc.2.2 (by simp)
          | cons a t => simp
        obtain ⟨p, ep, hp⟩ := at_mod (xs := g) (i := n / 9) (m := g.length) rfl (by omega)
        have h1 : 0 ≤ n / 9 % (g.length : Int) := Int.emod_nonneg _ (by omega)
        have h2 : n / 9 % (g.length : Int) < g.length := Int.emod_lt_of_pos _ (by omega)
        obtain ⟨j, hj⟩ : ∃ j : Nat, n / 9 % (g.length : Int) = j := ⟨(n / 9 % (g.length : Int)).toNat, by omega⟩
        refine gss_cons (gs_set 12 nd (ge_is (ge_mod (ge_fdiv (ge_var 9 rfl) ge_int ⟨by decide, by decide⟩) (ge_len T.blt (gv_view (ge_var 11 rfl) (.lstR hsl2)) .lst) (by rw [List.length_map]; omega)) (by rw [List.length_map, hj])) ?_)
        rw [hj] at ep h2
        have hjl : j < g.length := by omega
        have ej : g[j]? = some p := by
          have := atI_nat (xs := g) (j := j) (List.getElem?_eq_getElem hjl)
          rw [ep] at this; cases this
          exact List.getElem?_eq_getElem hjl
        obtain ⟨px, pm⟩ := p
        have hpo := pr.ok _ hp
        have hpx := S.mem hpo.2
        have S2 := S.up gx2
        obtain ⟨i1, r1, z1, z2, z3, z4, z5, z6⟩ := S2.find hnm hpx
        have i4 : IxD (.lst (g.map prP)) (.int (j : Int)) (.tup [.str px, .int pm]) := .lst (by rw [atI_map, ep]; rfl)
        have hrl : (rowOf rows px).length ≤ 8 := sm.row px
        refine gss_cons (gs_set 13 nd (d := .lst ((sortI ((rowOf rows px).map (·.1))).map .int)) (ge_n (gn_sorted T.blt (gv_view (ge_ix (gv_view (ge_var 1 rfl) (.dicR S2.out)) (ge_ix (d := .str px) (gv_ge (ge_ix (d := .tup [.str px, .int pm]) (gv_view (ge_var 11 rfl) (.lstR hsl2)) (ge_var 12 rfl) i4)) ge_int (.tup rfl)) (.dicS z3)) (.dicR z4)) (.dicI _ rowK_keys (by rw [List.length_map]; omega)))) ?_)
        have hne : 0 < (sortI ((rowOf rows px).map (·.1))).length := by
          rw [sortI_len, List.length_map]
          cases e : rowOf rows px with
          | nil => have := hpo.2; rw [e] at this; cases this
          | cons a t => simp
        obtain ⟨m', em, hm⟩ := at_mod (xs := sortI ((rowOf rows px).map (·.1))) (i := n / 90) (m := (sortI ((rowOf rows px).map (·.1))).length) rfl (by omega)
        have hmk : (look (rowOf rows px) m').isSome = true := makesD_mem.mp (by unfold makesD; exact List.mem_reverse.mpr hm)
        refine gss_one (gs_lput (gw_ge (d := .tup [.str px, .int m']) (ge_tup (gr_cons (ge_ix (d := .str px) (gv_ge (ge_ix (d := .tup [.str px, .int pm]) (gv_view (ge_var 11 rfl) (.lstR hsl2)) (ge_var 12 rfl) i4)) ge_int (.tup rfl)) (gr_cons (ge_ix (d := .int m') (gv_ge (ge_var 13 rfl)) (ge_mod (ge_fdiv (ge_var 9 rfl) ge_int ⟨by decide, by decide⟩) (ge_len T.blt (gv_ge (ge_var 13 rfl)) .lst) (by rw [List.length_map]; omega)) (.lst (by rw [List.length_map, atI_map, em]; rfl))) gr_nil))) ⟨sl, g.map prP, (j : Int), j, ge_var 11 rfl, ge_var 12 rfl, hsl2, ?_, g.set j (px, m'), .tup [.str x, .ref l, .lst dbs], .tup [.str x, .lst ss0, .lst dbs], [] ++ ((l :: []) ++ ([] ++ [])), _, _, rfl, ?_⟩))
        · rw [List.length_map]
          unfold ixN
          first
            | (rw [if_pos (by omega)]; done)
            | (simp; omega)
        · have hset : (g.map prP).set j (prP (px, m')) = (g.set j (px, m')).map prP := List.map_set.symm
          rw [show D.tup [.str px, .int m'] = prP (px, m') from rfl, hset]
          refine mid0.put (by rw [setKeys g j px pm m' ej]; exact pr.nd) fun z hz => ?_
          rcases mem_set hz with hz | rfl
          · exact pr.ok z hz
          · exact ⟨hpo.1, hmk⟩
      refine gss_one (gs_if (gt_cmp (gc_gt (ge_var 8 rfl) ge_int)) (fun _ => ?_) (fun _ => gss_nil ⟨g, _, _, _, _, _, rfl, mid0⟩))
      have S2 := S.up gx2
      have hsl1 : (sortS nm).length = nm.length := sortS_len
      have hnl : (sortS nm ++ [("nothing" : Str)]).length = nm.length + 1 := by rw [List.length_append, hsl1]; rfl
      have hg2 := hgood
      refine gss_one (gs_setW 10 nd (gw_call (hk := by show 16 ≤ 51; decide) (has__law_other T 13) (gr_cons (ge_var 10 rfl) (gr_cons (d := .lst ((sortS nm ++ [("nothing" : Str)]).map .str)) (ge_is (ge_addD (gv_ge (ge_n (gn_sorted T.blt (gv_view (ge_var 1 rfl) (.dicR S2.out)) (.dicS nm (tabK_fst S2.len) (by omega))))) (gv_ge (ge_n (gn_lst (gr_cons ge_str gr_nil)))) (.lst (by rw [List.length_map, hsl1]; simp; omega))) (by rw [List.map_append]; rfl)) (gr_cons (ge_fdiv (ge_var 9 rfl) ge_int ⟨by decide, by decide⟩) gr_nil))) ⟨true, x, ss, bs, .ref l, sortS nm ++ [("nothing" : Str)], n / 9, (by rw [hbl]), (by rw [hss0]; exact .lstR hl2), pr.good, hrd, by omega, by omega, by omega, fun z hz => ?_, fun f _ hf => ?_, (fun z => nomatch z), fun _ l' ss' g1 g2 g3 => ?_⟩))
      · rcases List.mem_append.mp hz with hz | hz
        · exact fit_ware (hwn z (sortS_mem.mp hz))
        · rw [List.mem_singleton.mp hz]; decide +kernel
      · have hf := hf rfl
        rw [hss0] at hf
        obtain ⟨S', hdv, hS'⟩ := hf.dv G2 (.ref l) _ (.ref hl2 (.refl ss0))
        refine ⟨g, f (.ref l), f (.lst ss0), S', y12, y13, rfl, gx2, hsln, hsl2, pr.nd, pr.ok, hdv, fun a ha => ?_, D.gd_mono _ _ _ (by decide) hf.gd, hf.nd, fun y ss' bs' e hne => ?_⟩
        · have : a = l := by simpa using hS' a ha
          subst this; exact ⟨hl, hlsl⟩
        · obtain ⟨e1, e2⟩ := hf.keep y ss' bs' e hne
          subst e1
          exact ⟨l, e2 _, hl2, by omega, hlsl, hl⟩
      · have gx3 := gx2.trans (gex_new (g := .lst ss') g3)
        have hls' : l' ≠ sl := by rintro rfl; rw [hsl2] at g3; cases g3
        have hn' := gx2.none g3
        rw [hbl]
        refine ⟨g, .tup [.str x, .ref l', .lst dbs], .tup [.str x, .lst ss', .lst dbs], [] ++ ((l' :: []) ++ ([] ++ [])), y12, y13, rfl, gx3, hsln, by rw [gupd_ne hls'.symm]; exact hsl2, pr.nd, pr.ok, dv_thing gupd_same, fun a ha => ?_, ?_, rfl, fun y ss'' bs' e _ => ?_⟩
        · have : a = l' := by simpa using ha
          subst this; exact ⟨hn', hls'⟩
        · have gds := D.gds_all.mp (D.gd_tup' (n := 41) gdR).2
          refine gd_t (n := 49) rfl fun d hd => ?_
          simp only [List.mem_cons, List.not_mem_nil, or_false] at hd
          rcases hd with rfl | rfl | rfl
          · exact D.gd_mono _ _ _ (by decide) (gds _ (by simp))
          · exact gd_l (n := 48) (by omega) (D.gds_mono 3 _ _ (by decide) g1)
          · exact D.gd_mono _ _ _ (by decide) (gds _ (by simp))
        · cases e
          exact ⟨l', rfl, gupd_same, by omega, hls', hn'⟩
    · subst eρ
      clear mid0 hl2 hsl2 hlsl hl gx2 hsln
      have S3' := S.up M.ex
      have hwa3 := M.ex _ _ hwa
      have hh3 := M.ex _ _ hhh
      have hgl3 := pick_le M.nd M.ok
      obtain ⟨k, hk⟩ : ∃ k, rows.length + 1 - g3.length = k := ⟨_, rfl⟩
      have hk2 : g3.length + k = rows.length + 1 := by omega
      have hslh : sl ≠ hh := by rintro rfl; rw [M.sn] at hhh; cases hhh
      have hslw : sl ≠ wa := by rintro rfl; rw [M.sn] at hwa; cases hwa
      have hmg : mergeD [] (pickK g3) = pickK g3 := mergeD_app (by rw [List.nil_append, pickK_keys]; exact nodup_inr M.nd)
      refine gss_cons (gs_set 14 nd (ge_gw (gw_call (hk := by show k + 3 ≤ 51; omega) (has__law_holds T k) (gr_cons (ge_var 1 rfl) (gr_cons (ge_var 2 rfl) (gr_cons (ge_nd (gn_dictP (kds := pickK g3) T.blt (gv_view (ge_var 11 rfl) (.lstR (prs_pairs g3 ▸ M.at_))))) (gr_cons (ge_var 10 rfl) gr_nil)))) ⟨s, dx, rd, o, rs, rows, nm, .ref wa, wish, _, g3, d3, e3, S3, rfl, S3', hnm, hwn, .lstR hwa3, hwh, by rw [hmg]; exact .rfl, M.nd, M.ok, hk2, M.dv, M.gd, rfl, rfl⟩)) ?_)
      refine gss_cons (gs_set 15 nd (ge_copy (hk := by show 51 ≤ 51; decide) (has__law_copy T 50) (ge_var 10 rfl) M.dv M.gd) ?_)
      refine gss_cons (gs_exprX (gx_clear (pl := .at hh) (gp_at (ge_var 7 rfl)) hh3 ?_))
      have hsl4 : (gupd G3 hh (.lst [])) sl = some (.lst (g3.map prP)) := by rw [gupd_ne hslh]; exact M.at_
      refine gss_cons (gs_exprX (gx_ext (gp_at (ge_var 7 rfl)) (show (Pl.at hh).putG G3 (.lst []) hh = some (.lst []) from gupd_same) (ge_var 11 rfl) hsl4 (by rw [List.length_map]; simp; omega) ?_))
      have hG : gupd ((Pl.at hh).putG G3 (.lst [])) hh (.lst ([] ++ g3.map prP)) = gupd G3 hh (.lst (g3.map prP)) := gupd_gupd
      rw [hG]
      clear hsl4 hG
      have S5 := S3'.frameL (g := .lst (g3.map prP)) hh3
      have hwa5 : (gupd G3 hh (.lst (g3.map prP))) wa = some (.lst wish) := by rw [gupd_ne hhwa]; exact hwa3
      have hh5 : (gupd G3 hh (.lst (g3.map prP))) hh = some (.lst (g3.map prP)) := gupd_same
      have hsl5 : (gupd G3 hh (.lst (g3.map prP))) sl = some (.lst (g3.map prP)) := by rw [gupd_ne hslh]; exact M.at_
      have hfr : ∀ a ∈ S3, a ≠ hh := fun a ha => by rintro rfl; rw [(M.fr a ha).1] at hhh; cases hhh
      have hdv5 : DV (gupd G3 hh (.lst (g3.map prP))) d3 e3 S3 := M.dv.frame fun a ha => gupd_ne (hfr a ha)
      have hits5 : ∀ t ∈ its, ItOk (gupd G3 hh (.lst (g3.map prP))) hh t ∧ PickOk rows t.g ∧ t.b = holdsP rows wish (rows.length + 1 - t.g.length) t.g t.e := fun t ht => ⟨((hit t ht).1.up M.ex).frame fun a ds z hne => gupd_ne hne, (hit t ht).2⟩
      have hkeep : ∀ y ss bs, e3 = .tup [.str y, .lst ss, .lst bs] → ss ≠ [] → ∃ l, d3 = .tup [.str y, .ref l, .lst bs] ∧ (gupd G3 hh (.lst (g3.map prP))) l = some (.lst ss) ∧ ss.length ≤ 900 ∧ l ≠ hh ∧ l ≠ wa := fun y ss bs e hne => by
        obtain ⟨l, h1, h2, h3, h4, h5⟩ := M.keep y ss bs e hne
        have hlh : l ≠ hh := by rintro rfl; rw [h5] at hhh; cases hhh
        exact ⟨l, h1, by rw [gupd_ne hlh]; exact h2, h3, hlh, by rintro rfl; rw [h5] at hwa; cases hwa⟩
      have gdp := gd_prs M.ok (by omega)
      have hnd3 := M.ndic
      have gd3 := M.gd
      have nd3 := M.nd
      have ok3 := M.ok
      generalize gupd G3 hh (.lst (g3.map prP)) = G5 at *
      clear M S3' hwa3 hh3 hit S hwa hhh
      show GSs _ _ [.dat (.lst (ns.map .int)), .dat (.ref o), .dat (.ref wa), .dat (.ref s), .dat (.lst (g.map prP)), .dat (.tup [.str x, .lst ss0, .lst dbs]), .own (its.map encIt), .dat (.ref hh), .dat (.int (0 + (i : Int))), .dat (.int n), .dat d3, .dat (.ref sl), y12, y13, .dat (.bl (holdsP rows wish k g3 e3)), .dat e3, y16, .unk] _ _
      refine gss_cons (gs_set 16 nd (d := .bl (holdsP rows wish k g3 e3)) (ge_gw (gw_call (hk := by show 19 ≤ 51; decide) (has_holds T) (gr_cons (ge_var 3 rfl) (gr_cons (ge_n (gn_list T.blt (gv_view (ge_var 2 rfl) (.lstR hwa5)))) (gr_cons (ge_var 7 rfl) (gr_cons (ge_var 10 rfl) gr_nil)))) ⟨s, dx, rd, rows, _, wish, .ref hh, g3, d3, e3, S3, rfl, S5.shop, sm, S5.rg, .rfl, hwo.1, hwo.2.1, .lstR hh5, nd3, ok3, hdv5, gd3, by rw [hk], rfl⟩)) ?_)
      refine gss_cons (gs_if (x := false) (gt_is (gt_w (gtw_or (x := false) (gt_is (gt_not (gt_val (ge_isiD T.blt (gv_ge (ge_var 16 rfl)) (ge_ty T.blt.at (by decide +kernel)) (.bl rfl)))) rfl) fun _ => gtw_or (x := false) (gt_is (gt_cmp (gc_neD (gv_ge (ge_var 16 rfl)) (gv_ge (ge_var 14 rfl)) rfl rfl)) (by rw [eqv_bl]; rfl)) fun _ => gtw_or (x := false) (gt_cmp (gc_neZ (ge_var 10 rfl) (ge_var 15 rfl) hdv5 (.eq e3) gd3 hnd3)) fun _ => gtw_or1 (x := false) (gt_cmp (gc_neZ (ge_var 7 rfl) (ge_var 11 rfl) (.ref hh5 (.refl _)) (.ref hsl5 (.refl _)) gdp rfl)))) rfl) (fun z => nomatch z) (fun _ => gss_nil ?_))
      refine gss_cons (gs_app 6 rfl (d := .tup [.ref sl, d3, .bl (holdsP rows wish k g3 e3)]) (ge_tup (gr_cons (ge_var 11 rfl) (gr_cons (ge_var 10 rfl) (gr_cons (ge_var 14 rfl) gr_nil)))) (by rw [List.length_map]; omega) ?_)
      have hall : ∀ t ∈ its ++ [⟨sl, g3, d3, e3, S3, holdsP rows wish k g3 e3⟩], ItOk G5 hh t ∧ PickOk rows t.g ∧ t.b = holdsP rows wish (rows.length + 1 - t.g.length) t.g t.e := fun t ht => by
        rcases List.mem_append.mp ht with ht | ht
        · exact hits5 t ht
        · rw [List.mem_singleton.mp ht]
          exact ⟨⟨hsl5, nd3, hdv5, gd3, hslh, hfr⟩, ok3, by rw [hk]⟩
      have hlen : (its ++ [(⟨sl, g3, d3, e3, S3, holdsP rows wish k g3 e3⟩ : It)]).length ≤ i + 1 := by rw [List.length_append]; exact Nat.succ_le_succ hil
      have hmap : its.map encIt ++ [.tup [.ref sl, d3, .bl (holdsP rows wish k g3 e3)]] = (its ++ [(⟨sl, g3, d3, e3, S3, holdsP rows wish k g3 e3⟩ : It)]).map encIt := by rw [List.map_append]; rfl
      rw [hmap]
      generalize its ++ [(⟨sl, g3, d3, e3, S3, holdsP rows wish k g3 e3⟩ : It)] = its2 at *
      cases hb : holdsP rows wish k g3 e3 with
      | false =>
        refine gss_one (gs_if (x := false) (gt_w (gtw_and (x := false) (y := false) (gt_val (ge_var 14 rfl)) (fun z => nomatch z))) (fun z => nomatch z) (fun _ => gss_nil ⟨its2, _, _, _, _, _, _, _, _, _, rfl, S5, hwa5, ⟨_, hh5⟩, hlen, hall⟩))
      | true =>
        obtain ⟨k1, rfl⟩ : ∃ k1, k = k1 + 1 := ⟨k - 1, by omega⟩
        obtain ⟨y, ss1, bs1, ee, hne⟩ := holds_form hb
        obtain ⟨l1, ed, hl1, hs9, hlh, hlw⟩ := hkeep y ss1 bs1 ee hne
        subst ee ed
        refine gss_one (gs_if (x := false) (gt_w (gtw_and (x := true) (y := false) (gt_val (ge_var 14 rfl)) (fun _ => gtw_and1 (x := false) (gt_not (x := true) (gt_val (ge_gw (gw_call (hk := by show 20 ≤ 51; decide) (has__law_spoilt T) (gr_cons (ge_var 3 rfl) (gr_cons (ge_var 2 rfl) (gr_cons (ge_var 7 rfl) (gr_cons (ge_var 10 rfl) gr_nil)))) ⟨s, dx, rd, rows, wa, wish, hh, g3, y, l1, ss1, bs1, rfl, S5.shop, sm, S5.rg, hwa5, by have := hwi.1; omega, hwo.1, hwo.2.1, hh5, nd3, ok3, hl1, hlw, hlh, hs9, gd3, by rw [hk]; exact hb, rfl, rfl⟩))))))) (fun z => nomatch z) (fun _ => gss_nil ⟨its2, _, _, _, _, _, _, _, _, _, rfl, S5, hwa5, ⟨_, hh5⟩, hlen, hall⟩))
  · obtain ⟨its, y8, y9, y10, y11, y12, y13, y14, y15, y16, rfl, h1, h2, h3, h4, h5⟩ := h
    exact ⟨its, _, _, _, _, _, _, _, _, _, rfl, h1, h2, h3, by rw [rngD_length] at h4; exact h4, h5⟩
  · subst eρ
    clear S1 hwa4 hhh hh5
    refine gss_frz 6 rfl ?_
    refine gss_eq (ρ' := [.dat (.lst (ns.map .int)), .dat (.ref o), .dat (.ref wa), .dat (.ref s), .dat (.lst (g.map prP)), .dat (.tup [.str x, .lst ss0, .lst dbs]), .dat (.lst (its.map encIt)), .dat (.ref hh), y8, y9, y10, y11, y12, y13, y14, y15, y16, .unk]) rfl ?_
    refine gss_cons (gs_if (x := false) (gt_is (gt_cmp (gc_neE (xs := (its.filter fun _ => false).map encIt) (gv_ge (ge_n (gn_lcIf (ys := its) (enc := encIt) (f := encIt) (pr := fun _ => false) [("_law_one", 17)] nd (gic_lst (ge_var 6 rfl) .rfl) (blkOk_by (N := N_law) (sc := defScope s_law) (by decide +kernel)) (fun y hy => gg_name 17 nd) (by decide) (fun t ht => ?_) (fun t ht _ => (ge_var 17 rfl)) (by omega) ?_))) (gv_ge (ge_n (gn_lst gr_nil))))) (by rw [show its.filter (fun _ => false) = [] from List.filter_eq_nil_iff.mpr (fun _ _ z => by cases z)]; rfl)) (fun z => nomatch z) (fun _ => gss_nil ?_))
    · obtain ⟨h1, h2, h3⟩ := hit t ht
      refine gt_is (gt_cmp (gc_neD (d1 := .bl t.b) (d2 := .bl t.b) (gv_ge (ge_gw (gw_call (hk := by show 19 ≤ 51; decide) (has_holds T) (gr_cons (ge_var 3 rfl) (gr_cons (ge_n (gn_list T.blt (gv_view (ge_var 2 rfl) (.lstR hwa5)))) (gr_cons (ge_ix (d := .ref t.sl) (gv_ge (ge_var 17 rfl)) ge_int (.tup rfl)) (gr_cons (ge_ix (d := t.d) (gv_ge (ge_var 17 rfl)) ge_int (.tup rfl)) gr_nil)))) ⟨s, dx, rd, rows, _, wish, _, t.g, _, t.e, t.S, rfl, S2.shop, sm, S2.rg, .rfl, hwo.1, hwo.2.1, .lstR h1.at_, h1.nd, h2, h1.dv, h1.gd, by rw [h3], rfl⟩))) (gv_ge (ge_ix (d := .bl t.b) (gv_ge (ge_var 17 rfl)) ge_int (.tup rfl))) rfl rfl)) (by rw [eqv_bl]; rfl)
    · rintro j hj ⟨x, e1, e2⟩
      have : j = 17 := by simpa using hj
      subst this
      cases e1; cases e2
    refine gss_cons (gs_expr (gw_call (has__law_shop_changed T) (gr_cons (ge_var 3 rfl) (gr_cons (ge_var 1 rfl) (gr_cons (ge_gw (gw_call (has__law_mixed T) (gr_cons (ge_var 0 rfl) (gr_cons ge_int gr_nil)) ⟨ns, 340, rfl, by decide, by decide, rfl, rfl⟩)) gr_nil))) ⟨s, dx, rd, o, rs, rows, nm, _, rfl, S2, hnm, hwn, by omega, hr0, mixedI_nn, fun rows' G5 S5 hf5 => ?_⟩))
    have hwa6 : G5 wa = some (.lst wish) := by rw [hf5 _ (S2.lst hwa5).1 (S2.lst hwa5).2]; exact hwa5
    have hit6 : ∀ t ∈ its, ItOk G5 hh t ∧ ∀ p ∈ t.g, p.1 ∈ nm ∧ wareS p.1 = true := fun t ht => by
      obtain ⟨h1, h2, _⟩ := hit t ht
      exact ⟨h1.frame fun a ds z _ => hf5 a (S2.lst z).1 (S2.lst z).2, fun p hp => ⟨S2.mem (h2 p hp).2, (h2 p hp).1⟩⟩
    have hgl6 : ∀ t ∈ its, t.g.length ≤ 12 := fun t ht => by
      obtain ⟨h1, h2, _⟩ := hit t ht
      have := pick_le h1.nd h2
      omega
    clear hit S2 hf5 hwa5
    have sm' := S5.small
    have hr12' := sm'.1
    refine gss_cons (gs_for (fun _ => PassesOwn.never) (gi_lst (xs := its.reverse.map encIt) (ge_n (gn_is (gn_step (gv_ge (ge_var 6 rfl)) (ge_neg ge_int) (.inr rfl)) (by rw [if_neg (by decide), List.map_reverse]))) .rfl) (fun i ρ' G' => G' = G5 ∧ ∃ (y10 y11 y14 : SV), ρ' = [.dat (.lst (ns.map .int)), .dat (.ref o), .dat (.ref wa), .dat (.ref s), .dat (.lst (g.map prP)), .dat (.tup [.str x, .lst ss0, .lst dbs]), .dat (.lst (its.map encIt)), .dat (.ref hh), y8, y9, y10, y11, y12, y13, y14, y15, y16, .unk]) ⟨rfl, _, _, _, rfl⟩ (fun _ _ _ h => (by rw [h.1]; exact .rfl)) (fun i d ρ' G' hi h => ?_) (fun ρ' G' h => ?_))
    · obtain ⟨rfl, y10, y11, y14, rfl⟩ := h
      rw [List.getElem?_map] at hi
      cases et : its.reverse[i]? with
      | none => rw [et] at hi; cases hi
      | some t =>
        rw [et] at hi; cases hi
        have ht : t ∈ its := List.mem_reverse.mp (List.mem_of_getElem? et)
        obtain ⟨h1, h2⟩ := hit6 t ht
        have h3 := hgl6 t ht
        refine ⟨_, _, gg_tup (ggs_cons (gg_name 11 nd) (ggs_cons (gg_name 10 nd) (ggs_cons (gg_name 14 nd) ggs_nil))), ?_⟩
        refine gss_one (gs_if (gt_val (ge_gw (gw_call (has__law_thereV T) (gr_cons (ge_var 1 rfl) (gr_cons (ge_var 11 rfl) gr_nil)) ⟨s, dx, rd, o, rs, rows', nm, .ref t.sl, t.g, rfl, .lstR h1.at_, S5, hnm, fun p hp => (h2 p hp).1, by omega, rfl, rfl⟩))) (fun hc => ?_) (fun hc => gss_nil ⟨rfl, _, _, _, rfl⟩))
        have po : PickOk rows' t.g := fun p hp => ⟨(h2 p hp).2, List.all_eq_true.mp hc p hp⟩
        have hgl' := pick_le h1.nd po
        have hmg : mergeD [] (pickK t.g) = pickK t.g := mergeD_app (by rw [List.nil_append, pickK_keys]; exact nodup_inr h1.nd)
        refine gss_one (gs_if (x := false) (gt_is (gt_cmp (gc_neD (d1 := .bl (holdsP rows' wish (rows'.length + 1 - t.g.length) t.g t.e)) (d2 := .bl (holdsP rows' wish (rows'.length + 1 - t.g.length) t.g t.e)) (gv_ge (ge_gw (gw_call (hk := by show 19 ≤ 51; decide) (has_holds T) (gr_cons (ge_var 3 rfl) (gr_cons (ge_n (gn_list T.blt (gv_view (ge_var 2 rfl) (.lstR hwa6)))) (gr_cons (ge_var 11 rfl) (gr_cons (ge_var 10 rfl) gr_nil)))) ⟨s, dx, rd, rows', _, wish, _, t.g, _, t.e, t.S, rfl, S5.shop, sm', S5.rg, .rfl, hwo.1, hwo.2.1, .lstR h1.at_, h1.nd, po, h1.dv, h1.gd, rfl, rfl⟩))) (gv_ge (ge_gw (gw_call (hk := by show rows'.length + 1 - t.g.length + 3 ≤ 51; omega) (has__law_holds T (rows'.length + 1 - t.g.length)) (gr_cons (ge_var 1 rfl) (gr_cons (ge_var 2 rfl) (gr_cons (ge_nd (gn_dictP (kds := pickK t.g) T.blt (gv_view (ge_var 11 rfl) (.lstR (prs_pairs t.g ▸ h1.at_))))) (gr_cons (ge_var 10 rfl) gr_nil)))) ⟨s, dx, rd, o, rs, rows', nm, .ref wa, wish, _, t.g, _, t.e, t.S, rfl, S5, hnm, hwn, .lstR hwa6, hwh, by rw [hmg]; exact .rfl, h1.nd, po, by omega, h1.dv, h1.gd, rfl, rfl⟩))) rfl rfl)) (by rw [eqv_bl]; rfl)) (fun z => nomatch z) (fun _ => gss_nil ⟨rfl, _, _, _, rfl⟩))
    · exact gss_one (gs_retE ge_bl (q _))
end
end Gh
end

section
set_option Elab.async false
set_option linter.all false
set_option maxRecDepth 100000
set_option maxHeartbeats 8000000
namespace Gh
open PySem PySem.Spec PyProof.Rows L2
theorem dfn_mk {K : PySem.W.Frag} {h : Heap} {mg : Str → Option Value} (X : K.In h) (G : h.Ns mainGlobals mg) {x : Str} {st : Stmt} {ps : List Str} {f : Addr} {oc : Value} {od an : Option Addr} {osl : Array (Option Value)} {kV dc pm cd ct : Value} (a : PySem.W.nsIn K mainGlobals x = some (some (.ref f))) (l : K.lookup f = some ⟨oc, od, .func (PySem.W.fnOf x x (defArgs st) (defBody st) (defScope st) .none kV dc pm an cd ct), osl⟩) (c : PySem.W.codeIn K cd x = true) (k : PySem.W.keepIn K (.ref f) = true)
    (hb : ∀ us : List Value, us.length = ps.length → bindArgs (PySem.W.fnOf x x (defArgs st) (defBody st) (defScope st) .none kV dc pm an cd ct) ⟨us, []⟩ = pure (ps.zip us)) : Dfn K mg x st ps := ⟨f, _, PySem.W.mg_of X G a, fun_mk l c k, fun s us hl => .of_eq (hb us hl)⟩
theorem dfnm_mk {K : PySem.W.Frag} {C : Addr} {x qual : Str} {st : Stmt} {ps : List Str} {f : Addr} {oc : Value} {od an : Option Addr} {osl : Array (Option Value)} {kV dc pm cd ct : Value} (a : PySem.W.findIn K (.ref C) x = some (some (.ref f))) (i : PySem.W.isFn K (.ref f) = true) (l : K.lookup f = some ⟨oc, od, .func (PySem.W.fnOf x qual (defArgs st) (defBody st) (defScope st) .none kV dc pm an cd ct), osl⟩) (c : PySem.W.codeIn K cd qual = true) (k : PySem.W.keepIn K (.ref f) = true)
    (hb : ∀ us : List Value, us.length = ps.length → bindArgs (PySem.W.fnOf x qual (defArgs st) (defBody st) (defScope st) .none kV dc pm an cd ct) ⟨us, []⟩ = pure (ps.zip us)) : DfnM K C x qual st ps := ⟨f, _, ⟨a, i, k⟩, fun_mk l c k, fun s us hl => .of_eq (hb us hl)⟩
theorem tx_mk {K : PySem.W.Frag} {h : Heap} {mg : Str → Option Value} (X : K.In h) (G : h.Ns mainGlobals mg)
    {f0 f1 f2 f3 f4 f5 f6 f7 f8 f9 f10 f11 f12 f13 f14 f15 f16 f17 f18 f19 f20 f21 f22 f23 f24 f25 f26 f27 f28 f29 f30 f31 f32 f33 f34 f35 f36 f37 f38 f39 f40 f41 f42 f43 f44 f45 f46 f47 f48 f49 f50 f51 f52 : Addr} {od0 an0 od1 an1 od2 an2 od3 an3 od4 an4 od5 an5 od6 an6 od7 an7 od8 an8 od9 an9 od10 an10 od11 an11 od12 an12 od13 an13 od14 an14 od15 an15 od16 an16 od17 an17 od18 an18 od19 an19 od20 an20 od21 an21 od22 an22 od23 an23 od24 an24 od25 an25 od26 an26 od27 an27 od28 an28 od29 an29 od30 an30 od31 an31 od32 an32 od33 an33 od34 an34 od35 an35 od36 an36 od37 an37 od38 an38 od39 an39 od40 an40 od41 an41 od42 an42 od43 an43 od44 an44 od45 an45 od46 an46 od47 an47 od48 an48 od49 an49 od50 an50 od51 an51 od52 an52 : Option Addr} {sl0 sl1 sl2 sl3 sl4 sl5 sl6 sl7 sl8 sl9 sl10 sl11 sl12 sl13 sl14 sl15 sl16 sl17 sl18 sl19 sl20 sl21 sl22 sl23 sl24 sl25 sl26 sl27 sl28 sl29 sl30 sl31 sl32 sl33 sl34 sl35 sl36 sl37 sl38 sl39 sl40 sl41 sl42 sl43 sl44 sl45 sl46 sl47 sl48 sl49 sl50 sl51 sl52 : Array (Option Value)} {oc0 kV0 dc0 pm0 cd0 ct0 oc1 kV1 dc1 pm1 cd1 ct1 oc2 kV2 dc2 pm2 cd2 ct2 oc3 kV3 dc3 pm3 cd3 ct3 oc4 kV4 dc4 pm4 cd4 ct4 oc5 kV5 dc5 pm5 cd5 ct5 oc6 kV6 dc6 pm6 cd6 ct6 oc7 kV7 dc7 pm7 cd7 ct7 oc8 kV8 dc8 pm8 cd8 ct8 oc9 kV9 dc9 pm9 cd9 ct9 oc10 kV10 dc10 pm10 cd10 ct10 oc11 kV11 dc11 pm11 cd11 ct11 oc12 kV12 dc12 pm12 cd12 ct12 oc13 kV13 dc13 pm13 cd13 ct13 oc14 kV14 dc14 pm14 cd14 ct14 oc15 kV15 dc15 pm15 cd15 ct15 oc16 kV16 dc16 pm16 cd16 ct16 oc17 kV17 dc17 pm17 cd17 ct17 oc18 kV18 dc18 pm18 cd18 ct18 oc19 kV19 dc19 pm19 cd19 ct19 oc20 kV20 dc20 pm20 cd20 ct20 oc21 kV21 dc21 pm21 cd21 ct21 oc22 kV22 dc22 pm22 cd22 ct22 oc23 kV23 dc23 pm23 cd23 ct23 oc24 kV24 dc24 pm24 cd24 ct24 oc25 kV25 dc25 pm25 cd25 ct25 oc26 kV26 dc26 pm26 cd26 ct26 oc27 kV27 dc27 pm27 cd27 ct27 oc28 kV28 dc28 pm28 cd28 ct28 oc29 kV29 dc29 pm29 cd29 ct29 oc30 kV30 dc30 pm30 cd30 ct30 oc31 kV31 dc31 pm31 cd31 ct31 oc32 kV32 dc32 pm32 cd32 ct32 oc33 kV33 dc33 pm33 cd33 ct33 oc34 kV34 dc34 pm34 cd34 ct34 oc35 kV35 dc35 pm35 cd35 ct35 oc36 kV36 dc36 pm36 cd36 ct36 oc37 kV37 dc37 pm37 cd37 ct37 oc38 kV38 dc38 pm38 cd38 ct38 oc39 kV39 dc39 pm39 cd39 ct39 oc40 kV40 dc40 pm40 cd40 ct40 oc41 kV41 dc41 pm41 cd41 ct41 oc42 kV42 dc42 pm42 cd42 ct42 oc43 kV43 dc43 pm43 cd43 ct43 oc44 kV44 dc44 pm44 cd44 ct44 oc45 kV45 dc45 pm45 cd45 ct45 oc46 kV46 dc46 pm46 cd46 ct46 oc47 kV47 dc47 pm47 cd47 ct47 oc48 kV48 dc48 pm48 cd48 ct48 oc49 kV49 dc49 pm49 cd49 ct49 oc50 kV50 dc50 pm50 cd50 ct50 oc51 kV51 dc51 pm51 cd51 ct51 oc52 kV52 dc52 pm52 cd52 ct52 : Value} {t_MOST_MAKE : Tok} {t_MOST_SIGNS : Tok} {t_LETTERS : Tok} {t_MOST_WISHES : Tok} {t_MOST_WARES : Tok} {t_MOST_MAKES : Tok} {t_MOST_NEEDS : Tok} {A_PickError : Addr} {A_BadWare : Addr} {A_BadMake : Addr} {A_BadNeed : Addr} {A_Twice : Addr} {A_Full : Addr} {A_NoMake : Addr} {A_BadWish : Addr} {A_BadPick : Addr} {A_Shop : Addr}
    (h_Shop : PySem.W.nsIn K mainGlobals "Shop" = some (some (.ref A_Shop)))
    (h_BadPick : PySem.W.nsIn K mainGlobals "BadPick" = some (some (.ref A_BadPick)))
    (h_BadWish : PySem.W.nsIn K mainGlobals "BadWish" = some (some (.ref A_BadWish)))
    (h_NoMake : PySem.W.nsIn K mainGlobals "NoMake" = some (some (.ref A_NoMake)))
    (h_Full : PySem.W.nsIn K mainGlobals "Full" = some (some (.ref A_Full)))
    (h_Twice : PySem.W.nsIn K mainGlobals "Twice" = some (some (.ref A_Twice)))
    (h_BadNeed : PySem.W.nsIn K mainGlobals "BadNeed" = some (some (.ref A_BadNeed)))
    (h_BadMake : PySem.W.nsIn K mainGlobals "BadMake" = some (some (.ref A_BadMake)))
    (h_BadWare : PySem.W.nsIn K mainGlobals "BadWare" = some (some (.ref A_BadWare)))
    (h_PickError : PySem.W.nsIn K mainGlobals "PickError" = some (some (.ref A_PickError)))
    (a0 : PySem.W.nsIn K mainGlobals "is_whole" = some (some (.ref f0))) (l0 : K.lookup f0 = some ⟨oc0, od0, .func (PySem.W.fnOf "is_whole" "is_whole" (defArgs s_is_whole) (defBody s_is_whole) (defScope s_is_whole) .none kV0 dc0 pm0 an0 cd0 ct0), sl0⟩) (c0 : PySem.W.codeIn K cd0 "is_whole" = true) (k0 : PySem.W.keepIn K (.ref f0) = true)
    (a1 : PySem.W.nsIn K mainGlobals "is_ware" = some (some (.ref f1))) (l1 : K.lookup f1 = some ⟨oc1, od1, .func (PySem.W.fnOf "is_ware" "is_ware" (defArgs s_is_ware) (defBody s_is_ware) (defScope s_is_ware) .none kV1 dc1 pm1 an1 cd1 ct1), sl1⟩) (c1 : PySem.W.codeIn K cd1 "is_ware" = true) (k1 : PySem.W.keepIn K (.ref f1) = true)
    (a2 : PySem.W.nsIn K mainGlobals "is_make" = some (some (.ref f2))) (l2 : K.lookup f2 = some ⟨oc2, od2, .func (PySem.W.fnOf "is_make" "is_make" (defArgs s_is_make) (defBody s_is_make) (defScope s_is_make) .none kV2 dc2 pm2 an2 cd2 ct2), sl2⟩) (c2 : PySem.W.codeIn K cd2 "is_make" = true) (k2 : PySem.W.keepIn K (.ref f2) = true)
    (a3 : PySem.W.nsIn K mainGlobals "is_need" = some (some (.ref f3))) (l3 : K.lookup f3 = some ⟨oc3, od3, .func (PySem.W.fnOf "is_need" "is_need" (defArgs s_is_need) (defBody s_is_need) (defScope s_is_need) .none kV3 dc3 pm3 an3 cd3 ct3), sl3⟩) (c3 : PySem.W.codeIn K cd3 "is_need" = true) (k3 : PySem.W.keepIn K (.ref f3) = true)
    (a4 : PySem.W.nsIn K mainGlobals "joined" = some (some (.ref f4))) (l4 : K.lookup f4 = some ⟨oc4, od4, .func (PySem.W.fnOf "joined" "joined" (defArgs s_joined) (defBody s_joined) (defScope s_joined) .none kV4 dc4 pm4 an4 cd4 ct4), sl4⟩) (c4 : PySem.W.codeIn K cd4 "joined" = true) (k4 : PySem.W.keepIn K (.ref f4) = true)
    (a5 : PySem.W.nsIn K mainGlobals "within" = some (some (.ref f5))) (l5 : K.lookup f5 = some ⟨oc5, od5, .func (PySem.W.fnOf "within" "within" (defArgs s_within) (defBody s_within) (defScope s_within) .none kV5 dc5 pm5 an5 cd5 ct5), sl5⟩) (c5 : PySem.W.codeIn K cd5 "within" = true) (k5 : PySem.W.keepIn K (.ref f5) = true)
    (a6 : PySem.W.nsIn K mainGlobals "need_wish" = some (some (.ref f6))) (l6 : K.lookup f6 = some ⟨oc6, od6, .func (PySem.W.fnOf "need_wish" "need_wish" (defArgs s_need_wish) (defBody s_need_wish) (defScope s_need_wish) .none kV6 dc6 pm6 an6 cd6 ct6), sl6⟩) (c6 : PySem.W.codeIn K cd6 "need_wish" = true) (k6 : PySem.W.keepIn K (.ref f6) = true)
    (a7 : PySem.W.nsIn K mainGlobals "agenda_of" = some (some (.ref f7))) (l7 : K.lookup f7 = some ⟨oc7, od7, .func (PySem.W.fnOf "agenda_of" "agenda_of" (defArgs s_agenda_of) (defBody s_agenda_of) (defScope s_agenda_of) .none kV7 dc7 pm7 an7 cd7 ct7), sl7⟩) (c7 : PySem.W.codeIn K cd7 "agenda_of" = true) (k7 : PySem.W.keepIn K (.ref f7) = true)
    (a8 : PySem.W.nsIn K mainGlobals "need_pairs" = some (some (.ref f8))) (l8 : K.lookup f8 = some ⟨oc8, od8, .func (PySem.W.fnOf "need_pairs" "need_pairs" (defArgs s_need_pairs) (defBody s_need_pairs) (defScope s_need_pairs) .none kV8 dc8 pm8 an8 cd8 ct8), sl8⟩) (c8 : PySem.W.codeIn K cd8 "need_pairs" = true) (k8 : PySem.W.keepIn K (.ref f8) = true)
    (a9 : PySem.W.nsIn K mainGlobals "need_at" = some (some (.ref f9))) (l9 : K.lookup f9 = some ⟨oc9, od9, .func (PySem.W.fnOf "need_at" "need_at" (defArgs s_need_at) (defBody s_need_at) (defScope s_need_at) .none kV9 dc9 pm9 an9 cd9 ct9), sl9⟩) (c9 : PySem.W.codeIn K cd9 "need_at" = true) (k9 : PySem.W.keepIn K (.ref f9) = true)
    (a10 : PySem.W.nsIn K mainGlobals "stretch_of" = some (some (.ref f10))) (l10 : K.lookup f10 = some ⟨oc10, od10, .func (PySem.W.fnOf "stretch_of" "stretch_of" (defArgs s_stretch_of) (defBody s_stretch_of) (defScope s_stretch_of) .none kV10 dc10 pm10 an10 cd10 ct10), sl10⟩) (c10 : PySem.W.codeIn K cd10 "stretch_of" = true) (k10 : PySem.W.keepIn K (.ref f10) = true)
    (a11 : PySem.W.nsIn K mainGlobals "left_of" = some (some (.ref f11))) (l11 : K.lookup f11 = some ⟨oc11, od11, .func (PySem.W.fnOf "left_of" "left_of" (defArgs s_left_of) (defBody s_left_of) (defScope s_left_of) .none kV11 dc11 pm11 an11 cd11 ct11), sl11⟩) (c11 : PySem.W.codeIn K cd11 "left_of" = true) (k11 : PySem.W.keepIn K (.ref f11) = true)
    (a12 : PySem.W.nsIn K mainGlobals "is_shaped" = some (some (.ref f12))) (l12 : K.lookup f12 = some ⟨oc12, od12, .func (PySem.W.fnOf "is_shaped" "is_shaped" (defArgs s_is_shaped) (defBody s_is_shaped) (defScope s_is_shaped) .none kV12 dc12 pm12 an12 cd12 ct12), sl12⟩) (c12 : PySem.W.codeIn K cd12 "is_shaped" = true) (k12 : PySem.W.keepIn K (.ref f12) = true)
    (a13 : PySem.W.nsIn K mainGlobals "is_reason" = some (some (.ref f13))) (l13 : K.lookup f13 = some ⟨oc13, od13, .func (PySem.W.fnOf "is_reason" "is_reason" (defArgs s_is_reason) (defBody s_is_reason) (defScope s_is_reason) .none kV13 dc13 pm13 an13 cd13 ct13), sl13⟩) (c13 : PySem.W.codeIn K cd13 "is_reason" = true) (k13 : PySem.W.keepIn K (.ref f13) = true)
    (a14 : PySem.W.nsIn K mainGlobals "holds" = some (some (.ref f14))) (l14 : K.lookup f14 = some ⟨oc14, od14, .func (PySem.W.fnOf "holds" "holds" (defArgs s_holds) (defBody s_holds) (defScope s_holds) .none kV14 dc14 pm14 an14 cd14 ct14), sl14⟩) (c14 : PySem.W.codeIn K cd14 "holds" = true) (k14 : PySem.W.keepIn K (.ref f14) = true)
    (a15 : PySem.W.nsIn K mainGlobals "sources_for" = some (some (.ref f15))) (l15 : K.lookup f15 = some ⟨oc15, od15, .func (PySem.W.fnOf "sources_for" "sources_for" (defArgs s_sources_for) (defBody s_sources_for) (defScope s_sources_for) .none kV15 dc15 pm15 an15 cd15 ct15), sl15⟩) (c15 : PySem.W.codeIn K cd15 "sources_for" = true) (k15 : PySem.W.keepIn K (.ref f15) = true)
    (a16 : PySem.W.nsIn K mainGlobals "left_by" = some (some (.ref f16))) (l16 : K.lookup f16 = some ⟨oc16, od16, .func (PySem.W.fnOf "left_by" "left_by" (defArgs s_left_by) (defBody s_left_by) (defScope s_left_by) .none kV16 dc16 pm16 an16 cd16 ct16), sl16⟩) (c16 : PySem.W.codeIn K cd16 "left_by" = true) (k16 : PySem.W.keepIn K (.ref f16) = true)
    (a17 : PySem.W.nsIn K mainGlobals "few_sources" = some (some (.ref f17))) (l17 : K.lookup f17 = some ⟨oc17, od17, .func (PySem.W.fnOf "few_sources" "few_sources" (defArgs s_few_sources) (defBody s_few_sources) (defScope s_few_sources) .none kV17 dc17 pm17 an17 cd17 ct17), sl17⟩) (c17 : PySem.W.codeIn K cd17 "few_sources" = true) (k17 : PySem.W.keepIn K (.ref f17) = true)
    (a18 : PySem.W.nsIn K mainGlobals "rests_on" = some (some (.ref f18))) (l18 : K.lookup f18 = some ⟨oc18, od18, .func (PySem.W.fnOf "rests_on" "rests_on" (defArgs s_rests_on) (defBody s_rests_on) (defScope s_rests_on) .none kV18 dc18 pm18 an18 cd18 ct18), sl18⟩) (c18 : PySem.W.codeIn K cd18 "rests_on" = true) (k18 : PySem.W.keepIn K (.ref f18) = true)
    (a19 : PySem.W.nsIn K mainGlobals "dead_end" = some (some (.ref f19))) (l19 : K.lookup f19 = some ⟨oc19, od19, .func (PySem.W.fnOf "dead_end" "dead_end" (defArgs s_dead_end) (defBody s_dead_end) (defScope s_dead_end) .none kV19 dc19 pm19 an19 cd19 ct19), sl19⟩) (c19 : PySem.W.codeIn K cd19 "dead_end" = true) (k19 : PySem.W.keepIn K (.ref f19) = true)
    (a20 : PySem.W.nsIn K mainGlobals "search" = some (some (.ref f20))) (l20 : K.lookup f20 = some ⟨oc20, od20, .func (PySem.W.fnOf "search" "search" (defArgs s_search) (defBody s_search) (defScope s_search) .none kV20 dc20 pm20 an20 cd20 ct20), sl20⟩) (c20 : PySem.W.codeIn K cd20 "search" = true) (k20 : PySem.W.keepIn K (.ref f20) = true)
    (a21 : PySem.W.nsIn K mainGlobals "settle" = some (some (.ref f21))) (l21 : K.lookup f21 = some ⟨oc21, od21, .func (PySem.W.fnOf "settle" "settle" (defArgs s_settle) (defBody s_settle) (defScope s_settle) .none kV21 dc21 pm21 an21 cd21 ct21), sl21⟩) (c21 : PySem.W.codeIn K cd21 "settle" = true) (k21 : PySem.W.keepIn K (.ref f21) = true)
    (a22 : PySem.W.nsIn K mainGlobals "need_ware" = some (some (.ref f22))) (l22 : K.lookup f22 = some ⟨oc22, od22, .func (PySem.W.fnOf "need_ware" "need_ware" (defArgs s_need_ware) (defBody s_need_ware) (defScope s_need_ware) .none kV22 dc22 pm22 an22 cd22 ct22), sl22⟩) (c22 : PySem.W.codeIn K cd22 "need_ware" = true) (k22 : PySem.W.keepIn K (.ref f22) = true)
    (a23 : PySem.W.nsIn K mainGlobals "need_needs" = some (some (.ref f23))) (l23 : K.lookup f23 = some ⟨oc23, od23, .func (PySem.W.fnOf "need_needs" "need_needs" (defArgs s_need_needs) (defBody s_need_needs) (defScope s_need_needs) .none kV23 dc23 pm23 an23 cd23 ct23), sl23⟩) (c23 : PySem.W.codeIn K cd23 "need_needs" = true) (k23 : PySem.W.keepIn K (.ref f23) = true)
    (a24 : PySem.W.findIn K (.ref A_Shop) "__init__" = some (some (.ref f24))) (i24 : PySem.W.isFn K (.ref f24) = true) (l24 : K.lookup f24 = some ⟨oc24, od24, .func (PySem.W.fnOf "__init__" "Shop.__init__" (defArgs s_Shopu_initu) (defBody s_Shopu_initu) (defScope s_Shopu_initu) .none kV24 dc24 pm24 an24 cd24 ct24), sl24⟩) (c24 : PySem.W.codeIn K cd24 "Shop.__init__" = true) (k24 : PySem.W.keepIn K (.ref f24) = true)
    (a25 : PySem.W.findIn K (.ref A_Shop) "put" = some (some (.ref f25))) (i25 : PySem.W.isFn K (.ref f25) = true) (l25 : K.lookup f25 = some ⟨oc25, od25, .func (PySem.W.fnOf "put" "Shop.put" (defArgs s_Shop_put) (defBody s_Shop_put) (defScope s_Shop_put) .none kV25 dc25 pm25 an25 cd25 ct25), sl25⟩) (c25 : PySem.W.codeIn K cd25 "Shop.put" = true) (k25 : PySem.W.keepIn K (.ref f25) = true)
    (a26 : PySem.W.findIn K (.ref A_Shop) "has" = some (some (.ref f26))) (i26 : PySem.W.isFn K (.ref f26) = true) (l26 : K.lookup f26 = some ⟨oc26, od26, .func (PySem.W.fnOf "has" "Shop.has" (defArgs s_Shop_has) (defBody s_Shop_has) (defScope s_Shop_has) .none kV26 dc26 pm26 an26 cd26 ct26), sl26⟩) (c26 : PySem.W.codeIn K cd26 "Shop.has" = true) (k26 : PySem.W.keepIn K (.ref f26) = true)
    (a27 : PySem.W.findIn K (.ref A_Shop) "take" = some (some (.ref f27))) (i27 : PySem.W.isFn K (.ref f27) = true) (l27 : K.lookup f27 = some ⟨oc27, od27, .func (PySem.W.fnOf "take" "Shop.take" (defArgs s_Shop_take) (defBody s_Shop_take) (defScope s_Shop_take) .none kV27 dc27 pm27 an27 cd27 ct27), sl27⟩) (c27 : PySem.W.codeIn K cd27 "Shop.take" = true) (k27 : PySem.W.keepIn K (.ref f27) = true)
    (a28 : PySem.W.findIn K (.ref A_Shop) "makes" = some (some (.ref f28))) (i28 : PySem.W.isFn K (.ref f28) = true) (l28 : K.lookup f28 = some ⟨oc28, od28, .func (PySem.W.fnOf "makes" "Shop.makes" (defArgs s_Shop_makes) (defBody s_Shop_makes) (defScope s_Shop_makes) .none kV28 dc28 pm28 an28 cd28 ct28), sl28⟩) (c28 : PySem.W.codeIn K cd28 "Shop.makes" = true) (k28 : PySem.W.keepIn K (.ref f28) = true)
    (a29 : PySem.W.findIn K (.ref A_Shop) "needs" = some (some (.ref f29))) (i29 : PySem.W.isFn K (.ref f29) = true) (l29 : K.lookup f29 = some ⟨oc29, od29, .func (PySem.W.fnOf "needs" "Shop.needs" (defArgs s_Shop_needs) (defBody s_Shop_needs) (defScope s_Shop_needs) .none kV29 dc29 pm29 an29 cd29 ct29), sl29⟩) (c29 : PySem.W.codeIn K cd29 "Shop.needs" = true) (k29 : PySem.W.keepIn K (.ref f29) = true)
    (a30 : PySem.W.findIn K (.ref A_Shop) "wares" = some (some (.ref f30))) (i30 : PySem.W.isFn K (.ref f30) = true) (l30 : K.lookup f30 = some ⟨oc30, od30, .func (PySem.W.fnOf "wares" "Shop.wares" (defArgs s_Shop_wares) (defBody s_Shop_wares) (defScope s_Shop_wares) .none kV30 dc30 pm30 an30 cd30 ct30), sl30⟩) (c30 : PySem.W.codeIn K cd30 "Shop.wares" = true) (k30 : PySem.W.keepIn K (.ref f30) = true)
    (a31 : PySem.W.nsIn K mainGlobals "_law_mixed" = some (some (.ref f31))) (l31 : K.lookup f31 = some ⟨oc31, od31, .func (PySem.W.fnOf "_law_mixed" "_law_mixed" (defArgs s__law_mixed) (defBody s__law_mixed) (defScope s__law_mixed) .none kV31 dc31 pm31 an31 cd31 ct31), sl31⟩) (c31 : PySem.W.codeIn K cd31 "_law_mixed" = true) (k31 : PySem.W.keepIn K (.ref f31) = true)
    (a32 : PySem.W.nsIn K mainGlobals "_law_names" = some (some (.ref f32))) (l32 : K.lookup f32 = some ⟨oc32, od32, .func (PySem.W.fnOf "_law_names" "_law_names" (defArgs s__law_names) (defBody s__law_names) (defScope s__law_names) .none kV32 dc32 pm32 an32 cd32 ct32), sl32⟩) (c32 : PySem.W.codeIn K cd32 "_law_names" = true) (k32 : PySem.W.keepIn K (.ref f32) = true)
    (a33 : PySem.W.nsIn K mainGlobals "_law_stretch" = some (some (.ref f33))) (l33 : K.lookup f33 = some ⟨oc33, od33, .func (PySem.W.fnOf "_law_stretch" "_law_stretch" (defArgs s__law_stretch) (defBody s__law_stretch) (defScope s__law_stretch) .none kV33 dc33 pm33 an33 cd33 ct33), sl33⟩) (c33 : PySem.W.codeIn K cd33 "_law_stretch" = true) (k33 : PySem.W.keepIn K (.ref f33) = true)
    (a34 : PySem.W.nsIn K mainGlobals "_law_needs" = some (some (.ref f34))) (l34 : K.lookup f34 = some ⟨oc34, od34, .func (PySem.W.fnOf "_law_needs" "_law_needs" (defArgs s__law_needs) (defBody s__law_needs) (defScope s__law_needs) .none kV34 dc34 pm34 an34 cd34 ct34), sl34⟩) (c34 : PySem.W.codeIn K cd34 "_law_needs" = true) (k34 : PySem.W.keepIn K (.ref f34) = true)
    (a35 : PySem.W.nsIn K mainGlobals "_law_rows" = some (some (.ref f35))) (l35 : K.lookup f35 = some ⟨oc35, od35, .func (PySem.W.fnOf "_law_rows" "_law_rows" (defArgs s__law_rows) (defBody s__law_rows) (defScope s__law_rows) .none kV35 dc35 pm35 an35 cd35 ct35), sl35⟩) (c35 : PySem.W.codeIn K cd35 "_law_rows" = true) (k35 : PySem.W.keepIn K (.ref f35) = true)
    (a36 : PySem.W.nsIn K mainGlobals "_law_wish" = some (some (.ref f36))) (l36 : K.lookup f36 = some ⟨oc36, od36, .func (PySem.W.fnOf "_law_wish" "_law_wish" (defArgs s__law_wish) (defBody s__law_wish) (defScope s__law_wish) .none kV36 dc36 pm36 an36 cd36 ct36), sl36⟩) (c36 : PySem.W.codeIn K cd36 "_law_wish" = true) (k36 : PySem.W.keepIn K (.ref f36) = true)
    (a37 : PySem.W.nsIn K mainGlobals "_law_shop" = some (some (.ref f37))) (l37 : K.lookup f37 = some ⟨oc37, od37, .func (PySem.W.fnOf "_law_shop" "_law_shop" (defArgs s__law_shop) (defBody s__law_shop) (defScope s__law_shop) .none kV37 dc37 pm37 an37 cd37 ct37), sl37⟩) (c37 : PySem.W.codeIn K cd37 "_law_shop" = true) (k37 : PySem.W.keepIn K (.ref f37) = true)
    (a38 : PySem.W.nsIn K mainGlobals "_law_place" = some (some (.ref f38))) (l38 : K.lookup f38 = some ⟨oc38, od38, .func (PySem.W.fnOf "_law_place" "_law_place" (defArgs s__law_place) (defBody s__law_place) (defScope s__law_place) .none kV38 dc38 pm38 an38 cd38 ct38), sl38⟩) (c38 : PySem.W.codeIn K cd38 "_law_place" = true) (k38 : PySem.W.keepIn K (.ref f38) = true)
    (a39 : PySem.W.nsIn K mainGlobals "_law_granted" = some (some (.ref f39))) (l39 : K.lookup f39 = some ⟨oc39, od39, .func (PySem.W.fnOf "_law_granted" "_law_granted" (defArgs s__law_granted) (defBody s__law_granted) (defScope s__law_granted) .none kV39 dc39 pm39 an39 cd39 ct39), sl39⟩) (c39 : PySem.W.codeIn K cd39 "_law_granted" = true) (k39 : PySem.W.keepIn K (.ref f39) = true)
    (a40 : PySem.W.nsIn K mainGlobals "_law_source" = some (some (.ref f40))) (l40 : K.lookup f40 = some ⟨oc40, od40, .func (PySem.W.fnOf "_law_source" "_law_source" (defArgs s__law_source) (defBody s__law_source) (defScope s__law_source) .none kV40 dc40 pm40 an40 cd40 ct40), sl40⟩) (c40 : PySem.W.codeIn K cd40 "_law_source" = true) (k40 : PySem.W.keepIn K (.ref f40) = true)
    (a41 : PySem.W.nsIn K mainGlobals "_law_holds" = some (some (.ref f41))) (l41 : K.lookup f41 = some ⟨oc41, od41, .func (PySem.W.fnOf "_law_holds" "_law_holds" (defArgs s__law_holds) (defBody s__law_holds) (defScope s__law_holds) .none kV41 dc41 pm41 an41 cd41 ct41), sl41⟩) (c41 : PySem.W.codeIn K cd41 "_law_holds" = true) (k41 : PySem.W.keepIn K (.ref f41) = true)
    (a42 : PySem.W.nsIn K mainGlobals "_law_told" = some (some (.ref f42))) (l42 : K.lookup f42 = some ⟨oc42, od42, .func (PySem.W.fnOf "_law_told" "_law_told" (defArgs s__law_told) (defBody s__law_told) (defScope s__law_told) .none kV42 dc42 pm42 an42 cd42 ct42), sl42⟩) (c42 : PySem.W.codeIn K cd42 "_law_told" = true) (k42 : PySem.W.keepIn K (.ref f42) = true)
    (a43 : PySem.W.nsIn K mainGlobals "_law_odd_source" = some (some (.ref f43))) (l43 : K.lookup f43 = some ⟨oc43, od43, .func (PySem.W.fnOf "_law_odd_source" "_law_odd_source" (defArgs s__law_odd_source) (defBody s__law_odd_source) (defScope s__law_odd_source) .none kV43 dc43 pm43 an43 cd43 ct43), sl43⟩) (c43 : PySem.W.codeIn K cd43 "_law_odd_source" = true) (k43 : PySem.W.keepIn K (.ref f43) = true)
    (a44 : PySem.W.nsIn K mainGlobals "_law_truths" = some (some (.ref f44))) (l44 : K.lookup f44 = some ⟨oc44, od44, .func (PySem.W.fnOf "_law_truths" "_law_truths" (defArgs s__law_truths) (defBody s__law_truths) (defScope s__law_truths) .none kV44 dc44 pm44 an44 cd44 ct44), sl44⟩) (c44 : PySem.W.codeIn K cd44 "_law_truths" = true) (k44 : PySem.W.keepIn K (.ref f44) = true)
    (a45 : PySem.W.nsIn K mainGlobals "_law_other_sources" = some (some (.ref f45))) (l45 : K.lookup f45 = some ⟨oc45, od45, .func (PySem.W.fnOf "_law_other_sources" "_law_other_sources" (defArgs s__law_other_sources) (defBody s__law_other_sources) (defScope s__law_other_sources) .none kV45 dc45 pm45 an45 cd45 ct45), sl45⟩) (c45 : PySem.W.codeIn K cd45 "_law_other_sources" = true) (k45 : PySem.W.keepIn K (.ref f45) = true)
    (a46 : PySem.W.nsIn K mainGlobals "_law_other_branches" = some (some (.ref f46))) (l46 : K.lookup f46 = some ⟨oc46, od46, .func (PySem.W.fnOf "_law_other_branches" "_law_other_branches" (defArgs s__law_other_branches) (defBody s__law_other_branches) (defScope s__law_other_branches) .none kV46 dc46 pm46 an46 cd46 ct46), sl46⟩) (c46 : PySem.W.codeIn K cd46 "_law_other_branches" = true) (k46 : PySem.W.keepIn K (.ref f46) = true)
    (a47 : PySem.W.nsIn K mainGlobals "_law_other" = some (some (.ref f47))) (l47 : K.lookup f47 = some ⟨oc47, od47, .func (PySem.W.fnOf "_law_other" "_law_other" (defArgs s__law_other) (defBody s__law_other) (defScope s__law_other) .none kV47 dc47 pm47 an47 cd47 ct47), sl47⟩) (c47 : PySem.W.codeIn K cd47 "_law_other" = true) (k47 : PySem.W.keepIn K (.ref f47) = true)
    (a48 : PySem.W.nsIn K mainGlobals "_law_copy" = some (some (.ref f48))) (l48 : K.lookup f48 = some ⟨oc48, od48, .func (PySem.W.fnOf "_law_copy" "_law_copy" (defArgs s__law_copy) (defBody s__law_copy) (defScope s__law_copy) .none kV48 dc48 pm48 an48 cd48 ct48), sl48⟩) (c48 : PySem.W.codeIn K cd48 "_law_copy" = true) (k48 : PySem.W.keepIn K (.ref f48) = true)
    (a49 : PySem.W.nsIn K mainGlobals "_law_shop_changed" = some (some (.ref f49))) (l49 : K.lookup f49 = some ⟨oc49, od49, .func (PySem.W.fnOf "_law_shop_changed" "_law_shop_changed" (defArgs s__law_shop_changed) (defBody s__law_shop_changed) (defScope s__law_shop_changed) .none kV49 dc49 pm49 an49 cd49 ct49), sl49⟩) (c49 : PySem.W.codeIn K cd49 "_law_shop_changed" = true) (k49 : PySem.W.keepIn K (.ref f49) = true)
    (a50 : PySem.W.nsIn K mainGlobals "_law_there" = some (some (.ref f50))) (l50 : K.lookup f50 = some ⟨oc50, od50, .func (PySem.W.fnOf "_law_there" "_law_there" (defArgs s__law_there) (defBody s__law_there) (defScope s__law_there) .none kV50 dc50 pm50 an50 cd50 ct50), sl50⟩) (c50 : PySem.W.codeIn K cd50 "_law_there" = true) (k50 : PySem.W.keepIn K (.ref f50) = true)
    (a51 : PySem.W.nsIn K mainGlobals "_law_spoilt" = some (some (.ref f51))) (l51 : K.lookup f51 = some ⟨oc51, od51, .func (PySem.W.fnOf "_law_spoilt" "_law_spoilt" (defArgs s__law_spoilt) (defBody s__law_spoilt) (defScope s__law_spoilt) .none kV51 dc51 pm51 an51 cd51 ct51), sl51⟩) (c51 : PySem.W.codeIn K cd51 "_law_spoilt" = true) (k51 : PySem.W.keepIn K (.ref f51) = true)
    (a52 : PySem.W.nsIn K mainGlobals "law" = some (some (.ref f52))) (l52 : K.lookup f52 = some ⟨oc52, od52, .func (PySem.W.fnOf "law" "law" (defArgs s_law) (defBody s_law) (defScope s_law) .none kV52 dc52 pm52 an52 cd52 ct52), sl52⟩) (c52 : PySem.W.codeIn K cd52 "law" = true) (k52 : PySem.W.keepIn K (.ref f52) = true)
    (g_MOST_MAKE : PySem.W.nsIn K mainGlobals "MOST_MAKE" = some (some (.int 999 t_MOST_MAKE)))
    (g_MOST_SIGNS : PySem.W.nsIn K mainGlobals "MOST_SIGNS" = some (some (.int 8 t_MOST_SIGNS)))
    (g_LETTERS : PySem.W.nsIn K mainGlobals "LETTERS" = some (some (.str "abcdefghijklmnopqrstuvwxyz" t_LETTERS)))
    (g_MOST_WISHES : PySem.W.nsIn K mainGlobals "MOST_WISHES" = some (some (.int 8 t_MOST_WISHES)))
    (g_MOST_WARES : PySem.W.nsIn K mainGlobals "MOST_WARES" = some (some (.int 12 t_MOST_WARES)))
    (g_MOST_MAKES : PySem.W.nsIn K mainGlobals "MOST_MAKES" = some (some (.int 8 t_MOST_MAKES)))
    (g_MOST_NEEDS : PySem.W.nsIn K mainGlobals "MOST_NEEDS" = some (some (.int 6 t_MOST_NEEDS)))
    (b_len : PySem.W.nsIn K mainGlobals "len" = some none)
    (b_isinstance : PySem.W.nsIn K mainGlobals "isinstance" = some none)
    (b_int : PySem.W.nsIn K mainGlobals "int" = some none)
    (b_bool : PySem.W.nsIn K mainGlobals "bool" = some none)
    (b_str : PySem.W.nsIn K mainGlobals "str" = some none)
    (b_list : PySem.W.nsIn K mainGlobals "list" = some none)
    (b_tuple : PySem.W.nsIn K mainGlobals "tuple" = some none)
    (b_dict : PySem.W.nsIn K mainGlobals "dict" = some none)
    (b_max : PySem.W.nsIn K mainGlobals "max" = some none)
    (b_min : PySem.W.nsIn K mainGlobals "min" = some none)
    (b_range : PySem.W.nsIn K mainGlobals "range" = some none)
    (b_sorted : PySem.W.nsIn K mainGlobals "sorted" = some none)
    (b_reversed : PySem.W.nsIn K mainGlobals "reversed" = some none)
    (b_enumerate : PySem.W.nsIn K mainGlobals "enumerate" = some none)
    (b_zip : PySem.W.nsIn K mainGlobals "zip" = some none)
    (b_all : PySem.W.nsIn K mainGlobals "all" = some none)
    (b_set : PySem.W.nsIn K mainGlobals "set" = some none)
    (b_ValueError : PySem.W.nsIn K mainGlobals "ValueError" = some none)
    (pg_Shop : PySem.W.plainGet K A_Shop Str.empty = true)
    (hd_Shop : PySem.W.hasDictIn K A_Shop = true)
    (po_Shop : PySem.W.plainOver K A_Shop = true)
    (sa_Shop : PySem.W.findIn K (.ref A_Shop) "__setattr__" = some (some (.builtin "object.__setattr__")))
    (mk_Shop : PySem.W.makesIn K A_Shop = true)
    (kp_Shop : PySem.W.keepIn K (.ref A_Shop) = true)
    (n_Shop_rows : PySem.W.findIn K (.ref A_Shop) "rows" = some none)
    (q_PickError : PySem.W.excIn K A_PickError [.type "ValueError", .type "Exception", .type "BaseException", .type "object"] "ValueError.__new__" = true)
    (kp_PickError : PySem.W.keepIn K (.ref A_PickError) = true)
    (sub_PickError : PySem.W.subIn K (.ref A_PickError) (.type "BaseException") = some true)
    (ty_PickError : PySem.W.typeIn K (.ref A_PickError) = some (.type "type"))
    (q_BadWare : PySem.W.excIn K A_BadWare [.type "ValueError", .type "Exception", .type "BaseException", .type "object"] "ValueError.__new__" = true)
    (kp_BadWare : PySem.W.keepIn K (.ref A_BadWare) = true)
    (sub_BadWare : PySem.W.subIn K (.ref A_BadWare) (.type "BaseException") = some true)
    (ty_BadWare : PySem.W.typeIn K (.ref A_BadWare) = some (.type "type"))
    (q_BadMake : PySem.W.excIn K A_BadMake [.type "ValueError", .type "Exception", .type "BaseException", .type "object"] "ValueError.__new__" = true)
    (kp_BadMake : PySem.W.keepIn K (.ref A_BadMake) = true)
    (sub_BadMake : PySem.W.subIn K (.ref A_BadMake) (.type "BaseException") = some true)
    (ty_BadMake : PySem.W.typeIn K (.ref A_BadMake) = some (.type "type"))
    (q_BadNeed : PySem.W.excIn K A_BadNeed [.type "ValueError", .type "Exception", .type "BaseException", .type "object"] "ValueError.__new__" = true)
    (kp_BadNeed : PySem.W.keepIn K (.ref A_BadNeed) = true)
    (sub_BadNeed : PySem.W.subIn K (.ref A_BadNeed) (.type "BaseException") = some true)
    (ty_BadNeed : PySem.W.typeIn K (.ref A_BadNeed) = some (.type "type"))
    (q_Twice : PySem.W.excIn K A_Twice [.type "ValueError", .type "Exception", .type "BaseException", .type "object"] "ValueError.__new__" = true)
    (kp_Twice : PySem.W.keepIn K (.ref A_Twice) = true)
    (sub_Twice : PySem.W.subIn K (.ref A_Twice) (.type "BaseException") = some true)
    (ty_Twice : PySem.W.typeIn K (.ref A_Twice) = some (.type "type"))
    (q_Full : PySem.W.excIn K A_Full [.type "ValueError", .type "Exception", .type "BaseException", .type "object"] "ValueError.__new__" = true)
    (kp_Full : PySem.W.keepIn K (.ref A_Full) = true)
    (sub_Full : PySem.W.subIn K (.ref A_Full) (.type "BaseException") = some true)
    (ty_Full : PySem.W.typeIn K (.ref A_Full) = some (.type "type"))
    (q_NoMake : PySem.W.excIn K A_NoMake [.type "ValueError", .type "Exception", .type "BaseException", .type "object"] "ValueError.__new__" = true)
    (kp_NoMake : PySem.W.keepIn K (.ref A_NoMake) = true)
    (sub_NoMake : PySem.W.subIn K (.ref A_NoMake) (.type "BaseException") = some true)
    (ty_NoMake : PySem.W.typeIn K (.ref A_NoMake) = some (.type "type"))
    (q_BadWish : PySem.W.excIn K A_BadWish [.type "ValueError", .type "Exception", .type "BaseException", .type "object"] "ValueError.__new__" = true)
    (kp_BadWish : PySem.W.keepIn K (.ref A_BadWish) = true)
    (sub_BadWish : PySem.W.subIn K (.ref A_BadWish) (.type "BaseException") = some true)
    (ty_BadWish : PySem.W.typeIn K (.ref A_BadWish) = some (.type "type"))
    (q_BadPick : PySem.W.excIn K A_BadPick [.type "ValueError", .type "Exception", .type "BaseException", .type "object"] "ValueError.__new__" = true)
    (kp_BadPick : PySem.W.keepIn K (.ref A_BadPick) = true)
    (sub_BadPick : PySem.W.subIn K (.ref A_BadPick) (.type "BaseException") = some true)
    (ty_BadPick : PySem.W.typeIn K (.ref A_BadPick) = some (.type "type"))
    : Tx K mg ⟨A_PickError, A_BadWare, A_BadMake, A_BadNeed, A_Twice, A_Full, A_NoMake, A_BadWish, A_BadPick, A_Shop⟩ where
  blt := ⟨fun x hx => by
    simp only [List.mem_cons, List.not_mem_nil, or_false] at hx
    rcases hx with rfl | rfl | rfl | rfl | rfl | rfl | rfl | rfl | rfl | rfl | rfl | rfl | rfl | rfl | rfl | rfl | rfl | rfl
    · exact PySem.W.mg_none_of X G b_len
    · exact PySem.W.mg_none_of X G b_isinstance
    · exact PySem.W.mg_none_of X G b_int
    · exact PySem.W.mg_none_of X G b_bool
    · exact PySem.W.mg_none_of X G b_str
    · exact PySem.W.mg_none_of X G b_list
    · exact PySem.W.mg_none_of X G b_tuple
    · exact PySem.W.mg_none_of X G b_dict
    · exact PySem.W.mg_none_of X G b_max
    · exact PySem.W.mg_none_of X G b_min
    · exact PySem.W.mg_none_of X G b_range
    · exact PySem.W.mg_none_of X G b_sorted
    · exact PySem.W.mg_none_of X G b_reversed
    · exact PySem.W.mg_none_of X G b_enumerate
    · exact PySem.W.mg_none_of X G b_zip
    · exact PySem.W.mg_none_of X G b_all
    · exact PySem.W.mg_none_of X G b_set
    · exact PySem.W.mg_none_of X G b_ValueError
    ⟩
  c_MOST_MAKE := ⟨_, PySem.W.mg_of X G g_MOST_MAKE⟩
  c_MOST_SIGNS := ⟨_, PySem.W.mg_of X G g_MOST_SIGNS⟩
  c_LETTERS := ⟨_, PySem.W.mg_of X G g_LETTERS⟩
  c_MOST_WISHES := ⟨_, PySem.W.mg_of X G g_MOST_WISHES⟩
  c_MOST_WARES := ⟨_, PySem.W.mg_of X G g_MOST_WARES⟩
  c_MOST_MAKES := ⟨_, PySem.W.mg_of X G g_MOST_MAKES⟩
  c_MOST_NEEDS := ⟨_, PySem.W.mg_of X G g_MOST_NEEDS⟩
  d_is_whole := dfn_mk X G a0 l0 c0 k0 fun us hl => match us, hl with | [_], _ => rfl
  d_is_ware := dfn_mk X G a1 l1 c1 k1 fun us hl => match us, hl with | [_], _ => rfl
  d_is_make := dfn_mk X G a2 l2 c2 k2 fun us hl => match us, hl with | [_], _ => rfl
  d_is_need := dfn_mk X G a3 l3 c3 k3 fun us hl => match us, hl with | [_], _ => rfl
  d_joined := dfn_mk X G a4 l4 c4 k4 fun us hl => match us, hl with | [_, _], _ => rfl
  d_within := dfn_mk X G a5 l5 c5 k5 fun us hl => match us, hl with | [_, _, _], _ => rfl
  d_need_wish := dfn_mk X G a6 l6 c6 k6 fun us hl => match us, hl with | [_], _ => rfl
  d_agenda_of := dfn_mk X G a7 l7 c7 k7 fun us hl => match us, hl with | [_, _, _], _ => rfl
  d_need_pairs := dfn_mk X G a8 l8 c8 k8 fun us hl => match us, hl with | [_, _], _ => rfl
  d_need_at := dfn_mk X G a9 l9 c9 k9 fun us hl => match us, hl with | [_, _], _ => rfl
  d_stretch_of := dfn_mk X G a10 l10 c10 k10 fun us hl => match us, hl with | [_, _, _, _, _], _ => rfl
  d_left_of := dfn_mk X G a11 l11 c11 k11 fun us hl => match us, hl with | [_, _, _], _ => rfl
  d_is_shaped := dfn_mk X G a12 l12 c12 k12 fun us hl => match us, hl with | [_], _ => rfl
  d_is_reason := dfn_mk X G a13 l13 c13 k13 fun us hl => match us, hl with | [_, _, _, _], _ => rfl
  d_holds := dfn_mk X G a14 l14 c14 k14 fun us hl => match us, hl with | [_, _, _, _], _ => rfl
  d_sources_for := dfn_mk X G a15 l15 c15 k15 fun us hl => match us, hl with | [_, _, _, _], _ => rfl
  d_left_by := dfn_mk X G a16 l16 c16 k16 fun us hl => match us, hl with | [_, _, _], _ => rfl
  d_few_sources := dfn_mk X G a17 l17 c17 k17 fun us hl => match us, hl with | [_, _, _], _ => rfl
  d_rests_on := dfn_mk X G a18 l18 c18 k18 fun us hl => match us, hl with | [_, _], _ => rfl
  d_dead_end := dfn_mk X G a19 l19 c19 k19 fun us hl => match us, hl with | [_, _, _, _], _ => rfl
  d_search := dfn_mk X G a20 l20 c20 k20 fun us hl => match us, hl with | [_, _, _], _ => rfl
  d_settle := dfn_mk X G a21 l21 c21 k21 fun us hl => match us, hl with | [_, _], _ => rfl
  d_need_ware := dfn_mk X G a22 l22 c22 k22 fun us hl => match us, hl with | [_], _ => rfl
  d_need_needs := dfn_mk X G a23 l23 c23 k23 fun us hl => match us, hl with | [_, _], _ => rfl
  m_Shopu_initu := dfnm_mk a24 i24 l24 c24 k24 fun us hl => match us, hl with | [_], _ => rfl
  m_Shop_put := dfnm_mk a25 i25 l25 c25 k25 fun us hl => match us, hl with | [_, _, _, _], _ => rfl
  m_Shop_has := dfnm_mk a26 i26 l26 c26 k26 fun us hl => match us, hl with | [_, _, _], _ => rfl
  m_Shop_take := dfnm_mk a27 i27 l27 c27 k27 fun us hl => match us, hl with | [_, _, _], _ => rfl
  m_Shop_makes := dfnm_mk a28 i28 l28 c28 k28 fun us hl => match us, hl with | [_, _], _ => rfl
  m_Shop_needs := dfnm_mk a29 i29 l29 c29 k29 fun us hl => match us, hl with | [_, _, _], _ => rfl
  m_Shop_wares := dfnm_mk a30 i30 l30 c30 k30 fun us hl => match us, hl with | [_], _ => rfl
  d__law_mixed := dfn_mk X G a31 l31 c31 k31 fun us hl => match us, hl with | [_, _], _ => rfl
  d__law_names := dfn_mk X G a32 l32 c32 k32 fun us hl => match us, hl with | [_, _], _ => rfl
  d__law_stretch := dfn_mk X G a33 l33 c33 k33 fun us hl => match us, hl with | [_, _], _ => rfl
  d__law_needs := dfn_mk X G a34 l34 c34 k34 fun us hl => match us, hl with | [_, _, _, _, _], _ => rfl
  d__law_rows := dfn_mk X G a35 l35 c35 k35 fun us hl => match us, hl with | [_, _, _], _ => rfl
  d__law_wish := dfn_mk X G a36 l36 c36 k36 fun us hl => match us, hl with | [_, _, _], _ => rfl
  d__law_shop := dfn_mk X G a37 l37 c37 k37 fun us hl => match us, hl with | [_], _ => rfl
  d__law_place := dfn_mk X G a38 l38 c38 k38 fun us hl => match us, hl with | [_, _], _ => rfl
  d__law_granted := dfn_mk X G a39 l39 c39 k39 fun us hl => match us, hl with | [_, _], _ => rfl
  d__law_source := dfn_mk X G a40 l40 c40 k40 fun us hl => match us, hl with | [_, _, _, _, _], _ => rfl
  d__law_holds := dfn_mk X G a41 l41 c41 k41 fun us hl => match us, hl with | [_, _, _, _], _ => rfl
  d__law_told := dfn_mk X G a42 l42 c42 k42 fun us hl => match us, hl with | [_, _, _], _ => rfl
  d__law_odd_source := dfn_mk X G a43 l43 c43 k43 fun us hl => match us, hl with | [_, _], _ => rfl
  d__law_truths := dfn_mk X G a44 l44 c44 k44 fun us hl => match us, hl with | [_], _ => rfl
  d__law_other_sources := dfn_mk X G a45 l45 c45 k45 fun us hl => match us, hl with | [_, _, _], _ => rfl
  d__law_other_branches := dfn_mk X G a46 l46 c46 k46 fun us hl => match us, hl with | [_, _], _ => rfl
  d__law_other := dfn_mk X G a47 l47 c47 k47 fun us hl => match us, hl with | [_, _, _], _ => rfl
  d__law_copy := dfn_mk X G a48 l48 c48 k48 fun us hl => match us, hl with | [_], _ => rfl
  d__law_shop_changed := dfn_mk X G a49 l49 c49 k49 fun us hl => match us, hl with | [_, _, _], _ => rfl
  d__law_there := dfn_mk X G a50 l50 c50 k50 fun us hl => match us, hl with | [_, _], _ => rfl
  d__law_spoilt := dfn_mk X G a51 l51 c51 k51 fun us hl => match us, hl with | [_, _, _, _], _ => rfl
  d_law := dfn_mk X G a52 l52 c52 k52 fun us hl => match us, hl with | [_], _ => rfl
  k_Shop := ⟨⟨pg_Shop, hd_Shop, po_Shop, sa_Shop⟩, mk_Shop, kp_Shop, PySem.W.mg_of X G h_Shop⟩
  n_Shop_rows := n_Shop_rows
  e_PickError := ⟨q_PickError, kp_PickError, PySem.W.mg_of X G h_PickError, sub_PickError, ty_PickError⟩
  e_BadWare := ⟨q_BadWare, kp_BadWare, PySem.W.mg_of X G h_BadWare, sub_BadWare, ty_BadWare⟩
  e_BadMake := ⟨q_BadMake, kp_BadMake, PySem.W.mg_of X G h_BadMake, sub_BadMake, ty_BadMake⟩
  e_BadNeed := ⟨q_BadNeed, kp_BadNeed, PySem.W.mg_of X G h_BadNeed, sub_BadNeed, ty_BadNeed⟩
  e_Twice := ⟨q_Twice, kp_Twice, PySem.W.mg_of X G h_Twice, sub_Twice, ty_Twice⟩
  e_Full := ⟨q_Full, kp_Full, PySem.W.mg_of X G h_Full, sub_Full, ty_Full⟩
  e_NoMake := ⟨q_NoMake, kp_NoMake, PySem.W.mg_of X G h_NoMake, sub_NoMake, ty_NoMake⟩
  e_BadWish := ⟨q_BadWish, kp_BadWish, PySem.W.mg_of X G h_BadWish, sub_BadWish, ty_BadWish⟩
  e_BadPick := ⟨q_BadPick, kp_BadPick, PySem.W.mg_of X G h_BadPick, sub_BadPick, ty_BadPick⟩
end Gh
open PySem PySem.W PyProof.Rows
set_option maxRecDepth 100000 in
set_option maxHeartbeats 0 in
theorem PySem.Challenge.cw_pickfloor_k07_reasons_looked_at_holds : PySem.Challenge.rw_pickfloor_k07_reasons_looked_at.Holds := by
  w_on; o_law; k_head; (case hw => w_witness2)
  k_fill
  refine Gh.top_walk (l := PySem.Challenge.rw_pickfloor_k07_reasons_looked_at) (k := 52) rfl rfl ⟨rfl, by decide, by decide⟩ rfl (fun w h Y => PySem.W.kIn_of Y) ?F
  case F =>
    intro w mg h KX G base
    refine' Gh.has_law (A := _) ?T
    case T =>
     refine' Gh.tx_mk KX G ?h_Shop ?h_BadPick ?h_BadWish ?h_NoMake ?h_Full ?h_Twice ?h_BadNeed ?h_BadMake ?h_BadWare ?h_PickError ?a0 ?l0 ?c0 ?k0 ?a1 ?l1 ?c1 ?k1 ?a2 ?l2 ?c2 ?k2 ?a3 ?l3 ?c3 ?k3 ?a4 ?l4 ?c4 ?k4 ?a5 ?l5 ?c5 ?k5 ?a6 ?l6 ?c6 ?k6 ?a7 ?l7 ?c7 ?k7 ?a8 ?l8 ?c8 ?k8 ?a9 ?l9 ?c9 ?k9 ?a10 ?l10 ?c10 ?k10 ?a11 ?l11 ?c11 ?k11 ?a12 ?l12 ?c12 ?k12 ?a13 ?l13 ?c13 ?k13 ?a14 ?l14 ?c14 ?k14 ?a15 ?l15 ?c15 ?k15 ?a16 ?l16 ?c16 ?k16 ?a17 ?l17 ?c17 ?k17 ?a18 ?l18 ?c18 ?k18 ?a19 ?l19 ?c19 ?k19 ?a20 ?l20 ?c20 ?k20 ?a21 ?l21 ?c21 ?k21 ?a22 ?l22 ?c22 ?k22 ?a23 ?l23 ?c23 ?k23 ?a24 ?i24 ?l24 ?c24 ?k24 ?a25 ?i25 ?l25 ?c25 ?k25 ?a26 ?i26 ?l26 ?c26 ?k26 ?a27 ?i27 ?l27 ?c27 ?k27 ?a28 ?i28 ?l28 ?c28 ?k28 ?a29 ?i29 ?l29 ?c29 ?k29 ?a30 ?i30 ?l30 ?c30 ?k30 ?a31 ?l31 ?c31 ?k31 ?a32 ?l32 ?c32 ?k32 ?a33 ?l33 ?c33 ?k33 ?a34 ?l34 ?c34 ?k34 ?a35 ?l35 ?c35 ?k35 ?a36 ?l36 ?c36 ?k36 ?a37 ?l37 ?c37 ?k37 ?a38 ?l38 ?c38 ?k38 ?a39 ?l39 ?c39 ?k39 ?a40 ?l40 ?c40 ?k40 ?a41 ?l41 ?c41 ?k41 ?a42 ?l42 ?c42 ?k42 ?a43 ?l43 ?c43 ?k43 ?a44 ?l44 ?c44 ?k44 ?a45 ?l45 ?c45 ?k45 ?a46 ?l46 ?c46 ?k46 ?a47 ?l47 ?c47 ?k47 ?a48 ?l48 ?c48 ?k48 ?a49 ?l49 ?c49 ?k49 ?a50 ?l50 ?c50 ?k50 ?a51 ?l51 ?c51 ?k51 ?a52 ?l52 ?c52 ?k52 ?g_MOST_MAKE ?g_MOST_SIGNS ?g_LETTERS ?g_MOST_WISHES ?g_MOST_WARES ?g_MOST_MAKES ?g_MOST_NEEDS ?b_len ?b_isinstance ?b_int ?b_bool ?b_str ?b_list ?b_tuple ?b_dict ?b_max ?b_min ?b_range ?b_sorted ?b_reversed ?b_enumerate ?b_zip ?b_all ?b_set ?b_ValueError ?pg_Shop ?hd_Shop ?po_Shop ?sa_Shop ?mk_Shop ?kp_Shop ?n_Shop_rows ?q_PickError ?kp_PickError ?sub_PickError ?ty_PickError ?q_BadWare ?kp_BadWare ?sub_BadWare ?ty_BadWare ?q_BadMake ?kp_BadMake ?sub_BadMake ?ty_BadMake ?q_BadNeed ?kp_BadNeed ?sub_BadNeed ?ty_BadNeed ?q_Twice ?kp_Twice ?sub_Twice ?ty_Twice ?q_Full ?kp_Full ?sub_Full ?ty_Full ?q_NoMake ?kp_NoMake ?sub_NoMake ?ty_NoMake ?q_BadWish ?kp_BadWish ?sub_BadWish ?ty_BadWish ?q_BadPick ?kp_BadPick ?sub_BadPick ?ty_BadPick
     (case h_Shop => k_is)
     (case h_BadPick => k_is)
     (case h_BadWish => k_is)
     (case h_NoMake => k_is)
     (case h_Full => k_is)
     (case h_Twice => k_is)
     (case h_BadNeed => k_is)
     (case h_BadMake => k_is)
     (case h_BadWare => k_is)
     (case h_PickError => k_is)
     (case a0 => k_is)
     (case l0 => k_is)
     (case c0 => k_is)
     (case k0 => k_is)
     (case a1 => k_is)
     (case l1 => k_is)
     (case c1 => k_is)
     (case k1 => k_is)
     (case a2 => k_is)
     (case l2 => k_is)
     (case c2 => k_is)
     (case k2 => k_is)
     (case a3 => k_is)
     (case l3 => k_is)
     (case c3 => k_is)
     (case k3 => k_is)
     (case a4 => k_is)
     (case l4 => k_is)
     (case c4 => k_is)
     (case k4 => k_is)
     (case a5 => k_is)
     (case l5 => k_is)
     (case c5 => k_is)
     (case k5 => k_is)
     (case a6 => k_is)
     (case l6 => k_is)
     (case c6 => k_is)
     (case k6 => k_is)
     (case a7 => k_is)
     (case l7 => k_is)
     (case c7 => k_is)
     (case k7 => k_is)
     (case a8 => k_is)
     (case l8 => k_is)
     (case c8 => k_is)
     (case k8 => k_is)
     (case a9 => k_is)
     (case l9 => k_is)
     (case c9 => k_is)
     (case k9 => k_is)
     (case a10 => k_is)
     (case l10 => k_is)
     (case c10 => k_is)
     (case k10 => k_is)
     (case a11 => k_is)
     (case l11 => k_is)
     (case c11 => k_is)
     (case k11 => k_is)
     (case a12 => k_is)
     (case l12 => k_is)
     (case c12 => k_is)
     (case k12 => k_is)
     (case a13 => k_is)
     (case l13 => k_is)
     (case c13 => k_is)
     (case k13 => k_is)
     (case a14 => k_is)
     (case l14 => k_is)
     (case c14 => k_is)
     (case k14 => k_is)
     (case a15 => k_is)
     (case l15 => k_is)
     (case c15 => k_is)
     (case k15 => k_is)
     (case a16 => k_is)
     (case l16 => k_is)
     (case c16 => k_is)
     (case k16 => k_is)
     (case a17 => k_is)
     (case l17 => k_is)
     (case c17 => k_is)
     (case k17 => k_is)
     (case a18 => k_is)
     (case l18 => k_is)
     (case c18 => k_is)
     (case k18 => k_is)
     (case a19 => k_is)
     (case l19 => k_is)
     (case c19 => k_is)
     (case k19 => k_is)
     (case a20 => k_is)
     (case l20 => k_is)
     (case c20 => k_is)
     (case k20 => k_is)
     (case a21 => k_is)
     (case l21 => k_is)
     (case c21 => k_is)
     (case k21 => k_is)
     (case a22 => k_is)
     (case l22 => k_is)
     (case c22 => k_is)
     (case k22 => k_is)
     (case a23 => k_is)
     (case l23 => k_is)
     (case c23 => k_is)
     (case k23 => k_is)
     (case a24 => k_is)
     (case i24 => k_is)
     (case l24 => k_is)
     (case c24 => k_is)
     (case k24 => k_is)
     (case a25 => k_is)
     (case i25 => k_is)
     (case l25 => k_is)
     (case c25 => k_is)
     (case k25 => k_is)
     (case a26 => k_is)
     (case i26 => k_is)
     (case l26 => k_is)
     (case c26 => k_is)
     (case k26 => k_is)
     (case a27 => k_is)
     (case i27 => k_is)
     (case l27 => k_is)
     (case c27 => k_is)
     (case k27 => k_is)
     (case a28 => k_is)
     (case i28 => k_is)
     (case l28 => k_is)
     (case c28 => k_is)
     (case k28 => k_is)
     (case a29 => k_is)
     (case i29 => k_is)
     (case l29 => k_is)
     (case c29 => k_is)
     (case k29 => k_is)
     (case a30 => k_is)
     (case i30 => k_is)
     (case l30 => k_is)
     (case c30 => k_is)
     (case k30 => k_is)
     (case a31 => k_is)
     (case l31 => k_is)
     (case c31 => k_is)
     (case k31 => k_is)
     (case a32 => k_is)
     (case l32 => k_is)
     (case c32 => k_is)
     (case k32 => k_is)
     (case a33 => k_is)
     (case l33 => k_is)
     (case c33 => k_is)
     (case k33 => k_is)
     (case a34 => k_is)
     (case l34 => k_is)
     (case c34 => k_is)
     (case k34 => k_is)
     (case a35 => k_is)
     (case l35 => k_is)
     (case c35 => k_is)
     (case k35 => k_is)
     (case a36 => k_is)
     (case l36 => k_is)
     (case c36 => k_is)
     (case k36 => k_is)
     (case a37 => k_is)
     (case l37 => k_is)
     (case c37 => k_is)
     (case k37 => k_is)
     (case a38 => k_is)
     (case l38 => k_is)
     (case c38 => k_is)
     (case k38 => k_is)
     (case a39 => k_is)
     (case l39 => k_is)
     (case c39 => k_is)
     (case k39 => k_is)
     (case a40 => k_is)
     (case l40 => k_is)
     (case c40 => k_is)
     (case k40 => k_is)
     (case a41 => k_is)
     (case l41 => k_is)
     (case c41 => k_is)
     (case k41 => k_is)
     (case a42 => k_is)
     (case l42 => k_is)
     (case c42 => k_is)
     (case k42 => k_is)
     (case a43 => k_is)
     (case l43 => k_is)
     (case c43 => k_is)
     (case k43 => k_is)
     (case a44 => k_is)
     (case l44 => k_is)
     (case c44 => k_is)
     (case k44 => k_is)
     (case a45 => k_is)
     (case l45 => k_is)
     (case c45 => k_is)
     (case k45 => k_is)
     (case a46 => k_is)
     (case l46 => k_is)
     (case c46 => k_is)
     (case k46 => k_is)
     (case a47 => k_is)
     (case l47 => k_is)
     (case c47 => k_is)
     (case k47 => k_is)
     (case a48 => k_is)
     (case l48 => k_is)
     (case c48 => k_is)
     (case k48 => k_is)
     (case a49 => k_is)
     (case l49 => k_is)
     (case c49 => k_is)
     (case k49 => k_is)
     (case a50 => k_is)
     (case l50 => k_is)
     (case c50 => k_is)
     (case k50 => k_is)
     (case a51 => k_is)
     (case l51 => k_is)
     (case c51 => k_is)
     (case k51 => k_is)
     (case a52 => k_is)
     (case l52 => k_is)
     (case c52 => k_is)
     (case k52 => k_is)
     (case g_MOST_MAKE => k_is)
     (case g_MOST_SIGNS => k_is)
     (case g_LETTERS => k_is)
     (case g_MOST_WISHES => k_is)
     (case g_MOST_WARES => k_is)
     (case g_MOST_MAKES => k_is)
     (case g_MOST_NEEDS => k_is)
     (case b_len => k_is)
     (case b_isinstance => k_is)
     (case b_int => k_is)
     (case b_bool => k_is)
     (case b_str => k_is)
     (case b_list => k_is)
     (case b_tuple => k_is)
     (case b_dict => k_is)
     (case b_max => k_is)
     (case b_min => k_is)
     (case b_range => k_is)
     (case b_sorted => k_is)
     (case b_reversed => k_is)
     (case b_enumerate => k_is)
     (case b_zip => k_is)
     (case b_all => k_is)
     (case b_set => k_is)
     (case b_ValueError => k_is)
     (case pg_Shop => k_is)
     (case hd_Shop => k_is)
     (case po_Shop => k_is)
     (case sa_Shop => k_is)
     (case mk_Shop => k_is)
     (case kp_Shop => k_is)
     (case n_Shop_rows => k_is)
     (case q_PickError => k_exc)
     (case kp_PickError => k_is)
     (case sub_PickError => k_is)
     (case ty_PickError => k_is)
     (case q_BadWare => k_exc)
     (case kp_BadWare => k_is)
     (case sub_BadWare => k_is)
     (case ty_BadWare => k_is)
     (case q_BadMake => k_exc)
     (case kp_BadMake => k_is)
     (case sub_BadMake => k_is)
     (case ty_BadMake => k_is)
     (case q_BadNeed => k_exc)
     (case kp_BadNeed => k_is)
     (case sub_BadNeed => k_is)
     (case ty_BadNeed => k_is)
     (case q_Twice => k_exc)
     (case kp_Twice => k_is)
     (case sub_Twice => k_is)
     (case ty_Twice => k_is)
     (case q_Full => k_exc)
     (case kp_Full => k_is)
     (case sub_Full => k_is)
     (case ty_Full => k_is)
     (case q_NoMake => k_exc)
     (case kp_NoMake => k_is)
     (case sub_NoMake => k_is)
     (case ty_NoMake => k_is)
     (case q_BadWish => k_exc)
     (case kp_BadWish => k_is)
     (case sub_BadWish => k_is)
     (case ty_BadWish => k_is)
     (case q_BadPick => k_exc)
     (case kp_BadPick => k_is)
     (case sub_BadPick => k_is)
     (case ty_BadPick => k_is)
end

