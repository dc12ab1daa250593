import PyProof.Rows.All
import Wide.All
import OpenK.AllK
import Wide.FinOn
import HandS.ForMost
import HandS.More
import HandS.IsInst
import HandS.Style
import PySem.Challenge.RW_pickfloor_k01_stretches
section
set_option Elab.async false
set_option linter.all false
set_option maxRecDepth 100000
set_option maxHeartbeats 4000000
/-! Eng1: a ghost layer over HandS. Values are trees of data (D); what is never changed any more lies in a frozen part F that only grows; what may still change is told by address in G, or is owned by one slot. -/
namespace Gh
open PySem PySem.Spec PyProof.Rows L2

inductive D where
  | non | bl (b : Bool) | int (i : Int) | str (x : Str) | ref (a : Addr) | ty (n : String)
  | lst (xs : List D) | tup (xs : List D) | dic (kvs : List (Key × D))

def KL (K : PySem.W.Frag) (a : Addr) (xs : List V) : Prop :=
  ∃ (o : Obj) (its : Array Value) (n : Nat), K.lookup a = some o ∧ o.cls = .type "list" ∧ o.dict = none ∧ o.data = .seq its n ∧ its.size ≤ sizeLine ∧ Vals xs its.toList
def FL (K : PySem.W.Frag) (F : Hp) (a : Addr) (xs : List V) : Prop := F a = some (.lst xs) ∨ KL K a xs

mutual
inductive Rep (K : PySem.W.Frag) (F : Hp) : V → D → Prop
  | non : Rep K F .non .non
  | bl (b : Bool) : Rep K F (.bl b) (.bl b)
  | int (i : Int) : Rep K F (.int i) (.int i)
  | str (x : Str) : Rep K F (.str x) (.str x)
  | ref (a : Addr) : Rep K F (.ref a) (.ref a)
  | ty (n : String) : Rep K F (.ty n) (.ty n)
  | lst {a : Addr} {vs : List V} {ds : List D} : FL K F a vs → Reps K F vs ds → Rep K F (.ref a) (.lst ds)
  | tup {a : Addr} {vs : List V} {ds : List D} : F a = some (.tup vs) → Reps K F vs ds → Rep K F (.ref a) (.tup ds)
  | dic {a : Addr} {kvs : List (Key × V)} {kds : List (Key × D)} : F a = some (.dK kvs) → KReps K F kvs kds → Rep K F (.ref a) (.dic kds)
inductive Reps (K : PySem.W.Frag) (F : Hp) : List V → List D → Prop
  | nil : Reps K F [] []
  | cons {v : V} {vs : List V} {d : D} {ds : List D} : Rep K F v d → Reps K F vs ds → Reps K F (v :: vs) (d :: ds)
inductive KReps (K : PySem.W.Frag) (F : Hp) : List (Key × V) → List (Key × D) → Prop
  | nil : KReps K F [] []
  | cons {k : Key} {v : V} {r : List (Key × V)} {d : D} {s : List (Key × D)} : Rep K F v d → KReps K F r s → KReps K F ((k, v) :: r) ((k, d) :: s)
end
inductive FReps (K : PySem.W.Frag) (F : Hp) : List (Str × V) → List (Str × D) → Prop
  | nil : FReps K F [] []
  | cons {k : Str} {v : V} {r : List (Str × V)} {d : D} {s : List (Str × D)} : Rep K F v d → FReps K F r s → FReps K F ((k, v) :: r) ((k, d) :: s)

theorem FL.mono {K : PySem.W.Frag} {F F' : Hp} (e : Same F F') {a : Addr} {xs : List V} (h : FL K F a xs) : FL K F' a xs := h.elim (fun z => .inl (e _ _ z)) .inr
mutual
theorem Rep.mono {K : PySem.W.Frag} {F F' : Hp} (e : Same F F') : ∀ {v : V} {d : D}, Rep K F v d → Rep K F' v d
  | _, _, .non => .non
  | _, _, .bl b => .bl b
  | _, _, .int i => .int i
  | _, _, .str x => .str x
  | _, _, .ref a => .ref a
  | _, _, .ty n => .ty n
  | _, _, .lst h r => .lst (h.mono e) (Reps.mono e r)
  | _, _, .tup h r => .tup (e _ _ h) (Reps.mono e r)
  | _, _, .dic h r => .dic (e _ _ h) (KReps.mono e r)
theorem Reps.mono {K : PySem.W.Frag} {F F' : Hp} (e : Same F F') : ∀ {vs : List V} {ds : List D}, Reps K F vs ds → Reps K F' vs ds
  | _, _, .nil => .nil
  | _, _, .cons h t => .cons (Rep.mono e h) (Reps.mono e t)
theorem KReps.mono {K : PySem.W.Frag} {F F' : Hp} (e : Same F F') : ∀ {vs : List (Key × V)} {ds : List (Key × D)}, KReps K F vs ds → KReps K F' vs ds
  | _, _, .nil => .nil
  | _, _, .cons h t => .cons (Rep.mono e h) (KReps.mono e t)
end
theorem FReps.mono {K : PySem.W.Frag} {F F' : Hp} (e : Same F F') : ∀ {vs : List (Str × V)} {ds : List (Str × D)}, FReps K F vs ds → FReps K F' vs ds
  | _, _, .nil => .nil
  | _, _, .cons h t => .cons (h.mono e) (FReps.mono e t)

section
variable {K : PySem.W.Frag} {F : Hp}
theorem Reps.length {vs : List V} {ds : List D} (h : Reps K F vs ds) : vs.length = ds.length := by
  induction ds generalizing vs with
  | nil => cases h; rfl
  | cons d ds ih => cases h with | cons a b => simp [ih b]
theorem Reps.get {vs : List V} {ds : List D} {i : Nat} {d : D} (h : Reps K F vs ds) (e : ds[i]? = some d) : ∃ v, vs[i]? = some v ∧ Rep K F v d := by
  induction ds generalizing vs i with
  | nil => simp at e
  | cons d0 ds ih =>
    cases h with
    | cons a b =>
      cases i with
      | zero => simp at e; subst e; exact ⟨_, rfl, a⟩
      | succ i => simp at e; obtain ⟨v, h1, h2⟩ := ih b e; exact ⟨v, by simpa using h1, h2⟩
theorem Reps.get' {vs : List V} {ds : List D} {i : Nat} {v : V} (h : Reps K F vs ds) (e : vs[i]? = some v) : ∃ d, ds[i]? = some d ∧ Rep K F v d := by
  have hl := h.length
  have hi := (List.getElem?_eq_some_iff.mp e).1
  obtain ⟨v', e', r⟩ := h.get (List.getElem?_eq_getElem (show i < ds.length by omega))
  rw [e] at e'; cases e'
  exact ⟨_, List.getElem?_eq_getElem (by omega), r⟩
theorem Reps.append {vs ws : List V} {ds es : List D} (h : Reps K F vs ds) (h' : Reps K F ws es) : Reps K F (vs ++ ws) (ds ++ es) := by
  induction ds generalizing vs with
  | nil => cases h; exact h'
  | cons d ds ih => cases h with | cons a b => exact .cons a (ih b)
theorem Reps.snoc {vs : List V} {ds : List D} {v : V} {d : D} (h : Reps K F vs ds) (h' : Rep K F v d) : Reps K F (vs ++ [v]) (ds ++ [d]) := h.append (.cons h' .nil)
theorem Reps.take {vs : List V} {ds : List D} (n : Nat) (h : Reps K F vs ds) : Reps K F (vs.take n) (ds.take n) := by
  induction n generalizing vs ds with
  | zero => simpa using Reps.nil
  | succ n ih => cases h with
    | nil => exact .nil
    | cons a b => exact .cons a (ih b)
theorem Reps.drop {vs : List V} {ds : List D} (n : Nat) (h : Reps K F vs ds) : Reps K F (vs.drop n) (ds.drop n) := by
  induction n generalizing vs ds with
  | zero => simpa using h
  | succ n ih => cases h with
    | nil => exact .nil
    | cons a b => exact ih b
theorem Reps.reverse {vs : List V} {ds : List D} (h : Reps K F vs ds) : Reps K F vs.reverse ds.reverse := by
  induction ds generalizing vs with
  | nil => cases h; exact .nil
  | cons d ds ih => cases h with | cons a b => simpa using (ih b).snoc a
theorem Reps.dropLast {vs : List V} {ds : List D} (h : Reps K F vs ds) : Reps K F vs.dropLast ds.dropLast := by
  rw [List.dropLast_eq_take, List.dropLast_eq_take, h.length]; exact h.take _
theorem Reps.eraseIdx {vs : List V} {ds : List D} (n : Nat) (h : Reps K F vs ds) : Reps K F (vs.eraseIdx n) (ds.eraseIdx n) := by
  rw [List.eraseIdx_eq_take_drop_succ, List.eraseIdx_eq_take_drop_succ]
  exact (h.take n).append (h.drop (n + 1))
theorem Reps.set {vs : List V} {ds : List D} {v : V} {d : D} (n : Nat) (h : Reps K F vs ds) (r : Rep K F v d) : Reps K F (vs.set n v) (ds.set n d) := by
  induction ds generalizing vs n with
  | nil => cases h; exact .nil
  | cons d0 ds ih => cases h with
    | cons a b => cases n with
      | zero => exact .cons r b
      | succ n => exact .cons a (ih n b)
theorem reps_ints : ∀ (ns : List Int), Reps K F (ns.map V.int) (ns.map D.int)
  | [] => .nil
  | n :: ns => .cons (.int n) (reps_ints ns)
theorem reps_strs : ∀ (ns : List Str), Reps K F (ns.map V.str) (ns.map D.str)
  | [] => .nil
  | n :: ns => .cons (.str n) (reps_strs ns)
theorem Rep.int_inv {v : V} {i : Int} (h : Rep K F v (.int i)) : v = .int i := by cases h; rfl
theorem Rep.str_inv {v : V} {i : Str} (h : Rep K F v (.str i)) : v = .str i := by cases h; rfl
theorem Rep.bl_inv {v : V} {i : Bool} (h : Rep K F v (.bl i)) : v = .bl i := by cases h; rfl
theorem Rep.non_inv {v : V} (h : Rep K F v .non) : v = .non := by cases h; rfl
theorem Rep.ref_inv {v : V} {a : Addr} (h : Rep K F v (.ref a)) : v = .ref a := by cases h; rfl
theorem Rep.ty_inv {v : V} {n : String} (h : Rep K F v (.ty n)) : v = .ty n := by cases h; rfl
theorem Reps.ints_inv : ∀ {ns : List Int} {vs : List V}, Reps K F vs (ns.map D.int) → vs = ns.map V.int
  | [], _, h => by cases h; rfl
  | n :: ns, _, h => by cases h with | cons a b => rw [a.int_inv, Reps.ints_inv b]; rfl
theorem Reps.strs_inv : ∀ {ns : List Str} {vs : List V}, Reps K F vs (ns.map D.str) → vs = ns.map V.str
  | [], _, h => by cases h; rfl
  | n :: ns, _, h => by cases h with | cons a b => rw [a.str_inv, Reps.strs_inv b]; rfl
theorem Reps.bls_inv : ∀ {ns : List Bool} {vs : List V}, Reps K F vs (ns.map D.bl) → vs = ns.map V.bl
  | [], _, h => by cases h; rfl
  | n :: ns, _, h => by cases h with | cons a b => rw [a.bl_inv, Reps.bls_inv b]; rfl

/-! dicts of data -/
def valD (kvs : List (Key × D)) (k : Key) : Option D := (kvs.find? fun kv => decide (kv.1 = k)).map (·.2)
def putD (kvs : List (Key × D)) (k : Key) (v : D) : List (Key × D) :=
  if kvs.any (fun kv => decide (kv.1 = k)) then kvs.map fun kv => if kv.1 = k then (kv.1, v) else kv else kvs ++ [(k, v)]
def dropD (kvs : List (Key × D)) (k : Key) : List (Key × D) := kvs.filter fun kv => decide (kv.1 ≠ k)
theorem KReps.length {vs : List (Key × V)} {ds : List (Key × D)} (h : KReps K F vs ds) : vs.length = ds.length := by
  induction ds generalizing vs with
  | nil => cases h; rfl
  | cons d ds ih => cases h with | cons a b => simp [ih b]
theorem KReps.keys {vs : List (Key × V)} {ds : List (Key × D)} (h : KReps K F vs ds) : vs.map (·.1) = ds.map (·.1) := by
  induction ds generalizing vs with
  | nil => cases h; rfl
  | cons d ds ih => cases h with | cons a b => simp [ih b]
theorem KReps.val {vs : List (Key × V)} {ds : List (Key × D)} (h : KReps K F vs ds) (k : Key) : (valV vs k = none ∧ valD ds k = none) ∨ ∃ v d, valV vs k = some v ∧ valD ds k = some d ∧ Rep K F v d := by
  induction ds generalizing vs with
  | nil => cases h; exact .inl ⟨rfl, rfl⟩
  | cons d ds ih =>
    cases h with
    | @cons k0 v r d s a b =>
      by_cases e : k0 = k
      · exact .inr ⟨v, d, by simp [valV, e], by simp [valD, e], a⟩
      · rcases ih b with ⟨h1, h2⟩ | ⟨v', d', h1, h2, h3⟩
        · refine .inl ⟨?_, ?_⟩
          · rw [valV_neg (by simpa using e)]; exact h1
          · simpa [valD, List.find?_cons, e] using h2
        · refine .inr ⟨v', d', ?_, ?_, h3⟩
          · rw [valV_neg (by simpa using e)]; exact h1
          · simpa [valD, List.find?_cons, e] using h2
theorem KReps.isSome {vs : List (Key × V)} {ds : List (Key × D)} (h : KReps K F vs ds) (k : Key) : (valV vs k).isSome = (valD ds k).isSome := by
  rcases h.val k with ⟨h1, h2⟩ | ⟨v, d, h1, h2, _⟩ <;> rw [h1, h2] <;> rfl
theorem KReps.any {vs : List (Key × V)} {ds : List (Key × D)} (h : KReps K F vs ds) (k : Key) : (vs.any fun kv => decide (kv.1 = k)) = (ds.any fun kv => decide (kv.1 = k)) := by
  induction ds generalizing vs with
  | nil => cases h; rfl
  | cons d ds ih => cases h with | cons a b => simp [ih b]
theorem KReps.append {vs ws : List (Key × V)} {ds es : List (Key × D)} (h : KReps K F vs ds) (h' : KReps K F ws es) : KReps K F (vs ++ ws) (ds ++ es) := by
  induction ds generalizing vs with
  | nil => cases h; exact h'
  | cons d ds ih => cases h with | cons a b => exact .cons a (ih b)
theorem KReps.put {vs : List (Key × V)} {ds : List (Key × D)} (h : KReps K F vs ds) (k : Key) {v : V} {d : D} (r : Rep K F v d) : KReps K F (putK vs k v) (putD ds k d) := by
  unfold putK putD
  rw [h.any k]
  by_cases e : (ds.any fun kv => decide (kv.1 = k)) = true
  · rw [if_pos e, if_pos e]
    clear e
    induction ds generalizing vs with
    | nil => cases h; exact .nil
    | cons d0 ds ih =>
      cases h with
      | @cons k0 v0 r0 d0 s0 a b =>
        by_cases e : k0 = k
        · simp only [List.map_cons, e, if_true]; exact .cons r (ih b)
        · simp only [List.map_cons, e, if_false]; exact .cons a (ih b)
  · rw [if_neg e, if_neg e]
    exact h.append (.cons r .nil)
theorem KReps.drop {vs : List (Key × V)} {ds : List (Key × D)} (h : KReps K F vs ds) (k : Key) : KReps K F (dropK vs k) (dropD ds k) := by
  unfold dropK dropD
  induction ds generalizing vs with
  | nil => cases h; exact .nil
  | cons d0 ds ih =>
    cases h with
    | @cons k0 v0 r0 d0 s0 a b =>
      by_cases e : k0 = k
      · simpa [List.filter_cons, e] using ih b
      · simpa [List.filter_cons, e] using KReps.cons (k := k0) a (ih b)
theorem KReps.get' {vs : List (Key × V)} {ds : List (Key × D)} {i : Nat} {k : Key} {d : D} (h : KReps K F vs ds) (e : ds[i]? = some (k, d)) : ∃ v, vs[i]? = some (k, v) ∧ Rep K F v d := by
  induction ds generalizing vs i with
  | nil => simp at e
  | cons d0 ds ih =>
    cases h with
    | cons a b =>
      cases i with
      | zero => simp at e; obtain ⟨e1, e2⟩ := e; subst e1; subst e2; exact ⟨_, rfl, a⟩
      | succ i => simp at e; obtain ⟨v, h1, h2⟩ := ih b e; exact ⟨v, by simpa using h1, h2⟩
end
end Gh
end

section
set_option Elab.async false
set_option linter.all false
set_option maxRecDepth 100000
set_option maxHeartbeats 4000000
namespace Gh
open PySem PySem.Spec PyProof.Rows L2

/-! ### what may still change -/
inductive GO where
  | lst (ds : List D) | dic (kds : List (Key × D)) | ins (C dx : Addr) (fs : List (Str × D)) | own (x : Addr) | lk (ob : Obj) (g : GO)
abbrev Gs := Addr → Option GO
def gupd (G : Gs) (a : Addr) (g : GO) : Gs := fun b => if b = a then some g else G b
def gdel (G : Gs) (a : Addr) : Gs := fun b => if b = a then none else G b
theorem gupd_same {G : Gs} {a : Addr} {g : GO} : gupd G a g a = some g := by unfold gupd; rw [if_pos rfl]
theorem gupd_ne {G : Gs} {a b : Addr} {g : GO} (h : b ≠ a) : gupd G a g b = G b := by unfold gupd; rw [if_neg h]
theorem gdel_same {G : Gs} {a : Addr} : gdel G a a = none := by unfold gdel; rw [if_pos rfl]
theorem gdel_ne {G : Gs} {a b : Addr} (h : b ≠ a) : gdel G a b = G b := by unfold gdel; rw [if_neg h]
theorem gupd_gupd {G : Gs} {a : Addr} {g u : GO} : gupd (gupd G a g) a u = gupd G a u := by funext b; unfold gupd; split <;> rfl
theorem gupd_self {G : Gs} {a : Addr} {g : GO} (h : G a = some g) : gupd G a g = G := by funext b; unfold gupd; split <;> simp_all
theorem gne {G : Gs} {a b : Addr} {g : GO} (h : G a = some g) (h' : G b = none) : a ≠ b := by intro e; subst e; rw [h] at h'; cases h'
def GEx (G G' : Gs) : Prop := ∀ a g, G a = some g → G' a = some g
theorem GEx.refl (G : Gs) : GEx G G := fun _ _ h => h
theorem GEx.trans {A B C : Gs} (h : GEx A B) (h' : GEx B C) : GEx A C := fun a g e => h' a g (h a g e)
theorem GEx.none {A B : Gs} (h : GEx A B) {a : Addr} (e : B a = none) : A a = none := by
  cases q : A a with
  | none => rfl
  | some g => rw [h a g q] at e; cases e

inductive ORep (K : PySem.W.Frag) (F : Hp) : HO → GO → Prop
  | lst {vs : List V} {ds : List D} : Reps K F vs ds → ORep K F (.lst vs) (.lst ds)
  | dic {kvs : List (Key × V)} {kds : List (Key × D)} : KReps K F kvs kds → ORep K F (.dK kvs) (.dic kds)
  | ins {C dx : Addr} {fs : List (Str × V)} {gs : List (Str × D)} : FReps K F fs gs → ORep K F (.ins C dx fs) (.ins C dx gs)
  | own (x : Addr) : ORep K F (.own x) (.own x)
  | lk {ob : Obj} {o : HO} {g : GO} : ORep K F o g → ORep K F (.frz ob o) (.lk ob g)
def GO.isLk : GO → Bool
  | .lk _ _ => true
  | _ => false
theorem ORep.mono {K : PySem.W.Frag} {F F' : Hp} (e : Same F F') {o : HO} {g : GO} (h : ORep K F o g) : ORep K F' o g := by
  induction h with
  | lst h => exact .lst (h.mono e)
  | dic h => exact .dic (h.mono e)
  | ins h => exact .ins (h.mono e)
  | own x => exact .own x
  | lk _ ih => exact .lk ih

structure Abs (K : PySem.W.Frag) (F : Hp) (G : Gs) (H : Hp) : Prop where
  sub : ∀ a o, F a = some o → Rd H a o
  obj : ∀ a g, G a = some g → (g.isLk = false → F a = none) ∧ ∃ o, H a = some o ∧ ORep K F o g
theorem Abs.less {K : PySem.W.Frag} {F : Hp} {G G' : Gs} {H : Hp} (A : Abs K F G' H) (h : GEx G G') : Abs K F G H := ⟨A.sub, fun a g e => A.obj a g (h a g e)⟩
theorem Abs.fF {K : PySem.W.Frag} {F : Hp} {G : Gs} {H : Hp} (A : Abs K F G H) {p : Addr} (h : H p = none) : F p = none := by
  cases q : F p with
  | none => rfl
  | some o => rcases A.sub p o q with z | ⟨_, z⟩ <;> (rw [h] at z; cases z)
theorem Abs.fG {K : PySem.W.Frag} {F : Hp} {G : Gs} {H : Hp} (A : Abs K F G H) {p : Addr} (h : H p = none) : G p = none := by
  cases q : G p with
  | none => rfl
  | some g => obtain ⟨_, o, z, _⟩ := A.obj p g q; rw [h] at z; cases z
theorem same_new {H : Hp} {p : Addr} {o : HO} (h : H p = none) : Same H (upd H p o) := fun b x e => by
  rw [upd_ne (ne_of_none e h)]
  exact e
theorem rd_new {H : Hp} {p a : Addr} {o u : HO} (h : H p = none) (r : Rd H a u) : Rd (upd H p o) a u := by
  rcases r with z | ⟨ob, z⟩
  · exact .inl (same_new h _ _ z)
  · exact .inr ⟨ob, same_new h _ _ z⟩
/-- a new thing that is never changed -/
theorem Abs.newF {K : PySem.W.Frag} {F : Hp} {G : Gs} {H : Hp} (A : Abs K F G H) {p : Addr} {o : HO} (h : H p = none) : Abs K (upd F p o) G (upd H p o) := by
  have hF := A.fF h
  have hG := A.fG h
  refine ⟨fun a u e => ?_, fun a g e => ?_⟩
  · by_cases q : a = p
    · subst q; rw [upd_same] at e; cases e; exact .inl upd_same
    · rw [upd_ne q] at e; exact rd_new h (A.sub a u e)
  · obtain ⟨h1, o', h2, h3⟩ := A.obj a g e
    have q : a ≠ p := ne_of_none h2 h
    exact ⟨fun z => by rw [upd_ne q]; exact h1 z, o', by rw [upd_ne q]; exact h2, h3.mono (same_new hF)⟩
/-- a new thing that may be changed -/
theorem Abs.newG {K : PySem.W.Frag} {F : Hp} {G : Gs} {H : Hp} (A : Abs K F G H) {p : Addr} {o : HO} {g : GO} (h : H p = none) (r : ORep K F o g) : Abs K F (gupd G p g) (upd H p o) := by
  have hF := A.fF h
  refine ⟨fun a u e => rd_new h (A.sub a u e), fun a u e => ?_⟩
  by_cases q : a = p
  · subst q; rw [gupd_same] at e; cases e; exact ⟨fun _ => hF, o, upd_same, r⟩
  · rw [gupd_ne q] at e
    obtain ⟨h1, o', h2, h3⟩ := A.obj a u e
    exact ⟨h1, o', by rw [upd_ne q]; exact h2, h3⟩
/-- a thing that may be changed is changed -/
theorem Abs.put {K : PySem.W.Frag} {F : Hp} {G : Gs} {H : Hp} (A : Abs K F G H) {p : Addr} {o : HO} {g g' : GO} (h : G p = some g) (hk : g.isLk = false) (r : ORep K F o g') : Abs K F (gupd G p g') (upd H p o) := by
  obtain ⟨hF, o0, h0, _⟩ := A.obj p g h
  have hF := hF hk
  refine ⟨fun a u e => ?_, fun a u e => ?_⟩
  · have q : a ≠ p := ne_of_none e hF
    rcases A.sub a u e with z | ⟨ob, z⟩
    · exact .inl (by rw [upd_ne q]; exact z)
    · exact .inr ⟨ob, by rw [upd_ne q]; exact z⟩
  · by_cases q : a = p
    · subst q; rw [gupd_same] at e; cases e; exact ⟨fun _ => hF, o, upd_same, r⟩
    · rw [gupd_ne q] at e
      obtain ⟨h1, o', h2, h3⟩ := A.obj a u e
      exact ⟨h1, o', by rw [upd_ne q]; exact h2, h3⟩
/-- a thing is changed no longer -/
theorem Abs.frz {K : PySem.W.Frag} {F : Hp} {G : Gs} {H : Hp} (A : Abs K F G H) {p : Addr} {o : HO} {g : GO} (h : G p = some g) (hk : g.isLk = false) (ho : H p = some o) : Abs K (upd F p o) (gdel G p) H ∧ Same F (upd F p o) := by
  obtain ⟨hF, o0, h0, _⟩ := A.obj p g h
  have hF := hF hk
  refine ⟨⟨fun a u e => ?_, fun a u e => ?_⟩, same_new hF⟩
  · by_cases q : a = p
    · subst q; rw [upd_same] at e; cases e; exact .inl ho
    · rw [upd_ne q] at e; exact A.sub a u e
  · by_cases q : a = p
    · subst q; rw [gdel_same] at e; cases e
    · rw [gdel_ne q] at e
      obtain ⟨h1, o', h2, h3⟩ := A.obj a u e
      exact ⟨fun z => by rw [upd_ne q]; exact h1 z, o', h2, h3.mono (same_new hF)⟩

/-! ### where one stands: a family of contexts that agree in what matters -/
structure Ctx where
  ι : Type
  X : ι → Cx
  P : Program
  w : World
  K : PySem.W.Frag
  mg : Str → Option Value
  base : Heap
  N : List Str
  sc : Scope
  fn : Str → Bool
  k : Nat
  F0 : Hp
  R : Gs
  hP : ∀ i, (X i).prog = P
  hw : ∀ i, (X i).w = w
  hK : ∀ i, (X i).K = K
  hmg : ∀ i, (X i).mg = mg
  hbase : ∀ i, (X i).base = base
  hN : ∀ i, (X i).N = N
  hsc : ∀ i, (X i).env.scope = sc
  hfn : ∀ i, (X i).fn = fn
  hc : ∀ i, (X i).calm = true
  hr : ∀ i, Room k (X i).A

inductive SV where
  | unk | dat (d : D) | own (ds : List D) | ownd (kds : List (Key × D))
abbrev Rho := List SV
def SV.isOwn : SV → Bool
  | .own _ => true
  | .ownd _ => true
  | _ => false
def OwnAt (ρ : Rho) (i : Nat) : Prop := ∃ x, ρ[i]? = some x ∧ x.isOwn = true
def SvOk (K : PySem.W.Frag) (F : Hp) (G R Gl : Gs) (x : Option V) : SV → Prop
  | .unk => True
  | .dat d => ∃ v, x = some v ∧ Rep K F v d
  | .own ds => ∃ l, x = some (.ref l) ∧ Gl l = some (.lst ds) ∧ G l = none ∧ R l = none
  | .ownd kds => ∃ l, x = some (.ref l) ∧ Gl l = some (.dic kds) ∧ G l = none ∧ R l = none
theorem SvOk.mono {K : PySem.W.Frag} {F F' : Hp} {G R Gl : Gs} {x : Option V} {s : SV} (e : Same F F') (h : SvOk K F G R Gl x s) : SvOk K F' G R Gl x s := by
  cases s with
  | unk => trivial
  | dat d => obtain ⟨v, h1, h2⟩ := h; exact ⟨v, h1, h2.mono e⟩
  | own ds => exact h
  | ownd ds => exact h

structure Wd (Y : Ctx) (F : Hp) (R Gl G : Gs) (ρ : Rho) (σ : L2.St) (H : Hp) : Prop where
  f0 : Same Y.F0 F
  len : σ.length = ρ.length
  g : GEx G Gl
  r0 : GEx Y.R R
  r : GEx R Gl
  gr : ∀ a, G a = none ∨ R a = none
  sv : ∀ (i : Nat) (x : SV) (s : Option V), ρ[i]? = some x → σ[i]? = some s → SvOk Y.K F G R Gl s x
  inj : ∀ (i j : Nat) (l : Addr), OwnAt ρ i → OwnAt ρ j → σ[i]? = some (some (.ref l)) → σ[j]? = some (some (.ref l)) → i = j
  abs : Abs Y.K F Gl H

section
variable {Y : Ctx} {F F' : Hp} {R Gl Gl' G : Gs} {ρ : Rho} {σ : L2.St} {H : Hp}
theorem Wd.get (W : Wd Y F R Gl G ρ σ H) {i : Nat} {x : SV} (e : ρ[i]? = some x) : ∃ s, σ[i]? = some s ∧ SvOk Y.K F G R Gl s x := by
  have h1 := (List.getElem?_eq_some_iff.mp e).1
  have h2 : i < σ.length := by rw [W.len]; exact h1
  exact ⟨σ[i], List.getElem?_eq_getElem h2, W.sv i x _ e (List.getElem?_eq_getElem h2)⟩
theorem Wd.dat (W : Wd Y F R Gl G ρ σ H) {i : Nat} {d : D} (e : ρ[i]? = some (.dat d)) : ∃ v, σ[i]? = some (some v) ∧ Rep Y.K F v d := by
  obtain ⟨s, h1, v, h2, h3⟩ := W.get e
  subst h2
  exact ⟨v, h1, h3⟩
/-- an owned address -/
def Owned (ρ : Rho) (σ : L2.St) (l : Addr) : Prop := ∃ i, OwnAt ρ i ∧ σ[i]? = some (some (.ref l))
theorem Wd.owned (W : Wd Y F R Gl G ρ σ H) {l : Addr} (h : Owned ρ σ l) : ∃ g, Gl l = some g ∧ G l = none ∧ R l = none := by
  obtain ⟨i, ⟨x, e, o⟩, e2⟩ := h
  obtain ⟨s, h1, h2⟩ := W.get e
  rw [e2] at h1; cases h1
  cases x with
  | unk => cases o
  | dat d => cases o
  | own ds => obtain ⟨l', h3, h4, h5, h6⟩ := h2; cases h3; exact ⟨_, h4, h5, h6⟩
  | ownd ds => obtain ⟨l', h3, h4, h5, h6⟩ := h2; cases h3; exact ⟨_, h4, h5, h6⟩
/-- F grows, the full ghost heap changes at places that are of no slot, no G, no R -/
theorem Wd.step {H' : Hp} (W : Wd Y F R Gl G ρ σ H) (e : Same F F') (k : ∀ a g, Gl a = some g → (∃ u, G a = some u) ∨ (∃ u, R a = some u) ∨ Owned ρ σ a → Gl' a = some g) (A : Abs Y.K F' Gl' H') : Wd Y F' R Gl' G ρ σ H' := by
  refine ⟨fun a o z => e a o (W.f0 a o z), W.len, fun a u z => k a u (W.g a u z) (.inl ⟨u, z⟩), W.r0, fun a u z => k a u (W.r a u z) (.inr (.inl ⟨u, z⟩)), W.gr, fun i x s h1 h2 => ?_, W.inj, A⟩
  have q := W.sv i x s h1 h2
  cases x with
  | unk => trivial
  | dat d => obtain ⟨v, h3, h4⟩ := q; exact ⟨v, h3, h4.mono e⟩
  | own ds =>
    obtain ⟨l, h3, h4, h5, h6⟩ := q
    subst h3
    exact ⟨l, rfl, k l _ h4 (.inr (.inr ⟨i, ⟨_, h1, rfl⟩, h2⟩)), h5, h6⟩
  | ownd ds =>
    obtain ⟨l, h3, h4, h5, h6⟩ := q
    subst h3
    exact ⟨l, rfl, k l _ h4 (.inr (.inr ⟨i, ⟨_, h1, rfl⟩, h2⟩)), h5, h6⟩
theorem Wd.newF (W : Wd Y F R Gl G ρ σ H) {p : Addr} {o : HO} (h : H p = none) : Wd Y (upd F p o) R Gl G ρ σ (upd H p o) ∧ Same F (upd F p o) :=
  ⟨W.step (same_new (W.abs.fF h)) (fun _ _ z _ => z) (W.abs.newF h), same_new (W.abs.fF h)⟩
theorem Wd.fresh (W : Wd Y F R Gl G ρ σ H) {p : Addr} (h : H p = none) : F p = none ∧ Gl p = none ∧ G p = none ∧ R p = none ∧ ¬ Owned ρ σ p := by
  have h1 := W.abs.fG h
  refine ⟨W.abs.fF h, h1, W.g.none h1, W.r.none h1, fun z => ?_⟩
  obtain ⟨g, e, _⟩ := W.owned z
  rw [h1] at e; cases e
theorem Wd.newG (W : Wd Y F R Gl G ρ σ H) {p : Addr} {o : HO} {g : GO} (h : H p = none) (r : ORep Y.K F o g) : Wd Y F R (gupd Gl p g) G ρ σ (upd H p o) :=
  W.step (Same.refl F) (fun a u z _ => by rw [gupd_ne (gne z (W.fresh h).2.1)]; exact z) (W.abs.newG h r)
/-- what is fresh is changed no longer -/
theorem Wd.frz (W : Wd Y F R Gl G ρ σ H) {l : Addr} {g : GO} {o : HO} (h : Gl l = some g) (hk : g.isLk = false) (ho : H l = some o) (h1 : G l = none) (h2 : R l = none) (h3 : ¬ Owned ρ σ l) : Wd Y (upd F l o) R (gdel Gl l) G ρ σ H ∧ Same F (upd F l o) := by
  obtain ⟨A, e⟩ := W.abs.frz h hk ho
  refine ⟨W.step e (fun a u z q => ?_) A, e⟩
  have hne : a ≠ l := by
    rintro rfl
    rcases q with ⟨u, q⟩ | ⟨u, q⟩ | q
    · rw [h1] at q; cases q
    · rw [h2] at q; cases q
    · exact h3 q
  rw [gdel_ne hne]; exact z
theorem set_get {α : Type} {l : List α} {i j : Nat} {x y : α} (h : (l.set i x)[j]? = some y) : (j = i ∧ y = x) ∨ (j ≠ i ∧ l[j]? = some y) := by
  by_cases e : j = i
  · subst e
    by_cases hl : j < l.length
    · rw [List.getElem?_set_self hl] at h; exact .inl ⟨rfl, (Option.some.inj h).symm⟩
    · rw [List.getElem?_eq_none (by simpa using hl)] at h; cases h
  · rw [List.getElem?_set_ne (Ne.symm e)] at h; exact .inr ⟨e, h⟩
/-- a slot is stored -/
theorem Wd.set (W : Wd Y F R Gl G ρ σ H) {i : Nat} {x : SV} {s : Option V} (h : SvOk Y.K F G R Gl s x) (hi : x.isOwn = true → ∀ l, s = some (.ref l) → ∀ j, j ≠ i → OwnAt ρ j → σ[j]? ≠ some (some (.ref l))) : Wd Y F R Gl G (ρ.set i x) (σ.set i s) H := by
  refine ⟨W.f0, by rw [List.length_set, List.length_set]; exact W.len, W.g, W.r0, W.r, W.gr, fun j y t h1 h2 => ?_, fun j k l o1 o2 h1 h2 => ?_, W.abs⟩
  · rcases set_get h1 with ⟨e, e1⟩ | ⟨e, e1⟩
    · rcases set_get h2 with ⟨_, e2⟩ | ⟨e', _⟩
      · subst e1; subst e2; exact h
      · exact absurd e e'
    · rcases set_get h2 with ⟨e', _⟩ | ⟨_, e2⟩
      · exact absurd e' e
      · exact W.sv j y t e1 e2
  · obtain ⟨y1, a1, b1⟩ := o1
    obtain ⟨y2, a2, b2⟩ := o2
    rcases set_get a1 with ⟨e, e1⟩ | ⟨e, e1⟩
    · rcases set_get a2 with ⟨e', e1'⟩ | ⟨e', e1'⟩
      · rw [e, e']
      · exfalso
        rcases set_get h1 with ⟨_, e2⟩ | ⟨e3, _⟩
        · rcases set_get h2 with ⟨e4, _⟩ | ⟨_, e5⟩
          · exact e' e4
          · subst e1
            exact hi b1 l e2.symm k e' ⟨y2, e1', b2⟩ e5
        · exact e3 e
    · rcases set_get a2 with ⟨e', e1'⟩ | ⟨e', e1'⟩
      · exfalso
        rcases set_get h2 with ⟨_, e2⟩ | ⟨e3, _⟩
        · rcases set_get h1 with ⟨e4, _⟩ | ⟨_, e5⟩
          · exact e e4
          · subst e1'
            exact hi b2 l e2.symm j e ⟨y1, e1, b1⟩ e5
        · exact e3 e'
      · rcases set_get h1 with ⟨e4, _⟩ | ⟨_, e5⟩
        · exact absurd e4 e
        · rcases set_get h2 with ⟨e4, _⟩ | ⟨_, e6⟩
          · exact absurd e4 e'
          · exact W.inj j k l ⟨y1, e1, b1⟩ ⟨y2, e1', b2⟩ e5 e6
theorem Wd.setD (W : Wd Y F R Gl G ρ σ H) {i : Nat} {d : D} {v : V} (h : Rep Y.K F v d) : Wd Y F R Gl G (ρ.set i (.dat d)) (σ.set i (some v)) H :=
  W.set ⟨v, rfl, h⟩ fun q => by cases q
theorem Wd.unk (W : Wd Y F R Gl G ρ σ H) (i : Nat) (s : Option V) : Wd Y F R Gl G (ρ.set i .unk) (σ.set i s) H := W.set trivial fun q => by cases q
/-- a slot forgotten, as it is -/
theorem Wd.forget (W : Wd Y F R Gl G ρ σ H) (i : Nat) : Wd Y F R Gl G (ρ.set i .unk) σ H := by
  refine ⟨W.f0, by rw [List.length_set]; exact W.len, W.g, W.r0, W.r, W.gr, fun j y t h1 h2 => ?_, fun j k l o1 o2 h1 h2 => ?_, W.abs⟩
  · rcases set_get h1 with ⟨e, e1⟩ | ⟨e, e1⟩
    · subst e1; trivial
    · exact W.sv j y t e1 h2
  · obtain ⟨y1, a1, b1⟩ := o1
    obtain ⟨y2, a2, b2⟩ := o2
    rcases set_get a1 with ⟨e, e1⟩ | ⟨e, e1⟩
    · subst e1; cases b1
    · rcases set_get a2 with ⟨e', e1'⟩ | ⟨e', e1'⟩
      · subst e1'; cases b2
      · exact W.inj j k l ⟨y1, e1, b1⟩ ⟨y2, e1', b2⟩ h1 h2
/-- a slot's reading exchanged for another one of the same value, not owned -/
theorem Wd.reD (W : Wd Y F R Gl G ρ σ H) {i : Nat} {d : D} {v : V} (hv : σ[i]? = some (some v)) (h : Rep Y.K F v d) : Wd Y F R Gl G (ρ.set i (.dat d)) σ H := by
  have e : σ.set i (some v) = σ := by
    apply List.ext_getElem?
    intro j
    by_cases q : i = j
    · subst q
      rw [List.getElem?_set_self (List.getElem?_eq_some_iff.mp hv).1, hv]
    · rw [List.getElem?_set_ne q]
  have := W.setD (i := i) h
  rwa [e] at this
end

/-! ### reading a value -/
/-- v may be read as d, d a list or a dict that may still change -/
inductive Vw (Y : Ctx) (F : Hp) (G : Gs) (ρ : Rho) (σ : L2.St) : V → D → Prop
  | rep {v : V} {d : D} : Rep Y.K F v d → Vw Y F G ρ σ v d
  | gl {l : Addr} {ds : List D} : G l = some (.lst ds) → Vw Y F G ρ σ (.ref l) (.lst ds)
  | gll {l : Addr} {ob : Obj} {ds : List D} : G l = some (.lk ob (.lst ds)) → Vw Y F G ρ σ (.ref l) (.lst ds)
  | gd {l : Addr} {ds : List (Key × D)} : G l = some (.dic ds) → Vw Y F G ρ σ (.ref l) (.dic ds)
  | gdl {l : Addr} {ob : Obj} {ds : List (Key × D)} : G l = some (.lk ob (.dic ds)) → Vw Y F G ρ σ (.ref l) (.dic ds)
  | ol {i : Nat} {l : Addr} {ds : List D} : ρ[i]? = some (.own ds) → σ[i]? = some (some (.ref l)) → Vw Y F G ρ σ (.ref l) (.lst ds)
  | od {i : Nat} {l : Addr} {ds : List (Key × D)} : ρ[i]? = some (.ownd ds) → σ[i]? = some (some (.ref l)) → Vw Y F G ρ σ (.ref l) (.dic ds)
/-- the same by the ghost value -/
def ViewD (G : Gs) (d d' : D) : Prop :=
  d = d' ∨ (∃ l ds, d = .ref l ∧ (G l = some (.lst ds) ∨ ∃ ob, G l = some (.lk ob (.lst ds))) ∧ d' = .lst ds) ∨ ∃ l ds, d = .ref l ∧ (G l = some (.dic ds) ∨ ∃ ob, G l = some (.lk ob (.dic ds))) ∧ d' = .dic ds
theorem ViewD.rfl {G : Gs} {d : D} : ViewD G d d := .inl (Eq.refl _)
section
variable {Y : Ctx} {F F' : Hp} {R Gl Gl' G : Gs} {ρ : Rho} {σ : L2.St} {H : Hp} {v : V}
theorem Vw.mono {d : D} (e : Same F F') (h : Vw Y F G ρ σ v d) : Vw Y F' G ρ σ v d := by
  cases h with
  | rep h => exact .rep (h.mono e)
  | gl h => exact .gl h
  | gll h => exact .gll h
  | gd h => exact .gd h
  | gdl h => exact .gdl h
  | ol h h' => exact .ol h h'
  | od h h' => exact .od h h'
theorem Vw.of {d d' : D} (r : Rep Y.K F v d) (h : ViewD G d d') : Vw Y F G ρ σ v d' := by
  rcases h with rfl | ⟨l, ds, rfl, h, rfl⟩ | ⟨l, ds, rfl, h, rfl⟩
  · exact .rep r
  · rw [r.ref_inv]; rcases h with h | ⟨ob, h⟩
    · exact .gl h
    · exact .gll h
  · rw [r.ref_inv]; rcases h with h | ⟨ob, h⟩
    · exact .gd h
    · exact .gdl h
theorem FL.sq (A : Abs Y.K F Gl H) {a : Addr} {vs : List V} (h : FL Y.K F a vs) : SqL Y.K H a vs := by
  rcases h with h | h
  · exact .inl (A.sub a _ h)
  · exact .inr h
theorem Wd.lstV (W : Wd Y F R Gl G ρ σ H) {ds : List D} (h : Vw Y F G ρ σ v (.lst ds)) : ∃ a vs, v = .ref a ∧ SqL Y.K H a vs ∧ Reps Y.K F vs ds := by
  have go : ∀ {l : Addr} {g : GO}, Gl l = some g → (g = .lst ds ∨ ∃ ob, g = .lk ob (.lst ds)) → ∃ vs, SqL Y.K H l vs ∧ Reps Y.K F vs ds := fun {l g} e q => by
    obtain ⟨_, o, ho, r⟩ := W.abs.obj l g e
    rcases q with rfl | ⟨ob, rfl⟩
    · cases r with | lst r => exact ⟨_, .inl (.inl ho), r⟩
    · cases r with | lk r => cases r with | lst r => exact ⟨_, .inl (.inr ⟨_, ho⟩), r⟩
  cases h with
  | rep h => cases h with | lst h r => exact ⟨_, _, rfl, FL.sq W.abs h, r⟩
  | gl h => obtain ⟨vs, h1, h2⟩ := go (W.g _ _ h) (.inl rfl); exact ⟨_, vs, rfl, h1, h2⟩
  | gll h => obtain ⟨vs, h1, h2⟩ := go (W.g _ _ h) (.inr ⟨_, rfl⟩); exact ⟨_, vs, rfl, h1, h2⟩
  | ol h h' =>
    obtain ⟨s, e, l', e2, e3, _⟩ := W.get h
    rw [h'] at e; cases e; cases e2
    obtain ⟨vs, h1, h2⟩ := go e3 (.inl rfl)
    exact ⟨_, vs, rfl, h1, h2⟩
theorem Wd.dicV (W : Wd Y F R Gl G ρ σ H) {ds : List (Key × D)} (h : Vw Y F G ρ σ v (.dic ds)) : ∃ a vs, v = .ref a ∧ Rd H a (.dK vs) ∧ KReps Y.K F vs ds := by
  have go : ∀ {l : Addr} {g : GO}, Gl l = some g → (g = .dic ds ∨ ∃ ob, g = .lk ob (.dic ds)) → ∃ vs, Rd H l (.dK vs) ∧ KReps Y.K F vs ds := fun {l g} e q => by
    obtain ⟨_, o, ho, r⟩ := W.abs.obj l g e
    rcases q with rfl | ⟨ob, rfl⟩
    · cases r with | dic r => exact ⟨_, .inl ho, r⟩
    · cases r with | lk r => cases r with | dic r => exact ⟨_, .inr ⟨_, ho⟩, r⟩
  cases h with
  | rep h => cases h with | dic h r => exact ⟨_, _, rfl, W.abs.sub _ _ h, r⟩
  | gd h => obtain ⟨vs, h1, h2⟩ := go (W.g _ _ h) (.inl rfl); exact ⟨_, vs, rfl, h1, h2⟩
  | gdl h => obtain ⟨vs, h1, h2⟩ := go (W.g _ _ h) (.inr ⟨_, rfl⟩); exact ⟨_, vs, rfl, h1, h2⟩
  | od h h' =>
    obtain ⟨s, e, l', e2, e3, _⟩ := W.get h
    rw [h'] at e; cases e; cases e2
    obtain ⟨vs, h1, h2⟩ := go e3 (.inl rfl)
    exact ⟨_, vs, rfl, h1, h2⟩
theorem Wd.tupV (W : Wd Y F R Gl G ρ σ H) {ds : List D} (h : Vw Y F G ρ σ v (.tup ds)) : ∃ a vs, v = .ref a ∧ SqT Y.K H a vs ∧ Reps Y.K F vs ds := by
  cases h with
  | rep h => cases h with | tup h r => exact ⟨_, _, rfl, .inl (W.abs.sub _ _ h), r⟩
theorem Vw.int_inv {i : Int} (h : Vw Y F G ρ σ v (.int i)) : v = .int i := by cases h with | rep h => exact h.int_inv
theorem Vw.str_inv {i : Str} (h : Vw Y F G ρ σ v (.str i)) : v = .str i := by cases h with | rep h => exact h.str_inv
theorem Vw.bl_inv {i : Bool} (h : Vw Y F G ρ σ v (.bl i)) : v = .bl i := by cases h with | rep h => exact h.bl_inv
theorem Vw.non_inv (h : Vw Y F G ρ σ v .non) : v = .non := by cases h with | rep h => exact h.non_inv
end
end Gh
end

section
set_option Elab.async false
set_option linter.all false
set_option maxRecDepth 100000
set_option maxHeartbeats 4000000
namespace Gh
open PySem PySem.Spec PyProof.Rows L2

/-! ### the readings as wide as they can be -/
def wE (Y : Ctx) (e : Expr) : TE := fun σ H Q => ∀ i pins s, Inv (Y.X i) pins σ H s → wpAny (model (Y.X i).prog (Y.X i).w) (Y.X i).A (eval e (Y.X i).env) (EP (Y.X i) pins σ Q) (Y.X i).xe s
def wT (Y : Ctx) (e : Expr) : TT := fun σ H Q => ∀ i pins s, Inv (Y.X i) pins σ H s → wpAny (model (Y.X i).prog (Y.X i).w) (Y.X i).A (isTrue e (Y.X i).env (eval e (Y.X i).env)) (TP (Y.X i) pins σ Q) (Y.X i).xe s
def wW (Y : Ctx) (e : Expr) : TT := fun σ H Q => ∀ i whole pins s, Inv (Y.X i) pins σ H s → wpAny (model (Y.X i).prog (Y.X i).w) (Y.X i).A (isTrue e (Y.X i).env whole) (TP (Y.X i) pins σ Q) (Y.X i).xe s
def wA (Y : Ctx) (es : List Expr) : TA := fun σ H Q => ∀ i pos pins s, Inv (Y.X i) pins σ H s → wpAny (model (Y.X i).prog (Y.X i).w) (Y.X i).A (spliced (backTo pos (starEach es (Y.X i).env))) (AP (Y.X i) pins σ Q) (Y.X i).xe s
def wC (Y : Ctx) (op : CmpOp) (a b : Expr) : TE := fun σ H Q => ∀ i pins s, Inv (Y.X i) pins σ H s →
  wpAny (model (Y.X i).prog (Y.X i).w) (Y.X i).A (eval a (Y.X i).env) (fun v s₁ => wpAny (model (Y.X i).prog (Y.X i).w) (Y.X i).A (eval b (Y.X i).env) (fun u s₂ => wpAny (model (Y.X i).prog (Y.X i).w) (Y.X i).A (compareOp op v u) (EP (Y.X i) pins σ Q) (Y.X i).xe s₂) (Y.X i).xe s₁) (Y.X i).xe s
def wO (Y : Ctx) (e : Option Expr) (t : TO) : Prop := ∀ i, PO (Y.X i) e t
section
variable {Y : Ctx}
theorem wE.pe {e : Expr} (i : Y.ι) : PE (Y.X i) e (wE Y e) := ⟨fun pins s σ H Q I h => h i pins s I⟩
theorem wE.of {e : Expr} {t : TE} {σ : L2.St} {H : Hp} {Q : VK} (h : ∀ i, PE (Y.X i) e t) (q : t σ H Q) : wE Y e σ H Q := fun i pins s I => (h i).run pins s σ H Q I q
theorem wT.pt {e : Expr} (i : Y.ι) : PT (Y.X i) e (wT Y e) := ⟨fun pins s σ H Q I h => h i pins s I⟩
theorem wT.of {e : Expr} {t : TT} {σ : L2.St} {H : Hp} {Q : Bool → Hp → Prop} (h : ∀ i, PT (Y.X i) e t) (q : t σ H Q) : wT Y e σ H Q := fun i pins s I => (h i).run pins s σ H Q I q
theorem wW.pw {e : Expr} (i : Y.ι) : PW (Y.X i) e (wW Y e) := ⟨fun wh pins s σ H Q I h => h i wh pins s I⟩
theorem wW.of {e : Expr} {t : TT} {σ : L2.St} {H : Hp} {Q : Bool → Hp → Prop} (h : ∀ i, PW (Y.X i) e t) (q : t σ H Q) : wW Y e σ H Q := fun i wh pins s I => (h i).run wh pins s σ H Q I q
theorem wA.pa {e : List Expr} (i : Y.ι) : PA (Y.X i) e (wA Y e) := ⟨fun pos pins s σ H Q I h => h i pos pins s I⟩
theorem wA.of {e : List Expr} {t : TA} {σ : L2.St} {H : Hp} {Q : List V → Hp → Prop} (h : ∀ i, PA (Y.X i) e t) (q : t σ H Q) : wA Y e σ H Q := fun i pos pins s I => (h i).run pos pins s σ H Q I q
theorem wC.pc {op : CmpOp} {a b : Expr} (i : Y.ι) : PC (Y.X i) op a b (wC Y op a b) := ⟨fun pins s σ H Q I h => h i pins s I⟩
theorem wC.of {op : CmpOp} {a b : Expr} {t : TE} {σ : L2.St} {H : Hp} {Q : VK} (h : ∀ i, PC (Y.X i) op a b t) (q : t σ H Q) : wC Y op a b σ H Q := fun i pins s I => (h i).run pins s σ H Q I q
theorem ep_imp {X : Cx} {pins : List (Addr × Obj)} {σ : L2.St} {Q Q' : VK} {u : Value} {s : Shared} (h : EP X pins σ Q u s) (q : ∀ v H', Q v H' → Q' v H') : EP X pins σ Q' u s :=
  let ⟨v, H', I, r, z⟩ := h; ⟨v, H', I, r, q _ _ z⟩
theorem wE.mono {e : Expr} {σ : L2.St} {H : Hp} {Q Q' : VK} (h : wE Y e σ H Q) (q : ∀ v H', Q v H' → Q' v H') : wE Y e σ H Q' := fun i pins s I => thn (h i pins s I) fun _ _ z => (ep_imp z q)
theorem wT.mono {e : Expr} {σ : L2.St} {H : Hp} {Q Q' : Bool → Hp → Prop} (h : wT Y e σ H Q) (q : ∀ v H', Q v H' → Q' v H') : wT Y e σ H Q' := fun i pins s I => thn (h i pins s I) fun _ _ ⟨H', I, z⟩ => ⟨H', I, q _ _ z⟩
theorem wW.mono {e : Expr} {σ : L2.St} {H : Hp} {Q Q' : Bool → Hp → Prop} (h : wW Y e σ H Q) (q : ∀ v H', Q v H' → Q' v H') : wW Y e σ H Q' := fun i wh pins s I => thn (h i wh pins s I) fun _ _ ⟨H', I, z⟩ => ⟨H', I, q _ _ z⟩
theorem wA.mono {e : List Expr} {σ : L2.St} {H : Hp} {Q Q' : List V → Hp → Prop} (h : wA Y e σ H Q) (q : ∀ v H', Q v H' → Q' v H') : wA Y e σ H Q' := fun i pos pins s I => thn (h i pos pins s I) fun _ _ ⟨vs, H', I, r, z⟩ => ⟨vs, H', I, r, q _ _ z⟩
theorem wC.mono {op : CmpOp} {a b : Expr} {σ : L2.St} {H : Hp} {Q Q' : VK} (h : wC Y op a b σ H Q) (q : ∀ v H', Q v H' → Q' v H') : wC Y op a b σ H Q' := fun i pins s I => thn (h i pins s I) fun _ _ z => thn z fun _ _ z => thn z fun _ _ z => (ep_imp z q)
end

/-! ### what is said of an expression -/
def PR (Y : Ctx) (F : Hp) (R G : Gs) (ρ : Rho) (σ : L2.St) (d : D) : VK := fun v H' => ∃ F' Gl', Same F F' ∧ Wd Y F' R Gl' G ρ σ H' ∧ Rep Y.K F' v d
def PVw (Y : Ctx) (F : Hp) (R G : Gs) (ρ : Rho) (σ : L2.St) (d : D) : VK := fun v H' => ∃ F' Gl', Same F F' ∧ Wd Y F' R Gl' G ρ σ H' ∧ Vw Y F' G ρ σ v d
/-- a new thing, of nobody else -/
def PN (Y : Ctx) (F : Hp) (R G : Gs) (ρ : Rho) (σ : L2.St) (g : GO) : VK := fun v H' => ∃ F' Gl' l, v = .ref l ∧ Same F F' ∧ Wd Y F' R Gl' G ρ σ H' ∧ Gl' l = some g ∧ G l = none ∧ R l = none ∧ ¬ Owned ρ σ l
def PB (Y : Ctx) (F : Hp) (R G : Gs) (ρ : Rho) (σ : L2.St) (b : Bool) : Bool → Hp → Prop := fun b' H' => b' = b ∧ ∃ F' Gl', Same F F' ∧ Wd Y F' R Gl' G ρ σ H'
def PG2 (Y : Ctx) (F : Hp) (R : Gs) (ρ : Rho) (σ : L2.St) (P : D → Gs → Prop) : VK := fun v H' => ∃ F' Gl' G' d, Same F F' ∧ Wd Y F' R Gl' G' ρ σ H' ∧ Rep Y.K F' v d ∧ P d G'
structure GE (Y : Ctx) (e : Expr) (ρ : Rho) (G : Gs) (d : D) : Prop where
  run : ∀ F R Gl σ H, Wd Y F R Gl G ρ σ H → wE Y e σ H (PR Y F R G ρ σ d)
structure GV (Y : Ctx) (e : Expr) (ρ : Rho) (G : Gs) (d : D) : Prop where
  run : ∀ F R Gl σ H, Wd Y F R Gl G ρ σ H → wE Y e σ H (PVw Y F R G ρ σ d)
structure GN (Y : Ctx) (e : Expr) (ρ : Rho) (G : Gs) (g : GO) : Prop where
  run : ∀ F R Gl σ H, Wd Y F R Gl G ρ σ H → wE Y e σ H (PN Y F R G ρ σ g)
structure GT (Y : Ctx) (e : Expr) (ρ : Rho) (G : Gs) (b : Bool) : Prop where
  run : ∀ F R Gl σ H, Wd Y F R Gl G ρ σ H → wT Y e σ H (PB Y F R G ρ σ b)
structure GTW (Y : Ctx) (e : Expr) (ρ : Rho) (G : Gs) (b : Bool) : Prop where
  run : ∀ F R Gl σ H, Wd Y F R Gl G ρ σ H → wW Y e σ H (PB Y F R G ρ σ b)
structure GC (Y : Ctx) (op : CmpOp) (a b : Expr) (ρ : Rho) (G : Gs) (d : D) : Prop where
  run : ∀ F R Gl σ H, Wd Y F R Gl G ρ σ H → wC Y op a b σ H (PR Y F R G ρ σ d)
/-- with what it does to G -/
structure GW (Y : Ctx) (e : Expr) (ρ : Rho) (G : Gs) (P : D → Gs → Prop) : Prop where
  run : ∀ F R Gl σ H, Wd Y F R Gl G ρ σ H → wE Y e σ H (PG2 Y F R ρ σ P)
inductive Vws (Y : Ctx) (F : Hp) (G : Gs) (ρ : Rho) (σ : L2.St) : List V → List D → Prop
  | nil : Vws Y F G ρ σ [] []
  | cons {v : V} {vs : List V} {d : D} {ds : List D} : Vw Y F G ρ σ v d → Vws Y F G ρ σ vs ds → Vws Y F G ρ σ (v :: vs) (d :: ds)
theorem Vws.mono {Y : Ctx} {F F' : Hp} {G : Gs} {ρ : Rho} {σ : L2.St} (e : Same F F') : ∀ {vs : List V} {ds : List D}, Vws Y F G ρ σ vs ds → Vws Y F' G ρ σ vs ds
  | _, _, .nil => .nil
  | _, _, .cons h t => .cons (h.mono e) (t.mono e)
/-- arguments: by readings, by values -/
structure GA (Y : Ctx) (es : List Expr) (ρ : Rho) (G : Gs) (ds : List D) : Prop where
  run : ∀ F R Gl σ H, Wd Y F R Gl G ρ σ H → wA Y es σ H fun vs H' => ∃ F' Gl', Same F F' ∧ Wd Y F' R Gl' G ρ σ H' ∧ Vws Y F' G ρ σ vs ds
structure GR (Y : Ctx) (es : List Expr) (ρ : Rho) (G : Gs) (ds : List D) : Prop where
  run : ∀ F R Gl σ H, Wd Y F R Gl G ρ σ H → wA Y es σ H fun vs H' => ∃ F' Gl', Same F F' ∧ Wd Y F' R Gl' G ρ σ H' ∧ Reps Y.K F' vs ds

section
variable {Y : Ctx} {ρ : Rho} {G : Gs} {a b c e : Expr} {es : List Expr} {d d' d1 d2 d3 : D} {ds : List D} {pos p : Pos}
theorem PR.up {F F' : Hp} {σ : L2.St} {v : V} {H : Hp} (s : Same F F') (h : PR Y F' R G ρ σ d v H) : PR Y F R G ρ σ d v H :=
  let ⟨A, B, x, y⟩ := h; ⟨A, B, s.trans x, y⟩
theorem PVw.up {F F' : Hp} {σ : L2.St} {v : V} {H : Hp} (s : Same F F') (h : PVw Y F' R G ρ σ d v H) : PVw Y F R G ρ σ d v H :=
  let ⟨A, B, x, y⟩ := h; ⟨A, B, s.trans x, y⟩
theorem PN.up {F F' : Hp} {σ : L2.St} {v : V} {H : Hp} {g : GO} (s : Same F F') (h : PN Y F' R G ρ σ g v H) : PN Y F R G ρ σ g v H :=
  let ⟨A, B, C, z, x, y⟩ := h; ⟨A, B, C, z, s.trans x, y⟩
theorem PB.up {F F' : Hp} {σ : L2.St} {v w : Bool} {H : Hp} (s : Same F F') (h : PB Y F' R G ρ σ w v H) : PB Y F R G ρ σ w v H :=
  let ⟨z, A, B, x, y⟩ := h; ⟨z, A, B, s.trans x, y⟩
theorem PG2.up {F F' : Hp} {σ : L2.St} {v : V} {H : Hp} {P : D → Gs → Prop} (s : Same F F') (h : PG2 Y F' R ρ σ P v H) : PG2 Y F R ρ σ P v H :=
  let ⟨A, B, C, E, x, y⟩ := h; ⟨A, B, C, E, s.trans x, y⟩
theorem gv_ge (h : GE Y e ρ G d) : GV Y e ρ G d := ⟨fun F R Gl σ H W => (h.run F R Gl σ H W).mono fun v H' ⟨F', Gl', s, W', r⟩ => ⟨F', Gl', s, W', .rep r⟩⟩
theorem gv_view (h : GE Y e ρ G d) (q : ViewD G d d') : GV Y e ρ G d' := ⟨fun F R Gl σ H W => (h.run F R Gl σ H W).mono fun v H' ⟨F', Gl', s, W', r⟩ => ⟨F', Gl', s, W', .of r q⟩⟩
/-- a thing of nobody else is read: it lies frozen -/
theorem PN.fz {F : Hp} {σ : L2.St} {v : V} {H : Hp} {ds : List D} (h : PN Y F R G ρ σ (.lst ds) v H) : PR Y F R G ρ σ (.lst ds) v H := by
  obtain ⟨F', Gl', l, rfl, s, W, h1, h2, h3, h4⟩ := h
  obtain ⟨_, o, ho, r⟩ := W.abs.obj l _ h1
  cases r with
  | lst r =>
    obtain ⟨W', s'⟩ := W.frz h1 rfl ho h2 h3 h4
    exact ⟨_, _, s.trans s', W', .lst (.inl upd_same) (r.mono s')⟩
theorem PN.fzd {F : Hp} {σ : L2.St} {v : V} {H : Hp} {ds : List (Key × D)} (h : PN Y F R G ρ σ (.dic ds) v H) : PR Y F R G ρ σ (.dic ds) v H := by
  obtain ⟨F', Gl', l, rfl, s, W, h1, h2, h3, h4⟩ := h
  obtain ⟨_, o, ho, r⟩ := W.abs.obj l _ h1
  cases r with
  | dic r =>
    obtain ⟨W', s'⟩ := W.frz h1 rfl ho h2 h3 h4
    exact ⟨_, _, s.trans s', W', .dic upd_same (r.mono s')⟩
theorem ge_n (h : GN Y e ρ G (.lst ds)) : GE Y e ρ G (.lst ds) := ⟨fun F R Gl σ H W => (h.run F R Gl σ H W).mono fun v H' q => q.fz⟩
theorem ge_nd {ds : List (Key × D)} (h : GN Y e ρ G (.dic ds)) : GE Y e ρ G (.dic ds) := ⟨fun F R Gl σ H W => (h.run F R Gl σ H W).mono fun v H' q => q.fzd⟩
theorem ge_is (h : GE Y e ρ G d) (q : d = d') : GE Y e ρ G d' := q ▸ h
theorem gv_is (h : GV Y e ρ G d) (q : d = d') : GV Y e ρ G d' := q ▸ h
theorem gn_is {g g' : GO} (h : GN Y e ρ G g) (q : g = g') : GN Y e ρ G g' := q ▸ h
theorem gt_is {x y : Bool} (h : GT Y e ρ G x) (q : x = y) : GT Y e ρ G y := q ▸ h
theorem gw_ge {P : D → Gs → Prop} (h : GE Y e ρ G d) (q : P d G) : GW Y e ρ G P := ⟨fun F R Gl σ H W => (h.run F R Gl σ H W).mono fun v H' ⟨F', Gl', s, W', r⟩ => ⟨F', Gl', G, d, s, W', r, q⟩⟩
theorem gw_mono {P P' : D → Gs → Prop} (h : GW Y e ρ G P) (q : ∀ d G', P d G' → P' d G') : GW Y e ρ G P' := ⟨fun F R Gl σ H W => (h.run F R Gl σ H W).mono fun v H' ⟨F', Gl', G', d, s, W', r, z⟩ => ⟨F', Gl', G', d, s, W', r, q _ _ z⟩⟩
theorem ge_gw (h : GW Y e ρ G fun d' G' => d' = d ∧ G' = G) : GE Y e ρ G d := ⟨fun F R Gl σ H W => (h.run F R Gl σ H W).mono fun v H' ⟨F', Gl', G', d, s, W', r, z⟩ => by
  obtain ⟨rfl, rfl⟩ := z
  exact ⟨F', Gl', s, W', r⟩⟩

/-! names, constants -/
theorem vis_i {x : Str} (h : Vis Y.sc x) (i : Y.ι) : Vis (Y.X i).env.scope x := by rw [Y.hsc i]; exact h
theorem gl_i {x : Str} (h : Y.sc.names.lookup x = some .globalImplicit) (i : Y.ι) : Gl (Y.X i) x := by show (Y.X i).env.scope.names.lookup x = _; rw [Y.hsc i]; exact h
theorem nm_i {i : Y.ι} {j : Nat} {x : Str} (h : Y.N[j]? = some x) : (Y.X i).N[j]? = some x := by rw [Y.hN i]; exact h
theorem mg_i {x : Str} {o : Option Value} (h : Y.mg x = o) (i : Y.ι) : (Y.X i).mg x = o := by rw [Y.hmg i]; exact h
theorem hu_i (i : Y.ι) : (Y.X i).A.units + 64 < cLine := (Y.hr i).units
theorem hu1_i (i : Y.ι) : (Y.X i).A.units + 1 < cLine := hu_of (Y.hr i)
theorem var_pe {x : Str} {j : Nat} (hN : Y.N[j]? = some x) (hv : Vis Y.sc x) (hd : (x == ("__debug__" : Str)) = false) (hcd : (x == ("__classdict__" : Str)) = false) (i : Y.ι) : PE (Y.X i) (.Name x p) (tVar j) := pe_var (nm_i hN) (vis_i hv i) hd hcd
theorem ge_var (j : Nat) {x : Str} (h : ρ[j]? = some (.dat d)) (hN : Y.N[j]? = some x := by rfl) (hv : Vis Y.sc x := by first | exact Or.inl rfl | exact Or.inr (Or.inl rfl) | exact Or.inr (Or.inr rfl)) (hd : (x == ("__debug__" : Str)) = false := by decide) (hcd : (x == ("__classdict__" : Str)) = false := by decide) :
    GE Y (.Name x p) ρ G d := ⟨fun F R Gl σ H W => by
  obtain ⟨v, h1, h2⟩ := W.dat h
  exact wE.of (var_pe hN hv hd hcd) ⟨v, h1, F, Gl, Same.refl F, W, h2⟩⟩
theorem gv_own (j : Nat) {x : Str} (h : ρ[j]? = some (.own ds)) (hN : Y.N[j]? = some x := by rfl) (hv : Vis Y.sc x := by first | exact Or.inl rfl | exact Or.inr (Or.inl rfl) | exact Or.inr (Or.inr rfl)) (hd : (x == ("__debug__" : Str)) = false := by decide) (hcd : (x == ("__classdict__" : Str)) = false := by decide) :
    GV Y (.Name x p) ρ G (.lst ds) := ⟨fun F R Gl σ H W => by
  obtain ⟨s, h1, l, h2, h3⟩ := W.get h
  subst h2
  exact wE.of (var_pe hN hv hd hcd) ⟨_, h1, F, Gl, Same.refl F, W, .ol h h1⟩⟩
theorem gv_ownd (j : Nat) {x : Str} {ds : List (Key × D)} (h : ρ[j]? = some (.ownd ds)) (hN : Y.N[j]? = some x := by rfl) (hv : Vis Y.sc x := by first | exact Or.inl rfl | exact Or.inr (Or.inl rfl) | exact Or.inr (Or.inr rfl)) (hd : (x == ("__debug__" : Str)) = false := by decide) (hcd : (x == ("__classdict__" : Str)) = false := by decide) :
    GV Y (.Name x p) ρ G (.dic ds) := ⟨fun F R Gl σ H W => by
  obtain ⟨s, h1, l, h2, h3⟩ := W.get h
  subst h2
  exact wE.of (var_pe hN hv hd hcd) ⟨_, h1, F, Gl, Same.refl F, W, .od h h1⟩⟩
theorem ge_c {v : V} {ex : Expr} (h : ∀ i, PE (Y.X i) ex (tC v)) (r : ∀ F, Rep Y.K F v d) : GE Y ex ρ G d := ⟨fun F R Gl σ H W => wE.of h ⟨F, Gl, Same.refl F, W, r F⟩⟩
theorem ge_int {i : Int} {j : Nat} : GE Y (.Constant (.int i) j pos) ρ G (.int i) := ge_c (fun _ => pe_int) fun _ => .int i
theorem ge_bl {i : Bool} {j : Nat} : GE Y (.Constant (.bool i) j pos) ρ G (.bl i) := ge_c (fun _ => pe_bl) fun _ => .bl i
theorem ge_non {j : Nat} : GE Y (.Constant .none j pos) ρ G .non := ge_c (fun _ => pe_non) fun _ => .non
theorem ge_str {x : Str} {j : Nat} : GE Y (.Constant (.str x) j pos) ρ G (.str x) := ge_c (fun _ => pe_str) fun _ => .str x
/-- a global of the module -/
theorem ge_glob {x : Str} {v : V} {u : Value} (hm : Y.mg x = some u) (r : RelV v u) (q : ∀ F, Rep Y.K F v d) (hg : Y.sc.names.lookup x = some .globalImplicit := by rfl) (hd : (x == ("__debug__" : Str)) = false := by decide) : GE Y (.Name x p) ρ G d :=
  ge_c (fun i => pe_glob (gl_i hg i) (mg_i hm i) r hd) q
/-- a class that is built in, as a value -/
theorem ge_ty {x : Str} {n : String} (hm : Y.mg x = none) (hv : bootBuiltins x = some (.type n)) (hg : Y.sc.names.lookup x = some .globalImplicit := by rfl) (hn : x ≠ "__name__" := by decide) (hd : (x == ("__debug__" : Str)) = false := by decide) : GE Y (.Name x p) ρ G (.ty n) :=
  ge_c (fun i => pe_bltn (gl_i hg i) (mg_i hm i) hv (v := .ty n) rfl hn hd) fun _ => .ty n

/-! ### two operands -/
def RR (Y : Ctx) (r : R2) (ρ : Rho) (G : Gs) (d1 d2 : D) (P : Hp → Gs → L2.St → VK) : Prop :=
  ∀ F R Gl σ H x y Q, Wd Y F R Gl G ρ σ H → Vw Y F G ρ σ x d1 → Vw Y F G ρ σ y d2 → (∀ v H', P F R σ v H' → Q v H') → r x y H Q
abbrev PRd (Y : Ctx) (G : Gs) (ρ : Rho) (d : D) : Hp → Gs → L2.St → VK := fun F R σ => PR Y F R G ρ σ d
abbrev PNd (Y : Ctx) (G : Gs) (ρ : Rho) (g : GO) : Hp → Gs → L2.St → VK := fun F R σ => PN Y F R G ρ σ g
theorem bin_go {r : R2} {F : Hp} {Gl : Gs} {σ : L2.St} {H : Hp} {P : Hp → Gs → L2.St → VK} (up : ∀ {F F' R σ v H}, Same F F' → P F' R σ v H → P F R σ v H) (W : Wd Y F R Gl G ρ σ H) (ha : GV Y a ρ G d1) (hb : GV Y b ρ G d2) (hr : RR Y r ρ G d1 d2 P) : tOp r (wE Y a) (wE Y b) σ H (P F R σ) :=
  (ha.run F R Gl σ H W).mono fun x H1 ⟨F1, Gl1, s1, W1, v1⟩ => (hb.run F1 R Gl1 σ H1 W1).mono fun y H2 ⟨F2, Gl2, s2, W2, v2⟩ =>
    hr F2 R Gl2 σ H2 x y _ W2 (v1.mono s2) v2 fun v H' q => up (s1.trans s2) q
theorem ge_op {op : Operator} {r : R2} (ho : ∀ i, OpR (Y.X i) (binaryOp op) r) (ha : GV Y a ρ G d1) (hb : GV Y b ρ G d2) (hr : RR Y r ρ G d1 d2 (PRd Y G ρ d)) : GE Y (.BinOp a op b pos) ρ G d :=
  ⟨fun F R Gl σ H W => wE.of (fun i => pe_op (ho i) (wE.pe i) (wE.pe i)) (bin_go (P := PRd Y G ρ d) PR.up W ha hb hr)⟩
theorem gn_op {op : Operator} {r : R2} {g : GO} (ho : ∀ i, OpR (Y.X i) (binaryOp op) r) (ha : GV Y a ρ G d1) (hb : GV Y b ρ G d2) (hr : RR Y r ρ G d1 d2 (PNd Y G ρ g)) : GN Y (.BinOp a op b pos) ρ G g :=
  ⟨fun F R Gl σ H W => wE.of (fun i => pe_op (ho i) (wE.pe i) (wE.pe i)) (bin_go (P := PNd Y G ρ g) PN.up W ha hb hr)⟩
theorem gc_op {op : CmpOp} {r : R2} (ho : ∀ i, OpR (Y.X i) (compareOp op) r) (ha : GV Y a ρ G d1) (hb : GV Y b ρ G d2) (hr : RR Y r ρ G d1 d2 (PRd Y G ρ d)) : GC Y op a b ρ G d :=
  ⟨fun F R Gl σ H W => wC.of (t := tOp r (wE Y a) (wE Y b)) (fun i => ⟨fun pins s σ H Q I h => bin (wE.pe i) (wE.pe i) I h fun v u s2 x y H2 I2 rx ry q => ho i _ _ _ _ _ _ _ _ _ I2 rx ry q⟩) (bin_go (P := PRd Y G ρ d) PR.up W ha hb hr)⟩
theorem rr_val {r : R2} (h : ∀ F R Gl σ H x y Q, Wd Y F R Gl G ρ σ H → Vw Y F G ρ σ x d1 → Vw Y F G ρ σ y d2 → (∀ v, Rep Y.K F v d → Q v H) → r x y H Q) : RR Y r ρ G d1 d2 (PRd Y G ρ d) :=
  fun F R Gl σ H x y Q W v1 v2 q => h F R Gl σ H x y Q W v1 v2 fun v z => q v H ⟨F, Gl, Same.refl F, W, z⟩
section
variable {i j : Int}
theorem ge_add (ha : GE Y a ρ G (.int i)) (hb : GE Y b ρ G (.int j)) : GE Y (.BinOp a .Add b pos) ρ G (.int (i + j)) :=
  ge_op (fun _ => op_add) (gv_ge ha) (gv_ge hb) (rr_val fun F R Gl σ H x y Q W v1 v2 q => ⟨i, j, v1.int_inv, v2.int_inv, q _ (.int _)⟩)
theorem ge_sub (ha : GE Y a ρ G (.int i)) (hb : GE Y b ρ G (.int j)) : GE Y (.BinOp a .Sub b pos) ρ G (.int (i - j)) :=
  ge_op (fun _ => op_sub) (gv_ge ha) (gv_ge hb) (rr_val fun F R Gl σ H x y Q W v1 v2 q => ⟨i, j, v1.int_inv, v2.int_inv, q _ (.int _)⟩)
theorem ge_mul (ha : GE Y a ρ G (.int i)) (hb : GE Y b ρ G (.int j)) (h : CMul i j) : GE Y (.BinOp a .Mult b pos) ρ G (.int (i * j)) :=
  ge_op (fun _ => op_mul) (gv_ge ha) (gv_ge hb) (rr_val fun F R Gl σ H x y Q W v1 v2 q => ⟨i, j, v1.int_inv, v2.int_inv, h, q _ (.int _)⟩)
theorem ge_fdiv (ha : GE Y a ρ G (.int i)) (hb : GE Y b ρ G (.int j)) (h : CDiv i j) : GE Y (.BinOp a .FloorDiv b pos) ρ G (.int (i / j)) :=
  ge_op (fun _ => op_fdiv) (gv_ge ha) (gv_ge hb) (rr_val fun F R Gl σ H x y Q W v1 v2 q => ⟨i, j, v1.int_inv, v2.int_inv, h, q _ (.int _)⟩)
theorem ge_mod (ha : GE Y a ρ G (.int i)) (hb : GE Y b ρ G (.int j)) (h : 0 < j) : GE Y (.BinOp a .Mod b pos) ρ G (.int (i % j)) :=
  ge_op (fun _ => op_mod) (gv_ge ha) (gv_ge hb) (rr_val fun F R Gl σ H x y Q W v1 v2 q => ⟨i, j, v1.int_inv, v2.int_inv, h, q _ (.int _)⟩)
theorem ge_pow (ha : GE Y a ρ G (.int i)) (hb : GE Y b ρ G (.int j)) (h : CPow i j) : GE Y (.BinOp a .Pow b pos) ρ G (.int (i ^ j.toNat)) :=
  ge_op (fun _ => op_pow) (gv_ge ha) (gv_ge hb) (rr_val fun F R Gl σ H x y Q W v1 v2 q => ⟨i, j, v1.int_inv, v2.int_inv, h, q _ (.int _)⟩)
theorem ge_addS {x y : Str} (ha : GE Y a ρ G (.str x)) (hb : GE Y b ρ G (.str y)) (h : x.length + y.length ≤ sizeLine) : GE Y (.BinOp a .Add b pos) ρ G (.str (x ++ y)) :=
  ge_op (fun _ => op_add_str) (gv_ge ha) (gv_ge hb) (rr_val fun F R Gl σ H _ _ Q W v1 v2 q => ⟨x, y, v1.str_inv, v2.str_inv, h, q _ (.str _)⟩)
theorem ge_neg (ha : GE Y a ρ G (.int i)) : GE Y (.UnaryOp .USub a pos) ρ G (.int (-i)) :=
  ⟨fun F R Gl σ H W => wE.of (fun i => pe_un un_neg (wE.pe i)) ((ha.run F R Gl σ H W).mono fun v H' ⟨F', Gl', s, W', r⟩ => ⟨i, r.int_inv, F', Gl', s, W', .int _⟩)⟩
end

/-! ### comparisons -/
theorem ge_cmp {op : CmpOp} (h : GC Y op a b ρ G d) (hm : behindInMarks op b = false := by first | exact nomark _ | rfl) : GE Y (.Compare a [op] [b] pos) ρ G d :=
  ⟨fun F R Gl σ H W => wE.of (fun i => pe_cmp (wC.pc i) hm) (h.run F R Gl σ H W)⟩
theorem gt_cmp {op : CmpOp} {x : Bool} (h : GC Y op a b ρ G (.bl x)) (hm : behindInMarks op b = false := by first | exact nomark _ | rfl) : GT Y (.Compare a [op] [b] pos) ρ G x :=
  ⟨fun F R Gl σ H W => wT.of (fun i => pt_cmp (wC.pc i) hm) ((h.run F R Gl σ H W).mono fun v H' ⟨F', Gl', s, W', r⟩ => ⟨x, r.bl_inv, rfl, F', Gl', s, W'⟩)⟩
section
variable {i j : Int}
theorem gc_i {op : CmpOp} {f : Int → Int → Bool} (ho : ∀ i, OpR (Y.X i) (compareOp op) (rI0 fun i j => .bl (f i j))) (ha : GE Y a ρ G (.int i)) (hb : GE Y b ρ G (.int j)) : GC Y op a b ρ G (.bl (f i j)) :=
  gc_op ho (gv_ge ha) (gv_ge hb) (rr_val fun F R Gl σ H x y Q W v1 v2 q => ⟨i, j, v1.int_inv, v2.int_inv, q _ (.bl _)⟩)
theorem gc_lt (ha : GE Y a ρ G (.int i)) (hb : GE Y b ρ G (.int j)) : GC Y .Lt a b ρ G (.bl (decide (i < j))) := gc_i (f := fun i j => decide (i < j)) (fun _ => op_lt) ha hb
theorem gc_le (ha : GE Y a ρ G (.int i)) (hb : GE Y b ρ G (.int j)) : GC Y .LtE a b ρ G (.bl (decide (i ≤ j))) := gc_i (f := fun i j => decide (i ≤ j)) (fun _ => op_le) ha hb
theorem gc_gt (ha : GE Y a ρ G (.int i)) (hb : GE Y b ρ G (.int j)) : GC Y .Gt a b ρ G (.bl (decide (j < i))) := gc_i (f := fun i j => decide (j < i)) (fun _ => op_gt) ha hb
theorem gc_ge (ha : GE Y a ρ G (.int i)) (hb : GE Y b ρ G (.int j)) : GC Y .GtE a b ρ G (.bl (decide (j ≤ i))) := gc_i (f := fun i j => decide (j ≤ i)) (fun _ => op_ge) ha hb
theorem gc_eqI (ha : GE Y a ρ G (.int i)) (hb : GE Y b ρ G (.int j)) : GC Y .Eq a b ρ G (.bl (decide (i = j))) :=
  gc_op (fun _ => op_eq) (gv_ge ha) (gv_ge hb) (rr_val fun F R Gl σ H x y Q W v1 v2 q => by
    rw [v1.int_inv, v2.int_inv]
    refine ⟨rfl, ?_⟩
    rw [dec_int, Bool.beq_eq_decide_eq]
    exact q _ (.bl _))
theorem gc_neI (ha : GE Y a ρ G (.int i)) (hb : GE Y b ρ G (.int j)) : GC Y .NotEq a b ρ G (.bl (!decide (i = j))) :=
  gc_op (fun _ => op_ne) (gv_ge ha) (gv_ge hb) (rr_val fun F R Gl σ H x y Q W v1 v2 q => by
    rw [v1.int_inv, v2.int_inv]
    refine ⟨rfl, ?_⟩
    rw [dec_int, Bool.beq_eq_decide_eq]
    exact q _ (.bl _))
theorem gc_eqS {x y : Str} (ha : GE Y a ρ G (.str x)) (hb : GE Y b ρ G (.str y)) : GC Y .Eq a b ρ G (.bl (decide (x = y))) :=
  gc_op (fun _ => op_eq) (gv_ge ha) (gv_ge hb) (rr_val fun F R Gl σ H x' y' Q W v1 v2 q => by
    rw [v1.str_inv, v2.str_inv]
    refine ⟨rfl, ?_⟩
    rw [dec_str, Bool.beq_eq_decide_eq]
    exact q _ (.bl _))
theorem gc_neS {x y : Str} (ha : GE Y a ρ G (.str x)) (hb : GE Y b ρ G (.str y)) : GC Y .NotEq a b ρ G (.bl (!decide (x = y))) :=
  gc_op (fun _ => op_ne) (gv_ge ha) (gv_ge hb) (rr_val fun F R Gl σ H x' y' Q W v1 v2 q => by
    rw [v1.str_inv, v2.str_inv]
    refine ⟨rfl, ?_⟩
    rw [dec_str, Bool.beq_eq_decide_eq]
    exact q _ (.bl _))
theorem gc_ltS {x y : Str} (ha : GE Y a ρ G (.str x)) (hb : GE Y b ρ G (.str y)) : GC Y .Lt a b ρ G (.bl (decide (x.cps.toList < y.cps.toList))) :=
  gc_op (fun _ => op_lt_str) (gv_ge ha) (gv_ge hb) (rr_val fun F R Gl σ H x' y' Q W v1 v2 q => ⟨x, y, v1.str_inv, v2.str_inv, q _ (.bl _)⟩)
end
def D.isNon : D → Bool
  | .non => true
  | _ => false
theorem Vw.non_iff {F : Hp} {σ : L2.St} {v : V} (h : Vw Y F G ρ σ v d) : decide (v = .non) = d.isNon := by
  cases h with
  | rep h => cases h <;> rfl
  | _ => rfl
theorem gc_isN {j : Nat} {pos' : Pos} (ha : GV Y a ρ G d) : GC Y .Is a (.Constant .none j pos') ρ G (.bl d.isNon) :=
  ⟨fun F R Gl σ H W => wC.of (fun i => pc_isN (wE.pe i)) ((ha.run F R Gl σ H W).mono fun v H' ⟨F', Gl', s, W', r⟩ => ⟨F', Gl', s, W', by rw [r.non_iff]; exact .bl _⟩)⟩
theorem gc_notN {j : Nat} {pos' : Pos} (ha : GV Y a ρ G d) : GC Y .IsNot a (.Constant .none j pos') ρ G (.bl (!d.isNon)) :=
  ⟨fun F R Gl σ H W => wC.of (fun i => pc_notN (wE.pe i)) ((ha.run F R Gl σ H W).mono fun v H' ⟨F', Gl', s, W', r⟩ => ⟨F', Gl', s, W', by rw [r.non_iff]; exact .bl _⟩)⟩

/-! ### tests -/
theorem gt_val {x : Bool} (h : GE Y e ρ G (.bl x)) (he : ∀ i whole, isTrue e (Y.X i).env whole = (do let v ← whole; standAt e.pos; holding [v] (truthy v)) := by intro _ _; rfl) : GT Y e ρ G x :=
  ⟨fun F R Gl σ H W => wT.of (fun i => pt_val (wE.pe i) (he i)) ((h.run F R Gl σ H W).mono fun v H' ⟨F', Gl', s, W', r⟩ => ⟨x, r.bl_inv, rfl, F', Gl', s, W'⟩)⟩
theorem gt_w {x : Bool} (h : GTW Y e ρ G x) : GT Y e ρ G x := ⟨fun F R Gl σ H W => wT.of (fun i => (wW.pw i).pt) (h.run F R Gl σ H W)⟩
theorem gt_not {x : Bool} (h : GT Y e ρ G x) : GT Y (.UnaryOp .Not e pos) ρ G (!x) :=
  ⟨fun F R Gl σ H W => wT.of (fun i => pt_not (wT.pt i)) ((h.run F R Gl σ H W).mono fun v H' ⟨z, q⟩ => ⟨by rw [z], q⟩)⟩
theorem gtw_and1 {x : Bool} (h : GT Y e ρ G x) : GTW Y (.BoolOp .And [e] pos) ρ G x := ⟨fun F R Gl σ H W => wW.of (fun i => pw_and1 (wT.pt i)) (h.run F R Gl σ H W)⟩
theorem gtw_or1 {x : Bool} (h : GT Y e ρ G x) : GTW Y (.BoolOp .Or [e] pos) ρ G x := ⟨fun F R Gl σ H W => wW.of (fun i => pw_or1 (wT.pt i)) (h.run F R Gl σ H W)⟩
theorem gtw_and {x y : Bool} (h : GT Y a ρ G x) (h' : x = true → GTW Y (.BoolOp .And (b :: es) pos) ρ G y) : GTW Y (.BoolOp .And (a :: b :: es) pos) ρ G (x && y) :=
  ⟨fun F R Gl σ H W => wW.of (fun i => pw_and (wT.pt i) (wW.pw i)) ((h.run F R Gl σ H W).mono fun v H1 ⟨z, F', Gl', s, W'⟩ => by
    subst z
    cases v with
    | false => exact ⟨rfl, F', Gl', s, W'⟩
    | true => exact ((h' rfl).run F' R Gl' σ H1 W').mono fun _ _ q => q.up s)⟩
theorem gtw_or {x y : Bool} (h : GT Y a ρ G x) (h' : x = false → GTW Y (.BoolOp .Or (b :: es) pos) ρ G y) : GTW Y (.BoolOp .Or (a :: b :: es) pos) ρ G (x || y) :=
  ⟨fun F R Gl σ H W => wW.of (fun i => pw_or (wT.pt i) (wW.pw i)) ((h.run F R Gl σ H W).mono fun v H1 ⟨z, F', Gl', s, W'⟩ => by
    subst z
    cases v with
    | true => exact ⟨rfl, F', Gl', s, W'⟩
    | false => exact ((h' rfl).run F' R Gl' σ H1 W').mono fun _ _ q => q.up s)⟩
theorem ge_one {op : BoolOp} (h : GE Y e ρ G d) : GE Y (.BoolOp op [e] pos) ρ G d := ⟨fun F R Gl σ H W => wE.of (fun i => pe_one (wE.pe i)) (h.run F R Gl σ H W)⟩
theorem ge_and {x y : Bool} (h : GE Y a ρ G (.bl x)) (h' : x = true → GE Y (.BoolOp .And (b :: es) pos) ρ G (.bl y)) : GE Y (.BoolOp .And (a :: b :: es) pos) ρ G (.bl (x && y)) :=
  ⟨fun F R Gl σ H W => wE.of (fun i => pe_and (wE.pe i) (wE.pe i)) ((h.run F R Gl σ H W).mono fun v H1 ⟨F', Gl', s, W', r⟩ => ⟨x, r.bl_inv, by
    cases x with
    | false => exact ⟨F', Gl', s, W', .bl _⟩
    | true => exact ((h' rfl).run F' R Gl' σ H1 W').mono fun _ _ q => q.up s⟩)⟩
theorem ge_or {x y : Bool} (h : GE Y a ρ G (.bl x)) (h' : x = false → GE Y (.BoolOp .Or (b :: es) pos) ρ G (.bl y)) : GE Y (.BoolOp .Or (a :: b :: es) pos) ρ G (.bl (x || y)) :=
  ⟨fun F R Gl σ H W => wE.of (fun i => pe_or (wE.pe i) (wE.pe i)) ((h.run F R Gl σ H W).mono fun v H1 ⟨F', Gl', s, W', r⟩ => ⟨x, r.bl_inv, by
    cases x with
    | true => exact ⟨F', Gl', s, W', .bl _⟩
    | false => exact ((h' rfl).run F' R Gl' σ H1 W').mono fun _ _ q => q.up s⟩)⟩
theorem ge_not {x : Bool} (h : GE Y e ρ G (.bl x)) : GE Y (.UnaryOp .Not e pos) ρ G (.bl (!x)) :=
  ⟨fun F R Gl σ H W => wE.of (fun i => pe_not (wE.pe i)) ((h.run F R Gl σ H W).mono fun v H1 ⟨F', Gl', s, W', r⟩ => ⟨x, r.bl_inv, F', Gl', s, W', .bl _⟩)⟩
theorem ge_if {x : Bool} (h : GT Y c ρ G x) (h1 : x = true → GE Y a ρ G d1) (h2 : x = false → GE Y b ρ G d2) : GE Y (.IfExp c a b pos) ρ G (if x then d1 else d2) :=
  ⟨fun F R Gl σ H W => wE.of (fun i => pe_ifExp (wT.pt i) (wE.pe i) (wE.pe i)) ((h.run F R Gl σ H W).mono fun v H1 ⟨z, F', Gl', s, W'⟩ => by
    subst z
    cases v with
    | true => exact ((h1 rfl).run F' R Gl' σ H1 W').mono fun _ _ q => q.up s
    | false => exact ((h2 rfl).run F' R Gl' σ H1 W').mono fun _ _ q => q.up s)⟩
/-- a < b < c of ints -/
theorem chain_go {r r' : R2} {f f' : Int → Int → Bool} {i j k : Int} {op op' : CmpOp} (er : r = rI0 fun i j => .bl (f i j)) (er' : r' = rI0 fun i j => .bl (f' i j)) {F : Hp} {Gl : Gs} {σ : L2.St} {H : Hp} (W : Wd Y F R Gl G ρ σ H)
    (ha : GE Y a ρ G (.int i)) (hb : GE Y b ρ G (.int j)) (hc : GE Y c ρ G (.int k)) : tChain r r' (wE Y a) (wE Y b) (wE Y c) σ H (PR Y F R G ρ σ (.bl (f i j && f' j k))) := by
  subst er; subst er'
  refine (ha.run F R Gl σ H W).mono fun x H1 ⟨F1, Gl1, s1, W1, v1⟩ => (hb.run F1 R Gl1 σ H1 W1).mono fun y H2 ⟨F2, Gl2, s2, W2, v2⟩ => ?_
  refine ⟨i, j, v1.int_inv, v2.int_inv, f i j, rfl, ?_⟩
  by_cases e : f i j = true
  · rw [if_pos e]
    refine (hc.run F2 R Gl2 σ H2 W2).mono fun z H3 ⟨F3, Gl3, s3, W3, v3⟩ => ⟨j, k, v2.int_inv, v3.int_inv, F3, Gl3, (s1.trans s2).trans s3, W3, ?_⟩
    rw [e, Bool.true_and]; exact .bl _
  · rw [if_neg e]
    refine ⟨F2, Gl2, s1.trans s2, W2, ?_⟩
    rw [Bool.eq_false_iff.mpr e, Bool.false_and]; exact .bl _
theorem ge_chain {f f' : Int → Int → Bool} {i j k : Int} {op op' : CmpOp} (ho : ∀ i, OpR (Y.X i) (compareOp op) (rI0 fun i j => .bl (f i j))) (ho' : ∀ i, OpR (Y.X i) (compareOp op') (rI0 fun i j => .bl (f' i j)))
    (ha : GE Y a ρ G (.int i)) (hb : GE Y b ρ G (.int j)) (hc : GE Y c ρ G (.int k)) (hm : lastMarks [op, op'] [b, c] = false := by rfl) : GE Y (.Compare a [op, op'] [b, c] pos) ρ G (.bl (f i j && f' j k)) :=
  ⟨fun F R Gl σ H W => wE.of (fun i => pe_chain (ho i) (ho' i) (wE.pe i) (wE.pe i) (wE.pe i) hm) (chain_go (op := op) (op' := op') rfl rfl W ha hb hc)⟩
end
end Gh
end

section
set_option Elab.async false
set_option linter.all false
set_option maxRecDepth 100000
set_option maxHeartbeats 4000000
namespace Gh
open PySem PySem.Spec PyProof.Rows L2
abbrev GlS (sc : Scope) (x : Str) : Prop := sc.names.lookup x = some .globalImplicit

section
variable {Y : Ctx} {ρ : Rho} {G : Gs} {a b c e : Expr} {es : List Expr} {d d' d1 d2 d3 : D} {ds : List D} {pos p : Pos}

/-! ### arguments -/
theorem ga_nil : GA Y [] ρ G [] := ⟨fun F R Gl σ H W => wA.of (fun i => pa_nil) ⟨F, Gl, Same.refl F, W, .nil⟩⟩
theorem ga_cons (h : GV Y e ρ G d) (hr : GA Y es ρ G ds) (hs : ∀ env, starEach (e :: es) env = (false, eval e env) :: starEach es env := by intro _; rfl) : GA Y (e :: es) ρ G (d :: ds) :=
  ⟨fun F R Gl σ H W => wA.of (fun i => pa_cons (wE.pe i) (wA.pa i) (hs _)) ((h.run F R Gl σ H W).mono fun v H1 ⟨F1, Gl1, s1, W1, v1⟩ => (hr.run F1 R Gl1 σ H1 W1).mono fun vs H2 ⟨F2, Gl2, s2, W2, v2⟩ =>
    ⟨F2, Gl2, s1.trans s2, W2, .cons (v1.mono s2) v2⟩)⟩
theorem gr_nil : GR Y [] ρ G [] := ⟨fun F R Gl σ H W => wA.of (fun i => pa_nil) ⟨F, Gl, Same.refl F, W, .nil⟩⟩
theorem gr_cons (h : GE Y e ρ G d) (hr : GR Y es ρ G ds) (hs : ∀ env, starEach (e :: es) env = (false, eval e env) :: starEach es env := by intro _; rfl) : GR Y (e :: es) ρ G (d :: ds) :=
  ⟨fun F R Gl σ H W => wA.of (fun i => pa_cons (wE.pe i) (wA.pa i) (hs _)) ((h.run F R Gl σ H W).mono fun v H1 ⟨F1, Gl1, s1, W1, v1⟩ => (hr.run F1 R Gl1 σ H1 W1).mono fun vs H2 ⟨F2, Gl2, s2, W2, v2⟩ =>
    ⟨F2, Gl2, s1.trans s2, W2, .cons (v1.mono s2) v2⟩)⟩

/-! ### displays -/
theorem sz_small {n : Nat} (h : n ≤ 1000) : n ≤ sizeLine := Nat.le_trans h (by decide)
theorem ge_tup {k : Nat} (h : GR Y es ρ G ds) (hl : ds.length ≤ 1000 := by exact Nat.le_of_ble_eq_true rfl) : GE Y (.Tuple es k pos) ρ G (.tup ds) :=
  ⟨fun F R Gl σ H W => wE.of (fun i => pe_tup (wA.pa i)) ((h.run F R Gl σ H W).mono fun vs H1 ⟨F1, Gl1, s1, W1, r⟩ => ⟨sz_small (by rw [r.length]; exact hl), fun p hp => by
    obtain ⟨W2, s2⟩ := W1.newF (o := .tup vs) hp
    exact ⟨_, _, s1.trans s2, W2, .tup upd_same (r.mono s2)⟩⟩)⟩
/-- a new list with what stands in it -/
theorem new_lst {F : Hp} {Gl : Gs} {σ : L2.St} {H : Hp} {vs : List V} (W : Wd Y F R Gl G ρ σ H) (r : Reps Y.K F vs ds) {p : Addr} (hp : H p = none) : PN Y F R G ρ σ (.lst ds) (.ref p) (upd H p (.lst vs)) :=
  ⟨F, _, p, rfl, Same.refl F, W.newG hp (.lst r), gupd_same, (W.fresh hp).2.2.1, (W.fresh hp).2.2.2.1, (W.fresh hp).2.2.2.2⟩
theorem new_dic {F : Hp} {Gl : Gs} {σ : L2.St} {H : Hp} {vs : List (Key × V)} {ds : List (Key × D)} (W : Wd Y F R Gl G ρ σ H) (r : KReps Y.K F vs ds) {p : Addr} (hp : H p = none) : PN Y F R G ρ σ (.dic ds) (.ref p) (upd H p (.dK vs)) :=
  ⟨F, _, p, rfl, Same.refl F, W.newG hp (.dic r), gupd_same, (W.fresh hp).2.2.1, (W.fresh hp).2.2.2.1, (W.fresh hp).2.2.2.2⟩
theorem gn_lst (h : GR Y es ρ G ds) (hl : ds.length ≤ 1000 := by exact Nat.le_of_ble_eq_true rfl) : GN Y (.List es pos) ρ G (.lst ds) :=
  ⟨fun F R Gl σ H W => wE.of (fun i => pe_lst (wA.pa i)) ((h.run F R Gl σ H W).mono fun vs H1 ⟨F1, Gl1, s1, W1, r⟩ => ⟨sz_small (by rw [r.length]; exact hl), fun p hp => (new_lst W1 r hp).up s1⟩)⟩
theorem gn_dnew : GN Y (.Dict [] [] pos) ρ G (.dic []) :=
  ⟨fun F R Gl σ H W => wE.of (fun i => pe_dnewK) fun p hp => new_dic W .nil hp⟩

/-! ### built-in functions and types called -/
abbrev AR (Y : Ctx) (r : List V → Hp → VK → Prop) (ρ : Rho) (G : Gs) (ds : List D) (P : Hp → Gs → L2.St → VK) : Prop :=
  ∀ F R Gl σ H vs Q, Wd Y F R Gl G ρ σ H → Vws Y F G ρ σ vs ds → (∀ v H', P F R σ v H' → Q v H') → r vs H Q
theorem cb_go {x : Str} {id : String} {r : List V → Hp → VK → Prop} {P : Hp → Gs → L2.St → VK} (up : ∀ {F F' R σ v H}, Same F F' → P F' R σ v H → P F R σ v H) {F : Hp} {Gl : Gs} {σ : L2.St} {H : Hp} (W : Wd Y F R Gl G ρ σ H)
    (hc : ∀ i, CallR (Y.X i) (.builtin id) r) (hg : GlS Y.sc x) (hm : Y.mg x = none) (hv : bootBuiltins x = some (.builtin id)) (ha : GA Y (e :: es) ρ G ds) (hr : AR Y r ρ G ds P)
    (hn : x ≠ "__name__") (hdb : (x == ("__debug__" : Str)) = false) (he : ∀ env, starEach (e :: es) env = (false, eval e env) :: starEach es env) (hpl : ∀ env, (backTo pos (starEach es env)).any (·.1) = false) : wE Y (.Call (.Name x p) (e :: es) [] pos) σ H (P F R σ) :=
  wE.of (fun i => pe_callB (hc i) (gl_i hg i) (mg_i hm i) hv (wA.pa i) hn hdb (he _) (hpl _)) ((ha.run F R Gl σ H W).mono fun vs H1 ⟨F1, Gl1, s1, W1, v1⟩ => hr F1 R Gl1 σ H1 vs _ W1 v1 fun v H' q => up s1 q)
theorem ct_go {x : Str} {id : String} {r : List V → Hp → VK → Prop} {P : Hp → Gs → L2.St → VK} (up : ∀ {F F' R σ v H}, Same F F' → P F' R σ v H → P F R σ v H) {F : Hp} {Gl : Gs} {σ : L2.St} {H : Hp} (W : Wd Y F R Gl G ρ σ H)
    (hc : ∀ i, CallR (Y.X i) (.type id) r) (hg : GlS Y.sc x) (hm : Y.mg x = none) (hv : bootBuiltins x = some (.type id)) (ha : GA Y (e :: es) ρ G ds) (hr : AR Y r ρ G ds P)
    (hn : x ≠ "__name__") (hdb : (x == ("__debug__" : Str)) = false) (he : ∀ env, starEach (e :: es) env = (false, eval e env) :: starEach es env) (hpl : ∀ env, (backTo pos (starEach es env)).any (·.1) = false) : wE Y (.Call (.Name x p) (e :: es) [] pos) σ H (P F R σ) :=
  wE.of (fun i => pe_callTy (hc i) (gl_i hg i) (mg_i hm i) hv (wA.pa i) hn hdb (he _) (hpl _)) ((ha.run F R Gl σ H W).mono fun vs H1 ⟨F1, Gl1, s1, W1, v1⟩ => hr F1 R Gl1 σ H1 vs _ W1 v1 fun v H' q => up s1 q)
/-- the facts about the module's names that are built in -/
structure Blt (mg : Str → Option Value) : Prop where
  no : ∀ x : Str, x ∈ (["len", "isinstance", "int", "bool", "str", "list", "tuple", "dict", "max", "min", "range", "sorted", "reversed", "enumerate", "zip", "all", "set", "ValueError"] : List Str) → mg x = none
theorem Blt.at {mg : Str → Option Value} (B : Blt mg) {x : Str} (h : (["len", "isinstance", "int", "bool", "str", "list", "tuple", "dict", "max", "min", "range", "sorted", "reversed", "enumerate", "zip", "all", "set", "ValueError"] : List Str).contains x = true := by decide) : mg x = none := B.no x (by simpa using h)

/-! len -/
inductive LenD : D → Nat → Prop
  | lst {ds : List D} : LenD (.lst ds) ds.length
  | tup {ds : List D} : LenD (.tup ds) ds.length
  | dic {ds : List (Key × D)} : LenD (.dic ds) ds.length
  | str {x : Str} (h : x.length ≤ sizeLine) : LenD (.str x) x.length
theorem call_lenR {X : Cx} : CallR X (.builtin "len") (fun xs H Q => ∃ a kvs, xs = [V.ref a] ∧ Rd H a (.dK kvs) ∧ Q (.int kvs.length) H) := by
  intro pins s σ H xs us Q I r h
  obtain ⟨a, kvs, rfl, ha, q⟩ := h
  obtain ⟨u, rfl, ru⟩ := vals1 r
  cases ru
  exact d_len I ha fun t s' I' => ⟨.int kvs.length, H, I', ⟨t, rfl⟩, q⟩
theorem Vws.one_inv {F : Hp} {σ : L2.St} {vs : List V} (h : Vws Y F G ρ σ vs [d]) : ∃ v, vs = [v] ∧ Vw Y F G ρ σ v d := by
  cases h with | cons a b => cases b; exact ⟨_, rfl, a⟩
theorem Vws.two_inv {F : Hp} {σ : L2.St} {vs : List V} (h : Vws Y F G ρ σ vs [d, d']) : ∃ v w, vs = [v, w] ∧ Vw Y F G ρ σ v d ∧ Vw Y F G ρ σ w d' := by
  cases h with | cons a b => cases b with | cons b c => cases c; exact ⟨_, _, rfl, a, b⟩
theorem pr_here {F : Hp} {Gl : Gs} {σ : L2.St} {H : Hp} {v : V} (W : Wd Y F R Gl G ρ σ H) (r : Rep Y.K F v d) : PR Y F R G ρ σ d v H := ⟨F, Gl, Same.refl F, W, r⟩
theorem ge_len {n : Nat} (T : Blt Y.mg) (ha : GV Y e ρ G d) (h : LenD d n) (hg : GlS Y.sc "len" := by rfl) (he : ∀ env, starEach [e] env = (false, eval e env) :: starEach [] env := by intro _; rfl) :
    GE Y (.Call (.Name "len" p) [e] [] pos) ρ G (.int n) := ⟨fun F R Gl σ H W => by
  cases h with
  | lst =>
    refine cb_go (P := PRd Y G ρ _) PR.up W (fun i => by have := @call_len_seq (Y.X i); rwa [Y.hK i] at this) hg T.at PySem.boot_len (ga_cons ha ga_nil he) (fun F R Gl σ H vs Q W v q => ?_) (by decide) (by decide) he (fun _ => rfl)
    obtain ⟨v, rfl, w⟩ := v.one_inv
    obtain ⟨a, vs, rfl, h1, h2⟩ := W.lstV w
    exact ⟨a, vs, rfl, .inl h1, by rw [h2.length]; exact q _ _ (pr_here W (.int _))⟩
  | tup =>
    refine cb_go (P := PRd Y G ρ _) PR.up W (fun i => by have := @call_len_seq (Y.X i); rwa [Y.hK i] at this) hg T.at PySem.boot_len (ga_cons ha ga_nil he) (fun F R Gl σ H vs Q W v q => ?_) (by decide) (by decide) he (fun _ => rfl)
    obtain ⟨v, rfl, w⟩ := v.one_inv
    obtain ⟨a, vs, rfl, h1, h2⟩ := W.tupV w
    exact ⟨a, vs, rfl, .inr h1, by rw [h2.length]; exact q _ _ (pr_here W (.int _))⟩
  | dic =>
    refine cb_go (P := PRd Y G ρ _) PR.up W (fun i => call_lenR) hg T.at PySem.boot_len (ga_cons ha ga_nil he) (fun F R Gl σ H vs Q W v q => ?_) (by decide) (by decide) he (fun _ => rfl)
    obtain ⟨v, rfl, w⟩ := v.one_inv
    obtain ⟨a, vs, rfl, h1, h2⟩ := W.dicV w
    exact ⟨a, vs, rfl, h1, by rw [h2.length]; exact q _ _ (pr_here W (.int _))⟩
  | str hl =>
    refine cb_go (P := PRd Y G ρ _) PR.up W (fun i => call_len_str) hg T.at PySem.boot_len (ga_cons ha ga_nil he) (fun F R Gl σ H vs Q W v q => ?_) (by decide) (by decide) he (fun _ => rfl)
    obtain ⟨v, rfl, w⟩ := v.one_inv
    exact ⟨_, by rw [w.str_inv], hl, q _ _ (pr_here W (.int _))⟩⟩

/-! max, min of two -/
theorem ge_max {i j : Int} (T : Blt Y.mg) (ha : GE Y a ρ G (.int i)) (hb : GE Y b ρ G (.int j)) (hg : GlS Y.sc "max" := by rfl) (he : ∀ env, starEach [a, b] env = (false, eval a env) :: starEach [b] env := by intro _; rfl) (he' : ∀ env, starEach [b] env = (false, eval b env) :: starEach [] env := by intro _; rfl)
    (hpl : ∀ env, (backTo pos (starEach [b] env)).any (·.1) = false := by intro _; rfl) : GE Y (.Call (.Name "max" p) [a, b] [] pos) ρ G (.int (max i j)) := ⟨fun F R Gl σ H W => by
  refine cb_go (P := PRd Y G ρ _) PR.up W (fun i => call_max2 (Y.hc i)) hg T.at (by decide +kernel) (ga_cons (gv_ge ha) (ga_cons (gv_ge hb) ga_nil he') he) (fun F R Gl σ H vs Q W v q => ?_) (by decide) (by decide) he hpl
  obtain ⟨v, w, rfl, h1, h2⟩ := v.two_inv
  refine ⟨i, j, by rw [h1.int_inv, h2.int_inv], ?_⟩
  have e : (if j > i then j else i) = max i j := by omega
  rw [e]
  exact q _ _ (pr_here W (.int _))⟩
theorem ge_min {i j : Int} (T : Blt Y.mg) (ha : GE Y a ρ G (.int i)) (hb : GE Y b ρ G (.int j)) (hg : GlS Y.sc "min" := by rfl) (he : ∀ env, starEach [a, b] env = (false, eval a env) :: starEach [b] env := by intro _; rfl) (he' : ∀ env, starEach [b] env = (false, eval b env) :: starEach [] env := by intro _; rfl)
    (hpl : ∀ env, (backTo pos (starEach [b] env)).any (·.1) = false := by intro _; rfl) : GE Y (.Call (.Name "min" p) [a, b] [] pos) ρ G (.int (min i j)) := ⟨fun F R Gl σ H W => by
  refine cb_go (P := PRd Y G ρ _) PR.up W (fun i => call_min2 (Y.hc i)) hg T.at (by decide +kernel) (ga_cons (gv_ge ha) (ga_cons (gv_ge hb) ga_nil he') he) (fun F R Gl σ H vs Q W v q => ?_) (by decide) (by decide) he hpl
  obtain ⟨v, w, rfl, h1, h2⟩ := v.two_inv
  refine ⟨i, j, by rw [h1.int_inv, h2.int_inv], ?_⟩
  have e : (if j < i then j else i) = min i j := by omega
  rw [e]
  exact q _ _ (pr_here W (.int _))⟩

/-! isinstance -/
def D.tyN : D → Option String
  | .non => some "NoneType"
  | .bl _ => some "bool"
  | .int _ => some "int"
  | .str _ => some "str"
  | .lst _ => some "list"
  | .tup _ => some "tuple"
  | .dic _ => some "dict"
  | .ref _ => none
  | .ty _ => none
theorem Wd.tyx {F : Hp} {Gl : Gs} {σ : L2.St} {H : Hp} {v : V} {n : String} (W : Wd Y F R Gl G ρ σ H) (w : Vw Y F G ρ σ v d) (h : d.tyN = some n) : TyX Y.K H v (.type n) := by
  cases d with
  | non => cases h; rw [w.non_inv]; exact .base .non
  | bl x => cases h; rw [w.bl_inv]; exact .base (.bl x)
  | int x => cases h; rw [w.int_inv]; exact .base (.int x)
  | str x => cases h; rw [w.str_inv]; exact .base (.str x)
  | lst x =>
    cases h
    obtain ⟨a, vs, rfl, h1, _⟩ := W.lstV w
    rcases h1 with (h1 | ⟨o, h1⟩) | ⟨o, its, m, h1, h2, _⟩
    · exact .base (.lst h1)
    · exact .base (.frz h1)
    · exact .kList h1 h2
  | tup x =>
    cases h
    obtain ⟨a, vs, rfl, h1, _⟩ := W.tupV w
    rcases h1 with (h1 | ⟨o, h1⟩) | ⟨o, its, m, h1, h2, _⟩
    · exact .base (.tup h1)
    · exact .fTuple h1
    · exact .kTuple h1 h2
  | dic x =>
    cases h
    obtain ⟨a, vs, rfl, h1, _⟩ := W.dicV w
    rcases h1 with h1 | ⟨o, h1⟩
    · exact .base (.dK h1)
    · exact .fDict h1
  | ref x => cases h
  | ty x => cases h
theorem ge_isi {n m : String} {x : Bool} (T : Blt Y.mg) (ha : GV Y a ρ G d) (hb : GE Y b ρ G (.ty m)) (h : d.tyN = some n) (hk : kitB n m = some x) (hg : GlS Y.sc "isinstance" := by rfl)
    (he : ∀ env, starEach [a, b] env = (false, eval a env) :: starEach [b] env := by intro _; rfl) (he' : ∀ env, starEach [b] env = (false, eval b env) :: starEach [] env := by intro _; rfl)
    (hpl : ∀ env, (backTo pos (starEach [b] env)).any (·.1) = false := by intro _; rfl) : GE Y (.Call (.Name "isinstance" p) [a, b] [] pos) ρ G (.bl x) := ⟨fun F R Gl σ H W => by
  refine cb_go (P := PRd Y G ρ _) PR.up W (fun i => by have := @call_isi (Y.X i); rwa [Y.hK i] at this) hg T.at (by decide +kernel) (ga_cons ha (ga_cons (gv_ge hb) ga_nil he') he) (fun F R Gl σ H vs Q W v q => ?_) (by decide) (by decide) he hpl
  obtain ⟨v', w', rfl, h1, h2⟩ := v.two_inv
  have e2 : w' = .ty m := by cases h2 with | rep h2 => exact h2.ty_inv
  subst e2
  exact ⟨v', .ty m, .type n, .type m, x, rfl, .ty m, W.tyx h1 h, kit_ty hk, q _ _ (pr_here W (.bl _))⟩⟩
def D.isInt : D → Bool
  | .int _ => true
  | .bl _ => true
  | _ => false
def D.isBl : D → Bool
  | .bl _ => true
  | _ => false
def D.isStr : D → Bool
  | .str _ => true
  | _ => false
def D.isLst : D → Bool
  | .lst _ => true
  | _ => false
def D.isTup : D → Bool
  | .tup _ => true
  | _ => false
def D.isDic : D → Bool
  | .dic _ => true
  | _ => false
def D.isD : D → Bool
  | .ref _ => false
  | .ty _ => false
  | _ => true
inductive IsiD : D → String → Bool → Prop
  | int {d : D} (h : d.isD = true) : IsiD d "int" d.isInt
  | bl {d : D} (h : d.isD = true) : IsiD d "bool" d.isBl
  | str {d : D} (h : d.isD = true) : IsiD d "str" d.isStr
  | lst {d : D} (h : d.isD = true) : IsiD d "list" d.isLst
  | tup {d : D} (h : d.isD = true) : IsiD d "tuple" d.isTup
  | dic {d : D} (h : d.isD = true) : IsiD d "dict" d.isDic
theorem IsiD.kit {m : String} {x : Bool} (h : IsiD d m x) : ∃ n, d.tyN = some n ∧ kitB n m = some x := by
  cases h with
  | int h => cases d <;> first | (cases h; done) | exact ⟨_, rfl, (by first | (show kitB _ _ = some true; decide +kernel) | (show kitB _ _ = some false; decide +kernel))⟩
  | bl h => cases d <;> first | (cases h; done) | exact ⟨_, rfl, (by first | (show kitB _ _ = some true; decide +kernel) | (show kitB _ _ = some false; decide +kernel))⟩
  | str h => cases d <;> first | (cases h; done) | exact ⟨_, rfl, (by first | (show kitB _ _ = some true; decide +kernel) | (show kitB _ _ = some false; decide +kernel))⟩
  | lst h => cases d <;> first | (cases h; done) | exact ⟨_, rfl, (by first | (show kitB _ _ = some true; decide +kernel) | (show kitB _ _ = some false; decide +kernel))⟩
  | tup h => cases d <;> first | (cases h; done) | exact ⟨_, rfl, (by first | (show kitB _ _ = some true; decide +kernel) | (show kitB _ _ = some false; decide +kernel))⟩
  | dic h => cases d <;> first | (cases h; done) | exact ⟨_, rfl, (by first | (show kitB _ _ = some true; decide +kernel) | (show kitB _ _ = some false; decide +kernel))⟩
theorem ge_isiD {m : String} {x : Bool} (T : Blt Y.mg) (ha : GV Y a ρ G d) (hb : GE Y b ρ G (.ty m)) (h : IsiD d m x) (hg : GlS Y.sc "isinstance" := by rfl)
    (he : ∀ env, starEach [a, b] env = (false, eval a env) :: starEach [b] env := by intro _; rfl) (he' : ∀ env, starEach [b] env = (false, eval b env) :: starEach [] env := by intro _; rfl)
    (hpl : ∀ env, (backTo pos (starEach [b] env)).any (·.1) = false := by intro _; rfl) : GE Y (.Call (.Name "isinstance" p) [a, b] [] pos) ρ G (.bl x) := by
  obtain ⟨n, h1, h2⟩ := h.kit
  exact ge_isi T ha hb h1 h2 hg he he' hpl

/-! list(..), tuple(..), dict(..), str(..), int(..) -/
theorem gn_list (T : Blt Y.mg) (ha : GV Y e ρ G (.lst ds)) (hg : GlS Y.sc "list" := by rfl) (he : ∀ env, starEach [e] env = (false, eval e env) :: starEach [] env := by intro _; rfl) : GN Y (.Call (.Name "list" p) [e] [] pos) ρ G (.lst ds) := ⟨fun F R Gl σ H W => by
  refine ct_go (P := PNd Y G ρ _) PN.up W (fun i => by have := @call_list_of (Y.X i); rwa [Y.hK i] at this) hg T.at (by decide +kernel) (ga_cons ha ga_nil he) (fun F R Gl σ H vs Q W v q => ?_) (by decide) (by decide) he (fun _ => rfl)
  obtain ⟨v, rfl, w⟩ := v.one_inv
  obtain ⟨a, vs, rfl, h1, h2⟩ := W.lstV w
  exact ⟨a, vs, rfl, .inl h1, fun l hl => q _ _ (new_lst W h2 hl)⟩⟩
theorem gn_listT (T : Blt Y.mg) (ha : GV Y e ρ G (.tup ds)) (hg : GlS Y.sc "list" := by rfl) (he : ∀ env, starEach [e] env = (false, eval e env) :: starEach [] env := by intro _; rfl) : GN Y (.Call (.Name "list" p) [e] [] pos) ρ G (.lst ds) := ⟨fun F R Gl σ H W => by
  refine ct_go (P := PNd Y G ρ _) PN.up W (fun i => by have := @call_list_of (Y.X i); rwa [Y.hK i] at this) hg T.at (by decide +kernel) (ga_cons ha ga_nil he) (fun F R Gl σ H vs Q W v q => ?_) (by decide) (by decide) he (fun _ => rfl)
  obtain ⟨v, rfl, w⟩ := v.one_inv
  obtain ⟨a, vs, rfl, h1, h2⟩ := W.tupV w
  exact ⟨a, vs, rfl, .inr h1, fun l hl => q _ _ (new_lst W h2 hl)⟩⟩
theorem ge_tuple (T : Blt Y.mg) (ha : GV Y e ρ G (.lst ds)) (hg : GlS Y.sc "tuple" := by rfl) (he : ∀ env, starEach [e] env = (false, eval e env) :: starEach [] env := by intro _; rfl) : GE Y (.Call (.Name "tuple" p) [e] [] pos) ρ G (.tup ds) := ⟨fun F R Gl σ H W => by
  refine ct_go (P := PRd Y G ρ _) PR.up W (fun i => by have := @call_tuple_of (Y.X i); rwa [Y.hK i] at this) hg T.at (by decide +kernel) (ga_cons ha ga_nil he) (fun F R Gl σ H vs Q W v q => ?_) (by decide) (by decide) he (fun _ => rfl)
  obtain ⟨v, rfl, w⟩ := v.one_inv
  obtain ⟨a, vs, rfl, h1, h2⟩ := W.lstV w
  refine ⟨a, vs, rfl, .inl ⟨h1, fun l hl => q _ _ ?_⟩⟩
  obtain ⟨W2, s2⟩ := W.newF (o := .tup vs) hl
  exact ⟨_, _, s2, W2, .tup upd_same (h2.mono s2)⟩⟩
theorem call_dictC {X : Cx} : CallR X (.type "dict") (fun xs H Q => ∃ a kvs, xs = [V.ref a] ∧ Rd H a (.dK kvs) ∧ ∀ p, H p = none → Q (.ref p) (upd H p (.dK kvs))) := by
  intro pins s σ H xs us Q I r h
  obtain ⟨a, kvs, rfl, ha, q⟩ := h
  obtain ⟨u, rfl, ru⟩ := vals1 r
  cases ru
  exact d_copyOf I ha fun p s' hp I' => ⟨.ref p, _, I', rfl, q p hp⟩
theorem gn_dict {ds : List (Key × D)} (T : Blt Y.mg) (ha : GV Y e ρ G (.dic ds)) (hg : GlS Y.sc "dict" := by rfl) (he : ∀ env, starEach [e] env = (false, eval e env) :: starEach [] env := by intro _; rfl) : GN Y (.Call (.Name "dict" p) [e] [] pos) ρ G (.dic ds) := ⟨fun F R Gl σ H W => by
  refine ct_go (P := PNd Y G ρ _) PN.up W (fun i => call_dictC) hg T.at (by decide +kernel) (ga_cons ha ga_nil he) (fun F R Gl σ H vs Q W v q => ?_) (by decide) (by decide) he (fun _ => rfl)
  obtain ⟨v, rfl, w⟩ := v.one_inv
  obtain ⟨a, vs, rfl, h1, h2⟩ := W.dicV w
  exact ⟨a, vs, rfl, h1, fun l hl => q _ _ (new_dic W h2 hl)⟩⟩
theorem ge_strI {i : Int} (T : Blt Y.mg) (ha : GE Y e ρ G (.int i)) (hl : i.natAbs.log2 < 1920) (hg : GlS Y.sc "str" := by rfl) (he : ∀ env, starEach [e] env = (false, eval e env) :: starEach [] env := by intro _; rfl) : GE Y (.Call (.Name "str" p) [e] [] pos) ρ G (.str (toString i)) := ⟨fun F R Gl σ H W => by
  refine ct_go (P := PRd Y G ρ _) PR.up W (fun i => call_str_int) hg T.at (by decide +kernel) (ga_cons (gv_ge ha) ga_nil he) (fun F R Gl σ H vs Q W v q => ?_) (by decide) (by decide) he (fun _ => rfl)
  obtain ⟨v, rfl, w⟩ := v.one_inv
  exact ⟨i, by rw [w.int_inv], hl, q _ _ (pr_here W (.str _))⟩⟩
theorem ge_intI {i : Int} (T : Blt Y.mg) (ha : GE Y e ρ G (.int i)) (hg : GlS Y.sc "int" := by rfl) (he : ∀ env, starEach [e] env = (false, eval e env) :: starEach [] env := by intro _; rfl) : GE Y (.Call (.Name "int" p) [e] [] pos) ρ G (.int i) := ⟨fun F R Gl σ H W => by
  refine ct_go (P := PRd Y G ρ _) PR.up W (fun i => call_int1) hg T.at (by decide +kernel) (ga_cons (gv_ge ha) ga_nil he) (fun F R Gl σ H vs Q W v q => ?_) (by decide) (by decide) he (fun _ => rfl)
  obtain ⟨v, rfl, w⟩ := v.one_inv
  exact .inl ⟨i, by rw [w.int_inv], q _ _ (pr_here W (.int _))⟩⟩
theorem ge_intB {i : Bool} (T : Blt Y.mg) (ha : GE Y e ρ G (.bl i)) (hg : GlS Y.sc "int" := by rfl) (he : ∀ env, starEach [e] env = (false, eval e env) :: starEach [] env := by intro _; rfl) : GE Y (.Call (.Name "int" p) [e] [] pos) ρ G (.int (if i then 1 else 0)) := ⟨fun F R Gl σ H W => by
  refine ct_go (P := PRd Y G ρ _) PR.up W (fun i => call_int1) hg T.at (by decide +kernel) (ga_cons (gv_ge ha) ga_nil he) (fun F R Gl σ H vs Q W v q => ?_) (by decide) (by decide) he (fun _ => rfl)
  obtain ⟨v, rfl, w⟩ := v.one_inv
  exact .inr ⟨i, by rw [w.bl_inv], q _ _ (pr_here W (.int _))⟩⟩
/-! sorted(..) -/
theorem ge_all {bs : List Bool} (T : Blt Y.mg) (ha : GE Y e ρ G (.lst (bs.map D.bl))) (hg : GlS Y.sc "all" := by rfl) (he : ∀ env, starEach [e] env = (false, eval e env) :: starEach [] env := by intro _; rfl) : GE Y (.Call (.Name "all" p) [e] [] pos) ρ G (.bl (bs.all id)) := ⟨fun F R Gl σ H W => by
  refine cb_go (P := PRd Y G ρ _) PR.up W (fun i => by have := @cr_all (Y.X i) (Y.hc i); rwa [Y.hK i] at this) hg T.at (by decide +kernel) (ga_cons (gv_ge ha) ga_nil he) (fun F R Gl σ H vs Q W v q => ?_) (by decide) (by decide) he (fun _ => rfl)
  obtain ⟨v, rfl, w⟩ := v.one_inv
  obtain ⟨a, vs, rfl, h1, h2⟩ := W.lstV w
  rw [h2.bls_inv] at h1
  exact ⟨a, bs, rfl, h1, q _ _ (pr_here W (.bl _))⟩⟩

/-! ### subscripts -/
inductive IxD : D → D → D → Prop
  | lst {ds : List D} {i : Int} {d : D} (h : atI ds i = some d) : IxD (.lst ds) (.int i) d
  | tup {ds : List D} {i : Int} {d : D} (h : atI ds i = some d) : IxD (.tup ds) (.int i) d
  | str {z : Str} {i : Int} {c : Nat} (hz : z.length ≤ sizeLine) (h : atI z.cps.toList i = some c) : IxD (.str z) (.int i) (.str ⟨#[c]⟩)
  | dicS {ds : List (Key × D)} {k : Str} {d : D} (h : valD ds (.inr k) = some d) : IxD (.dic ds) (.str k) d
  | dicI {ds : List (Key × D)} {k : Int} {d : D} (h : valD ds (.inl k) = some d) : IxD (.dic ds) (.int k) d
theorem Reps.atI {K : PySem.W.Frag} {F : Hp} {vs : List V} {ds : List D} {i : Int} {d : D} (h : Reps K F vs ds) (e : L2.atI ds i = some d) : ∃ v, L2.atI vs i = some v ∧ Rep K F v d := by
  unfold L2.atI at e ⊢
  rw [h.length]
  cases q : ixN ds.length i with
  | none => rw [q] at e; cases e
  | some j =>
    rw [q] at e
    obtain ⟨v, h1, h2⟩ := h.get (i := j) e
    exact ⟨v, h1, h2⟩
theorem ge_ix (ha : GV Y a ρ G d1) (hb : GE Y b ρ G d2) (h : IxD d1 d2 d) (hs : PlainIx b := by exact fun _ _ => rfl) : GE Y (.Subscript a b pos) ρ G d := ⟨fun F R Gl σ H W => by
  cases h with
  | lst h =>
    refine wE.of (fun i => pe_ix (by have := @ix_list (Y.X i); rwa [Y.hK i] at this) (wE.pe i) (wE.pe i) hs) (bin_go (P := PRd Y G ρ d) PR.up W ha (gv_ge hb) (rr_val fun F R Gl σ H x y Q W v1 v2 q => ?_))
    obtain ⟨p, vs, rfl, h1, h2⟩ := W.lstV v1
    obtain ⟨v, h3, h4⟩ := h2.atI h
    exact ⟨p, vs, _, v, rfl, v2.int_inv, h1, h3, q _ h4⟩
  | tup h =>
    refine wE.of (fun i => pe_ix (by have := @ix_tup (Y.X i); rwa [Y.hK i] at this) (wE.pe i) (wE.pe i) hs) (bin_go (P := PRd Y G ρ d) PR.up W ha (gv_ge hb) (rr_val fun F R Gl σ H x y Q W v1 v2 q => ?_))
    obtain ⟨p, vs, rfl, h1, h2⟩ := W.tupV v1
    obtain ⟨v, h3, h4⟩ := h2.atI h
    exact ⟨p, vs, _, v, rfl, v2.int_inv, h1, h3, q _ h4⟩
  | str hz h =>
    refine wE.of (fun i => pe_ix ix_str (wE.pe i) (wE.pe i) hs) (bin_go (P := PRd Y G ρ _) PR.up W ha (gv_ge hb) (rr_val fun F R Gl σ H x y Q W v1 v2 q => ?_))
    exact ⟨_, _, _, v1.str_inv, v2.int_inv, hz, h, q _ (.str _)⟩
  | @dicS kds k d h =>
    refine wE.of (fun i => pe_dget (hu1_i i) (wE.pe i) (wE.pe i) hs) ((ha.run F R Gl σ H W).mono fun x H1 ⟨F1, Gl1, s1, W1, v1⟩ => (hb.run F1 R Gl1 σ H1 W1).mono fun y H2 ⟨F2, Gl2, s2, W2, r2⟩ => ?_)
    obtain ⟨p, vs, rfl, h1, h2⟩ := W2.dicV (v1.mono s2)
    rcases h2.val (.inr k) with ⟨_, z⟩ | ⟨v, d', z1, z2, z3⟩
    · rw [h] at z; cases z
    · rw [h] at z2; cases z2
      exact ⟨p, v, rfl, .inl ⟨vs, .inr k, h1, r2.str_inv, z1.symm⟩, F2, Gl2, s1.trans s2, W2, z3⟩
  | @dicI kds k d h =>
    refine wE.of (fun i => pe_dget (hu1_i i) (wE.pe i) (wE.pe i) hs) ((ha.run F R Gl σ H W).mono fun x H1 ⟨F1, Gl1, s1, W1, v1⟩ => (hb.run F1 R Gl1 σ H1 W1).mono fun y H2 ⟨F2, Gl2, s2, W2, r2⟩ => ?_)
    obtain ⟨p, vs, rfl, h1, h2⟩ := W2.dicV (v1.mono s2)
    rcases h2.val (.inl k) with ⟨_, z⟩ | ⟨v, d', z1, z2, z3⟩
    · rw [h] at z; cases z
    · rw [h] at z2; cases z2
      exact ⟨p, v, rfl, .inl ⟨vs, .inl k, h1, r2.int_inv, z1.symm⟩, F2, Gl2, s1.trans s2, W2, z3⟩⟩

/-! ### slices -/
structure GO' (Y : Ctx) (e : Option Expr) (ρ : Rho) (G : Gs) (o : Option Int) : Prop where
  run : ∃ t, (∀ i, PO (Y.X i) e t) ∧ ∀ F R Gl σ H Q, Wd Y F R Gl G ρ σ H → (∀ F' Gl' H', Same F F' → Wd Y F' R Gl' G ρ σ H' → Q o H') → t σ H Q
theorem go_none : GO' Y none ρ G none := ⟨tNoPart, fun i => po_none, fun F R Gl σ H Q W q => q F Gl H (Same.refl F) W⟩
theorem go_some {i : Int} (h : GE Y e ρ G (.int i)) : GO' Y (some e) ρ G (some i) :=
  ⟨tPart (wE Y e), fun i => po_some (wE.pe i), fun F R Gl σ H Q W q => (h.run F R Gl σ H W).mono fun v H1 ⟨F1, Gl1, s1, W1, r⟩ => ⟨i, r.int_inv, q F1 Gl1 H1 s1 W1⟩⟩
def cutD (xs : List D) (lo hi : Option Int) : List D := (xs.drop (HT.sIx xs.length 0 lo)).take (HT.sIx xs.length xs.length hi - HT.sIx xs.length 0 lo)
theorem Reps.cut {K : PySem.W.Frag} {F : Hp} {vs : List V} {ds : List D} (h : Reps K F vs ds) (lo hi : Option Int) : Reps K F (cutV vs lo hi) (cutD ds lo hi) := by
  unfold cutV cutD
  rw [h.length]
  exact (h.drop _).take _
theorem gn_slice {lo hi : Option Expr} {x y : Option Int} {p2 : Pos} (ha : GV Y a ρ G (.lst ds)) (hl : GO' Y lo ρ G x) (hh : GO' Y hi ρ G y) : GN Y (.Subscript a (.Slice lo hi none p2) pos) ρ G (.lst (cutD ds x y)) := ⟨fun F R Gl σ H W => by
  obtain ⟨tl, h1, h2⟩ := hl.run
  obtain ⟨th, h3, h4⟩ := hh.run
  refine wE.of (fun i => pe_slice (by have := @sl_list (Y.X i); rwa [Y.hK i] at this) (wE.pe i) (h1 i) (h3 i)) ((ha.run F R Gl σ H W).mono fun v H1 ⟨F1, Gl1, s1, W1, v1⟩ => h2 F1 R Gl1 σ H1 _ W1 fun F2 Gl2 H2 s2 W2 => h4 F2 R Gl2 σ H2 _ W2 fun F3 Gl3 H3 s3 W3 => ?_)
  obtain ⟨p, vs, rfl, h5, h6⟩ := W3.lstV (v1.mono (s2.trans s3))
  exact ⟨p, vs, rfl, h5, fun l hl => (new_lst W3 (h6.cut x y) hl).up ((s1.trans s2).trans s3)⟩⟩
theorem ge_sliceS {lo hi : Option Expr} {x y : Option Int} {p2 : Pos} {z : Str} (ha : GE Y a ρ G (.str z)) (hl : GO' Y lo ρ G x) (hh : GO' Y hi ρ G y) (hz : z.length ≤ sizeLine) : GE Y (.Subscript a (.Slice lo hi none p2) pos) ρ G (.str (cutS z x y)) := ⟨fun F R Gl σ H W => by
  obtain ⟨tl, h1, h2⟩ := hl.run
  obtain ⟨th, h3, h4⟩ := hh.run
  refine wE.of (fun i => pe_slice sl_str (wE.pe i) (h1 i) (h3 i)) ((ha.run F R Gl σ H W).mono fun v H1 ⟨F1, Gl1, s1, W1, v1⟩ => h2 F1 R Gl1 σ H1 _ W1 fun F2 Gl2 H2 s2 W2 => h4 F2 R Gl2 σ H2 _ W2 fun F3 Gl3 H3 s3 W3 => ?_)
  exact ⟨z, v1.str_inv, hz, F3, Gl3, (s1.trans s2).trans s3, W3, .str _⟩⟩
end
end Gh
end

section
set_option Elab.async false
set_option linter.all false
set_option maxRecDepth 100000
set_option maxHeartbeats 4000000
namespace Gh
open PySem PySem.Spec PyProof.Rows L2

/-! ### targets -/
def wG (Y : Ctx) (tg : Expr) : TG := fun v σ H Q => ∀ i pins s u, Inv (Y.X i) pins σ H s → RelV v u →
  wpAny (model (Y.X i).prog (Y.X i).w) (Y.X i).A (assign tg (Y.X i).env u) (fun _ s' => ∃ σ' H', Inv (Y.X i) pins σ' H' s' ∧ Q σ' H') (Y.X i).xe s
def wGs (Y : Ctx) (ts : List Expr) : TGs := fun vs σ H Q => ∀ i pins s us, Inv (Y.X i) pins σ H s → Vals vs us →
  wpAny (model (Y.X i).prog (Y.X i).w) (Y.X i).A (assignInOrder ((assignEach ts (Y.X i).env).map (·.2)) us) (fun _ s' => ∃ σ' H', Inv (Y.X i) pins σ' H' s' ∧ Q σ' H') (Y.X i).xe s
section
variable {Y : Ctx}
theorem wG.pg {tg : Expr} (i : Y.ι) : PG (Y.X i) tg (wG Y tg) := ⟨fun pins s σ H v u Q I r h => h i pins s u I r⟩
theorem wG.of {tg : Expr} {t : TG} {v : V} {σ : L2.St} {H : Hp} {Q : L2.St → Hp → Prop} (h : ∀ i, PG (Y.X i) tg t) (q : t v σ H Q) : wG Y tg v σ H Q := fun i pins s u I r => (h i).run pins s σ H v u Q I r q
theorem wGs.pg {ts : List Expr} (i : Y.ι) : PGs (Y.X i) ts (wGs Y ts) := ⟨fun pins s σ H v u Q I r h => h i pins s u I r⟩
theorem wGs.of {ts : List Expr} {t : TGs} {v : List V} {σ : L2.St} {H : Hp} {Q : L2.St → Hp → Prop} (h : ∀ i, PGs (Y.X i) ts t) (q : t v σ H Q) : wGs Y ts v σ H Q := fun i pins s u I r => (h i).run pins s σ H v u Q I r q
end
theorem wipe_set {σ : L2.St} {j : Nat} {x : Option V} : ∀ {vs : List Nat}, j ∈ vs → wipe (σ.set j x) vs = wipe σ vs
  | [], h => by cases h
  | v :: vs, h => by
    unfold wipe
    by_cases e : j = v
    · subst e
      clear h
      induction vs with
      | nil => show (σ.set j x).set j none = σ.set j none; exact List.set_set ..
      | cons w ws ih =>
        show ((wipe (σ.set j x) ws).set w none).set j none = ((wipe σ ws).set w none).set j none
        by_cases e : w = j
        · subst e; rw [List.set_set, List.set_set]; exact ih
        · rw [List.set_comm _ _ e, List.set_comm _ _ e, ih]
    · rw [wipe_set (vs := vs) (by rcases List.mem_cons.mp h with z | z; exact absurd z e; exact z)]
theorem wipe_wipe {σ : L2.St} : ∀ {vs : List Nat}, wipe (wipe σ vs) vs = wipe σ vs := by
  have key : ∀ (us vs : List Nat), (∀ j ∈ us, j ∈ vs) → wipe (wipe σ us) vs = wipe σ vs := by
    intro us
    induction us with
    | nil => intro vs _; rfl
    | cons u us ih =>
      intro vs h
      show wipe ((wipe σ us).set u none) vs = _
      rw [wipe_set (h u (List.mem_cons_self ..)), ih vs fun j hj => h j (List.mem_cons_of_mem _ hj)]
  intro vs
  exact key vs vs fun _ h => h
/-- the data d goes to the target: the slots js are stored -/
structure GG (Y : Ctx) (tg : Expr) (js : List Nat) (d : D) (ρ ρ' : Rho) : Prop where
  same : ∀ i : Nat, i ∉ js → ρ'[i]? = ρ[i]?
  run : ∀ F R Gl G σ H v Q, Wd Y F R Gl G ρ σ H → Rep Y.K F v d → (∀ σ' : L2.St, Wd Y F R Gl G ρ' σ' H → (∀ vs : List Nat, (∀ j ∈ js, j ∈ vs) → wipe σ' vs = wipe σ vs) → (∀ i : Nat, i ∉ js → σ'[i]? = σ[i]?) → Q σ' H) → wG Y tg v σ H Q
structure GGs (Y : Ctx) (ts : List Expr) (js : List Nat) (ds : List D) (ρ ρ' : Rho) : Prop where
  same : ∀ i : Nat, i ∉ js → ρ'[i]? = ρ[i]?
  run : ∀ F R Gl G σ H vs Q, Wd Y F R Gl G ρ σ H → Reps Y.K F vs ds → (∀ σ' : L2.St, Wd Y F R Gl G ρ' σ' H → (∀ vs : List Nat, (∀ j ∈ js, j ∈ vs) → wipe σ' vs = wipe σ vs) → (∀ i : Nat, i ∉ js → σ'[i]? = σ[i]?) → Q σ' H) → wGs Y ts vs σ H Q
section
variable {Y : Ctx} {ρ ρ' ρ'' : Rho} {G : Gs} {d : D} {ds : List D} {pos p : Pos} {e : Expr} {es : List Expr} {js js' : List Nat}
theorem loc_i {x : Str} (h : Loc Y.sc x) (i : Y.ι) : Loc (Y.X i).env.scope x := by rw [Y.hsc i]; exact h
theorem fn_i {x : Str} (h : Y.fn x = true ∨ Y.sc.names.lookup x = some .local) (i : Y.ι) : (Y.X i).fn x = true ∨ (Y.X i).env.scope.names.lookup x = some .local := by rw [Y.hfn i, Y.hsc i]; exact h
theorem gg_name (j : Nat) {x : Str} (hd : Y.N.Nodup) (hN : Y.N[j]? = some x := by rfl) (hx : Loc Y.sc x := by first | exact .inl rfl | exact .inr rfl) (hf : Y.fn x = true ∨ Y.sc.names.lookup x = some .local := by first | exact .inl rfl | exact .inr rfl) :
    GG Y (.Name x pos) [j] d ρ (ρ.set j (.dat d)) := ⟨fun i h => List.getElem?_set_ne (fun e => h (by simp [e])), fun F R Gl G σ H v Q W r q =>
  wG.of (t := gName j) (fun i => pg_name (by rw [Y.hN i]; exact hd) (nm_i hN) (loc_i hx i) (fn_i hf i)) (q _ (W.setD r) (fun vs h => wipe_set (h j (List.mem_cons_self ..))) fun i h => List.getElem?_set_ne (fun e => h (by simp [e])))⟩
theorem ggs_nil : GGs Y [] [] [] ρ ρ := ⟨fun _ _ => rfl, fun F R Gl G σ H vs Q W r q => by cases r; exact wGs.of (fun i => pgs_nil) ⟨rfl, q σ W (fun _ _ => rfl) fun _ _ => rfl⟩⟩
theorem ggs_cons (h : GG Y e js d ρ ρ') (h' : GGs Y es js' ds ρ' ρ'') (hs : ∀ i, (assignEach (e :: es) (Y.X i).env).map (·.2) = assign e (Y.X i).env :: (assignEach es (Y.X i).env).map (·.2) := by intro _; rfl) : GGs Y (e :: es) (js ++ js') (d :: ds) ρ ρ'' :=
  ⟨fun i hi => (h'.same i fun z => hi (List.mem_append_right _ z)).trans (h.same i fun z => hi (List.mem_append_left _ z)), fun F R Gl G σ H vs Q W r q => by
    cases r with
    | cons r1 r2 =>
      refine wGs.of (fun i => pgs_cons (wG.pg i) (wGs.pg i) (hs i)) ⟨_, _, rfl, h.run F R Gl G σ H _ _ W r1 fun σ1 W1 k1 l1 => h'.run F R Gl G σ1 H _ _ W1 r2 fun σ2 W2 k2 l2 => q σ2 W2 (fun vs hv => ?_) fun i hi => ?_⟩
      · rw [k2 vs fun j hj => hv j (List.mem_append_right _ hj), k1 vs fun j hj => hv j (List.mem_append_left _ hj)]
      · exact (l2 i fun z => hi (List.mem_append_right _ z)).trans (l1 i fun z => hi (List.mem_append_left _ z))⟩
theorem gg_tup {k : Nat} (h : GGs Y es js ds ρ ρ') (hn : ∀ i, (assignEach es (Y.X i).env).length = ds.length := by intro _; rfl) (hst : ∀ i, (assignEach es (Y.X i).env).findIdx? (·.1) = none := by intro _; rfl) : GG Y (.Tuple es k pos) js (.tup ds) ρ ρ' :=
  ⟨h.same, fun F R Gl G σ H v Q W r q => by
    obtain ⟨a, vs, rfl, h1, h2⟩ := W.tupV (.rep r)
    exact wG.of (t := gTup Y.K ds.length (wGs Y es)) (fun i => by have := pg_tup (pos := pos) (k := k) (Y.hc i) (wGs.pg (Y := Y) i) (hn i) (hst i); rwa [Y.hK i] at this) ⟨a, vs, rfl, h1, h2.length, h.run F R Gl G σ H vs _ W h2 q⟩⟩

/-! ### what is walked -/
def wI (Y : Ctx) (tg iter : Expr) : TI := fun σ H Q => ∀ i pins s, Inv (Y.X i) pins σ H s →
  wpAny (model (Y.X i).prog (Y.X i).w) (Y.X i).A (eval iter (Y.X i).env) (fun v s1 => wpAny (model (Y.X i).prog (Y.X i).w) (Y.X i).A (pyIter v) (PIE (Y.X i) pins σ tg Q) (Y.X i).xe s1) (Y.X i).xe s
theorem wI.pi {tg iter : Expr} (i : Y.ι) : PI (Y.X i) tg iter (wI Y tg iter) := ⟨fun pins s σ H Q I h => h i pins s I⟩
theorem wI.of {tg iter : Expr} {t : TI} {σ : L2.St} {H : Hp} {Q : It → Hp → Prop} (h : ∀ i, PI (Y.X i) tg iter t) (q : t σ H Q) : wI Y tg iter σ H Q := fun i pins s I => (h i).run pins s σ H Q I q
/-- an iterator that gives the data xs, as long as S -/
structure Yields (Y : Ctx) (F : Hp) (xs : List D) (S : Rho → L2.St → Gs → Prop) (J : It) : Prop where
  go : ∀ i F' R Gl G ρ σ H, Same F F' → Wd Y F' R Gl G ρ σ H → S ρ σ G → i < xs.length → J.go i H
  yld : ∀ i F' R Gl G ρ σ H x H2 d, Same F F' → Wd Y F' R Gl G ρ σ H → S ρ σ G → xs[i]? = some d → J.yld i H x H2 → ∃ F2, Same F' F2 ∧ Wd Y F2 R Gl G ρ σ H2 ∧ Rep Y.K F2 x d
  stop : ∀ i F' R Gl G ρ σ H, Same F F' → Wd Y F' R Gl G ρ σ H → S ρ σ G → xs.length ≤ i → J.stop i H
structure GI (Y : Ctx) (tg e : Expr) (ρ : Rho) (G : Gs) (xs : List D) (S : Gs → Prop) : Prop where
  run : ∀ F R Gl σ H Q, Wd Y F R Gl G ρ σ H → (∀ J F' Gl' H', Same F F' → Wd Y F' R Gl' G ρ σ H' → Yields Y F' xs (fun _ _ => S) J → Q J H') → wI Y tg e σ H Q
theorem Wd.lstAt {F F' : Hp} {R Gl G : Gs} {σ : L2.St} {H : Hp} {a : Addr} {xs : List D} (W : Wd Y F' R Gl G ρ σ H) (s : Same F F') (r : Rep Y.K F (.ref a) d) (h : ViewD G d (.lst xs)) : ∃ vs, SqL Y.K H a vs ∧ Reps Y.K F' vs xs := by
  obtain ⟨a', vs, e, h1, h2⟩ := W.lstV (.of (r.mono s) h)
  cases e
  exact ⟨vs, h1, h2⟩
theorem gi_lst {tg : Expr} {xs : List D} (he : GE Y e ρ G d) (hv : ViewD G d (.lst xs)) : GI Y tg e ρ G xs (fun G' => ViewD G' d (.lst xs)) := ⟨fun F R Gl σ H Q W q => by
  refine wI.of (fun i => by have := @pi_list (Y.X i) tg e _ (wE.pe i); rwa [Y.hK i] at this) ((he.run F R Gl σ H W).mono fun v H1 ⟨F1, Gl1, s1, W1, r⟩ => ?_)
  obtain ⟨a, vs, rfl, h1, h2⟩ := W1.lstV (.of r hv)
  refine ⟨a, rfl, ⟨vs, h1⟩, q _ F1 Gl1 H1 s1 W1 ⟨fun i F' R Gl G ρ σ H s W hS hi => ?_, fun i F' R Gl G ρ σ H x H2 d' s W hS hi hy => ?_, fun i F' R Gl G ρ σ H s W hS hi => ?_⟩⟩
  · obtain ⟨vs, h3, h4⟩ := W.lstAt s r hS
    exact ⟨vs, vs[i]'(by rw [h4.length]; exact hi), h3, List.getElem?_eq_getElem _⟩
  · obtain ⟨vs, h3, h4⟩ := W.lstAt s r hS
    obtain ⟨rfl, hy⟩ := hy
    obtain ⟨v, h5, h6⟩ := h4.get hi
    have h7 := hy vs h3
    rw [h5] at h7; cases h7
    exact ⟨F', Same.refl _, W, h6⟩
  · obtain ⟨vs, h3, h4⟩ := W.lstAt s r hS
    exact ⟨vs, h3, by rw [h4.length]; exact hi⟩⟩
theorem gi_tup {tg : Expr} {xs : List D} (he : GE Y e ρ G (.tup xs)) : GI Y tg e ρ G xs (fun _ => True) := ⟨fun F R Gl σ H Q W q => by
  refine wI.of (fun i => by have := @pi_tup (Y.X i) tg e _ (wE.pe i); rwa [Y.hK i] at this) ((he.run F R Gl σ H W).mono fun v H1 ⟨F1, Gl1, s1, W1, r⟩ => ?_)
  obtain ⟨a, vs, rfl, h1, h2⟩ := W1.tupV (.rep r)
  have at' : ∀ {F' R Gl G ρ σ H}, Same F1 F' → Wd Y F' R Gl G ρ σ H → ∃ vs, SqT Y.K H a vs ∧ Reps Y.K F' vs xs := fun {F' R Gl G ρ σ H} s W => by
    obtain ⟨a', vs, e, h1, h2⟩ := W.tupV (.rep (r.mono s))
    cases e
    exact ⟨vs, h1, h2⟩
  refine ⟨a, rfl, ⟨vs, h1⟩, q _ F1 Gl1 H1 s1 W1 ⟨fun i F' R Gl G ρ σ H s W hS hi => ?_, fun i F' R Gl G ρ σ H x H2 d' s W hS hi hy => ?_, fun i F' R Gl G ρ σ H s W hS hi => ?_⟩⟩
  · obtain ⟨vs, h3, h4⟩ := at' s W
    exact ⟨vs, vs[i]'(by rw [h4.length]; exact hi), h3, List.getElem?_eq_getElem _⟩
  · obtain ⟨vs, h3, h4⟩ := at' s W
    obtain ⟨rfl, hy⟩ := hy
    obtain ⟨v, h5, h6⟩ := h4.get hi
    have h7 := hy vs h3
    rw [h5] at h7; cases h7
    exact ⟨F', Same.refl _, W, h6⟩
  · obtain ⟨vs, h3, h4⟩ := at' s W
    exact ⟨vs, h3, by rw [h4.length]; exact hi⟩⟩
def rngD (lo : Int) (n : Nat) : List D := (List.range n).map fun i => D.int (lo + (i : Nat))
theorem rngD_get {lo : Int} {n i : Nat} {d : D} (h : (rngD lo n)[i]? = some d) : d = .int (lo + (i : Nat)) ∧ i < n := by
  unfold rngD at h
  rw [List.getElem?_map] at h
  by_cases hi : i < n
  · rw [List.getElem?_range hi] at h; cases h; exact ⟨rfl, hi⟩
  · rw [List.getElem?_eq_none (by simpa using hi)] at h; cases h
theorem rngD_length {lo : Int} {n : Nat} : (rngD lo n).length = n := by simp [rngD]
theorem yields_rng {F : Hp} {lo : Int} {n : Nat} : Yields Y F (rngD lo n) (fun _ _ _ => True) (Itr lo n) :=
  ⟨fun i F' R Gl G ρ σ H s W hS hi => by rw [rngD_length] at hi; exact hi, fun i F' R Gl G ρ σ H x H2 d' s W hS hi hy => by
    obtain ⟨rfl, hx⟩ := hy
    obtain ⟨rfl, _⟩ := rngD_get hi
    exact ⟨F', Same.refl _, W, by rw [hx]; exact .int _⟩, fun i F' R Gl G ρ σ H s W hS hi => by rw [rngD_length] at hi; exact hi⟩
theorem gi_range1 {tg : Expr} {n : Int} (T : Blt Y.mg) (he : GE Y e ρ G (.int n)) (hb : -(2 ^ 62) ≤ n ∧ n < 2 ^ 62) (hg : GlS Y.sc "range" := by rfl) (hs : ∀ env, starEach [e] env = (false, eval e env) :: starEach [] env := by intro _; rfl) :
    GI Y tg (.Call (.Name "range" p) [e] [] pos) ρ G (rngD 0 n.toNat) (fun _ => True) := ⟨fun F R Gl σ H Q W q => by
  refine wI.of (fun i => pi_range1 (gl_i hg i) (mg_i T.at i) (wA.pa i) (hs _)) (((gr_cons he gr_nil hs).run F R Gl σ H W).mono fun vs H1 ⟨F1, Gl1, s1, W1, r⟩ => ?_)
  cases r with
  | cons r1 r2 => cases r2; exact ⟨n, by rw [r1.int_inv], hb.1, hb.2, q _ F1 Gl1 H1 s1 W1 yields_rng⟩⟩
theorem gi_range2 {tg a : Expr} {m n : Int} (T : Blt Y.mg) (ha : GE Y a ρ G (.int m)) (he : GE Y e ρ G (.int n)) (hb : -(2 ^ 62) ≤ m ∧ m < 2 ^ 62 ∧ -(2 ^ 62) ≤ n ∧ n < 2 ^ 62) (hg : GlS Y.sc "range" := by rfl) (hs : ∀ env, starEach [a, e] env = (false, eval a env) :: starEach [e] env := by intro _; rfl) (hs' : ∀ env, starEach [e] env = (false, eval e env) :: starEach [] env := by intro _; rfl) :
    GI Y tg (.Call (.Name "range" p) [a, e] [] pos) ρ G (rngD m (n - m).toNat) (fun _ => True) := ⟨fun F R Gl σ H Q W q => by
  refine wI.of (fun i => pi_range2 (gl_i hg i) (mg_i T.at i) (wA.pa i) (by rw [hs, hs']; rfl) (by rw [hs']; rfl)) (((gr_cons ha (gr_cons he gr_nil hs') hs).run F R Gl σ H W).mono fun vs H1 ⟨F1, Gl1, s1, W1, r⟩ => ?_)
  cases r with
  | cons r1 r2 => cases r2 with | cons r2 r3 => cases r3; exact ⟨m, n, by rw [r1.int_inv, r2.int_inv], hb, q _ F1 Gl1 H1 s1 W1 yields_rng⟩⟩
def signsD (x : Str) : List D := x.cps.toList.map fun c => D.str ⟨#[c]⟩
theorem gi_str {tg : Expr} {x : Str} (he : GE Y e ρ G (.str x)) : GI Y tg e ρ G (signsD x) (fun _ => True) := ⟨fun F R Gl σ H Q W q => by
  refine wI.of (fun i => pi_str (wE.pe i)) ((he.run F R Gl σ H W).mono fun v H1 ⟨F1, Gl1, s1, W1, r⟩ => ?_)
  have hl : (signsD x).length = x.cps.size := by simp [signsD]
  refine ⟨x, r.str_inv, q _ F1 Gl1 H1 s1 W1 ⟨fun i F' R Gl G ρ σ H s W hS hi => by rw [hl] at hi; exact hi, fun i F' R Gl G ρ σ H v H2 d' s W hS hi hy => ?_, fun i F' R Gl G ρ σ H s W hS hi => by rw [hl] at hi; exact hi⟩⟩
  obtain ⟨rfl, c, hc, rfl⟩ := hy
  unfold signsD at hi
  rw [List.getElem?_map, Array.getElem?_toList, hc] at hi
  cases hi
  exact ⟨F', Same.refl _, W, .str _⟩⟩
theorem gi_rev {tg : Expr} {xs : List D} (T : Blt Y.mg) (he : GE Y e ρ G d) (hv : ViewD G d (.lst xs)) (hg : GlS Y.sc "reversed" := by rfl) (hs : ∀ env, starEach [e] env = (false, eval e env) :: starEach [] env := by intro _; rfl) :
    GI Y tg (.Call (.Name "reversed" p) [e] [] pos) ρ G xs.reverse (fun G' => ViewD G' d (.lst xs)) := ⟨fun F R Gl σ H Q W q => by
  refine wI.of (fun i => by have := @pi_reversed (Y.X i) tg e _ p pos (gl_i hg i) (mg_i T.at i) (wA.pa i) (hs _); rwa [Y.hK i] at this) (((gr_cons he gr_nil hs).run F R Gl σ H W).mono fun vs0 H1 ⟨F1, Gl1, s1, W1, r0⟩ => ?_)
  cases r0 with
  | cons r r2 =>
  cases r2
  obtain ⟨a, vs, rfl, h1, h2⟩ := W1.lstV (.of r hv)
  have hn : vs.length = xs.length := h2.length
  refine ⟨a, vs, rfl, h1, q _ F1 Gl1 H1 s1 W1 ⟨fun i F' R Gl G ρ σ H s W hS hi => ?_, fun i F' R Gl G ρ σ H x H2 d' s W hS hi hy => ?_, fun i F' R Gl G ρ σ H s W hS hi => ?_⟩⟩
  · obtain ⟨ws, h3, h4⟩ := W.lstAt s r hS
    rw [List.length_reverse] at hi
    exact ⟨by rw [hn]; exact hi, ws, ws[vs.length - 1 - i]'(by rw [h4.length]; omega), h3, List.getElem?_eq_getElem _⟩
  · obtain ⟨ws, h3, h4⟩ := W.lstAt s r hS
    obtain ⟨rfl, hy⟩ := hy
    have hi' := (List.getElem?_eq_some_iff.mp hi).1
    rw [List.length_reverse] at hi'
    rw [List.getElem?_reverse hi'] at hi
    obtain ⟨v, h5, h6⟩ := h4.get hi
    have h7 := hy ws h3
    rw [hn, h5] at h7; cases h7
    exact ⟨F', Same.refl _, W, h6⟩
  · rw [List.length_reverse] at hi
    show vs.length ≤ i
    rw [hn]; exact hi⟩
def enumD (xs : List D) : List D := (xs.zipIdx).map fun p => D.tup [.int (p.2 : Nat), p.1]
theorem enumD_get {xs : List D} {i : Nat} {d : D} (h : (enumD xs)[i]? = some d) : ∃ x, xs[i]? = some x ∧ d = .tup [.int (i : Nat), x] := by
  unfold enumD at h
  rw [List.getElem?_map, List.getElem?_zipIdx] at h
  cases e : xs[i]? with
  | none => rw [e] at h; cases h
  | some x => rw [e] at h; simp at h; exact ⟨x, rfl, h.symm⟩
theorem enumD_length {xs : List D} : (enumD xs).length = xs.length := by simp [enumD]
theorem Wd.newT {F : Hp} {R Gl : Gs} {σ : L2.St} {H : Hp} {vs : List V} {xs : List D} (W : Wd Y F R Gl G ρ σ H) (r : Reps Y.K F vs xs) {T : Addr} (hT : H T = none) : ∃ F2, Same F F2 ∧ Wd Y F2 R Gl G ρ σ (upd H T (.tup vs)) ∧ Rep Y.K F2 (.ref T) (.tup xs) := by
  obtain ⟨W2, s2⟩ := W.newF (o := .tup vs) hT
  exact ⟨_, s2, W2, .tup upd_same (r.mono s2)⟩
theorem gi_enum {elts : List Expr} {kk : Nat} {tpos : Pos} {xs : List D} (T : Blt Y.mg) (he : GE Y e ρ G d) (hv : ViewD G d (.lst xs)) (hg : GlS Y.sc "enumerate" := by rfl) (hs : ∀ env, starEach [e] env = (false, eval e env) :: starEach [] env := by intro _; rfl) :
    GI Y (.Tuple elts kk tpos) (.Call (.Name "enumerate" p) [e] [] pos) ρ G (enumD xs) (fun G' => ViewD G' d (.lst xs)) := ⟨fun F R Gl σ H Q W q => by
  refine wI.of (fun i => by have := @pi_enum (Y.X i) e _ p pos tpos elts kk (gl_i hg i) (mg_i T.at i) (wA.pa i) (hs _); rwa [Y.hK i] at this) (((gr_cons he gr_nil hs).run F R Gl σ H W).mono fun vs0 H1 ⟨F1, Gl1, s1, W1, r0⟩ => ?_)
  cases r0 with
  | cons r r2 =>
  cases r2
  obtain ⟨a, vs, rfl, h1, h2⟩ := W1.lstV (.of r hv)
  refine ⟨a, vs, rfl, h1, q _ F1 Gl1 H1 s1 W1 ⟨fun i F' R Gl G ρ σ H s W hS hi => ?_, fun i F' R Gl G ρ σ H x H2 d' s W hS hi hy => ?_, fun i F' R Gl G ρ σ H s W hS hi => ?_⟩⟩
  · obtain ⟨ws, h3, h4⟩ := W.lstAt s r hS
    rw [enumD_length] at hi
    exact ⟨ws, ws[i]'(by rw [h4.length]; exact hi), h3, List.getElem?_eq_getElem _⟩
  · obtain ⟨ws, h3, h4⟩ := W.lstAt s r hS
    obtain ⟨T, x', rfl, hT, rfl, hy⟩ := hy
    obtain ⟨y, hy1, rfl⟩ := enumD_get hi
    obtain ⟨v, h5, h6⟩ := h4.get hy1
    have h7 := hy ws h3
    rw [h5] at h7; cases h7
    exact W.newT (.cons (.int _) (.cons h6 .nil)) hT
  · obtain ⟨ws, h3, h4⟩ := W.lstAt s r hS
    rw [enumD_length] at hi
    exact ⟨ws, h3, by rw [h4.length]; exact hi⟩⟩
def zipD (xs ys : List D) : List D := (xs.zip ys).map fun p => D.tup [p.1, p.2]
theorem zipD_get {xs ys : List D} {i : Nat} {d : D} (h : (zipD xs ys)[i]? = some d) : ∃ x y, xs[i]? = some x ∧ ys[i]? = some y ∧ d = .tup [x, y] := by
  unfold zipD at h
  rw [List.getElem?_map] at h
  cases e : (xs.zip ys)[i]? with
  | none => rw [e] at h; cases h
  | some q =>
    rw [e] at h; cases h
    obtain ⟨h1, h2⟩ := List.getElem?_zip_eq_some.mp e
    exact ⟨q.1, q.2, h1, h2, rfl⟩
theorem gi_zip {a : Expr} {da : D} {elts : List Expr} {kk : Nat} {tpos : Pos} {xs ys : List D} (T : Blt Y.mg) (ha : GE Y a ρ G da) (hva : ViewD G da (.lst xs)) (he : GE Y e ρ G d) (hv : ViewD G d (.lst ys)) (hg : GlS Y.sc "zip" := by rfl) (hs : ∀ env, starEach [a, e] env = (false, eval a env) :: starEach [e] env := by intro _; rfl) (hs' : ∀ env, starEach [e] env = (false, eval e env) :: starEach [] env := by intro _; rfl)
    (hpl : ∀ env, (backTo pos (starEach [e] env)).any (·.1) = false := by intro _; rfl) :
    GI Y (.Tuple elts kk tpos) (.Call (.Name "zip" p) [a, e] [] pos) ρ G (zipD xs ys) (fun G' => ViewD G' da (.lst xs) ∧ ViewD G' d (.lst ys)) := ⟨fun F R Gl σ H Q W q => by
  refine wI.of (fun i => by have := @pi_zip (Y.X i) a e _ p pos tpos elts kk (gl_i hg i) (mg_i T.at i) (wA.pa i) (hs _) (hpl _); rwa [Y.hK i] at this) (((gr_cons ha (gr_cons he gr_nil hs') hs).run F R Gl σ H W).mono fun vs0 H1 ⟨F1, Gl1, s1, W1, r0⟩ => ?_)
  cases r0 with
  | cons r r2 =>
  cases r2 with
  | cons r' r3 =>
  cases r3
  obtain ⟨a, vs, rfl, h1, h2⟩ := W1.lstV (.of r hva)
  obtain ⟨b, us, rfl, g1, g2⟩ := W1.lstV (.of r' hv)
  refine ⟨a, b, vs, us, rfl, h1, g1, q _ F1 Gl1 H1 s1 W1 ⟨fun i F' R Gl G ρ σ H s W hS hi => ?_, fun i F' R Gl G ρ σ H x H2 d' s W hS hi hy => ?_, fun i F' R Gl G ρ σ H s W hS hi => ?_⟩⟩
  · obtain ⟨ws, h3, h4⟩ := W.lstAt s r hS.1
    obtain ⟨zs, g3, g4⟩ := W.lstAt s r' hS.2
    obtain ⟨x, y, e1, e2, _⟩ := zipD_get (List.getElem?_eq_getElem hi)
    obtain ⟨v, k1, _⟩ := h4.get e1
    obtain ⟨u, k2, _⟩ := g4.get e2
    exact ⟨ws, zs, v, u, h3, g3, k1, k2⟩
  · obtain ⟨ws, h3, h4⟩ := W.lstAt s r hS.1
    obtain ⟨zs, g3, g4⟩ := W.lstAt s r' hS.2
    obtain ⟨T, x', y', rfl, hT, rfl, hx, hy⟩ := hy
    obtain ⟨x, y, e1, e2, rfl⟩ := zipD_get hi
    obtain ⟨v, k1, l1⟩ := h4.get e1
    obtain ⟨u, k2, l2⟩ := g4.get e2
    have h7 := hx ws h3
    rw [k1] at h7; cases h7
    have h8 := hy zs g3
    rw [k2] at h8; cases h8
    exact W.newT (.cons l1 (.cons l2 .nil)) hT
  · obtain ⟨ws, h3, h4⟩ := W.lstAt s r hS.1
    obtain ⟨zs, g3, g4⟩ := W.lstAt s r' hS.2
    refine ⟨ws, zs, h3, g3, ?_⟩
    rw [h4.length, g4.length]
    simp only [zipD, List.length_map, List.length_zip] at hi
    omega⟩
end
end Gh
end

section
set_option Elab.async false
set_option linter.all false
set_option maxRecDepth 100000
set_option maxHeartbeats 4000000
namespace Gh
open PySem PySem.Spec PyProof.Rows L2

section
variable {Y : Ctx} {F F' : Hp} {R Gl Gl' G : Gs} {ρ ρ' : Rho} {σ σ' : L2.St} {H H' : Hp}
theorem Wd.addR (W : Wd Y F R Gl G ρ σ H) {a : Addr} {g : GO} (h : Gl a = some g) (h1 : G a = none) (h2 : R a = none) (h3 : ¬ Owned ρ σ a) : Wd Y F (gupd R a g) Gl G ρ σ H := by
  refine ⟨W.f0, W.len, W.g, fun b u e => ?_, fun b u e => ?_, fun b => ?_, fun i x s e1 e2 => ?_, W.inj, W.abs⟩
  · have q := W.r0 b u e
    have : b ≠ a := gne q h2
    rw [gupd_ne this]; exact q
  · by_cases q : b = a
    · subst q; rw [gupd_same] at e; cases e; exact h
    · rw [gupd_ne q] at e; exact W.r b u e
  · by_cases q : b = a
    · subst q; exact .inl h1
    · rw [gupd_ne q]; exact W.gr b
  · have q := W.sv i x s e1 e2
    cases x with
    | unk => trivial
    | dat d => exact q
    | own ds =>
      obtain ⟨l, z1, z2, z3, z4⟩ := q
      subst z1
      refine ⟨l, rfl, z2, z3, ?_⟩
      have : l ≠ a := fun z => h3 ⟨i, ⟨_, e1, rfl⟩, by rw [← z]; exact e2⟩
      rw [gupd_ne this]; exact z4
    | ownd ds =>
      obtain ⟨l, z1, z2, z3, z4⟩ := q
      subst z1
      refine ⟨l, rfl, z2, z3, ?_⟩
      have : l ≠ a := fun z => h3 ⟨i, ⟨_, e1, rfl⟩, by rw [← z]; exact e2⟩
      rw [gupd_ne this]; exact z4
theorem Wd.subR (W : Wd Y F R Gl G ρ σ H) {R' : Gs} (h0 : GEx Y.R R') (h : GEx R' R) : Wd Y F R' Gl G ρ σ H := by
  refine ⟨W.f0, W.len, W.g, h0, fun b u e => W.r b u (h b u e), fun b => (W.gr b).imp id fun z => h.none z, fun i x s e1 e2 => ?_, W.inj, W.abs⟩
  have q := W.sv i x s e1 e2
  cases x with
  | unk => trivial
  | dat d => exact q
  | own ds => obtain ⟨l, z1, z2, z3, z4⟩ := q; exact ⟨l, z1, z2, z3, h.none z4⟩
  | ownd ds => obtain ⟨l, z1, z2, z3, z4⟩ := q; exact ⟨l, z1, z2, z3, h.none z4⟩
theorem gex_upd {R : Gs} {a : Addr} {g : GO} (h : R a = none) : GEx R (gupd R a g) := fun b u e => by rw [gupd_ne (gne e h)]; exact e
theorem Wd.putR {Dl : Addr} {g : GO} (W : Wd Y F (gupd R Dl g) Gl G ρ σ H) {g' : GO} {o : HO} (h0 : R Dl = none) (h0' : Y.R Dl = none) (hk : g.isLk = false) (r : ORep Y.K F o g') : Wd Y F (gupd R Dl g') (gupd Gl Dl g') G ρ σ (upd H Dl o) := by
  have hG : G Dl = none := (W.gr Dl).resolve_right (by rw [gupd_same]; exact fun z => nomatch z)
  have hl := W.r Dl g gupd_same
  refine ⟨W.f0, W.len, fun b u e => ?_, fun b u e => ?_, fun b u e => ?_, fun b => ?_, fun i x s e1 e2 => ?_, W.inj, W.abs.put hl hk r⟩
  · rw [gupd_ne (gne e hG)]; exact W.g b u e
  · have q : b ≠ Dl := gne e h0'
    have := W.r0 b u e
    rw [gupd_ne q] at this ⊢; exact this
  · by_cases q : b = Dl
    · subst q; rw [gupd_same] at e ⊢; exact e
    · rw [gupd_ne q] at e ⊢; exact W.r b u (by rw [gupd_ne q]; exact e)
  · by_cases q : b = Dl
    · subst q; exact .inl hG
    · have := W.gr b
      rw [gupd_ne q] at this ⊢; exact this
  · have q := W.sv i x s e1 e2
    have key : ∀ l, (gupd R Dl g) l = none → l ≠ Dl := fun l z e => by subst e; rw [gupd_same] at z; cases z
    cases x with
    | unk => trivial
    | dat d => exact q
    | own ds => obtain ⟨l, z1, z2, z3, z4⟩ := q; have := key l z4; exact ⟨l, z1, by rw [gupd_ne this]; exact z2, z3, by rw [gupd_ne this] at z4 ⊢; exact z4⟩
    | ownd ds => obtain ⟨l, z1, z2, z3, z4⟩ := q; have := key l z4; exact ⟨l, z1, by rw [gupd_ne this]; exact z2, z3, by rw [gupd_ne this] at z4 ⊢; exact z4⟩
/-- back from other slots -/
theorem Wd.back {Y' : Ctx} (eK : Y'.K = Y.K) (eF : Y'.F0 = Y.F0) (W : Wd Y F R Gl G ρ σ H) (W' : Wd Y' F' R Gl' G ρ' σ' H') (s : Same F F') (h : ∀ i, OwnAt ρ i → ρ'[i]? = ρ[i]? ∧ σ'[i]? = σ[i]?) : Wd Y F' R Gl' G ρ σ H' := by
  refine ⟨fun a o z => s a o (W.f0 a o z), W.len, W'.g, W.r0, W'.r, W.gr, fun i x t e1 e2 => ?_, W.inj, by have := W'.abs; rwa [eK] at this⟩
  have q := W.sv i x t e1 e2
  cases x with
  | unk => trivial
  | dat d => obtain ⟨v, h3, h4⟩ := q; exact ⟨v, h3, h4.mono s⟩
  | own ds => obtain ⟨h1, h2⟩ := h i ⟨_, e1, rfl⟩; exact W'.sv i _ t (h1.trans e1) (h2.trans e2)
  | ownd ds => obtain ⟨h1, h2⟩ := h i ⟨_, e1, rfl⟩; exact W'.sv i _ t (h1.trans e1) (h2.trans e2)
/-- to another context that agrees -/
theorem Wd.to {Y' : Ctx} (W : Wd Y F R Gl G ρ σ H) (eK : Y'.K = Y.K) (eF : Y'.F0 = Y.F0) (eR : Y'.R = Y.R) : Wd Y' F R Gl G ρ σ H :=
  ⟨by rw [eF]; exact W.f0, W.len, W.g, by rw [eR]; exact W.r0, W.r, W.gr, by rw [eK]; exact W.sv, W.inj, by rw [eK]; exact W.abs⟩
def wipeR (ρ : Rho) : List Nat → Rho
  | [] => ρ
  | v :: vs => (wipeR ρ vs).set v .unk
theorem Wd.wipes (W : Wd Y F R Gl G ρ σ H) : ∀ vs : List Nat, Wd Y F R Gl G (wipeR ρ vs) (wipe σ vs) H
  | [] => W
  | v :: vs => (W.wipes vs).unk v none
theorem wipe_get {σ : L2.St} {i : Nat} : ∀ {vs : List Nat}, i ∉ vs → (wipe σ vs)[i]? = σ[i]?
  | [], _ => rfl
  | v :: vs, h => by
    show ((wipe σ vs).set v none)[i]? = _
    rw [List.getElem?_set_ne (fun e => h (by simp [e])), wipe_get (vs := vs) fun z => h (List.mem_cons_of_mem _ z)]
theorem wipeR_get {ρ : Rho} {i : Nat} : ∀ {vs : List Nat}, i ∉ vs → (wipeR ρ vs)[i]? = ρ[i]?
  | [], _ => rfl
  | v :: vs, h => by
    show ((wipeR ρ vs).set v .unk)[i]? = _
    rw [List.getElem?_set_ne (fun e => h (by simp [e])), wipeR_get (vs := vs) fun z => h (List.mem_cons_of_mem _ z)]
end

/-! ### the context of a comprehension's block -/
theorem relabel_eq (scope : Scope) (env : Env) : relabel scope env = relS scope env.scope := rfl
abbrev Ctx.blk (Y : Ctx) (scope : Scope) : Ctx where
  ι := Y.ι × Shared × Hp × Addr × List (Str × Addr) × List Addr
  X := fun q => (Y.X q.1).blk q.2.1 q.2.2.1 scope (compEnvC scope q.2.2.2.2.1 q.2.2.2.1 (Y.X q.1).env) q.2.2.2.2.2
  P := Y.P
  w := Y.w
  K := Y.K
  mg := Y.mg
  base := Y.base
  N := Y.N
  sc := relS scope Y.sc
  fn := fun x => scope.names.lookup x == some .cell
  k := Y.k
  F0 := Y.F0
  R := Y.R
  hP := fun q => Y.hP q.1
  hw := fun q => Y.hw q.1
  hK := fun q => Y.hK q.1
  hmg := fun q => Y.hmg q.1
  hbase := fun q => Y.hbase q.1
  hN := fun q => Y.hN q.1
  hsc := fun q => (relabel_eq scope (Y.X q.1).env).trans (by rw [Y.hsc q.1])
  hfn := fun _ => rfl
  hc := fun q => Y.hc q.1
  hr := fun q => Y.hr q.1

/-- what a comprehension walks: nothing changes under way -/
structure GIc (Y : Ctx) (tg e : Expr) (ρ : Rho) (G : Gs) (xs : List D) : Prop where
  run : ∀ F R Gl σ H Q, Wd Y F R Gl G ρ σ H → (∀ J F' Gl' H' S, Same F F' → Wd Y F' R Gl' G ρ σ H' → S ρ σ G → Yields Y F' xs S J → Q J H') → wI Y tg e σ H Q
section
variable {Y : Ctx} {ρ : Rho} {G : Gs} {e iter tg elt : Expr} {ifs : List Expr} {pos p : Pos} {ds : List D} {d : D}
theorem gic {xs : List D} {S : Gs → Prop} (h : GI Y tg e ρ G xs S) (hS : S G) : GIc Y tg e ρ G xs := ⟨fun F R Gl σ H Q W q => h.run F R Gl σ H Q W fun J F' Gl' H' s W' y => q J F' Gl' H' _ s W' hS y⟩
theorem gic_lst {xs : List D} (he : GE Y e ρ G d) (hv : ViewD G d (.lst xs)) : GIc Y tg e ρ G xs := gic (gi_lst he hv) hv
/-- over a list that a slot owns -/
theorem gic_own (j : Nat) {x : Str} (h : ρ[j]? = some (.own ds)) (hN : Y.N[j]? = some x := by rfl) (hv : Vis Y.sc x := by first | exact Or.inl rfl | exact Or.inr (Or.inl rfl) | exact Or.inr (Or.inr rfl)) (hd : (x == ("__debug__" : Str)) = false := by decide) (hcd : (x == ("__classdict__" : Str)) = false := by decide) :
    GIc Y tg (.Name x p) ρ G ds := ⟨fun F R Gl σ H Q W q => by
  obtain ⟨s, h1, l, rfl, h3⟩ := W.get h
  obtain ⟨a, vs, e0, h4, h5⟩ := W.lstV (.ol (l := l) h h1)
  cases e0
  refine wI.of (t := iList Y.K (tVar j)) (fun i => by have := @pi_list (Y.X i) tg (.Name x p) _ (var_pe hN hv hd hcd i); rwa [Y.hK i] at this) ⟨_, h1, l, rfl, ⟨vs, h4⟩, ?_⟩
  have at' : ∀ {F' R Gl G ρ' σ' H}, Wd Y F' R Gl G ρ' σ' H → ρ'[j]? = some (.own ds) ∧ σ'[j]? = some (some (.ref l)) → ∃ vs, SqL Y.K H l vs ∧ Reps Y.K F' vs ds := fun {F' R Gl G ρ' σ' H} W z => by
    obtain ⟨a', vs, e, h1, h2⟩ := W.lstV (.ol (l := l) z.1 z.2)
    cases e
    exact ⟨vs, h1, h2⟩
  refine q _ F Gl H (fun ρ' σ' _ => ρ'[j]? = some (.own ds) ∧ σ'[j]? = some (some (.ref l))) (Same.refl F) W ⟨h, h1⟩ ⟨fun i F' R Gl G ρ σ H s W hS hi => ?_, fun i F' R Gl G ρ σ H x H2 d' s W hS hi hy => ?_, fun i F' R Gl G ρ σ H s W hS hi => ?_⟩
  · obtain ⟨vs, h3, h4⟩ := at' W hS
    exact ⟨vs, vs[i]'(by rw [h4.length]; exact hi), h3, List.getElem?_eq_getElem _⟩
  · obtain ⟨vs, h3, h4⟩ := at' W hS
    obtain ⟨rfl, hy⟩ := hy
    obtain ⟨v, h5, h6⟩ := h4.get hi
    have h7 := hy vs h3
    rw [h5] at h7; cases h7
    exact ⟨F', Same.refl _, W, h6⟩
  · obtain ⟨vs, h3, h4⟩ := at' W hS
    exact ⟨vs, h3, by rw [h4.length]; exact hi⟩⟩

/-! ### list comprehensions of one clause -/
def lcOut {α : Type} (ys : List α) (p : α → Bool) (f : α → D) (i : Nat) : List D := ((ys.take i).filter p).map f
theorem lcOut_len {α : Type} {ys : List α} {p : α → Bool} {f : α → D} {i : Nat} : (lcOut ys p f i).length ≤ ys.length := by
  unfold lcOut
  rw [List.length_map]
  exact Nat.le_trans (List.length_filter_le _ _) (by rw [List.length_take]; omega)
theorem lcOut_yes {α : Type} {ys : List α} {p : α → Bool} {f : α → D} {i : Nat} {y : α} (h : ys[i]? = some y) (hp : p y = true) : lcOut ys p f (i + 1) = lcOut ys p f i ++ [f y] := by
  unfold lcOut
  rw [List.take_add_one, h]
  simp [hp]
theorem lcOut_no {α : Type} {ys : List α} {p : α → Bool} {f : α → D} {i : Nat} {y : α} (h : ys[i]? = some y) (hp : p y = false) : lcOut ys p f (i + 1) = lcOut ys p f i := by
  unfold lcOut
  rw [List.take_add_one, h]
  simp [hp]
theorem lc_go {α : Type} {ys : List α} {enc : α → D} {pr : α → Bool} {f : α → D} {ρb : α → Rho} {scope : Scope} {js vs : List Nat} {tt : TT} (hi : GIc Y tg iter ρ G (ys.map enc)) (hg : ∀ y ∈ ys, GG (Y.blk scope) tg js (enc y) (wipeR ρ vs) (ρb y)) (hjs : ∀ j ∈ js, j ∈ vs)
    (htt : ∀ y ∈ ys, ∀ F R Gl σ H Q, Wd (Y.blk scope) F R Gl G (ρb y) σ H → (∀ F' Gl' H', Same F F' → Wd (Y.blk scope) F' R Gl' G (ρb y) σ H' → Q (pr y) H') → tt σ H Q) (he : ∀ y ∈ ys, pr y = true → GE (Y.blk scope) elt (ρb y) G (f y))
    (hl : ys.length < 100000) (hown : ∀ j ∈ vs, ¬ OwnAt ρ j) {F : Hp} {R Gl : Gs} {σ : L2.St} {H : Hp} (W : Wd Y F R Gl G ρ σ H) :
    tLc (wI Y tg iter) (wG (Y.blk scope) tg) tt (wE (Y.blk scope) elt) vs σ H (PN Y F R G ρ σ (.lst ((ys.filter pr).map f))) := by
  have hsz : 100000 ≤ sizeLine := by decide
  refine hi.run F R Gl σ H _ W fun J F1 Gl1 H1 S s1 W1 hS YJ => fun Dl hD => ?_
  obtain ⟨fF, fGl, fG, fR, fO⟩ := W1.fresh hD
  have fYR : Y.R Dl = none := W1.r0.none fR
  refine ⟨fun i m H => m = ys.length - i ∧ i ≤ ys.length ∧ ∃ F' Gl', Same F1 F' ∧ Wd Y F' (gupd R Dl (.lst (lcOut ys pr f i))) Gl' G ρ σ H, ⟨ys.length, by simp, Nat.zero_le _, F1, _, Same.refl _, (W1.newG hD (.lst .nil)).addR gupd_same fG fR fO⟩, ?_⟩
  rintro i m H2 ⟨rfl, hle, F2, Gl2, s2, W2⟩
  have out : ∀ {F' Gl' ρ' σ' H' Y'}, Wd Y' F' (gupd R Dl (.lst (lcOut ys pr f i))) Gl' G ρ' σ' H' → ∃ acc, H' Dl = some (.lst acc) ∧ Reps Y'.K F' acc (lcOut ys pr f i) := fun {F' Gl' ρ' σ' H' Y'} W => by
    obtain ⟨_, o, ho, r⟩ := W.abs.obj Dl _ (W.r Dl _ gupd_same)
    cases r with | lst r => exact ⟨_, ho, r⟩
  by_cases hlt : i < ys.length
  · refine .inr ⟨YJ.go i F2 _ Gl2 G ρ σ H2 s2 W2 hS (by simpa using hlt), fun H' => ∃ F' Gl', Same F1 F' ∧ Wd Y F' (gupd R Dl (.lst (lcOut ys pr f (i + 1)))) Gl' G ρ σ H', fun H' h => ⟨ys.length - (i + 1), by omega, rfl, hlt, h⟩, fun x H3 hy => ?_⟩
    have hy0 : ys[i]? = some ys[i] := List.getElem?_eq_getElem hlt
    have hmem : ys[i] ∈ ys := List.getElem_mem hlt
    obtain ⟨F3, s3, W3, r3⟩ := YJ.yld i F2 _ Gl2 G ρ σ H2 x H3 (enc ys[i]) s2 W2 hS (by rw [List.getElem?_map, hy0]; rfl) hy
    have W3b : Wd (Y.blk scope) F3 (gupd R Dl (.lst (lcOut ys pr f i))) Gl2 G (wipeR ρ vs) (wipe σ vs) H3 := (W3.wipes vs).to rfl rfl rfl
    refine (hg _ hmem).run F3 _ Gl2 G (wipe σ vs) H3 x _ W3b r3 fun σ4 W4 k4 l4 => ⟨by rw [k4 vs hjs, wipe_wipe], ?_⟩
    have bk : ∀ {F5 Gl5 H5}, Same F3 F5 → Wd (Y.blk scope) F5 (gupd R Dl (.lst (lcOut ys pr f i))) Gl5 G (ρb ys[i]) σ4 H5 → Wd Y F5 (gupd R Dl (.lst (lcOut ys pr f i))) Gl5 G ρ σ H5 := fun {F5 Gl5 H5} s W => by
      refine W3.back (Y' := Y.blk scope) rfl rfl W s fun j hj => ?_
      have hv : j ∉ vs := fun z => hown j z hj
      have hj' : j ∉ js := fun z => hv (hjs j z)
      exact ⟨((hg _ hmem).same j hj').trans (wipeR_get hv), (l4 j hj').trans (wipe_get hv)⟩
    refine htt _ hmem F3 _ Gl2 σ4 H3 _ W4 fun F5 Gl5 H5 s5 W5 => ?_
    by_cases hp : pr ys[i] = true
    · rw [if_pos hp]
      refine ((he _ hmem hp).run F5 _ Gl5 σ4 H5 W5).mono fun v H6 ⟨F6, Gl6, s6, W6, r6⟩ => ?_
      obtain ⟨acc, ha, ra⟩ := out W6
      refine ⟨acc, ha, ?_, F6, _, (s2.trans s3).trans (s5.trans s6), (bk (s5.trans s6) W6).putR fR fYR rfl (g' := .lst (lcOut ys pr f (i + 1))) (.lst ?_)⟩
      · rw [ra.length]
        have := lcOut_len (ys := ys) (p := pr) (f := f) (i := i)
        omega
      · rw [lcOut_yes hy0 hp]
        exact ra.snoc r6
    · rw [if_neg hp]
      refine ⟨F5, Gl5, (s2.trans s3).trans s5, ?_⟩
      have := bk s5 W5
      rw [lcOut_no hy0 (by simpa using hp)]
      exact this
  · have e : i = ys.length := by omega
    subst e
    refine .inl ⟨YJ.stop _ F2 _ Gl2 G ρ σ H2 s2 W2 hS (by simp), F2, Gl2, Dl, rfl, s1.trans s2, W2.subR W.r0 (gex_upd fR), ?_, fG, fR, ?_⟩
    · have := W2.r Dl _ gupd_same
      rw [this]
      unfold lcOut
      rw [List.take_length]
    · exact fO
variable {scope : Scope}
theorem blkOk_i {own : List (Str × Nat)} (h : BlkOk Y.N Y.sc scope own) (i : Y.ι) : BlkOk (Y.X i).N (Y.X i).env.scope scope own := by rw [Y.hN i, Y.hsc i]; exact h
/-- [e for t in iter] -/
theorem gn_lc {α : Type} {ys : List α} {enc : α → D} {f : α → D} {ρb : α → Rho} {js : List Nat} (own : List (Str × Nat)) (hN : Y.N.Nodup) (hi : GIc Y tg iter ρ G (ys.map enc)) (ok : BlkOk Y.N Y.sc scope own)
    (hg : ∀ y ∈ ys, GG (Y.blk scope) tg js (enc y) (wipeR ρ (own.map (·.2))) (ρb y)) (hjs : ∀ j ∈ js, j ∈ own.map (·.2)) (he : ∀ y ∈ ys, GE (Y.blk scope) elt (ρb y) G (f y)) (hl : ys.length < 100000) (hown : ∀ j ∈ own.map (·.2), ¬ OwnAt ρ j)
    (hs : ∀ env x, foldedSetIterable iter env x = pure x := by intro _ _; rfl) : GN Y (.ListComp elt [⟨tg, iter, [], 0⟩] scope pos) ρ G (.lst (ys.map f)) :=
  ⟨fun F R Gl σ H W => by
    have := lc_go (pr := fun _ => true) (tt := tYes) hi hg hjs (fun y _ F R Gl σ H Q W q => q F Gl H (Same.refl F) W) (fun y hy _ => he y hy) hl hown W
    rw [List.filter_eq_self.mpr fun _ _ => rfl] at this
    exact wE.of (fun i => pe_lc (Y.hc i) (by rw [Y.hN i]; exact hN) (wI.pi i) (blkOk_i ok i) (fun s H C cl fp => wG.pg (Y := Y.blk scope) (i, s, H, C, cl, fp)) (fun s H C cl fp => pts_nil) (fun s H C cl fp => wE.pe (Y := Y.blk scope) (i, s, H, C, cl, fp)) (hs _)) this⟩
/-- [e for t in iter if c] -/
theorem gn_lcIf {α : Type} {ys : List α} {enc : α → D} {f : α → D} {pr : α → Bool} {ρb : α → Rho} {js : List Nat} {c : Expr} (own : List (Str × Nat)) (hN : Y.N.Nodup) (hi : GIc Y tg iter ρ G (ys.map enc)) (ok : BlkOk Y.N Y.sc scope own)
    (hg : ∀ y ∈ ys, GG (Y.blk scope) tg js (enc y) (wipeR ρ (own.map (·.2))) (ρb y)) (hjs : ∀ j ∈ js, j ∈ own.map (·.2)) (hc : ∀ y ∈ ys, GT (Y.blk scope) c (ρb y) G (pr y)) (he : ∀ y ∈ ys, pr y = true → GE (Y.blk scope) elt (ρb y) G (f y)) (hl : ys.length < 100000) (hown : ∀ j ∈ own.map (·.2), ¬ OwnAt ρ j)
    (hs : ∀ env x, foldedSetIterable iter env x = pure x := by intro _ _; rfl) : GN Y (.ListComp elt [⟨tg, iter, [c], 0⟩] scope pos) ρ G (.lst ((ys.filter pr).map f)) :=
  ⟨fun F R Gl σ H W => by
    have := lc_go (tt := wT (Y.blk scope) c) hi hg hjs (fun y hy F R Gl σ H Q W q => ((hc y hy).run F R Gl σ H W).mono fun b H' ⟨e, F', Gl', s, W'⟩ => by rw [e]; exact q F' Gl' H' s W') he hl hown W
    exact wE.of (fun i => pe_lc (Y.hc i) (by rw [Y.hN i]; exact hN) (wI.pi i) (blkOk_i ok i) (fun s H C cl fp => wG.pg (Y := Y.blk scope) (i, s, H, C, cl, fp)) (fun s H C cl fp => pts_one (wT.pt (Y := Y.blk scope) (i, s, H, C, cl, fp))) (fun s H C cl fp => wE.pe (Y := Y.blk scope) (i, s, H, C, cl, fp)) (hs _)) this⟩
end
end Gh
end

section
set_option Elab.async false
set_option linter.all false
set_option maxRecDepth 100000
set_option maxHeartbeats 4000000
namespace Gh
open PySem PySem.Spec PyProof.Rows L2

structure GEnds where
  nx : Rho → Gs → Prop
  rt : D → Gs → Prop
  bk : Rho → Gs → Prop := fun _ _ => False
  ct : Rho → Gs → Prop := fun _ _ => False
def wS (Y : Ctx) (st : Stmt) : TS := fun D σ H => ∀ i pins s, Inv (Y.X i) pins σ H s → wpAny (model (Y.X i).prog (Y.X i).w) (Y.X i).A (exec st (Y.X i).env) (SP (Y.X i) pins D) (Y.X i).xe s
def wSs (Y : Ctx) (st : List Stmt) : TS := fun D σ H => ∀ i pins s, Inv (Y.X i) pins σ H s → wpAny (model (Y.X i).prog (Y.X i).w) (Y.X i).A (execs st (Y.X i).env) (SP (Y.X i) pins D) (Y.X i).xe s
section
variable {Y : Ctx}
theorem wS.ps {st : Stmt} (i : Y.ι) : PS (Y.X i) st (wS Y st) := ⟨fun pins s σ H D I h => h i pins s I⟩
theorem wS.of {st : Stmt} {t : TS} {σ : L2.St} {H : Hp} {D : Ends} (h : ∀ i, PS (Y.X i) st t) (q : t D σ H) : wS Y st D σ H := fun i pins s I => (h i).run pins s σ H D I q
theorem wSs.pss {st : List Stmt} (i : Y.ι) : PSs (Y.X i) st (wSs Y st) := ⟨fun pins s σ H D I h => h i pins s I⟩
theorem wSs.of {st : List Stmt} {t : TS} {σ : L2.St} {H : Hp} {D : Ends} (h : ∀ i, PSs (Y.X i) st t) (q : t D σ H) : wSs Y st D σ H := fun i pins s I => (h i).run pins s σ H D I q
end
/-- a body's end -/
structure Fin (Y : Ctx) (F : Hp) (R Gl G : Gs) (H : Hp) : Prop where
  f0 : Same Y.F0 F
  g : GEx G Gl
  r0 : GEx Y.R R
  r : GEx R Gl
  gr : ∀ a, G a = none ∨ R a = none
  abs : Abs Y.K F Gl H
theorem Wd.fin {Y : Ctx} {F : Hp} {R Gl G : Gs} {ρ : Rho} {σ : L2.St} {H : Hp} (W : Wd Y F R Gl G ρ σ H) : Fin Y F R Gl G H := ⟨W.f0, W.g, W.r0, W.r, W.gr, W.abs⟩
structure Lift (Y : Ctx) (F : Hp) (R : Gs) (E : GEnds) (D : Ends) : Prop where
  nx : ∀ ρ' G' F' Gl' σ' H', Same F F' → Wd Y F' R Gl' G' ρ' σ' H' → E.nx ρ' G' → D.nx σ' H'
  bk : ∀ ρ' G' F' Gl' σ' H', Same F F' → Wd Y F' R Gl' G' ρ' σ' H' → E.bk ρ' G' → D.bk σ' H'
  ct : ∀ ρ' G' F' Gl' σ' H', Same F F' → Wd Y F' R Gl' G' ρ' σ' H' → E.ct ρ' G' → D.ct σ' H'
  rt : ∀ d G' F' Gl' v H', Same F F' → Fin Y F' R Gl' G' H' → Rep Y.K F' v d → E.rt d G' → D.rt v H'
theorem Lift.up {Y : Ctx} {F F1 : Hp} {R : Gs} {E : GEnds} {D : Ends} (L : Lift Y F R E D) (s : Same F F1) : Lift Y F1 R E D :=
  ⟨fun ρ' G' F' Gl' σ' H' q => L.nx ρ' G' F' Gl' σ' H' (s.trans q), fun ρ' G' F' Gl' σ' H' q => L.bk ρ' G' F' Gl' σ' H' (s.trans q), fun ρ' G' F' Gl' σ' H' q => L.ct ρ' G' F' Gl' σ' H' (s.trans q), fun d G' F' Gl' v H' q => L.rt d G' F' Gl' v H' (s.trans q)⟩
structure GS (Y : Ctx) (st : Stmt) (ρ : Rho) (G : Gs) (E : GEnds) : Prop where
  run : ∀ F R Gl σ H D, Wd Y F R Gl G ρ σ H → Lift Y F R E D → wS Y st D σ H
structure GSs (Y : Ctx) (st : List Stmt) (ρ : Rho) (G : Gs) (E : GEnds) : Prop where
  run : ∀ F R Gl σ H D, Wd Y F R Gl G ρ σ H → Lift Y F R E D → wSs Y st D σ H

section
variable {Y : Ctx} {ρ ρ' : Rho} {G : Gs} {E : GEnds} {st : Stmt} {rest sts a b : List Stmt} {e c o : Expr} {es : List Expr} {d d' : D} {ds : List D} {pos p : Pos}
theorem gss_nil (h : E.nx ρ G) : GSs Y [] ρ G E := ⟨fun F R Gl σ H D W L => wSs.of (fun i => pss_nil) (L.nx _ _ _ _ _ _ (Same.refl F) W h)⟩
theorem gss_cons (h : GS Y st ρ G { E with nx := fun ρ' G' => GSs Y rest ρ' G' E }) : GSs Y (st :: rest) ρ G E := ⟨fun F R Gl σ H D W L =>
  wSs.of (fun i => pss_cons (wS.ps i) (wSs.pss i)) (h.run F R Gl σ H { D with nx := wSs Y rest D } W
    ⟨fun ρ' G' F' Gl' σ' H' s W' q => q.run F' R Gl' σ' H' D W' (L.up s), L.bk, L.ct, L.rt⟩)⟩
theorem gss_one (h : GS Y st ρ G E) : GSs Y [st] ρ G E := ⟨fun F R Gl σ H D W L => wSs.of (fun i => pss_one (wS.ps i)) (h.run F R Gl σ H D W L)⟩
theorem gss_mono {E' : GEnds} (h : GSs Y sts ρ G E) (n : ∀ ρ G, E.nx ρ G → E'.nx ρ G) (r : ∀ d G, E.rt d G → E'.rt d G) (k : ∀ ρ G, E.bk ρ G → E'.bk ρ G) (t : ∀ ρ G, E.ct ρ G → E'.ct ρ G) : GSs Y sts ρ G E' := ⟨fun F R Gl σ H D W L => h.run F R Gl σ H D W
  ⟨fun ρ' G' F' Gl' σ' H' s W' q => L.nx ρ' G' F' Gl' σ' H' s W' (n _ _ q), fun ρ' G' F' Gl' σ' H' s W' q => L.bk ρ' G' F' Gl' σ' H' s W' (k _ _ q), fun ρ' G' F' Gl' σ' H' s W' q => L.ct ρ' G' F' Gl' σ' H' s W' (t _ _ q), fun d G' F' Gl' v H' s f r' q => L.rt d G' F' Gl' v H' s f r' (r _ _ q)⟩⟩
/-- a statement, then the rest, what holds between them said once -/
theorem gss_cut (Mid : Rho → Gs → Prop) (h : GS Y st ρ G { E with nx := Mid }) (k : ∀ ρ' G', Mid ρ' G' → GSs Y rest ρ' G' E) : GSs Y (st :: rest) ρ G E := gss_cons ⟨fun F R Gl σ H D W L => h.run F R Gl σ H D W
  ⟨fun ρ' G' F' Gl' σ' H' s W' q => L.nx ρ' G' F' Gl' σ' H' s W' (k _ _ q), L.bk, L.ct, L.rt⟩⟩
/-- a slot forgotten -/
theorem gss_forget (i : Nat) (h : GSs Y sts (ρ.set i .unk) G E) : GSs Y sts ρ G E := ⟨fun F R Gl σ H D W L => h.run F R Gl σ H D (W.forget i) L⟩
/-- a slot's own list is changed no longer -/
theorem gss_frz (i : Nat) (hi : ρ[i]? = some (.own ds)) (h : GSs Y sts (ρ.set i (.dat (.lst ds))) G E) : GSs Y sts ρ G E := ⟨fun F R Gl σ H D W L => by
  obtain ⟨s, h1, l, rfl, h2, h3, h4⟩ := W.get hi
  obtain ⟨_, o, ho, r⟩ := W.abs.obj l _ h2
  cases r with
  | lst r =>
  have W1 := W.forget i
  have nO : ¬ Owned (ρ.set i .unk) σ l := fun ⟨j, ⟨x, ex, ox⟩, ej⟩ => by
    rcases set_get ex with ⟨_, z⟩ | ⟨z, z2⟩
    · subst z; cases ox
    · exact z (W.inj j i l ⟨x, z2, ox⟩ ⟨_, hi, rfl⟩ ej h1)
  obtain ⟨W2, s2⟩ := W1.frz h2 rfl ho h3 h4 nO
  have W3 := W2.reD h1 (.lst (.inl upd_same) (r.mono s2))
  rw [List.set_set] at W3
  exact h.run _ R _ σ H D W3 (L.up s2)⟩
theorem gss_frzd {ds : List (Key × D)} (i : Nat) (hi : ρ[i]? = some (.ownd ds)) (h : GSs Y sts (ρ.set i (.dat (.dic ds))) G E) : GSs Y sts ρ G E := ⟨fun F R Gl σ H D W L => by
  obtain ⟨s, h1, l, rfl, h2, h3, h4⟩ := W.get hi
  obtain ⟨_, o, ho, r⟩ := W.abs.obj l _ h2
  cases r with
  | dic r =>
  have W1 := W.forget i
  have nO : ¬ Owned (ρ.set i .unk) σ l := fun ⟨j, ⟨x, ex, ox⟩, ej⟩ => by
    rcases set_get ex with ⟨_, z⟩ | ⟨z, z2⟩
    · subst z; cases ox
    · exact z (W.inj j i l ⟨x, z2, ox⟩ ⟨_, hi, rfl⟩ ej h1)
  obtain ⟨W2, s2⟩ := W1.frz h2 rfl ho h3 h4 nO
  have W3 := W2.reD h1 (.dic upd_same (r.mono s2))
  rw [List.set_set] at W3
  exact h.run _ R _ σ H D W3 (L.up s2)⟩
/-- .. is told by its address -/
theorem Wd.pub {F : Hp} {R Gl : Gs} {σ : L2.St} {H : Hp} {i : Nat} {l : Addr} {g : GO} (W : Wd Y F R Gl G ρ σ H) (ho : OwnAt ρ i) (h1 : σ[i]? = some (some (.ref l))) (h2 : Gl l = some g) (h3 : G l = none) (h4 : R l = none) : Wd Y F R Gl (gupd G l g) (ρ.set i (.dat (.ref l))) σ H := by
  have W1 := W.reD (d := .ref l) h1 (.ref l)
  refine ⟨W1.f0, W1.len, fun a u e => ?_, W1.r0, W1.r, fun a => ?_, fun j x s e1 e2 => ?_, W1.inj, W1.abs⟩
  · by_cases q : a = l
    · subst q; rw [gupd_same] at e; cases e; exact h2
    · rw [gupd_ne q] at e; exact W.g a u e
  · by_cases q : a = l
    · subst q; exact .inr h4
    · rw [gupd_ne q]; exact W.gr a
  · have q := W1.sv j x s e1 e2
    have ne : x.isOwn = true → ∀ l', s = some (.ref l') → l' ≠ l := fun ox l' es el => by
      subst el; subst es
      rcases set_get e1 with ⟨_, z⟩ | ⟨z, z2⟩
      · subst z; cases ox
      · exact z (W.inj j i l' ⟨x, z2, ox⟩ ho e2 h1)
    cases x with
    | unk => trivial
    | dat d => exact q
    | own ds => obtain ⟨l', z1, z2, z3, z4⟩ := q; exact ⟨l', z1, z2, by rw [gupd_ne (ne rfl l' z1)]; exact z3, z4⟩
    | ownd ds => obtain ⟨l', z1, z2, z3, z4⟩ := q; exact ⟨l', z1, z2, by rw [gupd_ne (ne rfl l' z1)]; exact z3, z4⟩
theorem gss_pub (i : Nat) (hi : ρ[i]? = some (.own ds)) (h : ∀ l, G l = none → GSs Y sts (ρ.set i (.dat (.ref l))) (gupd G l (.lst ds)) E) : GSs Y sts ρ G E := ⟨fun F R Gl σ H D W L => by
  obtain ⟨s, h1, l, rfl, h2, h3, h4⟩ := W.get hi
  exact (h l h3).run F R Gl σ H D (W.pub ⟨_, hi, rfl⟩ h1 h2 h3 h4) L⟩
theorem gss_pubd {ds : List (Key × D)} (i : Nat) (hi : ρ[i]? = some (.ownd ds)) (h : ∀ l, G l = none → GSs Y sts (ρ.set i (.dat (.ref l))) (gupd G l (.dic ds)) E) : GSs Y sts ρ G E := ⟨fun F R Gl σ H D W L => by
  obtain ⟨s, h1, l, rfl, h2, h3, h4⟩ := W.get hi
  exact (h l h3).run F R Gl σ H D (W.pub ⟨_, hi, rfl⟩ h1 h2 h3 h4) L⟩

/-! ### small statements -/
theorem gs_pass (h : E.nx ρ G) : GS Y (.Pass pos) ρ G E := ⟨fun F R Gl σ H D W L => wS.of (fun i => ps_pass) (L.nx _ _ _ _ _ _ (Same.refl F) W h)⟩
theorem gs_break (h : E.bk ρ G) : GS Y (.Break pos) ρ G E := ⟨fun F R Gl σ H D W L => wS.of (fun i => ps_break) (L.bk _ _ _ _ _ _ (Same.refl F) W h)⟩
theorem gs_continue (h : E.ct ρ G) : GS Y (.Continue pos) ρ G E := ⟨fun F R Gl σ H D W L => wS.of (fun i => ps_continue) (L.ct _ _ _ _ _ _ (Same.refl F) W h)⟩
theorem gs_doc {x : Str} {j : Nat} {pos' : Pos} (h : E.nx ρ G) : GS Y (.Expr (.Constant (.str x) j pos) pos') ρ G E := ⟨fun F R Gl σ H D W L => wS.of (fun i => ps_doc) (L.nx _ _ _ _ _ _ (Same.refl F) W h)⟩
theorem gs_expr (h : GW Y e ρ G fun _ G' => E.nx ρ G') (hs : ∀ i, swapsWith e none pos.line (Y.X i).env = pure false := by intro _; rfl) : GS Y (.Expr e pos) ρ G E := ⟨fun F R Gl σ H D W L =>
  wS.of (fun i => ps_expr (wE.pe i) (hs i)) ((h.run F R Gl σ H W).mono fun v H' ⟨F', Gl', G', d, s, W', r, q⟩ => L.nx _ _ _ _ _ _ s W' q)⟩
theorem gs_never (h : False) : GS Y st ρ G E := h.elim
/-- what is handed back -/
structure GF (Y : Ctx) (e : Expr) (ρ : Rho) (G : Gs) (P : D → Gs → Prop) : Prop where
  run : ∀ F R Gl σ H, Wd Y F R Gl G ρ σ H → wE Y e σ H fun v H' => ∃ F' Gl' G' d, Same F F' ∧ Fin Y F' R Gl' G' H' ∧ Rep Y.K F' v d ∧ P d G'
theorem gf_w {P : D → Gs → Prop} (h : GW Y e ρ G P) : GF Y e ρ G P := ⟨fun F R Gl σ H W => (h.run F R Gl σ H W).mono fun v H' ⟨F', Gl', G', d, s, W', r, q⟩ => ⟨F', Gl', G', d, s, W'.fin, r, q⟩⟩
theorem gf_e {P : D → Gs → Prop} (h : GE Y e ρ G d) (q : P d G) : GF Y e ρ G P := gf_w (gw_ge h q)
theorem gf_own {P : D → Gs → Prop} (j : Nat) {x : Str} (h : ρ[j]? = some (.own ds)) (q : P (.lst ds) G) (hN : Y.N[j]? = some x := by rfl) (hv : Vis Y.sc x := by first | exact Or.inl rfl | exact Or.inr (Or.inl rfl) | exact Or.inr (Or.inr rfl)) (hd : (x == ("__debug__" : Str)) = false := by decide) (hcd : (x == ("__classdict__" : Str)) = false := by decide) :
    GF Y (.Name x p) ρ G P := ⟨fun F R Gl σ H W => by
  obtain ⟨s, h1, l, rfl, h2, h3, h4⟩ := W.get h
  obtain ⟨_, o, ho, r⟩ := W.abs.obj l _ h2
  cases r with
  | lst r =>
  have W1 := W.forget j
  have nO : ¬ Owned (ρ.set j .unk) σ l := fun ⟨k, ⟨x, ex, ox⟩, ej⟩ => by
    rcases set_get ex with ⟨_, z⟩ | ⟨z, z2⟩
    · subst z; cases ox
    · exact z (W.inj k j l ⟨x, z2, ox⟩ ⟨_, h, rfl⟩ ej h1)
  obtain ⟨W2, s2⟩ := W1.frz h2 rfl ho h3 h4 nO
  exact wE.of (var_pe hN hv hd hcd) ⟨_, h1, _, _, G, _, s2, W2.fin, .lst (.inl upd_same) (r.mono s2), q⟩⟩
theorem gf_ownd {P : D → Gs → Prop} {ds : List (Key × D)} (j : Nat) {x : Str} (h : ρ[j]? = some (.ownd ds)) (q : P (.dic ds) G) (hN : Y.N[j]? = some x := by rfl) (hv : Vis Y.sc x := by first | exact Or.inl rfl | exact Or.inr (Or.inl rfl) | exact Or.inr (Or.inr rfl)) (hd : (x == ("__debug__" : Str)) = false := by decide) (hcd : (x == ("__classdict__" : Str)) = false := by decide) :
    GF Y (.Name x p) ρ G P := ⟨fun F R Gl σ H W => by
  obtain ⟨s, h1, l, rfl, h2, h3, h4⟩ := W.get h
  obtain ⟨_, o, ho, r⟩ := W.abs.obj l _ h2
  cases r with
  | dic r =>
  have W1 := W.forget j
  have nO : ¬ Owned (ρ.set j .unk) σ l := fun ⟨k, ⟨x, ex, ox⟩, ej⟩ => by
    rcases set_get ex with ⟨_, z⟩ | ⟨z, z2⟩
    · subst z; cases ox
    · exact z (W.inj k j l ⟨x, z2, ox⟩ ⟨_, h, rfl⟩ ej h1)
  obtain ⟨W2, s2⟩ := W1.frz h2 rfl ho h3 h4 nO
  exact wE.of (var_pe hN hv hd hcd) ⟨_, h1, _, _, G, _, s2, W2.fin, .dic upd_same (r.mono s2), q⟩⟩
/-- an own dict handed back as a thing that may change -/
theorem gf_owndR {P : D → Gs → Prop} {ds : List (Key × D)} (j : Nat) {x : Str} (h : ρ[j]? = some (.ownd ds)) (q : ∀ l, G l = none → P (.ref l) (gupd G l (.dic ds))) (hN : Y.N[j]? = some x := by rfl) (hv : Vis Y.sc x := by first | exact Or.inl rfl | exact Or.inr (Or.inl rfl) | exact Or.inr (Or.inr rfl)) (hd : (x == ("__debug__" : Str)) = false := by decide) (hcd : (x == ("__classdict__" : Str)) = false := by decide) :
    GF Y (.Name x p) ρ G P := ⟨fun F R Gl σ H W => by
  obtain ⟨s, h1, l, rfl, h2, h3, h4⟩ := W.get h
  have W2 := W.pub ⟨_, h, rfl⟩ h1 h2 h3 h4
  exact wE.of (var_pe hN hv hd hcd) ⟨_, h1, F, Gl, _, _, Same.refl F, W2.fin, .ref l, q l h3⟩⟩
theorem gf_ownR {P : D → Gs → Prop} {ds : List D} (j : Nat) {x : Str} (h : ρ[j]? = some (.own ds)) (q : ∀ l, G l = none → P (.ref l) (gupd G l (.lst ds))) (hN : Y.N[j]? = some x := by rfl) (hv : Vis Y.sc x := by first | exact Or.inl rfl | exact Or.inr (Or.inl rfl) | exact Or.inr (Or.inr rfl)) (hd : (x == ("__debug__" : Str)) = false := by decide) (hcd : (x == ("__classdict__" : Str)) = false := by decide) :
    GF Y (.Name x p) ρ G P := ⟨fun F R Gl σ H W => by
  obtain ⟨s, h1, l, rfl, h2, h3, h4⟩ := W.get h
  have W2 := W.pub ⟨_, h, rfl⟩ h1 h2 h3 h4
  exact wE.of (var_pe hN hv hd hcd) ⟨_, h1, F, Gl, _, _, Same.refl F, W2.fin, .ref l, q l h3⟩⟩
theorem gs_ret (h : GF Y e ρ G E.rt) : GS Y (.Return (some e) pos) ρ G E := ⟨fun F R Gl σ H D W L =>
  wS.of (fun i => ps_ret (wE.pe i)) ((h.run F R Gl σ H W).mono fun v H' ⟨F', Gl', G', d, s, f, r, q⟩ => L.rt _ _ _ _ _ _ s f r q)⟩
theorem gs_retE (h : GE Y e ρ G d) (q : E.rt d G) : GS Y (.Return (some e) pos) ρ G E := gs_ret (gf_e h q)
theorem gs_retN (q : E.rt .non G) : GS Y (.Return none pos) ρ G E := ⟨fun F R Gl σ H D W L => wS.of (fun i => ps_retN) (L.rt _ _ _ _ _ _ (Same.refl F) W.fin .non q)⟩
theorem gs_if {x : Bool} (hc : GT Y c ρ G x) (h1 : x = true → GSs Y a ρ G E) (h2 : x = false → GSs Y b ρ G E) : GS Y (.If c a b pos) ρ G E := ⟨fun F R Gl σ H D W L =>
  wS.of (fun i => ps_if (wT.pt i) (wSs.pss i) (wSs.pss i)) ((hc.run F R Gl σ H W).mono fun v H1 ⟨z, F', Gl', s, W'⟩ => by
    subst z
    cases v with
    | true => exact (h1 rfl).run F' R Gl' σ H1 D W' (L.up s)
    | false => exact (h2 rfl).run F' R Gl' σ H1 D W' (L.up s))⟩

/-! ### stores -/
theorem nd_i (hN : Y.N.Nodup) (i : Y.ι) : (Y.X i).N.Nodup := by rw [Y.hN i]; exact hN
theorem set_ps {x : Str} {j : Nat} {pos' : Pos} (hd : Y.N.Nodup) (hN : Y.N[j]? = some x) (hx : Loc Y.sc x) (hs : ∀ i, swapsWith e (some (.Name x pos')) pos.line (Y.X i).env = pure false) (hf : Y.fn x = true ∨ Y.sc.names.lookup x = some .local) (i : Y.ι) :
    PS (Y.X i) (.Assign [.Name x pos'] e pos) (tAsg (wE Y e) (gName j)) := ps_set (nd_i hd i) (nm_i hN) (loc_i hx i) (wE.pe i) (hs i) (fn_i hf i)
theorem gs_set (j : Nat) {x : Str} {pos' : Pos} (hd : Y.N.Nodup) (he : GE Y e ρ G d) (k : E.nx (ρ.set j (.dat d)) G) (hN : Y.N[j]? = some x := by rfl) (hx : Loc Y.sc x := by first | exact .inl rfl | exact .inr rfl) (hs : ∀ i, swapsWith e (some (.Name x pos')) pos.line (Y.X i).env = pure false := by intro _; rfl)
    (hf : Y.fn x = true ∨ Y.sc.names.lookup x = some .local := by first | exact .inl rfl | exact .inr rfl) : GS Y (.Assign [.Name x pos'] e pos) ρ G E := ⟨fun F R Gl σ H D W L =>
  wS.of (set_ps hd hN hx hs hf) ((he.run F R Gl σ H W).mono fun v H' ⟨F', Gl', s, W', r⟩ => L.nx _ _ _ _ _ _ s (W'.setD r) k)⟩
/-- the value told with what it does to G -/
theorem gs_setW (j : Nat) {x : Str} {pos' : Pos} (hd : Y.N.Nodup) (he : GW Y e ρ G fun d G' => E.nx (ρ.set j (.dat d)) G') (hN : Y.N[j]? = some x := by rfl) (hx : Loc Y.sc x := by first | exact .inl rfl | exact .inr rfl) (hs : ∀ i, swapsWith e (some (.Name x pos')) pos.line (Y.X i).env = pure false := by intro _; rfl)
    (hf : Y.fn x = true ∨ Y.sc.names.lookup x = some .local := by first | exact .inl rfl | exact .inr rfl) : GS Y (.Assign [.Name x pos'] e pos) ρ G E := ⟨fun F R Gl σ H D W L =>
  wS.of (set_ps hd hN hx hs hf) ((he.run F R Gl σ H W).mono fun v H' ⟨F', Gl', G', d, s, W', r, k⟩ => L.nx _ _ _ _ _ _ s (W'.setD r) k)⟩
theorem PN.own {F : Hp} {R : Gs} {σ : L2.St} {H : Hp} {v : V} {j : Nat} (h : PN Y F R G ρ σ (.lst ds) v H) : ∃ F' Gl', Same F F' ∧ Wd Y F' R Gl' G (ρ.set j (.own ds)) (σ.set j (some v)) H := by
  obtain ⟨F', Gl', l, rfl, s, W, h1, h2, h3, h4⟩ := h
  refine ⟨F', Gl', s, W.set ⟨l, rfl, h1, h2, h3⟩ fun _ l' e k _ ho hk => ?_⟩
  cases e
  exact h4 ⟨k, ho, hk⟩
theorem PN.ownd {F : Hp} {R : Gs} {σ : L2.St} {H : Hp} {v : V} {j : Nat} {ds : List (Key × D)} (h : PN Y F R G ρ σ (.dic ds) v H) : ∃ F' Gl', Same F F' ∧ Wd Y F' R Gl' G (ρ.set j (.ownd ds)) (σ.set j (some v)) H := by
  obtain ⟨F', Gl', l, rfl, s, W, h1, h2, h3, h4⟩ := h
  refine ⟨F', Gl', s, W.set ⟨l, rfl, h1, h2, h3⟩ fun _ l' e k _ ho hk => ?_⟩
  cases e
  exact h4 ⟨k, ho, hk⟩
theorem gs_own (j : Nat) {x : Str} {pos' : Pos} (hd : Y.N.Nodup) (he : GN Y e ρ G (.lst ds)) (k : E.nx (ρ.set j (.own ds)) G) (hN : Y.N[j]? = some x := by rfl) (hx : Loc Y.sc x := by first | exact .inl rfl | exact .inr rfl) (hs : ∀ i, swapsWith e (some (.Name x pos')) pos.line (Y.X i).env = pure false := by intro _; rfl)
    (hf : Y.fn x = true ∨ Y.sc.names.lookup x = some .local := by first | exact .inl rfl | exact .inr rfl) : GS Y (.Assign [.Name x pos'] e pos) ρ G E := ⟨fun F R Gl σ H D W L =>
  wS.of (set_ps hd hN hx hs hf) ((he.run F R Gl σ H W).mono fun v H' h => by obtain ⟨F', Gl', s, W'⟩ := h.own (j := j); exact L.nx _ _ _ _ _ _ s W' k)⟩
theorem gs_ownd (j : Nat) {x : Str} {pos' : Pos} {ds : List (Key × D)} (hd : Y.N.Nodup) (he : GN Y e ρ G (.dic ds)) (k : E.nx (ρ.set j (.ownd ds)) G) (hN : Y.N[j]? = some x := by rfl) (hx : Loc Y.sc x := by first | exact .inl rfl | exact .inr rfl) (hs : ∀ i, swapsWith e (some (.Name x pos')) pos.line (Y.X i).env = pure false := by intro _; rfl)
    (hf : Y.fn x = true ∨ Y.sc.names.lookup x = some .local := by first | exact .inl rfl | exact .inr rfl) : GS Y (.Assign [.Name x pos'] e pos) ρ G E := ⟨fun F R Gl σ H D W L =>
  wS.of (set_ps hd hN hx hs hf) ((he.run F R Gl σ H W).mono fun v H' h => by obtain ⟨F', Gl', s, W'⟩ := h.ownd (j := j); exact L.nx _ _ _ _ _ _ s W' k)⟩
theorem gs_asg {tg : Expr} {js : List Nat} (he : GE Y e ρ G d) (hg : GG Y tg js d ρ ρ') (k : E.nx ρ' G) (hs : ∀ i, swapsWithSole [tg] e pos.line (Y.X i).env = pure false := by intro _; rfl) (hw : ∀ i, swappedStores [tg] e (Y.X i).env = pure none := by intro _; rfl)
    (h1 : ∀ i, (assignEach [tg] (Y.X i).env).map (·.2) = [assign tg (Y.X i).env] := by intro _; rfl) : GS Y (.Assign [tg] e pos) ρ G E := ⟨fun F R Gl σ H D W L =>
  wS.of (fun i => ps_asg (wE.pe i) (wG.pg i) (hs i) (hw i) (h1 i)) ((he.run F R Gl σ H W).mono fun v H' ⟨F', Gl', s, W', r⟩ => hg.run F' R Gl' G σ H' v _ W' r fun σ' W2 _ _ => L.nx _ _ _ _ _ _ s W2 k)⟩
variable {iter tg elt : Expr} {scope : Scope}
theorem wI.mono {σ : L2.St} {H : Hp} {Q Q' : It → Hp → Prop} (h : wI Y tg iter σ H Q) (q : ∀ J H', Q J H' → Q' J H') : wI Y tg iter σ H Q' := fun i pins s I => thn (h i pins s I) fun v s1 h1 => thn h1 fun u s2 ⟨it, fp, tn, J, H', a, b, c, d, f, r⟩ => ⟨it, fp, tn, J, H', a, b, c, d, f, q _ _ r⟩
theorem tLc_mono {g : TG} {tt : TT} {te : TE} {vs : List Nat} {σ : L2.St} {H : Hp} {Q Q' : VK} (h : tLc (wI Y tg iter) g tt te vs σ H Q) (q : ∀ v H', Q v H' → Q' v H') : tLc (wI Y tg iter) g tt te vs σ H Q' :=
  wI.mono h fun J H1 k Dl hD => by
    obtain ⟨W, h0, ht⟩ := k Dl hD
    exact ⟨W, h0, fun i m H w => (ht i m H w).imp (fun ⟨a, b⟩ => ⟨a, q _ _ b⟩) id⟩
/-- y = [e for t in iter] -/
theorem gs_lc (j : Nat) {x : Str} {pos' lpos : Pos} {α : Type} {ys : List α} {enc : α → D} {f : α → D} {ρb : α → Rho} {js : List Nat} (own : List (Str × Nat)) (hd : Y.N.Nodup) (hi : GIc Y tg iter ρ G (ys.map enc)) (ok : BlkOk Y.N Y.sc scope own)
    (hg : ∀ y ∈ ys, GG (Y.blk scope) tg js (enc y) (wipeR ρ (own.map (·.2))) (ρb y)) (hjs : ∀ j ∈ js, j ∈ own.map (·.2)) (he : ∀ y ∈ ys, GE (Y.blk scope) elt (ρb y) G (f y)) (hl : ys.length < 100000) (hown : ∀ j ∈ own.map (·.2), ¬ OwnAt ρ j)
    (k : E.nx (ρ.set j (.own (ys.map f))) G) (hN : Y.N[j]? = some x := by rfl) (hx : Y.sc.names.lookup x = some .local := by rfl)
    (hsw : ∀ i, swapsWith (.ListComp elt [⟨tg, iter, [], 0⟩] scope lpos) (some (.Name x pos')) pos.line (Y.X i).env = pure true := by exact fun _ => sw_true rfl rfl rfl (by decide +kernel)) (hs : ∀ env x, foldedSetIterable iter env x = pure x := by intro _ _; rfl) :
    GS Y (.Assign [.Name x pos'] (.ListComp elt [⟨tg, iter, [], 0⟩] scope lpos) pos) ρ G E := ⟨fun F R Gl σ H D W L => by
  have := lc_go (pr := fun _ => true) (tt := tYes) hi hg hjs (fun y _ F R Gl σ H Q W q => q F Gl H (Same.refl F) W) (fun y hy _ => he y hy) hl hown W
  rw [List.filter_eq_self.mpr fun _ _ => rfl] at this
  have h2 : wE Y (.ListComp elt [⟨tg, iter, [], 0⟩] scope lpos) σ H (PN Y F R G ρ σ (.lst (ys.map f))) := wE.of (fun i => pe_lc (Y.hc i) (nd_i hd i) (wI.pi i) (blkOk_i ok i) (fun s H C cl fp => wG.pg (Y := Y.blk scope) (i, s, H, C, cl, fp)) (fun s H C cl fp => pts_nil) (fun s H C cl fp => wE.pe (Y := Y.blk scope) (i, s, H, C, cl, fp)) (hs _)) this
  refine wS.of (t := tAsg (tLc (wI Y tg iter) (wG (Y.blk scope) tg) tYes (wE (Y.blk scope) elt) (own.map (·.2))) (gName j)) (fun i => ps_setLc (Y.hc i) (nd_i hd i) (nm_i hN) (by rw [Y.hsc i]; exact hx) (hsw i) (wI.pi i) (blkOk_i ok i) (fun s H C cl fp => wG.pg (Y := Y.blk scope) (i, s, H, C, cl, fp)) (fun s H C cl fp => pts_nil) (fun s H C cl fp => wE.pe (Y := Y.blk scope) (i, s, H, C, cl, fp)) (hs _)) ?_
  exact tLc_mono this fun v H' h => by obtain ⟨F', Gl', s, W'⟩ := h.own (j := j); exact L.nx _ _ _ _ _ _ s W' k⟩
theorem gs_lcIf (j : Nat) {x : Str} {pos' lpos : Pos} {α : Type} {ys : List α} {enc : α → D} {f : α → D} {pr : α → Bool} {ρb : α → Rho} {js : List Nat} {c : Expr} (own : List (Str × Nat)) (hd : Y.N.Nodup) (hi : GIc Y tg iter ρ G (ys.map enc)) (ok : BlkOk Y.N Y.sc scope own)
    (hg : ∀ y ∈ ys, GG (Y.blk scope) tg js (enc y) (wipeR ρ (own.map (·.2))) (ρb y)) (hjs : ∀ j ∈ js, j ∈ own.map (·.2)) (hc : ∀ y ∈ ys, GT (Y.blk scope) c (ρb y) G (pr y)) (he : ∀ y ∈ ys, pr y = true → GE (Y.blk scope) elt (ρb y) G (f y)) (hl : ys.length < 100000) (hown : ∀ j ∈ own.map (·.2), ¬ OwnAt ρ j)
    (k : E.nx (ρ.set j (.own ((ys.filter pr).map f))) G) (hN : Y.N[j]? = some x := by rfl) (hx : Y.sc.names.lookup x = some .local := by rfl)
    (hsw : ∀ i, swapsWith (.ListComp elt [⟨tg, iter, [c], 0⟩] scope lpos) (some (.Name x pos')) pos.line (Y.X i).env = pure true := by exact fun _ => sw_true rfl rfl rfl (by decide +kernel)) (hs : ∀ env x, foldedSetIterable iter env x = pure x := by intro _ _; rfl) :
    GS Y (.Assign [.Name x pos'] (.ListComp elt [⟨tg, iter, [c], 0⟩] scope lpos) pos) ρ G E := ⟨fun F R Gl σ H D W L => by
  have := lc_go (tt := wT (Y.blk scope) c) hi hg hjs (fun y hy F R Gl σ H Q W q => ((hc y hy).run F R Gl σ H W).mono fun b H' ⟨e, F', Gl', s, W'⟩ => by rw [e]; exact q F' Gl' H' s W') he hl hown W
  refine wS.of (t := tAsg (tLc (wI Y tg iter) (wG (Y.blk scope) tg) (wT (Y.blk scope) c) (wE (Y.blk scope) elt) (own.map (·.2))) (gName j)) (fun i => ps_setLc (Y.hc i) (nd_i hd i) (nm_i hN) (by rw [Y.hsc i]; exact hx) (hsw i) (wI.pi i) (blkOk_i ok i) (fun s H C cl fp => wG.pg (Y := Y.blk scope) (i, s, H, C, cl, fp)) (fun s H C cl fp => pts_one (wT.pt (Y := Y.blk scope) (i, s, H, C, cl, fp))) (fun s H C cl fp => wE.pe (Y := Y.blk scope) (i, s, H, C, cl, fp)) (hs _)) ?_
  exact tLc_mono this fun v H' h => by obtain ⟨F', Gl', s, W'⟩ := h.own (j := j); exact L.nx _ _ _ _ _ _ s W' k⟩

/-! ### loops -/
theorem Lift.again {F : Hp} {R : Gs} {D : Ends} {Inv' : Rho → Gs → Prop} {N : L2.St → Hp → Prop} (L : Lift Y F R E D) (h : ∀ ρ' G' F' Gl' σ' H', Same F F' → Wd Y F' R Gl' G' ρ' σ' H' → Inv' ρ' G' → N σ' H') :
    Lift Y F R { E with nx := Inv', ct := Inv', bk := E.nx } { D with nx := N, ct := N, bk := D.nx } := ⟨h, L.nx, h, L.rt⟩
/-- for target in iter: over a list, a range .. that gives xs -/
theorem gs_for {iter tg : Expr} {body : List Stmt} {xs : List D} {S : Gs → Prop} (hp : ∀ i, PassesOwn (model (Y.X i).prog (Y.X i).w) (Y.X i).A (Y.X i).env (Y.X i).xe) (hi : GI Y tg iter ρ G xs S) (Iv : Nat → Rho → Gs → Prop) (h0 : Iv 0 ρ G) (hS : ∀ i ρ' G', Iv i ρ' G' → S G')
    (turn : ∀ i d ρ' G', xs[i]? = some d → Iv i ρ' G' → ∃ js ρ2, GG Y tg js d ρ' ρ2 ∧ GSs Y body ρ2 G' { E with nx := Iv (i + 1), ct := Iv (i + 1), bk := E.nx }) (done : ∀ ρ' G', Iv xs.length ρ' G' → E.nx ρ' G')
    (hs : ∀ env x, foldedSetIterable iter env x = pure x := by intro _ _; rfl) : GS Y (.For tg iter body [] pos) ρ G E := ⟨fun F R Gl σ H D W L => by
  refine wS.of (fun i => ps_for (hp i) (Y.hc i) (wI.pi i) (wG.pg i) (wSs.pss i) (hs _)) (hi.run F R Gl σ H _ W fun J F1 Gl1 H1 s1 W1 YJ => ?_)
  refine ⟨fun i m σ' H' => m = xs.length - i ∧ i ≤ xs.length ∧ ∃ F' Gl' ρ' G', Same F1 F' ∧ Wd Y F' R Gl' G' ρ' σ' H' ∧ Iv i ρ' G', ⟨xs.length, by simp, Nat.zero_le _, F1, Gl1, ρ, G, Same.refl _, W1, h0⟩, ?_⟩
  rintro i m σ2 H2 ⟨rfl, hle, F2, Gl2, ρ2, G2, s2, W2, q2⟩
  by_cases hlt : i < xs.length
  · refine .inr ⟨YJ.go i F2 R Gl2 G2 ρ2 σ2 H2 s2 W2 (hS _ _ _ q2) hlt, fun σ' H' => ∃ F' Gl' ρ' G', Same F1 F' ∧ Wd Y F' R Gl' G' ρ' σ' H' ∧ Iv (i + 1) ρ' G', fun σ' H' h => ⟨_, by omega, rfl, hlt, h⟩, fun x H3 hy => ?_⟩
    have hx : xs[i]? = some xs[i] := List.getElem?_eq_getElem hlt
    obtain ⟨F3, s3, W3, r3⟩ := YJ.yld i F2 R Gl2 G2 ρ2 σ2 H2 x H3 _ s2 W2 (hS _ _ _ q2) hx hy
    obtain ⟨js, ρ4, hg, hb⟩ := turn i _ ρ2 G2 hx q2
    refine hg.run F3 R Gl2 G2 σ2 H3 x _ W3 r3 fun σ4 W4 _ _ => ?_
    refine hb.run F3 R Gl2 σ4 H3 _ W4 (((L.up s1).up (s2.trans s3)).again fun ρ' G' F' Gl' σ' H' s W' q => ⟨F', Gl', ρ', G', (s2.trans s3).trans s, W', q⟩)
  · have e : i = xs.length := by omega
    subst e
    exact .inl ⟨YJ.stop _ F2 R Gl2 G2 ρ2 σ2 H2 s2 W2 (hS _ _ _ q2) (Nat.le_refl _), L.nx _ _ _ _ _ _ (s1.trans s2) W2 (done _ _ q2)⟩⟩
/-- while test: the measure falls -/
theorem gs_while {c : Expr} {body : List Stmt} (hp : ∀ i, PassesOwn (model (Y.X i).prog (Y.X i).w) (Y.X i).A (Y.X i).env (Y.X i).xe) (Iv : Nat → Rho → Gs → Prop) (m0 : Nat) (h0 : Iv m0 ρ G)
    (turn : ∀ m ρ' G', Iv m ρ' G' → ∃ x, GT Y c ρ' G' x ∧ (x = true → GSs Y body ρ' G' { E with nx := fun ρ2 G2 => ∃ m', m' < m ∧ Iv m' ρ2 G2, ct := fun ρ2 G2 => ∃ m', m' < m ∧ Iv m' ρ2 G2, bk := E.nx }) ∧ (x = false → E.nx ρ' G')) :
    GS Y (.While c body [] pos) ρ G E := ⟨fun F R Gl σ H D W L => by
  refine wS.of (fun i => ps_while (hp i) (wT.pt i) (wSs.pss i)) ?_
  refine ⟨fun m σ' H' => ∃ F' Gl' ρ' G', Same F F' ∧ Wd Y F' R Gl' G' ρ' σ' H' ∧ Iv m ρ' G', ⟨m0, F, Gl, ρ, G, Same.refl _, W, h0⟩, ?_⟩
  rintro m σ2 H2 ⟨F2, Gl2, ρ2, G2, s2, W2, q2⟩
  obtain ⟨x, hc, ht, hf⟩ := turn m ρ2 G2 q2
  refine (hc.run F2 R Gl2 σ2 H2 W2).mono fun v H3 ⟨z, F3, Gl3, s3, W3⟩ => ?_
  subst z
  cases v with
  | true =>
    refine ⟨fun σ' H' => ∃ m', m' < m ∧ ∃ F' Gl' ρ' G', Same F F' ∧ Wd Y F' R Gl' G' ρ' σ' H' ∧ Iv m' ρ' G', fun σ' H' ⟨m', hm, h⟩ => ⟨m', hm, h⟩, ?_⟩
    exact (ht rfl).run F3 R Gl3 σ2 H3 _ W3 (((L.up s2).up s3).again fun ρ' G' F' Gl' σ' H' s W' ⟨m', hm, q⟩ => ⟨m', hm, F', Gl', ρ', G', (s2.trans s3).trans s, W', q⟩)
  | false => exact L.nx _ _ _ _ _ _ (s2.trans s3) W3 (hf rfl)⟩
end
end Gh
end

section
set_option Elab.async false
set_option linter.all false
set_option maxRecDepth 100000
set_option maxHeartbeats 4000000
namespace Gh
open PySem PySem.Spec PyProof.Rows L2

/-! ### what a def promises -/
/-- from the arguments' data and what may change: what is wanted of the answer, of an error of a class -/
abbrev GSp := List D → Gs → (D → Gs → Prop) → (Addr → Gs → Prop) → Prop
def toSp (K : PySem.W.Frag) (n : Nat) (g : GSp) : Sp := fun vs H Q E => vs.length = n ∧ ∃ F R G Gl ds P PX, GEx G Gl ∧ GEx R Gl ∧ (∀ a, G a = none ∨ R a = none) ∧ Abs K F Gl H ∧ Reps K F vs ds ∧ g ds G P PX ∧
  (∀ v F' Gl' G' H' d, Same F F' → GEx G' Gl' → GEx R Gl' → (∀ a, G' a = none ∨ R a = none) → Abs K F' Gl' H' → Rep K F' v d → P d G' → Q v H') ∧
  ∀ c F' Gl' G' H', Same F F' → GEx G' Gl' → GEx R Gl' → (∀ a, G' a = none ∨ R a = none) → Abs K F' Gl' H' → PX c G' → E (.ref c) none H'
/-- every parameter is given -/
def AllB (fd : FuncData) (ps : List Str) : Prop := ∀ (s : Shared) (us : List Value), us.length = ps.length → BindsTo s fd ⟨us, []⟩ (ps.zip us)
theorem AllB.binds {K : PySem.W.Frag} {fd : FuncData} {ps : List Str} (h : AllB fd ps) : Binds K fd ps [] := fun s us _ hl => by
  rw [List.append_nil] at hl ⊢
  exact h s us hl
structure HasF (P : Program) (w : World) (K : PySem.W.Frag) (mg : Str → Option Value) (base : Heap) (k : Nat) (x : Str) (ps : List Str) (g : GSp) : Prop where
  ex : ∃ f fd, mg x = some (.ref f) ∧ PySem.W.keepIn K (.ref f) = true ∧ AllB fd ps ∧ FnOk P w K mg base CX0 k f fd ps (toSp K ps.length g) ∧ ∃ oc od osl, K.lookup f = some ⟨oc, od, .func fd, osl⟩
/-- a def of the text -/
structure Dfn (K : PySem.W.Frag) (mg : Str → Option Value) (x : Str) (st : Stmt) (ps : List Str) : Prop where
  ex : ∃ f fd, mg x = some (.ref f) ∧ Fun K x x st f fd ∧ AllB fd ps

section
variable {P : Program} {w : World} {K : PySem.W.Frag} {mg : Str → Option Value} {base : Heap}
theorem HasF.mono {k j : Nat} {x : Str} {ps : List Str} {g : GSp} (h : HasF P w K mg base k x ps g) (le : k ≤ j) : HasF P w K mg base j x ps g := by
  obtain ⟨f, fd, a, b, c, d, e⟩ := h.ex
  exact ⟨f, fd, a, b, c, d.mono le, e⟩
theorem HasF.imp {k : Nat} {x : Str} {ps : List Str} {g g' : GSp} (h : HasF P w K mg base k x ps g) (q : ∀ ds G P PX, g' ds G P PX → g ds G P PX) : HasF P w K mg base k x ps g' := by
  obtain ⟨f, fd, a, b, c, d, e⟩ := h.ex
  exact ⟨f, fd, a, b, c, d.imp (fun vs H Q E ⟨l, F, R, G, Gl, ds, P, PX, z1, z2, z3, z4, z5, z6, z7⟩ => ⟨l, F, R, G, Gl, ds, P, PX, z1, z2, z3, z4, z5, q _ _ _ _ z6, z7⟩), e⟩
def startR (N : List Str) (ds : List D) : Rho := ds.map .dat ++ List.replicate (N.length - ds.length) .unk
abbrev ctx0 (P : Program) (w : World) (K : PySem.W.Frag) (mg : Str → Option Value) (base : Heap) (N : List Str) (qual : Str) (sc : Scope) (f : Addr) (cdv : Value) (A : Around) (outer : List Env) (s : Shared) (H : Hp) (E : XK) (k : Nat) (hr : Room k (A.deeper (envOfC qual sc s.heap.objs.size f cdv))) (F0 : Hp) (R : Gs) : Ctx where
  ι := Unit
  X := fun _ => (cxOf CX0 P w K mg base N qual sc f cdv A outer s H E).nox
  P := P
  w := w
  K := K
  mg := mg
  base := base
  N := N
  sc := sc
  fn := fun _ => true
  k := k
  F0 := F0
  R := R
  hP := fun _ => rfl
  hw := fun _ => rfl
  hK := fun _ => rfl
  hmg := fun _ => rfl
  hbase := fun _ => rfl
  hN := fun _ => rfl
  hsc := fun _ => rfl
  hfn := fun _ => rfl
  hc := fun _ => rfl
  hr := fun _ => hr
theorem start_ok {N : List Str} {ds : List D} {vs : List V} {F : Hp} {G R Gl : Gs} (r : Reps K F vs ds) (h : ds.length ≤ N.length) : (start N vs).length = (startR N ds).length ∧ (∀ (i : Nat) (x : SV) (s : Option V), (startR N ds)[i]? = some x → (start N vs)[i]? = some s → SvOk K F G R Gl s x) ∧ ∀ i, ¬ OwnAt (startR N ds) i := by
  have hl := r.length
  refine ⟨by simp [L2.start, startR, hl], fun i x s h1 h2 => ?_, fun i ⟨x, h1, h2⟩ => ?_⟩
  · unfold startR at h1
    unfold L2.start at h2
    by_cases hi : i < ds.length
    · rw [List.getElem?_append_left (by simpa using hi), List.getElem?_map] at h1
      rw [List.getElem?_append_left (by simpa [hl] using hi), List.getElem?_map] at h2
      obtain ⟨v, e1, e2⟩ := r.get (List.getElem?_eq_getElem hi)
      rw [List.getElem?_eq_getElem hi] at h1
      rw [e1] at h2
      cases h1
      cases h2
      exact ⟨v, rfl, e2⟩
    · rw [List.getElem?_append_right (by simpa using hi), List.getElem?_replicate] at h1
      split at h1
      · cases h1; trivial
      · cases h1
  · unfold startR at h1
    by_cases hi : i < ds.length
    · rw [List.getElem?_append_left (by simpa using hi), List.getElem?_map, List.getElem?_eq_getElem hi] at h1
      cases h1; cases h2
    · rw [List.getElem?_append_right (by simpa using hi), List.getElem?_replicate] at h1
      split at h1
      · cases h1; cases h2
      · cases h1
/-- a def keeps its promise, by its body -/
theorem fn_body {x qual : Str} {st : Stmt} {f : Addr} {fd : FuncData} {N ps : List Str} {k : Nat} {g : GSp} (F : Fun K x qual st f fd) (S : FnScope N ps (defScope st)) (hlen : ∀ ds G P PX, g ds G P PX → ds.length = ps.length)
    (hb : ∀ cdv A outer s H E (hr : Room k (A.deeper (envOfC qual (defScope st) s.heap.objs.size f cdv))) F0 R0 ds G PP PX, g ds G PP PX → GSs (ctx0 P w K mg base N qual (defScope st) f cdv A outer s H E k hr F0 R0) (defBody st) (startR N ds) G ⟨fun _ G' => PP .non G', PP, fun _ _ => False, fun _ _ => False⟩) :
    FnOk P w K mg base CX0 (k + 1) f fd ps (toSp K ps.length g) := by
  refine F.ok S (fun vs H Q E h => h.1) (fun cdv A outer s H vs Q E hr h => ?_)
  obtain ⟨hl, F1, R, G, Gl, ds, PP, PX, h1, h2, h3, h4, h5, h6, h7, h8⟩ := h
  have B := hb cdv A outer s H E hr F1 R ds G PP PX h6
  have hN : ds.length ≤ N.length := by
    have := congrArg List.length S.pre
    rw [List.length_take] at this
    have := hlen _ _ _ _ h6
    omega
  obtain ⟨q1, q2, q3⟩ := start_ok (N := N) (G := G) (R := R) (Gl := Gl) h5 hN
  refine ⟨wSs (ctx0 P w K mg base N qual (defScope st) f cdv A outer s H E k hr F1 R) (defBody st), wSs.pss (Y := ctx0 P w K mg base N qual (defScope st) f cdv A outer s H E k hr F1 R) (), ?_⟩
  refine B.run F1 R Gl _ H _ ⟨Same.refl _, q1, h1, GEx.refl _, h2, h3, q2, fun i j l o _ _ _ => absurd o (q3 i), h4⟩ ⟨fun ρ' G' F' Gl' σ' H' s' W q => ?_, fun _ _ _ _ _ _ _ _ q => q.elim, fun _ _ _ _ _ _ _ _ q => q.elim, fun d G' F' Gl' v H' s' W r q => ?_⟩
  · exact h7 .non F' Gl' G' H' .non s' W.g W.r W.gr W.abs .non q
  · exact h7 v F' Gl' G' H' d s' W.g W.r W.gr W.abs r q
theorem has_body {x : Str} {st : Stmt} {N ps : List Str} {k : Nat} {g : GSp} (Df : Dfn K mg x st ps) (S : FnScope N ps (defScope st)) (hlen : ∀ ds G P PX, g ds G P PX → ds.length = ps.length)
    (hb : ∀ f cdv A outer s H E (hr : Room k (A.deeper (envOfC x (defScope st) s.heap.objs.size f cdv))) F0 R0 ds G PP PX, g ds G PP PX → GSs (ctx0 P w K mg base N x (defScope st) f cdv A outer s H E k hr F0 R0) (defBody st) (startR N ds) G ⟨fun _ G' => PP .non G', PP, fun _ _ => False, fun _ _ => False⟩) :
    HasF P w K mg base (k + 1) x ps g := by
  obtain ⟨f, fd, a, b, c⟩ := Df.ex
  obtain ⟨oc, od, _, _, _, _, _, _, osl, _, lk, _⟩ := b.ex
  exact ⟨f, fd, a, b.kp, c, fn_body b S hlen (fun cdv A outer s H E hr F0 R0 ds G PP PX h => hb f cdv A outer s H E hr F0 R0 ds G PP PX h), oc, od, osl, lk⟩
end

/-! ### a call -/
section
variable {Y : Ctx} {ρ : Rho} {G : Gs} {e : Expr} {es : List Expr} {ds : List D} {pos p : Pos}
def outOf (Gl G : Gs) : Gs := fun a => match G a with
  | none => Gl a
  | some _ => none
theorem outOf_some {Gl G : Gs} {a : Addr} {g : GO} (h : Gl a = some g) (h' : G a = none) : outOf Gl G a = some g := by unfold outOf; rw [h']; exact h
theorem outOf_dis {Gl G : Gs} (a : Addr) : G a = none ∨ outOf Gl G a = none := by
  unfold outOf
  cases G a with
  | none => exact .inl rfl
  | some _ => exact .inr rfl
theorem outOf_sub {Gl G : Gs} : GEx (outOf Gl G) Gl := fun a g h => by
  unfold outOf at h
  cases q : G a with
  | none => rw [q] at h; exact h
  | some _ => rw [q] at h; cases h
theorem Wd.after {F F' : Hp} {R Gl Gl' G' : Gs} {σ : L2.St} {H H' : Hp} (W : Wd Y F R Gl G ρ σ H) (s : Same F F') (g : GEx G' Gl') (r : GEx (outOf Gl G) Gl') (d : ∀ a, G' a = none ∨ outOf Gl G a = none) (A : Abs Y.K F' Gl' H') : Wd Y F' R Gl' G' ρ σ H' := by
  have hR : ∀ a u, R a = some u → outOf Gl G a = some u := fun a u e => outOf_some (W.r a u e) ((W.gr a).resolve_right fun z => by rw [e] at z; cases z)
  have hO : ∀ l u, Gl l = some u → G l = none → Gl' l = some u ∧ G' l = none := fun l u e n => ⟨r l u (outOf_some e n), (d l).resolve_right fun z => by rw [outOf_some e n] at z; cases z⟩
  refine ⟨fun a o z => s a o (W.f0 a o z), W.len, g, W.r0, fun a u e => r a u (hR a u e), fun a => ?_, fun i x t e1 e2 => ?_, W.inj, A⟩
  · cases q : R a with
    | none => exact .inr rfl
    | some u => exact .inl ((d a).resolve_right fun z => by rw [hR a u q] at z; cases z)
  · have q := W.sv i x t e1 e2
    cases x with
    | unk => trivial
    | dat d => obtain ⟨v, h3, h4⟩ := q; exact ⟨v, h3, h4.mono s⟩
    | own ds => obtain ⟨l, z1, z2, z3, z4⟩ := q; exact ⟨l, z1, (hO l _ z2 z3).1, (hO l _ z2 z3).2, z4⟩
    | ownd ds => obtain ⟨l, z1, z2, z3, z4⟩ := q; exact ⟨l, z1, (hO l _ z2 z3).1, (hO l _ z2 z3).2, z4⟩
theorem gw_call {k : Nat} {x : Str} {ps : List Str} {g : GSp} {PP : D → Gs → Prop} (hf : HasF Y.P Y.w Y.K Y.mg Y.base k x ps g) (ha : GR Y (e :: es) ρ G ds) (h : g ds G PP fun _ _ => False) (hl : ds.length = ps.length := by rfl) (hk : k ≤ Y.k := by exact Nat.le_of_ble_eq_true rfl) (hg : GlS Y.sc x := by rfl)
    (hdb : (x == ("__debug__" : Str)) = false := by decide) (he : ∀ env, starEach (e :: es) env = (false, eval e env) :: starEach es env := by intro _; rfl) (hpl : ∀ env, (backTo pos (starEach es env)).any (·.1) = false := by intro _; rfl) :
    GW Y (.Call (.Name x p) (e :: es) [] pos) ρ G PP := ⟨fun F R Gl σ H W => by
  obtain ⟨f, fd, hm, kp, hb, ok, _⟩ := hf.ex
  have ok' : ∀ i, FnOk (Y.X i).prog (Y.X i).w (Y.X i).K (Y.X i).mg (Y.X i).base CX0 k f fd ps (toSp Y.K ps.length g) := fun i => by rw [Y.hP i, Y.hw i, Y.hK i, Y.hmg i, Y.hbase i]; exact ok
  refine wE.of (t := tCall (toSp Y.K ps.length g) [] E0 (wA Y (e :: es))) (fun i => pe_call (ok' i) ((Y.hr i).mono hk) (gl_i hg i) (mg_i hm i) (by rw [Y.hK i]; exact kp) hb.binds .nil pass0 (wA.pa i) hdb (he _) (hpl _)) ?_
  refine (ha.run F R Gl σ H W).mono fun vs H1 ⟨F1, Gl1, s1, W1, r⟩ => ?_
  rw [List.append_nil]
  refine ⟨by rw [r.length]; exact hl, F1, outOf Gl1 G, G, Gl1, ds, PP, fun _ _ => False, W1.g, outOf_sub, outOf_dis, W1.abs, r, h, fun v F' Gl' G' H' d s g r d' A rp q => ⟨F', Gl', G', d, s1.trans s, W1.after s g r d' A, rp, q⟩, fun _ _ _ _ _ _ _ _ _ _ q => q.elim⟩⟩
end
/-! ### the end of a law -/
def sp_true (n : Nat) : GSp := fun ds G PP _ => ∃ ns : List Int, ds = [.lst (ns.map .int)] ∧ ns.length ≤ n ∧ PP (.bl true) G
theorem top_sp {K : PySem.W.Frag} {H : Hp} {a : Addr} {ns : List Int} {n : Nat} {E : XK} (hn : ns.length ≤ n) (hO : Only H) (hS : SqL K H a (ns.map V.int)) : toSp K 1 (sp_true n) [.ref a] H (fun v _ => v = .bl true) E := by
  have key : ∃ F : Hp, (∀ b o, F b = some o → Rd H b o) ∧ FL K F a (ns.map V.int) := by
    rcases hS with h | h
    · refine ⟨fun b => if b = a then some (.lst (ns.map V.int)) else none, fun b o e => ?_, .inl (if_pos rfl)⟩
      have e : (if b = a then some (HO.lst (ns.map V.int)) else none) = some o := e
      by_cases q : b = a
      · subst q; rw [if_pos rfl] at e; cases e; exact h
      · rw [if_neg q] at e; cases e
    · exact ⟨fun _ => none, fun b o e => (by cases e), .inr h⟩
  obtain ⟨F, h1, h2⟩ := key
  refine ⟨rfl, F, fun _ => none, fun _ => none, fun _ => none, [.lst (ns.map .int)], fun d _ => d = .bl true, fun _ _ => False, fun _ _ z => (by cases z), fun _ _ z => (by cases z), fun _ => .inl rfl, ⟨h1, fun _ _ z => (by cases z)⟩, .cons (.lst h2 (reps_ints ns)) .nil, ⟨ns, rfl, hn, rfl⟩, fun v F' Gl' G' H' d _ _ _ _ _ r e => ?_, fun _ _ _ _ _ _ _ _ _ _ z => False.elim z⟩
  subst e
  exact r.bl_inv
theorem top_walk {l : PySem.W.OpenLaw} {q : Program} {loose : List Str} {XP : (Str → Option Value) → Heap → Prop} {YP : World → Heap → Prop} {d : DefRec} {K : Params → PySem.W.Frag} {k : Nat} (hn : l.most = some 63) (hdf : d.params.defaults = []) (hr : Room k callerA) (hd : d.name = "law")
    (hY : ∀ (w : World) (h : Heap), YP w h → (K w.params).In h)
    (F : ∀ (w : World) (mg : Str → Option Value) (h : Heap), (K w.params).In h → h.Ns mainGlobals mg → ∀ base : Heap, HasF l.prog w (K w.params) mg base k "law" ["_law_script"] (sp_true 63)) :
    PySem.W.WalkO q loose XP YP l.row.toRowW d [] (fun f vs => PySem.call f vs) := by
  refine L2.walk_of (n := 63) (k := k) (x := "_law_script") (CX := fun _ => CX0) (sp := fun w => toSp (K w.params) 1 (sp_true 63)) hn (by decide) hdf hr hY (fun w mg fa h KX G hmg => ?_) (fun w H a ns hl hO hS => top_sp hl hO hS) fun _ _ _ _ _ z => z
  rw [hd] at hmg
  obtain ⟨f, fd, e1, _, e2, _, oc, od, osl, lk⟩ := (F w mg h KX G h).ex
  rw [hmg] at e1; cases e1
  refine ⟨fd, fun s u => e2 s [u] rfl, fun base _ _ => ?_⟩
  obtain ⟨f', fd', g1, _, g2, g3, oc', od', osl', lk'⟩ := (F w mg h KX G base).ex
  rw [hmg] at g1; cases g1
  rw [lk] at lk'; cases lk'
  exact g3
end Gh
end

section
set_option Elab.async false
set_option linter.all false
set_option maxRecDepth 100000
set_option maxHeartbeats 4000000
namespace Gh
open PySem PySem.Spec PyProof.Rows L2

/-! ### data as the library tells it -/
mutual
def D.toP : D → PyData
  | .non => .none
  | .bl b => .bool b
  | .int i => .int i
  | .str x => .str x
  | .ref _ => .none
  | .ty _ => .none
  | .lst xs => .list (D.toPs xs)
  | .tup xs => .tuple (D.toPs xs)
  | .dic _ => .none
def D.toPs : List D → List PyData
  | [] => []
  | x :: xs => x.toP :: D.toPs xs
end
mutual
/-- no dicts, no objects within; at most so deep; its texts in order -/
def D.ok : Nat → D → Bool
  | _, .non => true
  | _, .bl _ => true
  | _, .int _ => true
  | _, .str x => PyData.strOk x
  | _, .ref _ => false
  | _, .ty _ => false
  | n, .lst xs => (match n with | 0 => false | n + 1 => D.oks n xs)
  | n, .tup xs => (match n with | 0 => false | n + 1 => D.oks n xs)
  | _, .dic _ => false
def D.oks : Nat → List D → Bool
  | _, [] => true
  | n, x :: xs => D.ok n x && D.oks n xs
end
theorem D.ok_lst {n : Nat} {xs : List D} : D.ok (n + 1) (.lst xs) = D.oks n xs := by rw [D.ok]
theorem D.ok_tup {n : Nat} {xs : List D} : D.ok (n + 1) (.tup xs) = D.oks n xs := by rw [D.ok]
theorem D.oks_cons {n : Nat} {x : D} {xs : List D} : D.oks n (x :: xs) = (D.ok n x && D.oks n xs) := by rw [D.oks]
theorem D.oks_nil {n : Nat} : D.oks n [] = true := by rw [D.oks]
theorem D.oks_map {α : Type} {n : Nat} {f : α → D} : ∀ {xs : List α}, (∀ x ∈ xs, D.ok n (f x) = true) → D.oks n (xs.map f) = true
  | [], _ => D.oks_nil
  | x :: xs, h => by
    rw [List.map_cons, D.oks_cons, h x (List.mem_cons_self ..), Bool.true_and]
    exact D.oks_map fun y hy => h y (List.mem_cons_of_mem _ hy)
theorem D.ok_int {n : Nat} {i : Int} : D.ok n (.int i) = true := by rw [D.ok]
theorem D.ok_bl {n : Nat} {i : Bool} : D.ok n (.bl i) = true := by rw [D.ok]
theorem D.ok_non {n : Nat} : D.ok n .non = true := by rw [D.ok]
theorem D.ok_str {n : Nat} {x : Str} (h : PyData.strOk x = true) : D.ok n (.str x) = true := by rw [D.ok]; exact h
mutual
theorem D.ok_lay : ∀ (n : Nat) (d : D), D.ok n d = true → d.toP.canLay0 = true ∧ d.toP.depth ≤ n
  | n, .non, _ => ⟨rfl, Nat.zero_le _⟩
  | n, .bl _, _ => ⟨rfl, Nat.zero_le _⟩
  | n, .int _, _ => ⟨rfl, Nat.zero_le _⟩
  | n, .str x, h => ⟨by rw [D.ok] at h; exact h, Nat.zero_le _⟩
  | n, .ref _, h => by rw [D.ok] at h; cases h
  | n, .ty _, h => by rw [D.ok] at h; cases h
  | 0, .lst xs, h => by rw [D.ok] at h; cases h
  | n + 1, .lst xs, h => by
    rw [D.ok_lst] at h
    obtain ⟨h1, h2⟩ := D.oks_lay n xs h
    exact ⟨by rw [D.toP]; exact h1, by rw [D.toP]; show PyData.depthAll _ + 1 ≤ _; omega⟩
  | 0, .tup xs, h => by rw [D.ok] at h; cases h
  | n + 1, .tup xs, h => by
    rw [D.ok_tup] at h
    obtain ⟨h1, h2⟩ := D.oks_lay n xs h
    exact ⟨by rw [D.toP]; exact h1, by rw [D.toP]; show PyData.depthAll _ + 1 ≤ _; omega⟩
  | n, .dic _, h => by rw [D.ok] at h; cases h
theorem D.oks_lay : ∀ (n : Nat) (ds : List D), D.oks n ds = true → PyData.canLayAll0 (D.toPs ds) = true ∧ PyData.depthAll (D.toPs ds) ≤ n
  | n, [], _ => ⟨rfl, Nat.zero_le _⟩
  | n, x :: xs, h => by
    rw [D.oks_cons, Bool.and_eq_true] at h
    obtain ⟨h1, h2⟩ := D.ok_lay n x h.1
    obtain ⟨h3, h4⟩ := D.oks_lay n xs h.2
    rw [D.toPs]
    refine ⟨?_, ?_⟩
    · show (PyData.canLay0 _ && PyData.canLayAll0 _) = true
      rw [h1, h3]; rfl
    · show max (PyData.depth _) (PyData.depthAll _) ≤ n
      omega
end
theorem D.shaped {d : D} (h : D.ok 64 d = true) : SeqAt.shaped d.toP = true := by
  obtain ⟨h1, h2⟩ := D.ok_lay 64 d h
  unfold SeqAt.shaped
  rw [h1, decide_eq_true h2]; rfl
mutual
theorem Rep.dp {Y : Ctx} {F : Hp} {Gl : Gs} {H : Hp} (A : Abs Y.K F Gl H) : ∀ (n : Nat) (d : D) (v : V), D.ok n d = true → Rep Y.K F v d → Dp Y.K H v d.toP
  | n, .non, v, _, r => by cases r; exact .non
  | n, .bl _, v, _, r => by cases r; exact .bl _
  | n, .int _, v, _, r => by cases r; exact .int _
  | n, .str x, v, _, r => by cases r; exact .str _
  | n, .ref _, v, h, _ => by rw [D.ok] at h; cases h
  | n, .ty _, v, h, _ => by rw [D.ok] at h; cases h
  | 0, .lst xs, v, h, _ => by rw [D.ok] at h; cases h
  | n + 1, .lst xs, v, h, r => by
    rw [D.ok_lst] at h
    rw [D.toP]
    cases r with | lst a b => exact .lst (FL.sq A a) (Reps.dp A n xs _ h b)
  | 0, .tup xs, v, h, _ => by rw [D.ok] at h; cases h
  | n + 1, .tup xs, v, h, r => by
    rw [D.ok_tup] at h
    rw [D.toP]
    cases r with | tup a b => exact .tup (.inl (A.sub _ _ a)) (Reps.dp A n xs _ h b)
  | n, .dic _, v, h, _ => by rw [D.ok] at h; cases h
theorem Reps.dp {Y : Ctx} {F : Hp} {Gl : Gs} {H : Hp} (A : Abs Y.K F Gl H) : ∀ (n : Nat) (ds : List D) (vs : List V), D.oks n ds = true → Reps Y.K F vs ds → DpAll Y.K H vs (D.toPs ds)
  | n, [], vs, _, r => by cases r; rw [D.toPs]; exact .nil
  | n, x :: xs, vs, h, r => by
    rw [D.oks_cons, Bool.and_eq_true] at h
    rw [D.toPs]
    cases r with | cons a b => exact .cons (Rep.dp A n x _ h.1 a) (Reps.dp A n xs _ h.2 b)
end
theorem Vw.dp {Y : Ctx} {F : Hp} {R Gl G : Gs} {ρ : Rho} {σ : L2.St} {H : Hp} {v : V} {d : D} (W : Wd Y F R Gl G ρ σ H) (h : D.ok 64 d = true) (w : Vw Y F G ρ σ v d) : Dp Y.K H v d.toP := by
  have hl : ∀ {ds : List D} {v : V}, D.ok 64 (.lst ds) = true → Vw Y F G ρ σ v (.lst ds) → Dp Y.K H v (D.lst ds).toP := fun {ds v} h w => by
    rw [D.ok_lst] at h
    obtain ⟨a, vs, rfl, h1, h2⟩ := W.lstV w
    rw [D.toP]
    exact .lst h1 (Reps.dp W.abs 63 ds vs h h2)
  cases w with
  | rep r => exact Rep.dp W.abs 64 d v h r
  | gl e => exact hl h (.gl e)
  | gll e => exact hl h (.gll e)
  | ol e e' => exact hl h (.ol e e')
  | gd e => rw [D.ok] at h; cases h
  | gdl e => rw [D.ok] at h; cases h
  | od e e' => rw [D.ok] at h; cases h
/-- equal as Python says it -/
def D.eqv (d e : D) : Bool := PyData.eqv d.toP e.toP

theorem tChain_mono {Y : Ctx} {a b c : Expr} {f f' : Int → Int → Bool} {σ : L2.St} {H : Hp} {Q Q' : VK} (h : tChain (rI0 fun i j => .bl (f i j)) (rI0 fun i j => .bl (f' i j)) (wE Y a) (wE Y b) (wE Y c) σ H Q) (q : ∀ v H', Q v H' → Q' v H') :
    tChain (rI0 fun i j => .bl (f i j)) (rI0 fun i j => .bl (f' i j)) (wE Y a) (wE Y b) (wE Y c) σ H Q' :=
  wE.mono h fun x H1 h1 => h1.mono fun y H2 ⟨i, j, e1, e2, k, ek, h2⟩ => ⟨i, j, e1, e2, k, ek, by
    cases k with
    | true => exact wE.mono h2 fun z H3 ⟨i', j', e3, e4, h3⟩ => ⟨i', j', e3, e4, q _ _ h3⟩
    | false => exact q _ _ h2⟩
section
variable {Y : Ctx} {ρ : Rho} {G : Gs} {a b c e : Expr} {es : List Expr} {d d' d1 d2 d3 : D} {ds : List D} {pos p : Pos}
theorem gc_eqD (ha : GV Y a ρ G d1) (hb : GV Y b ρ G d2) (h1 : D.ok 64 d1 = true) (h2 : D.ok 64 d2 = true) : GC Y .Eq a b ρ G (.bl (D.eqv d1 d2)) :=
  gc_op (r := rEqD Y.K) (fun i => by have := @op_eqD (Y.X i) (hu_i i); rwa [Y.hK i] at this) ha hb (rr_val fun F R Gl σ H x y Q W v1 v2 q => ⟨_, _, v1.dp W h1, v2.dp W h2, D.shaped h1, D.shaped h2, q _ (.bl _)⟩)
theorem gc_neD (ha : GV Y a ρ G d1) (hb : GV Y b ρ G d2) (h1 : D.ok 64 d1 = true) (h2 : D.ok 64 d2 = true) : GC Y .NotEq a b ρ G (.bl (!D.eqv d1 d2)) :=
  gc_op (r := rNeD Y.K) (fun i => by have := @op_neD (Y.X i) (hu_i i); rwa [Y.hK i] at this) ha hb (rr_val fun F R Gl σ H x y Q W v1 v2 q => ⟨_, _, v1.dp W h1, v2.dp W h2, D.shaped h1, D.shaped h2, q _ (.bl _)⟩)
theorem gc_isB {x y : Bool} (ha : GE Y a ρ G (.bl x)) (hb : GE Y b ρ G (.bl y)) : GC Y .Is a b ρ G (.bl (decide (x = y))) :=
  gc_op (fun i => op_isBl) (gv_ge ha) (gv_ge hb) (rr_val fun F R Gl σ H _ _ Q W v1 v2 q => ⟨x, y, v1.bl_inv, v2.bl_inv, q _ (.bl _)⟩)
theorem gc_notB {x y : Bool} (ha : GE Y a ρ G (.bl x)) (hb : GE Y b ρ G (.bl y)) : GC Y .IsNot a b ρ G (.bl (!decide (x = y))) :=
  gc_op (fun i => op_notBl) (gv_ge ha) (gv_ge hb) (rr_val fun F R Gl σ H _ _ Q W v1 v2 q => ⟨x, y, v1.bl_inv, v2.bl_inv, q _ (.bl _)⟩)

/-! in, not in -/
inductive InD : D → D → Bool → Prop
  | sign {c : Nat} {z : Str} : InD (.str ⟨#[c]⟩) (.str z) (decide (c ∈ z.cps.toList))
  | lstS {x : Str} {ys : List Str} : InD (.str x) (.lst (ys.map .str)) (decide (x ∈ ys))
  | lstI {x : Int} {ys : List Int} : InD (.int x) (.lst (ys.map .int)) (decide (x ∈ ys))
  | tupS {x : Str} {ys : List Str} : InD (.str x) (.tup (ys.map .str)) (decide (x ∈ ys))
  | dicS {k : Str} {ds : List (Key × D)} : InD (.str k) (.dic ds) (valD ds (.inr k)).isSome
  | dicI {k : Int} {ds : List (Key × D)} : InD (.int k) (.dic ds) (valD ds (.inl k)).isSome
theorem inV_strs {x : Str} : ∀ {ys : List Str}, inV (.str x) (ys.map V.str) = decide (x ∈ ys)
  | [] => rfl
  | y :: ys => by
    have ih := inV_strs (x := x) (ys := ys)
    unfold inV at ih ⊢
    rw [List.map_cons, List.any_cons, ih]
    show (y == x || decide (x ∈ ys)) = decide (x ∈ y :: ys)
    by_cases e : x = y
    · subst e; simp
    · have e' : (y == x) = false := by simpa using fun z => e z.symm
      rw [e']; simp [e]
theorem inV_ints {x : Int} : ∀ {ys : List Int}, inV (.int x) (ys.map V.int) = decide (x ∈ ys)
  | [] => rfl
  | y :: ys => by
    have ih := inV_ints (x := x) (ys := ys)
    unfold inV at ih ⊢
    rw [List.map_cons, List.any_cons, ih]
    show (y == x || decide (x ∈ ys)) = decide (x ∈ y :: ys)
    by_cases e : x = y
    · subst e; simp
    · have e' : (y == x) = false := by simpa using fun z => e z.symm
      rw [e']; simp [e]
theorem flat_strs {ys : List Str} : (ys.map V.str).all flatV = true := List.all_eq_true.mpr fun x hx => by obtain ⟨y, _, rfl⟩ := List.mem_map.mp hx; rfl
theorem flat_ints {ys : List Int} : (ys.map V.int).all flatV = true := List.all_eq_true.mpr fun x hx => by obtain ⟨y, _, rfl⟩ := List.mem_map.mp hx; rfl
theorem gc_in {x : Bool} (ha : GE Y a ρ G d1) (hb : GV Y b ρ G d2) (h : InD d1 d2 x) : GC Y .In a b ρ G (.bl x) := by
  cases h with
  | sign => exact gc_op (fun i => op_in_sign) (gv_ge ha) hb (rr_val fun F R Gl σ H _ _ Q W v1 v2 q => ⟨_, _, v1.str_inv, v2.str_inv, q _ (.bl _)⟩)
  | lstS =>
    refine gc_op (r := rIn Y.K false) (fun i => by have := @op_in_seq (Y.X i); rwa [Y.hK i] at this) (gv_ge ha) hb (rr_val fun F R Gl σ H x y Q W v1 v2 q => ?_)
    obtain ⟨p, vs, rfl, h1, h2⟩ := W.lstV v2
    rw [h2.strs_inv] at h1
    rw [v1.str_inv]
    exact ⟨p, _, rfl, .inl h1, rfl, flat_strs, q _ (by rw [inV_strs]; exact .bl _)⟩
  | lstI =>
    refine gc_op (r := rIn Y.K false) (fun i => by have := @op_in_seq (Y.X i); rwa [Y.hK i] at this) (gv_ge ha) hb (rr_val fun F R Gl σ H x y Q W v1 v2 q => ?_)
    obtain ⟨p, vs, rfl, h1, h2⟩ := W.lstV v2
    rw [h2.ints_inv] at h1
    rw [v1.int_inv]
    exact ⟨p, _, rfl, .inl h1, rfl, flat_ints, q _ (by rw [inV_ints]; exact .bl _)⟩
  | tupS =>
    refine gc_op (r := rIn Y.K false) (fun i => by have := @op_in_seq (Y.X i); rwa [Y.hK i] at this) (gv_ge ha) hb (rr_val fun F R Gl σ H x y Q W v1 v2 q => ?_)
    obtain ⟨p, vs, rfl, h1, h2⟩ := W.tupV v2
    rw [h2.strs_inv] at h1
    rw [v1.str_inv]
    exact ⟨p, _, rfl, .inr h1, rfl, flat_strs, q _ (by rw [inV_strs]; exact .bl _)⟩
  | @dicS k kds =>
    refine ⟨fun F R Gl σ H W => wC.of (fun i => pc_din (hu1_i i) (wE.pe i) (wE.pe i)) ((ha.run F R Gl σ H W).mono fun x H1 ⟨F1, Gl1, s1, W1, r1⟩ => (hb.run F1 R Gl1 σ H1 W1).mono fun y H2 ⟨F2, Gl2, s2, W2, v2⟩ => ?_)⟩
    obtain ⟨p, vs, rfl, h1, h2⟩ := W2.dicV v2
    exact ⟨p, _, rfl, .inl ⟨vs, .inr k, h1, r1.str_inv, rfl⟩, F2, Gl2, s1.trans s2, W2, by rw [h2.isSome]; exact .bl _⟩
  | @dicI k kds =>
    refine ⟨fun F R Gl σ H W => wC.of (fun i => pc_din (hu1_i i) (wE.pe i) (wE.pe i)) ((ha.run F R Gl σ H W).mono fun x H1 ⟨F1, Gl1, s1, W1, r1⟩ => (hb.run F1 R Gl1 σ H1 W1).mono fun y H2 ⟨F2, Gl2, s2, W2, v2⟩ => ?_)⟩
    obtain ⟨p, vs, rfl, h1, h2⟩ := W2.dicV v2
    exact ⟨p, _, rfl, .inl ⟨vs, .inl k, h1, r1.int_inv, rfl⟩, F2, Gl2, s1.trans s2, W2, by rw [h2.isSome]; exact .bl _⟩
theorem gc_notIn {x : Bool} (ha : GE Y a ρ G d1) (hb : GV Y b ρ G d2) (h : InD d1 d2 x) : GC Y .NotIn a b ρ G (.bl (!x)) := by
  cases h with
  | sign => exact gc_op (fun i => op_notIn_sign) (gv_ge ha) hb (rr_val fun F R Gl σ H _ _ Q W v1 v2 q => ⟨_, _, v1.str_inv, v2.str_inv, q _ (.bl _)⟩)
  | lstS =>
    refine gc_op (r := rIn Y.K true) (fun i => by have := @op_notIn_seq (Y.X i); rwa [Y.hK i] at this) (gv_ge ha) hb (rr_val fun F R Gl σ H x y Q W v1 v2 q => ?_)
    obtain ⟨p, vs, rfl, h1, h2⟩ := W.lstV v2
    rw [h2.strs_inv] at h1
    rw [v1.str_inv]
    exact ⟨p, _, rfl, .inl h1, rfl, flat_strs, q _ (by rw [inV_strs]; exact .bl _)⟩
  | lstI =>
    refine gc_op (r := rIn Y.K true) (fun i => by have := @op_notIn_seq (Y.X i); rwa [Y.hK i] at this) (gv_ge ha) hb (rr_val fun F R Gl σ H x y Q W v1 v2 q => ?_)
    obtain ⟨p, vs, rfl, h1, h2⟩ := W.lstV v2
    rw [h2.ints_inv] at h1
    rw [v1.int_inv]
    exact ⟨p, _, rfl, .inl h1, rfl, flat_ints, q _ (by rw [inV_ints]; exact .bl _)⟩
  | tupS =>
    refine gc_op (r := rIn Y.K true) (fun i => by have := @op_notIn_seq (Y.X i); rwa [Y.hK i] at this) (gv_ge ha) hb (rr_val fun F R Gl σ H x y Q W v1 v2 q => ?_)
    obtain ⟨p, vs, rfl, h1, h2⟩ := W.tupV v2
    rw [h2.strs_inv] at h1
    rw [v1.str_inv]
    exact ⟨p, _, rfl, .inr h1, rfl, flat_strs, q _ (by rw [inV_strs]; exact .bl _)⟩
  | @dicS k kds =>
    refine ⟨fun F R Gl σ H W => wC.of (fun i => pc_dnotin (hu1_i i) (wE.pe i) (wE.pe i)) ((ha.run F R Gl σ H W).mono fun x H1 ⟨F1, Gl1, s1, W1, r1⟩ => (hb.run F1 R Gl1 σ H1 W1).mono fun y H2 ⟨F2, Gl2, s2, W2, v2⟩ => ?_)⟩
    obtain ⟨p, vs, rfl, h1, h2⟩ := W2.dicV v2
    exact ⟨p, _, rfl, .inl ⟨vs, .inr k, h1, r1.str_inv, rfl⟩, F2, Gl2, s1.trans s2, W2, by rw [h2.isSome]; exact .bl _⟩
  | @dicI k kds =>
    refine ⟨fun F R Gl σ H W => wC.of (fun i => pc_dnotin (hu1_i i) (wE.pe i) (wE.pe i)) ((ha.run F R Gl σ H W).mono fun x H1 ⟨F1, Gl1, s1, W1, r1⟩ => (hb.run F1 R Gl1 σ H1 W1).mono fun y H2 ⟨F2, Gl2, s2, W2, v2⟩ => ?_)⟩
    obtain ⟨p, vs, rfl, h1, h2⟩ := W2.dicV v2
    exact ⟨p, _, rfl, .inl ⟨vs, .inl k, h1, r1.int_inv, rfl⟩, F2, Gl2, s1.trans s2, W2, by rw [h2.isSome]; exact .bl _⟩

/-! chains as tests, chains of texts -/
theorem gt_chain {f f' : Int → Int → Bool} {i j k : Int} {op op' : CmpOp} (ho : ∀ i, OpR (Y.X i) (compareOp op) (rI0 fun i j => .bl (f i j))) (ho' : ∀ i, OpR (Y.X i) (compareOp op') (rI0 fun i j => .bl (f' i j)))
    (ha : GE Y a ρ G (.int i)) (hb : GE Y b ρ G (.int j)) (hc : GE Y c ρ G (.int k)) (hm : lastMarks [op, op'] [b, c] = false := by rfl) : GT Y (.Compare a [op, op'] [b, c] pos) ρ G (f i j && f' j k) :=
  ⟨fun F R Gl σ H W => wT.of (fun i => pt_chain (ho i) (ho' i) (wE.pe i) (wE.pe i) (wE.pe i) hm) (by
    have := chain_go (f := f) (f' := f') (op := op) (op' := op') rfl rfl W ha hb hc
    unfold tTest
    exact tChain_mono this fun v H' ⟨F', Gl', s, W', r⟩ => ⟨_, r.bl_inv, rfl, F', Gl', s, W'⟩)⟩
def leS (x y : Str) : Bool := !decide (y.cps.toList < x.cps.toList)
theorem ge_chainLeS {x y z : Str} (ha : GE Y a ρ G (.str x)) (hb : GE Y b ρ G (.str y)) (hc : GE Y c ρ G (.str z)) (hm : lastMarks [.LtE, .LtE] [b, c] = false := by rfl) : GE Y (.Compare a [.LtE, .LtE] [b, c] pos) ρ G (.bl (leS x y && leS y z)) :=
  ⟨fun F R Gl σ H W => wE.of (fun i => pe_chain op_le_str op_le_str (wE.pe i) (wE.pe i) (wE.pe i) hm) ((ha.run F R Gl σ H W).mono fun v H1 ⟨F1, Gl1, s1, W1, r1⟩ => (hb.run F1 R Gl1 σ H1 W1).mono fun u H2 ⟨F2, Gl2, s2, W2, r2⟩ => by
    refine ⟨x, y, r1.str_inv, r2.str_inv, leS x y, rfl, ?_⟩
    by_cases e : leS x y = true
    · rw [if_pos e]
      refine (hc.run F2 R Gl2 σ H2 W2).mono fun w H3 ⟨F3, Gl3, s3, W3, r3⟩ => ⟨y, z, r2.str_inv, r3.str_inv, F3, Gl3, (s1.trans s2).trans s3, W3, ?_⟩
      rw [e, Bool.true_and]; exact .bl _
    · rw [if_neg e]
      refine ⟨F2, Gl2, s1.trans s2, W2, ?_⟩
      rw [Bool.eq_false_iff.mpr e, Bool.false_and]; exact .bl _)⟩
theorem gt_chainLeS {x y z : Str} (ha : GE Y a ρ G (.str x)) (hb : GE Y b ρ G (.str y)) (hc : GE Y c ρ G (.str z)) (hm : lastMarks [.LtE, .LtE] [b, c] = false := by rfl) : GT Y (.Compare a [.LtE, .LtE] [b, c] pos) ρ G (leS x y && leS y z) :=
  ⟨fun F R Gl σ H W => wT.of (fun i => pt_chain op_le_str op_le_str (wE.pe i) (wE.pe i) (wE.pe i) hm) ((ha.run F R Gl σ H W).mono fun v H1 ⟨F1, Gl1, s1, W1, r1⟩ => (hb.run F1 R Gl1 σ H1 W1).mono fun u H2 ⟨F2, Gl2, s2, W2, r2⟩ => by
    refine ⟨x, y, r1.str_inv, r2.str_inv, leS x y, rfl, ?_⟩
    by_cases e : leS x y = true
    · rw [if_pos e]
      refine (hc.run F2 R Gl2 σ H2 W2).mono fun w H3 ⟨F3, Gl3, s3, W3, r3⟩ => ⟨y, z, r2.str_inv, r3.str_inv, leS y z, rfl, ?_, F3, Gl3, (s1.trans s2).trans s3, W3⟩
      rw [e, Bool.true_and]
    · rw [if_neg e]
      refine ⟨false, rfl, ?_, F2, Gl2, s1.trans s2, W2⟩
      rw [Bool.eq_false_iff.mpr e, Bool.false_and])⟩
end
end Gh
end

section
set_option Elab.async false
set_option linter.all false
set_option maxRecDepth 100000
set_option maxHeartbeats 4000000
namespace Gh
open PySem PySem.Spec PyProof.Rows L2

/-! ### list + list, of any that are read -/
def rCatR (K : PySem.W.Frag) : R2 := fun x y H Q => ∃ l b xs zs, x = .ref l ∧ y = .ref b ∧ SqL K H l xs ∧ SqL K H b zs ∧ xs.length + zs.length ≤ sizeLine ∧ ∀ p, H p = none → Q (.ref p) (upd H p (.lst (xs ++ zs)))
theorem op_catR {X : Cx} : OpR X (binaryOp .Add) (rCatR X.K) := by
  intro pins s σ H x y v u Q I rx ry h
  obtain ⟨l, b, xs, zs, rfl, rfl, hH, hB, hz, q⟩ := h
  cases rx
  cases ry
  obtain ⟨its, r, ⟨⟨c1, d1, dt1, sl1⟩, n1, e1, q1, q2, q3⟩, z1⟩ := I.list hH
  obtain ⟨its2, r2, ⟨⟨c2, d2, dt2, sl2⟩, n2, e2, q4, q5, q6⟩, z2⟩ := I.list hB
  simp only at q1 q2 q3 q4 q5 q6
  subst q1 q2 q3 q4 q5 q6
  have h1 := r.length
  have h2 := r2.length
  have ea : its.toArray ++ its2.toArray = (its ++ its2).toArray := by simp
  refine concat_meets ⟨_, e1, rfl⟩ ⟨_, e2, rfl⟩ noFill_list_add seq_list_add PySem.F.slot_list_add PySem.F.entry_list_add (PySem.F.args_list_add_2 _ _) (list_addW l b its.toArray its2.toArray n1 n2 none none sl1 sl2 (by rw [List.size_toArray, List.size_toArray]; omega)) ⟨e1, e2, ?_⟩
  rw [ea]
  exact ⟨.ref _, _, I.lnew (t' := s.toks) (r.append r2) (by rw [List.length_append]; omega), rfl, q _ I.fresh⟩
section
variable {Y : Ctx} {ρ : Rho} {G : Gs} {E : GEnds} {a b c e o : Expr} {es : List Expr} {d d' d1 d2 d3 : D} {ds xs ys : List D} {pos p apos : Pos}
theorem gn_cat (ha : GV Y a ρ G (.lst xs)) (hb : GV Y b ρ G (.lst ys)) (hl : xs.length + ys.length ≤ 100000) : GN Y (.BinOp a .Add b pos) ρ G (.lst (xs ++ ys)) :=
  gn_op (r := rCatR Y.K) (fun i => by have := @op_catR (Y.X i); rwa [Y.hK i] at this) ha hb fun F R Gl σ H x y Q W v1 v2 q => by
    obtain ⟨p, vs, rfl, h1, h2⟩ := W.lstV v1
    obtain ⟨p', us, rfl, h3, h4⟩ := W.lstV v2
    exact ⟨p, p', vs, us, rfl, rfl, h1, h3, by rw [h2.length, h4.length]; exact Nat.le_trans hl (by decide), fun l hl => q _ _ (new_lst W (h2.append h4) hl)⟩
/-- + by what the operands are -/
inductive AddD : D → D → D → Prop
  | int {i j : Int} : AddD (.int i) (.int j) (.int (i + j))
  | str {x y : Str} (h : x.length + y.length ≤ sizeLine) : AddD (.str x) (.str y) (.str (x ++ y))
  | lst {xs ys : List D} (h : xs.length + ys.length ≤ 100000) : AddD (.lst xs) (.lst ys) (.lst (xs ++ ys))
theorem ge_addD (ha : GV Y a ρ G d1) (hb : GV Y b ρ G d2) (h : AddD d1 d2 d) : GE Y (.BinOp a .Add b pos) ρ G d := by
  cases h with
  | @int i j => exact ge_op (fun _ => op_add) ha hb (rr_val fun F R Gl σ H x y Q W v1 v2 q => ⟨i, j, v1.int_inv, v2.int_inv, q _ (.int _)⟩)
  | @str x y h => exact ge_op (fun _ => op_add_str) ha hb (rr_val fun F R Gl σ H _ _ Q W v1 v2 q => ⟨x, y, v1.str_inv, v2.str_inv, h, q _ (.str _)⟩)
  | lst h => exact ge_n (gn_cat ha hb h)

theorem ge_globI {x : Str} {i : Int} (h : ∃ t, Y.mg x = some (.int i t)) (hg : GlS Y.sc x := by rfl) (hd : (x == ("__debug__" : Str)) = false := by decide) : GE Y (.Name x p) ρ G (.int i) := by
  obtain ⟨t, h⟩ := h
  exact ge_glob h (v := .int i) ⟨t, rfl⟩ (fun _ => .int i) hg hd
theorem ge_globS {x : Str} {i : Str} (h : ∃ t, Y.mg x = some (.str i t)) (hg : GlS Y.sc x := by rfl) (hd : (x == ("__debug__" : Str)) = false := by decide) : GE Y (.Name x p) ρ G (.str i) := by
  obtain ⟨t, h⟩ := h
  exact ge_glob h (v := .str i) ⟨t, rfl⟩ (fun _ => .str i) hg hd
/-! ### texts joined -/
theorem ge_join {x : Str} {ys : List Str} (ho : GE Y o ρ G (.str x)) (he : GV Y e ρ G (.lst (ys.map .str))) (hl : (ys.map (·.length)).sum + ys.length * x.length ≤ 16777216) (hs : ∀ env, starEach [e] env = [(false, eval e env)] := by intro _; rfl)
    (hbase : ∀ env, attributeBase o "join" env (eval o env) = eval o env := by intro _; rfl) (hline : (apos.endLine == pos.line) = true := by rfl) : GE Y (.Call (.Attribute o "join" apos) [e] [] pos) ρ G (.str (Txt.join x ys)) := ⟨fun F R Gl σ H W =>
  wE.of (t := tM1 (fun x xs H Q => ∃ a p, ∃ ys : List Str, x = .str a ∧ xs = [.ref p] ∧ (SqL Y.K H p (ys.map V.str) ∨ SqT Y.K H p (ys.map V.str)) ∧ (ys.map (·.length)).sum + ys.length * a.length ≤ 16777216 ∧ Q (.str (Txt.join a ys)) H) (wE Y o) (wE Y e))
    (fun i => by have := @pe_join (Y.X i) o e _ _ apos pos (wE.pe i) (wE.pe i) (hs _) (hbase _) hline; rwa [Y.hK i] at this) ((ho.run F R Gl σ H W).mono fun v H1 ⟨F1, Gl1, s1, W1, r1⟩ => ⟨⟨x, r1.str_inv⟩, (he.run F1 R Gl1 σ H1 W1).mono fun u H2 ⟨F2, Gl2, s2, W2, r2⟩ => by
      obtain ⟨p, vs, rfl, h1, h2⟩ := W2.lstV r2
      rw [h2.strs_inv] at h1
      exact ⟨x, p, ys, r1.str_inv, rfl, .inl h1, hl, F2, Gl2, s1.trans s2, W2, .str _⟩⟩)⟩

/-! ### append -/
theorem Wd.put {F : Hp} {R Gl : Gs} {ρ : Rho} {σ : L2.St} {H : Hp} {i : Nat} {l : Addr} {x : SV} {g g' : GO} {o : HO} (W : Wd Y F R Gl G ρ σ H) (ho : OwnAt ρ i) (h1 : σ[i]? = some (some (.ref l))) (h2 : Gl l = some g) (hk : g.isLk = false) (h3 : G l = none) (h4 : R l = none)
    (r : ORep Y.K F o g') (hx : SvOk Y.K F G R (gupd Gl l g') (some (.ref l)) x) : Wd Y F R (gupd Gl l g') G (ρ.set i x) σ (upd H l o) := by
  have W1 := W.forget i
  have nO : ¬ Owned (ρ.set i .unk) σ l := fun ⟨j, ⟨x, ex, ox⟩, ej⟩ => by
    rcases set_get ex with ⟨_, z⟩ | ⟨z, z2⟩
    · subst z; cases ox
    · exact z (W.inj j i l ⟨x, z2, ox⟩ ho ej h1)
  have W2 : Wd Y F R (gupd Gl l g') G (ρ.set i .unk) σ (upd H l o) := W1.step (Same.refl F) (fun a u e q => by
    have : a ≠ l := by
      rintro rfl
      rcases q with ⟨u, q⟩ | ⟨u, q⟩ | q
      · rw [h3] at q; cases q
      · rw [h4] at q; cases q
      · exact nO q
    rw [gupd_ne this]; exact e) (W.abs.put h2 hk r)
  have W3 := W2.set (i := i) (x := x) (s := some (.ref l)) hx fun _ l' e j hj oj ej => nO ⟨j, oj, by cases e; exact ej⟩
  rw [List.set_set] at W3
  have e : σ.set i (some (.ref l)) = σ := by
    apply List.ext_getElem?
    intro j
    by_cases q : i = j
    · subst q
      rw [List.getElem?_set_self (List.getElem?_eq_some_iff.mp h1).1, h1]
    · rw [List.getElem?_set_ne q]
  rwa [e] at W3
theorem lt_line {n : Nat} (h : n < 100000) : n < sizeLine := Nat.lt_of_lt_of_le h (by decide)
theorem few_i (i : Y.ι) (h : ∀ env, ((backTo pos (starEach (e :: es) env)).all (fun x => !x.1) && (backToKw pos (keywordEach [] env)).all (fun x => x.1.isSome) && decide ((e :: es).length + ([] : List Keyword).length + (if ([] : List Keyword).isEmpty then 0 else 1) < 30)) = true) :
    ((backTo pos (starEach (e :: es) (Y.X i).env)).all (fun x => !x.1) && (backToKw pos (keywordEach [] (Y.X i).env)).all (fun x => x.1.isSome) && decide ((e :: es).length + ([] : List Keyword).length + (if ([] : List Keyword).isEmpty then 0 else 1) < 30)) = true := h _
/-- x.append(e), x a slot's own list -/
theorem gs_app (j : Nat) {x : Str} {px epos : Pos} (hj : ρ[j]? = some (.own ds)) (he : GE Y e ρ G d) (hl : ds.length < 100000) (k : E.nx (ρ.set j (.own (ds ++ [d]))) G) (hN : Y.N[j]? = some x := by rfl) (hv : Vis Y.sc x := by first | exact Or.inl rfl | exact Or.inr (Or.inl rfl) | exact Or.inr (Or.inr rfl))
    (hd : (x == ("__debug__" : Str)) = false := by decide) (hcd : (x == ("__classdict__" : Str)) = false := by decide) (hbase : ∀ env, attributeBase (.Name x px) "append" env (eval (.Name x px) env) = eval (.Name x px) env := by intro _; rfl)
    (hfew : ∀ env, ((backTo pos (starEach [e] env)).all (fun x => !x.1) && (backToKw pos (keywordEach [] env)).all (fun x => x.1.isSome) && decide ([e].length + ([] : List Keyword).length + (if ([] : List Keyword).isEmpty then 0 else 1) < 30)) = true := by intro _; rfl)
    (hline : (apos.endLine == pos.line) = true := by rfl) (hs : ∀ env, starEach [e] env = (false, eval e env) :: starEach [] env := by intro _; rfl) (hsw : ∀ i, swapsWith (.Call (.Attribute (.Name x px) "append" apos) [e] [] pos) none epos.line (Y.X i).env = pure false := by intro _; rfl) :
    GS Y (.Expr (.Call (.Attribute (.Name x px) "append" apos) [e] [] pos) epos) ρ G E := ⟨fun F R Gl σ H D W L => by
  refine wS.of (t := tDrop (tBM Y.K "list" rAppend (tVar j) (wA Y [e]))) (fun i => ps_expr (by have := @pe_bm (Y.X i) (.Name x px) e [] _ _ _ apos pos _ _ _ PySem.F.plainAttrs_list PySem.F.slot_list_append PySem.F.type_list_append mt_append (var_pe hN hv hd hcd i) (wA.pa i) (hbase _) (hfew _) hline (hs _) rfl; rwa [Y.hK i] at this) (hsw i)) ?_
  obtain ⟨s, h1, l, rfl, h2, h3, h4⟩ := W.get hj
  obtain ⟨_, o, ho, r⟩ := W.abs.obj l _ h2
  cases r with
  | lst r =>
  refine ⟨_, h1, .inl ⟨rfl, _, .inl (.inl ho)⟩, ((gr_cons he gr_nil hs).run F R Gl σ H W).mono fun vs H1 ⟨F1, Gl1, s1, W1, r1⟩ => ?_⟩
  cases r1 with
  | cons r1 r2 =>
  cases r2
  obtain ⟨s', g1, l', e', g2, g3, g4⟩ := W1.get hj
  rw [h1] at g1; cases g1; cases e'
  obtain ⟨_, o', ho', r'⟩ := W1.abs.obj l _ g2
  cases r' with
  | @lst us _ r' =>
  refine ⟨l, us, _, rfl, rfl, ho', lt_line (by rw [r'.length]; exact hl), L.nx _ _ _ _ _ _ s1 (W1.put (x := .own (ds ++ [d])) (g' := .lst (ds ++ [d])) ⟨_, hj, rfl⟩ h1 g2 rfl g3 g4 (.lst (r'.snoc r1)) ⟨l, rfl, gupd_same, g3, g4⟩) k⟩⟩
end
end Gh
end

section
set_option Elab.async false
set_option linter.all false
set_option maxRecDepth 100000
set_option maxHeartbeats 4000000
namespace Gh
open PySem PySem.Spec PyProof.Rows L2
def topS (i : Nat) : Stmt := PySem.Challenge.pw_pickfloor_k01_stretches.main.body.getD i (.Pass ⟨0, 0, 0, 0⟩)
abbrev s_is_whole : Stmt := topS 4
abbrev N_is_whole : List Str := ["thing"]
theorem sc_is_whole : FnScope N_is_whole ["thing"] (defScope s_is_whole) := ⟨rfl, rfl, rfl, by decide +kernel, rfl, by decide +kernel, by decide +kernel⟩
theorem nd_is_whole : N_is_whole.Nodup := sc_is_whole.nd
abbrev s_is_ware : Stmt := topS 5
abbrev N_is_ware : List Str := ["thing", "sign"]
theorem sc_is_ware : FnScope N_is_ware ["thing"] (defScope s_is_ware) := ⟨rfl, rfl, rfl, by decide +kernel, rfl, by decide +kernel, by decide +kernel⟩
theorem nd_is_ware : N_is_ware.Nodup := sc_is_ware.nd
abbrev s_is_make : Stmt := topS 6
abbrev N_is_make : List Str := ["thing"]
theorem sc_is_make : FnScope N_is_make ["thing"] (defScope s_is_make) := ⟨rfl, rfl, rfl, by decide +kernel, rfl, by decide +kernel, by decide +kernel⟩
theorem nd_is_make : N_is_make.Nodup := sc_is_make.nd
abbrev s_is_need : Stmt := topS 7
abbrev N_is_need : List Str := ["thing"]
theorem sc_is_need : FnScope N_is_need ["thing"] (defScope s_is_need) := ⟨rfl, rfl, rfl, by decide +kernel, rfl, by decide +kernel, by decide +kernel⟩
theorem nd_is_need : N_is_need.Nodup := sc_is_need.nd
abbrev s_joined : Stmt := topS 8
abbrev N_joined : List Str := ["one", "other", "low", "high"]
theorem sc_joined : FnScope N_joined ["one", "other"] (defScope s_joined) := ⟨rfl, rfl, rfl, by decide +kernel, rfl, by decide +kernel, by decide +kernel⟩
theorem nd_joined : N_joined.Nodup := sc_joined.nd
abbrev s_within : Stmt := topS 9
abbrev N_within : List Str := ["make", "low", "high"]
theorem sc_within : FnScope N_within ["make", "low", "high"] (defScope s_within) := ⟨rfl, rfl, rfl, by decide +kernel, rfl, by decide +kernel, by decide +kernel⟩
theorem nd_within : N_within.Nodup := sc_within.nd
abbrev s__law_cell_at : Stmt := topS 11
abbrev N__law_cell_at : List Str := ["_law_script", "_law_k"]
theorem sc__law_cell_at : FnScope N__law_cell_at ["_law_script", "_law_k"] (defScope s__law_cell_at) := ⟨rfl, rfl, rfl, by decide +kernel, rfl, by decide +kernel, by decide +kernel⟩
theorem nd__law_cell_at : N__law_cell_at.Nodup := sc__law_cell_at.nd
abbrev s__law_pair : Stmt := topS 12
abbrev N__law_pair : List Str := ["_law_cell", "_law_other", "_law_low"]
theorem sc__law_pair : FnScope N__law_pair ["_law_cell", "_law_other"] (defScope s__law_pair) := ⟨rfl, rfl, rfl, by decide +kernel, rfl, by decide +kernel, by decide +kernel⟩
theorem nd__law_pair : N__law_pair.Nodup := sc__law_pair.nd
abbrev s__law_same : Stmt := topS 13
abbrev N__law_same : List Str := ["_law_found", "_law_due"]
theorem sc__law_same : FnScope N__law_same ["_law_found", "_law_due"] (defScope s__law_same) := ⟨rfl, rfl, rfl, by decide +kernel, rfl, by decide +kernel, by decide +kernel⟩
theorem nd__law_same : N__law_same.Nodup := sc__law_same.nd
abbrev s__law_word : Stmt := topS 14
abbrev N__law_word : List Str := ["_law_cell", "_law_letters", "_law_j"]
theorem sc__law_word : FnScope N__law_word ["_law_cell"] (defScope s__law_word) := ⟨rfl, rfl, rfl, by decide +kernel, rfl, by decide +kernel, by decide +kernel⟩
theorem nd__law_word : N__law_word.Nodup := sc__law_word.nd
abbrev s__law_thing : Stmt := topS 15
abbrev N__law_thing : List Str := ["_law_cell", "_law_word_here", "_law_number", "_law_at", "_law_sign", "_law_some"]
theorem sc__law_thing : FnScope N__law_thing ["_law_cell"] (defScope s__law_thing) := ⟨rfl, rfl, rfl, by decide +kernel, rfl, by decide +kernel, by decide +kernel⟩
theorem nd__law_thing : N__law_thing.Nodup := sc__law_thing.nd
abbrev s__law_is_word : Stmt := topS 16
abbrev N__law_is_word : List Str := ["_law_thing_here", "_law_sign"]
theorem sc__law_is_word : FnScope N__law_is_word ["_law_thing_here"] (defScope s__law_is_word) := ⟨rfl, rfl, rfl, by decide +kernel, rfl, by decide +kernel, by decide +kernel⟩
theorem nd__law_is_word : N__law_is_word.Nodup := sc__law_is_word.nd
abbrev s__law_is_number : Stmt := topS 17
abbrev N__law_is_number : List Str := ["_law_thing_here"]
theorem sc__law_is_number : FnScope N__law_is_number ["_law_thing_here"] (defScope s__law_is_number) := ⟨rfl, rfl, rfl, by decide +kernel, rfl, by decide +kernel, by decide +kernel⟩
theorem nd__law_is_number : N__law_is_number.Nodup := sc__law_is_number.nd
abbrev s__law_is_need : Stmt := topS 18
abbrev N__law_is_need : List Str := ["_law_thing_here", "_law_good"]
theorem sc__law_is_need : FnScope N__law_is_need ["_law_thing_here"] (defScope s__law_is_need) := ⟨rfl, rfl, rfl, by decide +kernel, rfl, by decide +kernel, by decide +kernel⟩
theorem nd__law_is_need : N__law_is_need.Nodup := sc__law_is_need.nd
abbrev s_law : Stmt := topS 19
abbrev N_law : List Str := ["_law_script", "_law_one", "_law_other", "_law_make", "_law_due", "_law_cell", "_law_thing_here", "_law_found", "_law_answer"]
theorem sc_law : FnScope N_law ["_law_script"] (defScope s_law) := ⟨rfl, rfl, rfl, by decide +kernel, rfl, by decide +kernel, by decide +kernel⟩
theorem nd_law : N_law.Nodup := sc_law.nd
structure Tx (K : PySem.W.Frag) (mg : Str → Option Value) : Prop where
  blt : Blt mg
  c_MOST_MAKE : ∃ t, mg "MOST_MAKE" = some (.int 999 t)
  c_MOST_SIGNS : ∃ t, mg "MOST_SIGNS" = some (.int 8 t)
  c_LETTERS : ∃ t, mg "LETTERS" = some (.str "abcdefghijklmnopqrstuvwxyz" t)
  d_is_whole : Dfn K mg "is_whole" s_is_whole ["thing"]
  d_is_ware : Dfn K mg "is_ware" s_is_ware ["thing"]
  d_is_make : Dfn K mg "is_make" s_is_make ["thing"]
  d_is_need : Dfn K mg "is_need" s_is_need ["thing"]
  d_joined : Dfn K mg "joined" s_joined ["one", "other"]
  d_within : Dfn K mg "within" s_within ["make", "low", "high"]
  d__law_cell_at : Dfn K mg "_law_cell_at" s__law_cell_at ["_law_script", "_law_k"]
  d__law_pair : Dfn K mg "_law_pair" s__law_pair ["_law_cell", "_law_other"]
  d__law_same : Dfn K mg "_law_same" s__law_same ["_law_found", "_law_due"]
  d__law_word : Dfn K mg "_law_word" s__law_word ["_law_cell"]
  d__law_thing : Dfn K mg "_law_thing" s__law_thing ["_law_cell"]
  d__law_is_word : Dfn K mg "_law_is_word" s__law_is_word ["_law_thing_here"]
  d__law_is_number : Dfn K mg "_law_is_number" s__law_is_number ["_law_thing_here"]
  d__law_is_need : Dfn K mg "_law_is_need" s__law_is_need ["_law_thing_here"]
  d_law : Dfn K mg "law" s_law ["_law_script"]
end Gh
end

section
set_option Elab.async false
set_option linter.all false
set_option maxRecDepth 100000
set_option maxHeartbeats 4000000
namespace Gh
open PySem PySem.Spec PyProof.Rows L2
/-! texts as lists of codes -/
def cs (x : Str) : List Nat := x.cps.toList
def mkS (l : List Nat) : Str := ⟨l.toArray⟩
theorem cs_mk (l : List Nat) : cs (mkS l) = l := rfl
theorem mk_cs (x : Str) : mkS (cs x) = x := by cases x; simp [mkS, cs]
theorem cs_inj {x y : Str} (h : cs x = cs y) : x = y := by rw [← mk_cs x, ← mk_cs y, h]
theorem cs_len (x : Str) : x.length = (cs x).length := by show x.cps.size = x.cps.toList.length; rw [Array.length_toList]
theorem cs_app (x y : Str) : cs (x ++ y) = cs x ++ cs y := TL.tl_append x y
theorem len_app (x y : Str) : (x ++ y).length = x.length + y.length := by rw [cs_len, cs_len, cs_len, cs_app, List.length_append]
theorem cs_cut (z : Str) (lo hi : Option Int) : cs (cutS z lo hi) = ((cs z).drop (HT.sIx z.length 0 lo)).take (HT.sIx z.length z.length hi - HT.sIx z.length 0 lo) := rfl
theorem cs_cut_to (z : Str) (k : Nat) : cs (cutS z none (some (k : Int))) = (cs z).take k := by
  rw [cs_cut, HT.sIx_none, HT.sIx_nat, List.drop_zero, Nat.sub_zero, cs_len]
  rw [List.take_eq_take_iff]
  omega
theorem cs_cut_from (z : Str) (k : Nat) : cs (cutS z (some (k : Int)) none) = (cs z).drop k := by
  rw [cs_cut, HT.sIx_none, HT.sIx_nat, cs_len]
  by_cases h : k ≤ (cs z).length
  · rw [Nat.min_eq_left h, List.take_of_length_le (by rw [List.length_drop]; omega)]
  · rw [Nat.min_eq_right (by omega)]
    rw [List.drop_eq_nil_of_le (Nat.le_refl _), List.drop_eq_nil_of_le (by omega)]
    simp
theorem cs_sign (c : Nat) : cs ⟨#[c]⟩ = [c] := rfl
theorem cs_empty : cs ("" : Str) = [] := by decide +kernel
theorem joinL_nil : ∀ l : List (List Nat), TL.joinL [] l = l.flatten
  | [] => rfl
  | [p] => by simp [TL.joinL]
  | p :: q :: r => by
    show p ++ ([] ++ TL.joinL [] (q :: r)) = _
    rw [joinL_nil (q :: r)]
    simp
theorem cs_join0 (ys : List Str) : cs (Txt.join ("" : Str) ys) = (ys.map cs).flatten := by
  rw [TL.join_eq]
  refine (TL.tl_join _ ys).trans ?_
  have e : TL.tl ("" : Str) = [] := cs_empty
  rw [e, joinL_nil]
  rfl
/-- signs joined -/
theorem cs_joinSigns {α : Type} (f : α → Nat) (l : List α) : cs (Txt.join ("" : Str) (l.map fun a => (⟨#[f a]⟩ : Str))) = l.map f := by
  rw [cs_join0, List.map_map]
  induction l with
  | nil => rfl
  | cons a l ih => rw [List.map_cons, List.flatten_cons, ih]; rfl
theorem joinSigns_len {α : Type} (f : α → Nat) (l : List α) (h : l.length ≤ 1000) : ((l.map fun a => (⟨#[f a]⟩ : Str)).map (·.length)).sum + (l.map fun a => (⟨#[f a]⟩ : Str)).length * ("" : Str).length ≤ 16777216 := by
  have e0 : ("" : Str).length = 0 := by decide +kernel
  rw [e0, Nat.mul_zero, Nat.add_zero, List.map_map]
  have : (l.map ((fun x => x.length) ∘ fun a => (⟨#[f a]⟩ : Str))).sum = l.length := by
    induction l with
    | nil => rfl
    | cons a l ih =>
      rw [List.map_cons, List.sum_cons, ih (by simp at h; omega), List.length_cons]
      show 1 + l.length = l.length + 1
      omega
  rw [this]
  omega
theorem strOk_cs {x : Str} : PyData.strOk x = (cs x).all fun c => decide (c < 0x110000) := by
  show x.cps.all _ = x.cps.toList.all _
  rw [Array.all_toList]
theorem strOk_small {x : Str} (h : ∀ c ∈ cs x, c < 1000) : PyData.strOk x = true := by
  rw [strOk_cs]
  refine List.all_eq_true.mpr fun c hc => decide_eq_true ?_
  have := h c hc
  omega
/-- the 26 letters at a place -/
theorem alphabet_at {i : Int} (h0 : 0 ≤ i) (h1 : i < 26) : atI (("abcdefghijklmnopqrstuvwxyz" : Str)).cps.toList i = some (97 + i.toNat) := by
  have e : (("abcdefghijklmnopqrstuvwxyz" : Str)).cps.toList = [97, 98, 99, 100, 101, 102, 103, 104, 105, 106, 107, 108, 109, 110, 111, 112, 113, 114, 115, 116, 117, 118, 119, 120, 121, 122] := by decide +kernel
  rw [e]
  obtain ⟨n, rfl⟩ : ∃ n : Nat, i = n := ⟨i.toNat, by omega⟩
  have hn : n < 26 := by omega
  rw [atI_nat (v := 97 + n)]
  · simp
  · have : ∀ n, n < 26 → ([97, 98, 99, 100, 101, 102, 103, 104, 105, 106, 107, 108, 109, 110, 111, 112, 113, 114, 115, 116, 117, 118, 119, 120, 121, 122] : List Nat)[n]? = some (97 + n) := by decide
    exact this n hn
theorem alphabet_len : (("abcdefghijklmnopqrstuvwxyz" : Str)).length = 26 := by decide +kernel
/-- an item of a list at a reckoned place -/
theorem at_in {α : Type} {xs : List α} {i : Int} (h0 : 0 ≤ i) (h1 : i < xs.length) : ∃ x, atI xs i = some x ∧ x ∈ xs := by
  obtain ⟨n, rfl⟩ : ∃ n : Nat, i = n := ⟨i.toNat, by omega⟩
  have hn : n < xs.length := by omega
  exact ⟨xs[n], atI_nat (List.getElem?_eq_getElem hn), List.getElem_mem hn⟩
theorem at_mod {α : Type} {xs : List α} {i m : Int} (hm : m = xs.length) (h : 0 < m) : ∃ x, atI xs (i % m) = some x ∧ x ∈ xs :=
  at_in (Int.emod_nonneg _ (by omega)) (by rw [← hm]; exact Int.emod_lt_of_pos _ h)
end Gh
end

section
set_option Elab.async false
set_option linter.all false
set_option maxRecDepth 100000
set_option maxHeartbeats 4000000
namespace Gh
open PySem PySem.Spec PyProof.Rows L2
/-! the defs of pickfloor/stretches.py -/
def D.isI : D → Bool
  | .int _ => true
  | _ => false
def D.toI : D → Int
  | .int i => i
  | _ => 0
/-- texts within are short enough to be measured -/
def D.fit : D → Bool
  | .str x => decide (x.length ≤ 100000) && PyData.strOk x
  | _ => true
def letter (c : Nat) : Bool := decide (97 ≤ c ∧ c ≤ 122)
def wareS (x : Str) : Bool := decide (1 ≤ x.length ∧ x.length ≤ 8) && x.cps.toList.all letter
def D.ware : D → Bool
  | .str x => wareS x
  | _ => false
def D.make : D → Bool
  | .int i => decide (1 ≤ i) && decide (i ≤ 999)
  | _ => false
def D.need : D → Bool
  | .tup [a, b, c] => a.ware && (b.make && (c.make && decide (b.toI ≤ c.toI)))
  | _ => false
theorem fit_line {n : Nat} (h : n ≤ 100000) : n ≤ sizeLine := Nat.le_trans h (by decide)
theorem letters_eq : (("abcdefghijklmnopqrstuvwxyz" : Str)).cps.toList = [97, 98, 99, 100, 101, 102, 103, 104, 105, 106, 107, 108, 109, 110, 111, 112, 113, 114, 115, 116, 117, 118, 119, 120, 121, 122] := by decide +kernel
theorem in_letters (c : Nat) : decide (c ∈ (("abcdefghijklmnopqrstuvwxyz" : Str)).cps.toList) = letter c := by
  rw [letters_eq]
  unfold letter
  refine decide_eq_decide.mpr ?_
  simp only [List.mem_cons, List.not_mem_nil, or_false]
  omega
theorem ViewD.int {G : Gs} {d : D} {i : Int} (h : ViewD G d (.int i)) : d = .int i := by
  rcases h with h | ⟨l, ds, _, _, h⟩ | ⟨l, ds, _, _, h⟩
  · exact h
  · cases h
  · cases h
theorem ViewD.str {G : Gs} {d : D} {i : Str} (h : ViewD G d (.str i)) : d = .str i := by
  rcases h with h | ⟨l, ds, _, _, h⟩ | ⟨l, ds, _, _, h⟩
  · exact h
  · cases h
  · cases h
theorem ViewD.tup {G : Gs} {d : D} {i : List D} (h : ViewD G d (.tup i)) : d = .tup i := by
  rcases h with h | ⟨l, ds, _, _, h⟩ | ⟨l, ds, _, _, h⟩
  · exact h
  · cases h
  · cases h
def sp_is_whole : GSp := fun ds G PP _ => ∃ d' d, ds = [d'] ∧ ViewD G d' d ∧ d.isD = true ∧ PP (.bl d.isI) G
def sp_is_ware : GSp := fun ds G PP _ => ∃ d' d, ds = [d'] ∧ ViewD G d' d ∧ d.isD = true ∧ d.fit = true ∧ PP (.bl d.ware) G
def sp_is_make : GSp := fun ds G PP _ => ∃ d' d, ds = [d'] ∧ ViewD G d' d ∧ d.isD = true ∧ PP (.bl d.make) G
/-- what stands in a tuple can be looked at -/
def D.seen : D → Bool
  | .tup xs => xs.all fun x => x.isD && x.fit
  | _ => true
def sp_is_need : GSp := fun ds G PP _ => ∃ d' d, ds = [d'] ∧ ViewD G d' d ∧ d.isD = true ∧ d.seen = true ∧ PP (.bl d.need) G
def pairD (a b : Int) : D := .tup [.int a, .int b]
def joinedP (a b c d : Int) : Option (Int × Int) := if max a c > min b d then none else some (max a c, min b d)
def encPair : Option (Int × Int) → D
  | none => .non
  | some p => pairD p.1 p.2
def sp_joined : GSp := fun ds G PP _ => ∃ a b c d, ds = [pairD a b, pairD c d] ∧ PP (encPair (joinedP a b c d)) G
def sp_within : GSp := fun ds G PP _ => ∃ m lo hi : Int, ds = [.int m, .int lo, .int hi] ∧ PP (.bl (decide (lo ≤ m) && decide (m ≤ hi))) G
section
variable {P : Program} {w : World} {K : PySem.W.Frag} {mg : Str → Option Value} {base : Heap}
theorem has_is_whole (T : Tx K mg) : HasF P w K mg base 1 "is_whole" ["thing"] sp_is_whole := by
  refine has_body T.d_is_whole sc_is_whole (fun ds G P PX h => ?_) (fun f cdv A outer s H E hr F0 R0 ds G PP PX h => ?_)
  · obtain ⟨_, _, rfl, _⟩ := h; rfl
  have nd := nd_is_whole
  obtain ⟨d', d, rfl, hv, hd, q⟩ := h
  refine gss_one (gs_retE (ge_and (ge_isiD T.blt (gv_view (ge_var 0 rfl) hv) (ge_ty T.blt.at (by decide +kernel)) (.int hd)) fun _ => (ge_one (ge_not (ge_isiD T.blt (gv_view (ge_var 0 rfl) hv) (ge_ty T.blt.at (by decide +kernel)) (.bl hd))))) ?_)
  have e : (d.isInt && !d.isBl) = d.isI := by cases d <;> rfl
  rw [e]; exact q
theorem has_is_ware (T : Tx K mg) : HasF P w K mg base 1 "is_ware" ["thing"] sp_is_ware := by
  refine has_body T.d_is_ware sc_is_ware (fun ds G P PX h => ?_) (fun f cdv A outer s H E hr F0 R0 ds G PP PX h => ?_)
  · obtain ⟨_, _, rfl, _⟩ := h; rfl
  have nd := nd_is_ware
  obtain ⟨d', d, rfl, hv, hd, hf, q⟩ := h
  -- if not isinstance(thing, str) or not 1 <= len(thing) <= MOST_SIGNS: return False
  cases d with
  | str x =>
    have hx : x.length ≤ 100000 := by simp [D.fit] at hf; exact hf.1
    cases hv.str
    refine gss_cons (gs_if (gt_w (gtw_or (gt_not (gt_val (ge_isiD T.blt (gv_view (ge_var 0 rfl) hv) (ge_ty T.blt.at (by decide +kernel)) (.str hd)))) fun _ => (gtw_or1 (gt_not (gt_chain (f := fun i j => decide (i ≤ j)) (f' := fun i j => decide (i ≤ j)) (fun _ => op_le) (fun _ => op_le) ge_int (ge_len T.blt (gv_view (ge_var 0 rfl) hv) (.str (fit_line hx))) (ge_globI T.c_MOST_SIGNS)))))) (fun hc => ?_) (fun hc => ?_))
    · refine gss_one (gs_retE ge_bl ?_)
      have e : D.ware (.str x) = false := by
        have h1 : ¬ (1 ≤ x.length ∧ x.length ≤ 8) := fun z => by
          obtain ⟨z1, z2⟩ := z
          simp [D.isStr] at hc
          omega
        show wareS x = false
        unfold wareS
        rw [decide_eq_false h1]; rfl
      rw [e] at q; exact q
    · refine gss_nil ?_
      have h1 : 1 ≤ x.length ∧ x.length ≤ 8 := by
        simp [D.isStr] at hc
        omega
      have e : D.ware (.str x) = x.cps.toList.all letter := by
        show wareS x = _
        unfold wareS
        rw [decide_eq_true h1]; rfl
      rw [e] at q
      -- for sign in thing: if sign not in LETTERS: return False
      refine gss_cons (gs_for (fun _ => PassesOwn.never) (gi_str (ge_var 0 rfl)) (fun i ρ' G' => ∃ y, ρ' = [.dat (.str x), y] ∧ G' = G ∧ (x.cps.toList.take i).all letter = true) ⟨_, rfl, rfl, rfl⟩ (fun _ _ _ _ => trivial) (fun i d ρ' G' hi h => ?_) (fun ρ' G' h => ?_))
      · obtain ⟨y, rfl, rfl, ha⟩ := h
        unfold signsD at hi
        rw [List.getElem?_map] at hi
        cases e2 : x.cps.toList[i]? with
        | none => rw [e2] at hi; cases hi
        | some c =>
        rw [e2] at hi; cases hi
        refine ⟨_, _, gg_name 1 nd, gss_one (gs_if (gt_cmp (gc_notIn (ge_var 1 rfl) (gv_ge (ge_globS T.c_LETTERS)) .sign)) (fun hc => ?_) (fun hc => ?_))⟩
        · refine gss_one (gs_retE ge_bl ?_)
          rw [in_letters] at hc
          have e3 : x.cps.toList.all letter = false := by
            rw [Bool.eq_false_iff]
            intro z
            have := List.all_eq_true.mp z c (List.mem_of_getElem? e2)
            rw [this] at hc; cases hc
          rw [e3] at q; exact q
        · refine gss_nil ⟨_, rfl, rfl, ?_⟩
          rw [in_letters] at hc
          rw [List.take_add_one, e2, List.all_append, ha]
          simpa using hc
      · obtain ⟨y, rfl, rfl, ha⟩ := h
        have hl : (signsD x).length = x.cps.toList.length := by simp [signsD]
        rw [hl, List.take_length] at ha
        rw [ha] at q
        exact gss_one (gs_retE ge_bl q)
  | _ =>
    refine gss_cons (gs_if (x := true) (gt_is (gt_w (gtw_or (y := true) (gt_not (gt_val (ge_isiD T.blt (gv_view (ge_var 0 rfl) hv) (ge_ty T.blt.at (by decide +kernel)) (.str hd)))) fun h => (by cases h))) (by simp)) (fun hc => gss_one (gs_retE ge_bl q)) (fun hc => by cases hc))
theorem ViewD.isI {G : Gs} {d d' : D} (h : ViewD G d' d) (q : d.isI = true) : d' = .int d.toI ∧ d = .int d.toI := by
  cases d with
  | int i => exact ⟨h.int, Eq.refl _⟩
  | _ => cases q
theorem has_is_make (T : Tx K mg) : HasF P w K mg base 2 "is_make" ["thing"] sp_is_make := by
  refine has_body T.d_is_make sc_is_make (fun ds G P PX h => ?_) (fun f cdv A outer s H E hr F0 R0 ds G PP PX h => ?_)
  · obtain ⟨_, _, rfl, _⟩ := h; rfl
  have nd := nd_is_make
  obtain ⟨d', d, rfl, hv, hd, q⟩ := h
  refine gss_one (gs_retE (ge_and (y := decide (1 ≤ d.toI) && decide (d.toI ≤ 999)) (ge_gw (gw_call (has_is_whole T) (gr_cons (ge_var 0 rfl) gr_nil) ⟨d', d, rfl, hv, hd, rfl, rfl⟩)) fun h => (ge_one (ge_chain (f := fun i j => decide (i ≤ j)) (f' := fun i j => decide (i ≤ j)) (fun _ => op_le) (fun _ => op_le) ge_int (ge_is (ge_var 0 rfl) (hv.isI h).1) (ge_globI T.c_MOST_MAKE)))) ?_)
  have e : (d.isI && (decide (1 ≤ d.toI) && decide (d.toI ≤ 999))) = d.make := by
    cases d <;> rfl
  rw [e]; exact q
theorem has_joined (T : Tx K mg) : HasF P w K mg base 1 "joined" ["one", "other"] sp_joined := by
  refine has_body T.d_joined sc_joined (fun ds G P PX h => ?_) (fun f cdv A outer s H E hr F0 R0 ds G PP PX h => ?_)
  · obtain ⟨_, _, _, _, rfl, _⟩ := h; rfl
  have nd := nd_joined
  obtain ⟨a, b, c, d, rfl, q⟩ := h
  refine gss_cons (gs_set 2 nd (ge_max T.blt (ge_ix (gv_ge (ge_var 0 rfl)) ge_int (.tup rfl)) (ge_ix (gv_ge (ge_var 1 rfl)) ge_int (.tup rfl))) ?_)
  refine gss_cons (gs_set 3 nd (ge_min T.blt (ge_ix (gv_ge (ge_var 0 rfl)) ge_int (.tup rfl)) (ge_ix (gv_ge (ge_var 1 rfl)) ge_int (.tup rfl))) ?_)
  refine gss_cons (gs_if (gt_cmp (gc_gt (ge_var 2 rfl) (ge_var 3 rfl))) (fun hc => ?_) (fun hc => ?_))
  · refine gss_one (gs_retE ge_non ?_)
    have e : joinedP a b c d = none := if_pos (by simpa using hc)
    rw [e] at q; exact q
  refine gss_nil (gss_one (gs_retE (ge_tup (gr_cons (ge_var 2 rfl) (gr_cons (ge_var 3 rfl) gr_nil))) ?_))
  have e : joinedP a b c d = some (max a c, min b d) := if_neg (by simpa using hc)
  rw [e] at q; exact q
theorem has_within (T : Tx K mg) : HasF P w K mg base 1 "within" ["make", "low", "high"] sp_within := by
  refine has_body T.d_within sc_within (fun ds G P PX h => ?_) (fun f cdv A outer s H E hr F0 R0 ds G PP PX h => ?_)
  · obtain ⟨_, _, _, rfl, _⟩ := h; rfl
  have nd := nd_within
  obtain ⟨m, lo, hi, rfl, q⟩ := h
  refine gss_one (gs_retE (ge_chain (f := fun i j => decide (i ≤ j)) (f' := fun i j => decide (i ≤ j)) (fun _ => op_le) (fun _ => op_le) (ge_var 1 rfl) (ge_var 0 rfl) (ge_var 2 rfl)) ?_)
  exact q
theorem seen_at {xs : List D} {x : D} (h : (D.tup xs).seen = true) (m : x ∈ xs) : x.isD = true ∧ x.fit = true := by
  have := List.all_eq_true.mp h x m
  simpa using this
theorem has_is_need (T : Tx K mg) : HasF P w K mg base 3 "is_need" ["thing"] sp_is_need := by
  refine has_body T.d_is_need sc_is_need (fun ds G P PX h => ?_) (fun f cdv A outer s H E hr F0 R0 ds G PP PX h => ?_)
  · obtain ⟨_, _, rfl, _⟩ := h; rfl
  have nd := nd_is_need
  obtain ⟨d', d, rfl, hv, hd, hs, q⟩ := h
  cases d with
  | tup xs =>
    cases hv.tup
    by_cases hl : xs.length = 3
    · obtain ⟨a, b, c, rfl⟩ : ∃ a b c, xs = [a, b, c] := by
        match xs, hl with
        | [a, b, c], _ => exact ⟨a, b, c, rfl⟩
      obtain ⟨a1, a2⟩ := seen_at (x := a) hs (by simp)
      obtain ⟨b1, b2⟩ := seen_at (x := b) hs (by simp)
      obtain ⟨c1, c2⟩ := seen_at (x := c) hs (by simp)
      refine gss_cons (gs_if (gt_w (gtw_or (gt_not (gt_val (ge_isiD T.blt (gv_ge (ge_var 0 rfl)) (ge_ty T.blt.at (by decide +kernel)) (.tup hd)))) fun _ => (gtw_or (gt_cmp (gc_neI (ge_len T.blt (gv_ge (ge_var 0 rfl)) .tup) ge_int)) fun _ => (gtw_or1 (gt_not (gt_val (ge_gw (gw_call (has_is_ware T) (gr_cons (ge_ix (gv_ge (ge_var 0 rfl)) ge_int (.tup rfl)) gr_nil) ⟨a, a, rfl, .rfl, a1, a2, rfl, rfl⟩)))))))) (fun hc => ?_) (fun hc => ?_))
      · refine gss_one (gs_retE ge_bl ?_)
        have e : (D.tup [a, b, c]).need = false := by
          have h1 : a.ware = false := by simpa [D.isTup] using hc
          show (a.ware && _) = false
          rw [h1]; rfl
        rw [e] at q; exact q
      · have h1 : a.ware = true := by simpa [D.isTup] using hc
        refine gss_nil (gss_one (gs_retE (ge_and (ge_gw (gw_call (has_is_make T) (gr_cons (ge_ix (gv_ge (ge_var 0 rfl)) ge_int (.tup rfl)) gr_nil) ⟨b, b, rfl, .rfl, b1, rfl, rfl⟩)) fun hb => (ge_and (y := decide (b.toI ≤ c.toI)) (ge_gw (gw_call (has_is_make T) (gr_cons (ge_ix (gv_ge (ge_var 0 rfl)) ge_int (.tup rfl)) gr_nil) ⟨c, c, rfl, .rfl, c1, rfl, rfl⟩)) fun hc' => (ge_one (ge_cmp (gc_le (i := b.toI) (j := c.toI) (ge_ix (gv_ge (ge_var 0 rfl)) ge_int (.tup ?_)) (ge_ix (gv_ge (ge_var 0 rfl)) ge_int (.tup ?_))))))) ?_))
        · cases b <;> first | (cases hb; done) | rfl
        · cases c <;> first | (cases hc'; done) | rfl
        · have e : (D.tup [a, b, c]).need = (b.make && (c.make && decide (b.toI ≤ c.toI))) := by
            show (a.ware && _) = _
            rw [h1]; rfl
          rw [e] at q; exact q
    · have e : (D.tup xs).need = false := by
        match xs, hl with
        | [], _ => rfl
        | [_], _ => rfl
        | [_, _], _ => rfl
        | [_, _, _], h => exact absurd rfl h
        | _ :: _ :: _ :: _ :: _, _ => rfl
      rw [e] at q
      refine gss_cons (gs_if (x := true) (gt_is (gt_w (gtw_or (gt_not (gt_val (ge_isiD T.blt (gv_ge (ge_var 0 rfl)) (ge_ty T.blt.at (by decide +kernel)) (.tup hd)))) fun _ => (gtw_or (y := true) (gt_cmp (gc_neI (ge_len T.blt (gv_ge (ge_var 0 rfl)) .tup) ge_int)) fun h => absurd h ?_))) ?_) (fun hc => gss_one (gs_retE ge_bl q)) (fun hc => by cases hc))
      · simp; omega
      · simp
  | _ =>
    refine gss_cons (gs_if (x := true) (gt_is (gt_w (gtw_or (y := true) (gt_not (gt_val (ge_isiD T.blt (gv_view (ge_var 0 rfl) hv) (ge_ty T.blt.at (by decide +kernel)) (.tup hd)))) fun h => (by cases h))) (by simp)) (fun hc => gss_one (gs_retE ge_bl q)) (fun hc => by cases hc))
end
end Gh
end

section
set_option Elab.async false
set_option linter.all false
set_option maxRecDepth 100000
set_option maxHeartbeats 4000000
namespace Gh
open PySem PySem.Spec PyProof.Rows L2
/-! the helpers of law_k01 -/
def cellAt (ns : List Int) (k : Int) : Int := if k < ns.length then ns.getD k.toNat 0 else 0
def sp_cell : GSp := fun ds G PP _ => ∃ (ns : List Int) (k : Int), ds = [.lst (ns.map .int), .int k] ∧ 0 ≤ k ∧ PP (.int (cellAt ns k)) G
def lowOf (c o : Int) : Int := if c / 999 % 2 = 1 then max 1 (min 999 (o + c % 5 - 2)) else 1 + c % 999
theorem lowOf_bd (c o : Int) : 1 ≤ lowOf c o ∧ lowOf c o ≤ 999 := by unfold lowOf; split <;> omega
def sp_pair : GSp := fun ds G PP _ => ∃ (c o : Int), ds = [.int c, .int o] ∧ PP (pairD (lowOf c o) (lowOf c o + c / 2000 % (1000 - lowOf c o))) G
def sp_same : GSp := fun ds G PP _ => ∃ o : Option (Int × Int), ds = [encPair o, encPair o] ∧ PP (.bl true) G
def wordOf (c : Int) : Str := mkS ((List.range (c % 10).toNat).map fun i : Nat => 97 + ((c / 10 + 7 * (i : Int)) % 26).toNat)
def sp_word : GSp := fun ds G PP _ => ∃ c : Int, ds = [.int c] ∧ PP (.str (wordOf c)) G
theorem wordOf_len (c : Int) : (wordOf c).length < 10 := by
  rw [cs_len]
  unfold wordOf
  rw [cs_mk, List.length_map, List.length_range]
  omega
theorem wordOf_small (c : Int) : ∀ x ∈ cs (wordOf c), x < 1000 := by
  intro x hx
  unfold wordOf at hx
  rw [cs_mk, List.mem_map] at hx
  obtain ⟨i, _, rfl⟩ := hx
  omega
def D.good (d : D) : Bool := d.isD && (d.fit && d.seen)
def sp_thing : GSp := fun ds G PP _ => ∃ c : Int, ds = [.int c] ∧ ∀ d : D, d.good = true → PP d G
def sp_isword : GSp := fun ds G PP _ => ∃ d : D, ds = [d] ∧ d.isD = true ∧ d.fit = true ∧ PP (.bl d.ware) G
def sp_isnum : GSp := fun ds G PP _ => ∃ d : D, ds = [d] ∧ d.isD = true ∧ PP (.bl d.make) G
def sp_isneed : GSp := fun ds G PP _ => ∃ d : D, ds = [d] ∧ d.isD = true ∧ d.seen = true ∧ PP (.bl d.need) G
section
variable {P : Program} {w : World} {K : PySem.W.Frag} {mg : Str → Option Value} {base : Heap}
theorem has_cell (T : Tx K mg) : HasF P w K mg base 1 "_law_cell_at" ["_law_script", "_law_k"] sp_cell := by
  refine has_body T.d__law_cell_at sc__law_cell_at (fun ds G P PX h => ?_) (fun f cdv A outer s H E hr F0 R0 ds G PP PX h => ?_)
  · obtain ⟨_, _, rfl, _⟩ := h; rfl
  have nd := nd__law_cell_at
  obtain ⟨ns, k, rfl, hk, q⟩ := h
  refine gss_cons (gs_if (gt_cmp (gc_lt (ge_var 1 rfl) (ge_len T.blt (gv_ge (ge_var 0 rfl)) .lst))) (fun hc => ?_) (fun hc => ?_))
  · have hc' : k < ns.length := by simpa using hc
    have e : cellAt ns k = ns.getD k.toNat 0 := if_pos hc'
    obtain ⟨n, rfl⟩ : ∃ n : Nat, k = n := ⟨k.toNat, by omega⟩
    have hn : n < ns.length := by omega
    refine gss_one (gs_retE (ge_ix (gv_ge (ge_var 0 rfl)) (ge_var 1 rfl) (.lst (atI_nat (v := .int ns[n]) (by simp [hn])))) ?_)
    rw [e] at q
    have e2 : ns.getD (n : Int).toNat 0 = ns[n] := by simp [List.getD, hn]
    rw [e2] at q; exact q
  · have e : cellAt ns k = 0 := if_neg (by simpa using hc)
    rw [e] at q
    exact gss_nil (gss_one (gs_retE ge_int q))
theorem has_pair (T : Tx K mg) : HasF P w K mg base 1 "_law_pair" ["_law_cell", "_law_other"] sp_pair := by
  refine has_body T.d__law_pair sc__law_pair (fun ds G P PX h => ?_) (fun f cdv A outer s H E hr F0 R0 ds G PP PX h => ?_)
  · obtain ⟨_, _, rfl, _⟩ := h; rfl
  have nd := nd__law_pair
  obtain ⟨c, o, rfl, q⟩ := h
  refine gss_cons (gs_set 2 nd (ge_add ge_int (ge_mod (ge_var 0 rfl) ge_int (by decide))) ?_)
  refine gss_cut (fun ρ' G' => ρ' = [.dat (.int c), .dat (.int o), .dat (.int (lowOf c o))] ∧ G' = G) (gs_if (gt_cmp (gc_eqI (ge_mod (ge_fdiv (ge_var 0 rfl) ge_int ⟨by decide, by decide⟩) ge_int (by decide)) ge_int)) (fun hc => ?_) (fun hc => ?_)) (fun ρ' G' h => ?_)
  · refine gss_one (gs_set 2 nd (ge_max T.blt ge_int (ge_min T.blt ge_int (ge_sub (ge_add (ge_var 1 rfl) (ge_mod (ge_var 0 rfl) ge_int (by decide))) ge_int))) ⟨?_, rfl⟩)
    have e : lowOf c o = max 1 (min 999 (o + c % 5 - 2)) := if_pos (by simpa using hc)
    rw [e]; rfl
  · refine gss_nil ⟨?_, rfl⟩
    have e : lowOf c o = 1 + c % 999 := if_neg (by simpa using hc)
    rw [e]; rfl
  · obtain ⟨rfl, rfl⟩ := h
    have hb := lowOf_bd c o
    exact gss_one (gs_retE (ge_tup (gr_cons (ge_var 2 rfl) (gr_cons (ge_add (ge_var 2 rfl) (ge_mod (ge_fdiv (ge_var 0 rfl) ge_int ⟨by decide, by decide⟩) (ge_sub ge_int (ge_var 2 rfl)) (by omega))) gr_nil))) q)
theorem has_same (T : Tx K mg) : HasF P w K mg base 1 "_law_same" ["_law_found", "_law_due"] sp_same := by
  refine has_body T.d__law_same sc__law_same (fun ds G P PX h => ?_) (fun f cdv A outer s H E hr F0 R0 ds G PP PX h => ?_)
  · obtain ⟨_, rfl, _⟩ := h; rfl
  have nd := nd__law_same
  obtain ⟨o, rfl, q⟩ := h
  cases o with
  | none =>
    exact gss_cons (gs_if (gt_cmp (gc_isN (gv_ge (ge_var 1 rfl)))) (fun hc => gss_one (gs_retE (ge_cmp (gc_isN (gv_ge (ge_var 0 rfl)))) q)) (fun hc => by cases hc))
  | some p =>
    have hok : D.ok 64 (pairD p.1 p.2) = true := by simp [pairD, D.ok_tup, D.oks_cons, D.oks_nil, D.ok_int]
    have heq : D.eqv (pairD p.1 p.2) (pairD p.1 p.2) = true := by
      simp [D.eqv, pairD, D.toP, D.toPs, PyData.eqv, PyData.eqvAll]
    refine gss_cons (gs_if (gt_cmp (gc_isN (gv_ge (ge_var 1 rfl)))) (fun hc => by cases hc) (fun hc => gss_nil ?_))
    refine gss_cons (gs_if (gt_w (gtw_or (gt_not (gt_val (ge_isiD T.blt (gv_ge (ge_var 0 rfl)) (ge_ty T.blt.at (by decide +kernel)) (.tup rfl)))) fun _ => (gtw_or (gt_cmp (gc_neI (ge_len T.blt (gv_ge (ge_var 0 rfl)) .tup) ge_int)) fun _ => (gtw_or1 (gt_cmp (gc_neD (gv_ge (ge_var 0 rfl)) (gv_ge (ge_var 1 rfl)) hok hok)))))) (fun hc => ?_) (fun hc => ?_))
    · exfalso
      have : (!D.eqv (pairD p.1 p.2) (pairD p.1 p.2)) = true := hc
      rw [heq] at this; cases this
    · exact gss_nil (gss_one (gs_retE (ge_and (ge_not (ge_isiD T.blt (gv_ge (ge_ix (gv_ge (ge_var 0 rfl)) ge_int (.tup rfl))) (ge_ty T.blt.at (by decide +kernel)) (.bl rfl))) fun _ => (ge_one (ge_not (ge_isiD T.blt (gv_ge (ge_ix (gv_ge (ge_var 0 rfl)) ge_int (.tup rfl))) (ge_ty T.blt.at (by decide +kernel)) (.bl rfl))))) q))
theorem has_word (T : Tx K mg) : HasF P w K mg base 1 "_law_word" ["_law_cell"] sp_word := by
  refine has_body T.d__law_word sc__law_word (fun ds G P PX h => ?_) (fun f cdv A outer s H E hr F0 R0 ds G PP PX h => ?_)
  · obtain ⟨_, rfl, _⟩ := h; rfl
  have nd := nd__law_word
  obtain ⟨c, rfl, q⟩ := h
  refine gss_cons (gs_set 1 nd ge_str ?_)
  have hn : (List.range (c % 10).toNat).length < 10 := by rw [List.length_range]; omega
  have el := joinSigns_len (fun i : Nat => 97 + ((c / 10 + 7 * (i : Int)) % 26).toNat) (List.range (c % 10).toNat) (by omega)
  refine gss_one (gs_retE (ge_join (ys := (List.range (c % 10).toNat).map fun i : Nat => (⟨#[97 + ((c / 10 + 7 * (i : Int)) % 26).toNat]⟩ : Str)) ge_str (gv_ge (ge_is (ge_n (gn_lc (ys := List.range (c % 10).toNat) (enc := fun i => .int (0 + (i : Nat))) (f := fun i => .str ⟨#[97 + ((c / 10 + 7 * (i : Int)) % 26).toNat]⟩) [("_law_j", 2)] nd (gic (gi_range1 T.blt (ge_mod (ge_var 0 rfl) ge_int (by decide)) ⟨by omega, by omega⟩) trivial) (blkOk_by (N := N__law_word) (sc := defScope s__law_word) (by decide +kernel)) (fun y hy => gg_name 2 nd) (by decide) (fun y hy => (ge_ix (gv_ge (ge_var 1 rfl)) (ge_mod (ge_add (ge_fdiv (ge_var 0 rfl) ge_int ⟨by decide, by decide⟩) (ge_mul ge_int (ge_var 2 rfl) (.inl ⟨by decide, by decide⟩))) ge_int (by decide)) (.str (by rw [alphabet_len]; decide) ?_))) (by omega) ?_)) ?_)) ?_) ?_)
  · rw [alphabet_at (Int.emod_nonneg _ (by decide)) (Int.emod_lt_of_pos _ (by decide)), Int.zero_add]
  · rintro j hj ⟨x, e1, e2⟩
    have : j = 2 := by simpa using hj
    subst this
    cases e1; cases e2
  · rw [List.map_map]; rfl
  · exact el
  · have e : Txt.join ("" : Str) ((List.range (c % 10).toNat).map fun i : Nat => (⟨#[97 + ((c / 10 + 7 * (i : Int)) % 26).toNat]⟩ : Str)) = wordOf c := by
      apply cs_inj
      rw [cs_joinSigns]; rfl
    rw [e]; exact q
end
end Gh
end

section
set_option Elab.async false
set_option linter.all false
set_option maxRecDepth 100000
set_option maxHeartbeats 8000000
namespace Gh
open PySem PySem.Spec PyProof.Rows L2
theorem isD_str {x : Str} : (D.str x).isD = true := rfl
def fitS (x : Str) : Prop := x.length ≤ 100000 ∧ PyData.strOk x = true
theorem fit_str {x : Str} (h : fitS x) : (D.str x).fit = true := by simp [D.fit, h.1, h.2]
theorem seen_tup {xs : List D} (h : ∀ x ∈ xs, x.isD = true ∧ x.fit = true) : (D.tup xs).seen = true := by
  show (xs.all fun x => x.isD && x.fit) = true
  refine List.all_eq_true.mpr fun x hx => ?_
  rw [(h x hx).1, (h x hx).2]; rfl
/-- the eighteen things -/
def things (w w2 ns : Str) (n : Int) : List D :=
  [.str w, .str w2, .int n, .bl true, .str ns, .lst [.str w], .non, .tup [.str w, .int n, .int n]] ++ [.tup [.str w, .int 3, .int n], .tup [.str w, .int n, .int 3], .tup [.str w, .int 2], .lst [.str w, .int 2, .int 3], .tup [.str w, .int 1, .bl true], .tup [.int 5, .int 1, .int 2]] ++
    [.tup [.lst [.str w], .int 1, .int n], .tup [.tup [.str w], .int 1, .int 2], .tup [.str w, .lst [.int 1], .int 2], .tup [.str w, .int 1, .tup [.int 2]]]
theorem things_good {w w2 ns : Str} {n : Int} (h : fitS w) (h2 : fitS w2) (h3 : fitS ns) : ∀ d ∈ things w w2 ns n, d.good = true := by
  intro d hd
  have f1 := fit_str h
  have f2 := fit_str h2
  have f3 := fit_str h3
  have i0 : ∀ i, (D.int i).fit = true := fun _ => rfl
  simp only [things, List.mem_append, List.mem_cons, List.not_mem_nil, or_false, or_assoc] at hd
  rcases hd with rfl | rfl | rfl | rfl | rfl | rfl | rfl | rfl | rfl | rfl | rfl | rfl | rfl | rfl | rfl | rfl | rfl | rfl <;> simp [D.good, D.isD, D.seen, f1, f2, f3, i0] <;> simp [D.fit]
theorem small_fit {x : Str} (h : x.length ≤ 1000) (h2 : ∀ c ∈ cs x, c < 1000) : fitS x := ⟨by omega, strOk_small h2⟩
theorem num_small (i : Int) (h : -1 ≤ i ∧ i ≤ 2000) : fitS (toString i : Str) := by
  by_cases h0 : i = -1
  · subst h0
    exact ⟨by decide +kernel, by decide +kernel⟩
  · obtain ⟨n, rfl⟩ : ∃ n : Nat, i = n := ⟨i.toNat, by omega⟩
    have e : cs (Str.ofString (toString ((n : Nat) : Int))) = TL.numL n := TL.tl_num n
    refine small_fit ?_ ?_
    · rw [cs_len, e]
      have := TL.numL_len (n := n) (k := 4) (by decide) (by omega)
      omega
    · intro c hc
      rw [e] at hc
      have := TL.numL_digits n c hc
      omega
section
variable {P : Program} {w : World} {K : PySem.W.Frag} {mg : Str → Option Value} {base : Heap}
theorem has_isnum (T : Tx K mg) : HasF P w K mg base 1 "_law_is_number" ["_law_thing_here"] sp_isnum := by
  refine has_body T.d__law_is_number sc__law_is_number (fun ds G P PX h => ?_) (fun f cdv A outer s H E hr F0 R0 ds G PP PX h => ?_)
  · obtain ⟨_, rfl, _⟩ := h; rfl
  have nd := nd__law_is_number
  obtain ⟨d, rfl, hd, q⟩ := h
  refine gss_one (gs_retE (ge_and (y := !d.isBl && (decide (0 < d.toI) && decide (d.toI < 1000))) (ge_isiD T.blt (gv_ge (ge_var 0 rfl)) (ge_ty T.blt.at (by decide +kernel)) (.int hd)) fun h1 => (ge_and (y := decide (0 < d.toI) && decide (d.toI < 1000)) (ge_not (ge_isiD T.blt (gv_ge (ge_var 0 rfl)) (ge_ty T.blt.at (by decide +kernel)) (.bl hd))) fun h2 => (ge_one (ge_chain (f := fun i j => decide (i < j)) (f' := fun i j => decide (i < j)) (fun _ => op_lt) (fun _ => op_lt) ge_int (ge_is (ge_var 0 rfl) ?_) ge_int)))) ?_)
  · cases d <;> first | rfl | (cases h1; done) | (cases h2; done)
  · have e : (d.isInt && (!d.isBl && (decide (0 < d.toI) && decide (d.toI < 1000)))) = d.make := by
      cases d with
      | int i =>
        show (true && (true && (decide (0 < i) && decide (i < 1000)))) = (decide (1 ≤ i) && decide (i ≤ 999))
        rw [Bool.true_and, Bool.true_and]
        congr 1 <;> exact decide_eq_decide.mpr (by omega)
      | _ => rfl
    rw [e]; exact q
theorem le_a (c : Nat) : leS "a" ⟨#[c]⟩ = decide (97 ≤ c) := by
  have e : ((Str.ofString "a").cps.toList) = [97] := by decide +kernel
  show (!decide ((⟨#[c]⟩ : Str).cps.toList < (Str.ofString "a").cps.toList)) = _
  rw [e]
  show (!decide ([c] < [97])) = _
  by_cases h : c < 97
  · rw [decide_eq_true (show [c] < [97] by simp [List.cons_lt_cons_iff, h]), decide_eq_false (by omega)]; rfl
  · rw [decide_eq_false (show ¬ [c] < [97] by simp [List.cons_lt_cons_iff]; omega), decide_eq_true (by omega)]; rfl
theorem le_z (c : Nat) : leS ⟨#[c]⟩ "z" = decide (c ≤ 122) := by
  have e : ((Str.ofString "z").cps.toList) = [122] := by decide +kernel
  show (!decide ((Str.ofString "z").cps.toList < (⟨#[c]⟩ : Str).cps.toList)) = _
  rw [e]
  show (!decide ([122] < [c])) = _
  by_cases h : 122 < c
  · rw [decide_eq_true (show [122] < [c] by simp [List.cons_lt_cons_iff, h]), decide_eq_false (by omega)]; rfl
  · rw [decide_eq_false (show ¬ [122] < [c] by simp [List.cons_lt_cons_iff]; omega), decide_eq_true (by omega)]; rfl
theorem eqv_nil (ds : List D) : D.eqv (.lst ds) (.lst []) = ds.isEmpty := by
  cases ds with
  | nil => rfl
  | cons d ds => simp [D.eqv, D.toP, D.toPs, PyData.eqv, PyData.eqvAll]
theorem has_isword (T : Tx K mg) : HasF P w K mg base 1 "_law_is_word" ["_law_thing_here"] sp_isword := by
  refine has_body T.d__law_is_word sc__law_is_word (fun ds G P PX h => ?_) (fun f cdv A outer s H E hr F0 R0 ds G PP PX h => ?_)
  · obtain ⟨_, rfl, _⟩ := h; rfl
  have nd := nd__law_is_word
  obtain ⟨d, rfl, hd, hf, q⟩ := h
  cases d with
  | str x =>
    have hx : x.length ≤ 100000 ∧ PyData.strOk x = true := by simpa [D.fit] using hf
    refine gss_cons (gs_if (gt_w (gtw_or (gt_not (gt_val (ge_isiD T.blt (gv_ge (ge_var 0 rfl)) (ge_ty T.blt.at (by decide +kernel)) (.str hd)))) fun _ => (gtw_or (gt_cmp (gc_lt (ge_len T.blt (gv_ge (ge_var 0 rfl)) (.str (fit_line hx.1))) ge_int)) fun _ => (gtw_or1 (gt_cmp (gc_gt (ge_len T.blt (gv_ge (ge_var 0 rfl)) (.str (fit_line hx.1))) ge_int)))))) (fun hc => ?_) (fun hc => ?_))
    · refine gss_one (gs_retE ge_bl ?_)
      have e : D.ware (.str x) = false := by
        have h1 : ¬ (1 ≤ x.length ∧ x.length ≤ 8) := fun z => by
          obtain ⟨z1, z2⟩ := z
          simp [D.isStr] at hc
          omega
        show wareS x = false
        unfold wareS
        rw [decide_eq_false h1]; rfl
      rw [e] at q; exact q
    · have h1 : 1 ≤ x.length ∧ x.length ≤ 8 := by
        simp [D.isStr] at hc
        omega
      refine gss_nil (gss_one (gs_retE (ge_cmp (gc_eqD (gv_ge (ge_n (gn_lcIf (ys := x.cps.toList) (enc := fun c => .str ⟨#[c]⟩) (f := fun c => .str ⟨#[c]⟩) (pr := fun c => !letter c) [("_law_sign", 1)] nd (gic (gi_str (ge_var 0 rfl)) trivial) (blkOk_by (N := N__law_is_word) (sc := defScope s__law_is_word) (by decide +kernel)) (fun y hy => gg_name 1 nd) (by decide) (fun y hy => (gt_is (gt_not (gt_chainLeS ge_str (ge_var 1 rfl) ge_str)) ?_)) (fun y hy _ => (ge_var 1 rfl)) ?_ ?_))) (gv_ge (ge_n (gn_lst gr_nil))) ?_ ?_)) ?_))
      · rw [le_a, le_z, ← Bool.decide_and]; rfl
      · have := cs_len x
        show (cs x).length < 100000
        omega
      · rintro j hj ⟨y, e1, e2⟩
        have : j = 1 := by simpa using hj
        subst this
        cases e1; cases e2
      · rw [D.ok_lst]
        refine D.oks_map fun c hc => D.ok_str ?_
        have h2 : c ∈ cs x := (List.mem_filter.mp hc).1
        have h3 := hx.2
        rw [strOk_cs] at h3 ⊢
        have := List.all_eq_true.mp h3 c h2
        simpa [cs_sign] using this
      · rw [D.ok_lst]; exact D.oks_nil
      · rw [eqv_nil]
        have e : D.ware (.str x) = (List.map (fun c => D.str ⟨#[c]⟩) (List.filter (fun c => !letter c) x.cps.toList)).isEmpty := by
          show wareS x = _
          unfold wareS
          rw [decide_eq_true h1, Bool.true_and]
          rw [Bool.eq_iff_iff, List.isEmpty_iff, List.map_eq_nil_iff, List.filter_eq_nil_iff, List.all_eq_true]
          simp
        rw [← e]; exact q
  | _ =>
    refine gss_cons (gs_if (x := true) (gt_is (gt_w (gtw_or (y := true) (gt_not (gt_val (ge_isiD T.blt (gv_ge (ge_var 0 rfl)) (ge_ty T.blt.at (by decide +kernel)) (.str hd)))) fun h => (by cases h))) (by simp)) (fun hc => gss_one (gs_retE ge_bl q)) (fun hc => by cases hc))
theorem has_isneed (T : Tx K mg) : HasF P w K mg base 2 "_law_is_need" ["_law_thing_here"] sp_isneed := by
  refine has_body T.d__law_is_need sc__law_is_need (fun ds G P PX h => ?_) (fun f cdv A outer s H E hr F0 R0 ds G PP PX h => ?_)
  · obtain ⟨_, rfl, _⟩ := h; rfl
  have nd := nd__law_is_need
  obtain ⟨d, rfl, hd, hs, q⟩ := h
  cases d with
  | tup xs =>
    refine gss_cons (gs_if (gt_w (gtw_or (gt_not (gt_val (ge_isiD T.blt (gv_ge (ge_var 0 rfl)) (ge_ty T.blt.at (by decide +kernel)) (.tup hd)))) fun _ => (gtw_or1 (gt_cmp (gc_neI (ge_len T.blt (gv_ge (ge_var 0 rfl)) .tup) ge_int))))) (fun hc => ?_) (fun hc => ?_))
    · have hl : xs.length ≠ 3 := by simp [D.isTup] at hc; omega
      have e : (D.tup xs).need = false := by
        match xs, hl with
        | [], _ => rfl
        | [_], _ => rfl
        | [_, _], _ => rfl
        | [_, _, _], h => exact absurd rfl h
        | _ :: _ :: _ :: _ :: _, _ => rfl
      rw [e] at q
      exact gss_one (gs_retE ge_bl q)
    · have hl : xs.length = 3 := by simp [D.isTup] at hc; omega
      obtain ⟨a, b, c, rfl⟩ : ∃ a b c, xs = [a, b, c] := by
        match xs, hl with
        | [a, b, c], _ => exact ⟨a, b, c, rfl⟩
      obtain ⟨a1, a2⟩ := seen_at (x := a) hs (by simp)
      obtain ⟨b1, b2⟩ := seen_at (x := b) hs (by simp)
      obtain ⟨c1, c2⟩ := seen_at (x := c) hs (by simp)
      refine gss_nil (gss_cons (gs_set 1 nd (ge_and (ge_gw (gw_call (has_isword T) (gr_cons (ge_ix (gv_ge (ge_var 0 rfl)) ge_int (.tup rfl)) gr_nil) ⟨a, rfl, a1, a2, rfl, rfl⟩)) fun _ => (ge_and (ge_gw (gw_call (has_isnum T) (gr_cons (ge_ix (gv_ge (ge_var 0 rfl)) ge_int (.tup rfl)) gr_nil) ⟨b, rfl, b1, rfl, rfl⟩)) fun _ => (ge_one (ge_gw (gw_call (has_isnum T) (gr_cons (ge_ix (gv_ge (ge_var 0 rfl)) ge_int (.tup rfl)) gr_nil) ⟨c, rfl, c1, rfl, rfl⟩))))) ?_))
      refine gss_one (gs_retE (ge_and (y := decide (b.toI ≤ c.toI)) (ge_var 1 rfl) fun hh => (ge_one (ge_cmp (gc_le (i := b.toI) (j := c.toI) (ge_ix (gv_ge (ge_var 0 rfl)) ge_int (.tup ?_)) (ge_ix (gv_ge (ge_var 0 rfl)) ge_int (.tup ?_)))))) ?_)
      · have hb : b.make = true := by simp at hh; exact hh.2.1
        cases b <;> first | (cases hb; done) | rfl
      · have hc' : c.make = true := by simp at hh; exact hh.2.2
        cases c <;> first | (cases hc'; done) | rfl
      · have e : (D.tup [a, b, c]).need = ((a.ware && (b.make && c.make)) && decide (b.toI ≤ c.toI)) := by
          show (a.ware && (b.make && (c.make && decide (b.toI ≤ c.toI)))) = _
          rw [Bool.and_assoc, Bool.and_assoc]
        rw [e] at q; exact q
  | _ =>
    refine gss_cons (gs_if (x := true) (gt_is (gt_w (gtw_or (y := true) (gt_not (gt_val (ge_isiD T.blt (gv_ge (ge_var 0 rfl)) (ge_ty T.blt.at (by decide +kernel)) (.tup hd)))) fun h => (by cases h))) (by simp)) (fun hc => gss_one (gs_retE ge_bl q)) (fun hc => by cases hc))
end
end Gh
end

section
set_option Elab.async false
set_option linter.all false
set_option maxRecDepth 100000
set_option maxHeartbeats 8000000
namespace Gh
open PySem PySem.Spec PyProof.Rows L2
theorem oddsigns : ((Str.ofString "AZ09 _-.~\n").cps.toList) = [65, 90, 48, 57, 32, 95, 45, 46, 126, 10] := by decide +kernel
theorem odd_at (i : Int) : ∃ c, atI (Str.ofString "AZ09 _-.~\n").cps.toList (i % 10) = some c ∧ c < 1000 := by
  rw [oddsigns]
  obtain ⟨c, h1, h2⟩ := at_mod (xs := [65, 90, 48, 57, 32, 95, 45, 46, 126, 10]) (i := i) (m := 10) rfl (by decide)
  refine ⟨c, h1, ?_⟩
  simp only [List.mem_cons, List.not_mem_nil, or_false] at h2
  omega
/-- a word with a sign put in -/
theorem put_fit {w : Str} {c : Nat} {k : Nat} (h : w.length < 10) (h2 : ∀ x ∈ cs w, x < 1000) (hc : c < 1000) : fitS (cutS w none (some (k : Int)) ++ ⟨#[c]⟩ ++ cutS w (some (k : Int)) none) := by
  have e : cs (cutS w none (some (k : Int)) ++ ⟨#[c]⟩ ++ cutS w (some (k : Int)) none) = (cs w).take k ++ [c] ++ (cs w).drop k := by
    rw [cs_app, cs_app, cs_cut_to, cs_cut_from, cs_sign]
  rw [cs_len] at h
  refine small_fit ?_ ?_
  · rw [cs_len, e]
    simp only [List.length_append, List.length_take, List.length_drop, List.length_singleton]
    omega
  · rw [e]
    intro x hx
    simp only [List.mem_append, List.mem_singleton] at hx
    rcases hx with (hx | hx) | hx
    · exact h2 x (List.mem_of_mem_take hx)
    · rw [hx]; exact hc
    · exact h2 x (List.mem_of_mem_drop hx)
section
variable {P : Program} {w : World} {K : PySem.W.Frag} {mg : Str → Option Value} {base : Heap}
theorem has_thing (T : Tx K mg) : HasF P w K mg base 2 "_law_thing" ["_law_cell"] sp_thing := by
  refine has_body T.d__law_thing sc__law_thing (fun ds G P PX h => ?_) (fun f cdv A outer s H E hr F0 R0 ds G PP PX h => ?_)
  · obtain ⟨_, rfl, _⟩ := h; rfl
  have nd := nd__law_thing
  obtain ⟨c, rfl, q⟩ := h
  have hl := wordOf_len (c / 12)
  have hsm := wordOf_small (c / 12)
  refine gss_cons (gs_set 1 nd (ge_gw (gw_call (has_word T) (gr_cons (ge_fdiv (ge_var 0 rfl) ge_int ⟨by decide, by decide⟩) gr_nil) ⟨c / 12, rfl, rfl, rfl⟩)) ?_)
  obtain ⟨nd0, hn1, hn2⟩ := at_mod (xs := [D.int 0, D.int 1, D.int 999, D.int 1000, D.int (-1), D.int (c / 12 % 1003 - 1)]) (i := c / 144) (m := 6) rfl (by decide)
  obtain ⟨n, rfl, hn⟩ : ∃ n : Int, nd0 = .int n ∧ -1 ≤ n ∧ n ≤ 2000 := by
    simp only [List.mem_cons, List.not_mem_nil, or_false] at hn2
    rcases hn2 with rfl | rfl | rfl | rfl | rfl | rfl <;> exact ⟨_, rfl, by omega, by omega⟩
  refine gss_cons (gs_set 2 nd (ge_ix (gv_ge (ge_n (gn_lst (gr_cons ge_int (gr_cons ge_int (gr_cons ge_int (gr_cons ge_int (gr_cons (ge_neg ge_int) (gr_cons (ge_sub (ge_mod (ge_fdiv (ge_var 0 rfl) ge_int ⟨by decide, by decide⟩) ge_int (by decide)) ge_int) gr_nil))))))))) (ge_mod (ge_fdiv (ge_var 0 rfl) ge_int ⟨by decide, by decide⟩) ge_int (by decide)) (.lst hn1)) ?_)
  refine gss_cons (gs_set 3 nd (ge_mod (ge_fdiv (ge_var 0 rfl) ge_int ⟨by decide, by decide⟩) (ge_add (ge_len T.blt (gv_ge (ge_var 1 rfl)) (.str (fit_line (by omega)))) ge_int) (by omega)) ?_)
  obtain ⟨s, hs1, hs2⟩ := odd_at (c / 120)
  refine gss_cons (gs_set 4 nd (ge_ix (gv_ge ge_str) (ge_mod (ge_fdiv (ge_var 0 rfl) ge_int ⟨by decide, by decide⟩) ge_int (by decide)) (.str (by decide +kernel) hs1)) ?_)
  obtain ⟨k, hk⟩ : ∃ k : Nat, c / 12 % ((wordOf (c / 12)).length + 1 : Int) = k := ⟨_, (Int.toNat_of_nonneg (Int.emod_nonneg _ (by omega))).symm⟩
  have f2 := put_fit (k := k) hl hsm hs2
  have fn := num_small n hn
  have L1 : (cutS (wordOf (c / 12)) none (some (k : Int))).length ≤ (wordOf (c / 12)).length := cutS_length _ _ _
  have L2 : (cutS (wordOf (c / 12)) (some (k : Int)) none).length ≤ (wordOf (c / 12)).length := cutS_length _ _ _
  have Ls : (⟨#[s]⟩ : Str).length = 1 := rfl
  rw [hk]
  refine gss_cons (gs_set 5 nd (ge_n (gn_lst (gr_cons (ge_var 1 rfl) (gr_cons (ge_addD (gv_ge (ge_addD (gv_ge (ge_sliceS (ge_var 1 rfl) go_none (go_some (ge_var 3 rfl)) (fit_line (by omega)))) (gv_ge (ge_var 4 rfl)) (.str (fit_line (by omega))))) (gv_ge (ge_sliceS (ge_var 1 rfl) (go_some (ge_var 3 rfl)) go_none (fit_line (by omega)))) (.str (fit_line (by rw [len_app]; omega)))) (gr_cons (ge_var 2 rfl) (gr_cons ge_bl (gr_cons (ge_strI T.blt (ge_var 2 rfl) ?_) (gr_cons (ge_n (gn_lst (gr_cons (ge_var 1 rfl) gr_nil))) (gr_cons ge_non (gr_cons (ge_tup (gr_cons (ge_var 1 rfl) (gr_cons (ge_var 2 rfl) (gr_cons (ge_var 2 rfl) gr_nil)))) gr_nil)))))))))) ?_)
  · have : n.natAbs < 2 ^ 12 := by omega
    by_cases h0 : n.natAbs = 0
    · rw [h0]; decide
    · have := (Nat.log2_lt h0).mpr this
      omega
  refine gss_cons (gs_set 5 nd (ge_addD (gv_ge (ge_var 5 rfl)) (gv_ge (ge_n (gn_lst (gr_cons (ge_tup (gr_cons (ge_var 1 rfl) (gr_cons ge_int (gr_cons (ge_var 2 rfl) gr_nil)))) (gr_cons (ge_tup (gr_cons (ge_var 1 rfl) (gr_cons (ge_var 2 rfl) (gr_cons ge_int gr_nil)))) (gr_cons (ge_tup (gr_cons (ge_var 1 rfl) (gr_cons ge_int gr_nil))) (gr_cons (ge_n (gn_lst (gr_cons (ge_var 1 rfl) (gr_cons ge_int (gr_cons ge_int gr_nil))))) (gr_cons (ge_tup (gr_cons (ge_var 1 rfl) (gr_cons ge_int (gr_cons ge_bl gr_nil)))) (gr_cons (ge_tup (gr_cons ge_int (gr_cons ge_int (gr_cons ge_int gr_nil)))) gr_nil))))))))) (.lst (Nat.le_of_ble_eq_true rfl))) ?_)
  refine gss_cons (gs_set 5 nd (ge_addD (gv_ge (ge_var 5 rfl)) (gv_ge (ge_n (gn_lst (gr_cons (ge_tup (gr_cons (ge_n (gn_lst (gr_cons (ge_var 1 rfl) gr_nil))) (gr_cons ge_int (gr_cons (ge_var 2 rfl) gr_nil)))) (gr_cons (ge_tup (gr_cons (ge_tup (gr_cons (ge_var 1 rfl) gr_nil)) (gr_cons ge_int (gr_cons ge_int gr_nil)))) (gr_cons (ge_tup (gr_cons (ge_var 1 rfl) (gr_cons (ge_n (gn_lst (gr_cons ge_int gr_nil))) (gr_cons ge_int gr_nil)))) (gr_cons (ge_tup (gr_cons (ge_var 1 rfl) (gr_cons ge_int (gr_cons (ge_tup (gr_cons ge_int gr_nil)) gr_nil)))) gr_nil))))))) (.lst (Nat.le_of_ble_eq_true rfl))) ?_)
  obtain ⟨d, hd1, hd2⟩ := at_mod (xs := things (wordOf (c / 12)) (cutS (wordOf (c / 12)) none (some (k : Int)) ++ ⟨#[s]⟩ ++ cutS (wordOf (c / 12)) (some (k : Int)) none) (toString n) n) (i := c) (m := 18) rfl (by decide)
  exact gss_one (gs_retE (ge_ix (gv_ge (ge_var 5 rfl)) (ge_mod (ge_var 0 rfl) ge_int (by decide)) (.lst hd1)) (q d (things_good (small_fit (by omega) hsm) f2 fn d hd2)))

theorem ok3 (a b c : Bool) : D.ok 64 (.lst [.bl a, .bl b, .bl c]) = true := by
  rw [D.ok_lst]; simp [D.oks_cons, D.oks_nil, D.ok_bl]
theorem eqv3 (a b c : Bool) : D.eqv (.lst [.bl a, .bl b, .bl c]) (.lst [.bl a, .bl b, .bl c]) = true := by
  simp [D.eqv, D.toP, D.toPs, PyData.eqv, PyData.eqvAll]
theorem joinedP_comm (a b c d : Int) : joinedP a b c d = joinedP c d a b := by
  unfold joinedP
  rw [Int.max_comm, Int.min_comm]
theorem has_law (T : Tx K mg) : HasF P w K mg base 4 "law" ["_law_script"] (sp_true 63) := by
  refine has_body T.d_law sc_law (fun ds G P PX h => ?_) (fun f cdv A outer s H E hr F0 R0 ds G PP PX h => ?_)
  · obtain ⟨_, rfl, _⟩ := h; rfl
  have nd := nd_law
  obtain ⟨ns, rfl, hlen, q⟩ := h
  -- _law_one = _law_pair(_law_cell_at(_law_script, 0), 500)
  refine gss_cons (gs_set 1 nd (ge_gw (gw_call (has_pair T) (gr_cons (ge_gw (gw_call (has_cell T) (gr_cons (ge_var 0 rfl) (gr_cons ge_int gr_nil)) ⟨ns, 0, rfl, by decide, rfl, rfl⟩)) (gr_cons ge_int gr_nil)) ⟨_, _, rfl, rfl, rfl⟩)) ?_)
  generalize lowOf (cellAt ns 0) 500 = a
  generalize a + cellAt ns 0 / 2000 % (1000 - a) = b
  -- _law_other
  obtain ⟨o, ho1, ho2⟩ := at_mod (xs := [D.int a, D.int b]) (i := cellAt ns 2) (m := 2) rfl (by decide)
  obtain ⟨o, rfl⟩ : ∃ i : Int, o = .int i := by
    simp only [List.mem_cons, List.not_mem_nil, or_false] at ho2
    rcases ho2 with rfl | rfl <;> exact ⟨_, rfl⟩
  refine gss_cons (gs_set 2 nd (ge_gw (gw_call (has_pair T) (gr_cons (ge_gw (gw_call (has_cell T) (gr_cons (ge_var 0 rfl) (gr_cons ge_int gr_nil)) ⟨ns, 1, rfl, by decide, rfl, rfl⟩)) (gr_cons (ge_ix (gv_ge (ge_var 1 rfl)) (ge_mod (ge_gw (gw_call (has_cell T) (gr_cons (ge_var 0 rfl) (gr_cons ge_int gr_nil)) ⟨ns, 2, rfl, by decide, rfl, rfl⟩)) ge_int (by decide)) (.tup ho1)) gr_nil)) ⟨_, _, rfl, rfl, rfl⟩)) ?_)
  generalize lowOf (cellAt ns 1) o = c
  generalize c + cellAt ns 1 / 2000 % (1000 - c) = e
  -- _law_make
  obtain ⟨m, hm1, hm2⟩ := at_mod (xs := [D.int 1, D.int 999, D.int a, D.int b, D.int (a - 1), D.int (b + 1)]) (i := cellAt ns 2 / 2) (m := 6) rfl (by decide)
  obtain ⟨m, rfl⟩ : ∃ i : Int, m = .int i := by
    simp only [List.mem_cons, List.not_mem_nil, or_false] at hm2
    rcases hm2 with rfl | rfl | rfl | rfl | rfl | rfl <;> exact ⟨_, rfl⟩
  refine gss_cons (gs_set 3 nd (ge_ix (gv_ge (ge_n (gn_lst (gr_cons ge_int (gr_cons ge_int (gr_cons (ge_ix (gv_ge (ge_var 1 rfl)) ge_int (.tup rfl)) (gr_cons (ge_ix (gv_ge (ge_var 1 rfl)) ge_int (.tup rfl)) (gr_cons (ge_sub (ge_ix (gv_ge (ge_var 1 rfl)) ge_int (.tup rfl)) ge_int) (gr_cons (ge_add (ge_ix (gv_ge (ge_var 1 rfl)) ge_int (.tup rfl)) ge_int) gr_nil))))))))) (ge_mod (ge_fdiv (ge_gw (gw_call (has_cell T) (gr_cons (ge_var 0 rfl) (gr_cons ge_int gr_nil)) ⟨ns, 2, rfl, by decide, rfl, rfl⟩)) ge_int ⟨by decide, by decide⟩) ge_int (by decide)) (.lst hm1)) ?_)
  -- _law_due
  refine gss_cons (gs_set 4 nd (ge_tup (gr_cons (ge_max T.blt (ge_ix (gv_ge (ge_var 1 rfl)) ge_int (.tup rfl)) (ge_ix (gv_ge (ge_var 2 rfl)) ge_int (.tup rfl))) (gr_cons (ge_min T.blt (ge_ix (gv_ge (ge_var 1 rfl)) ge_int (.tup rfl)) (ge_ix (gv_ge (ge_var 2 rfl)) ge_int (.tup rfl))) gr_nil))) ?_)
  refine gss_cut (fun ρ' G' => ρ' = [.dat (.lst (ns.map .int)), .dat (pairD a b), .dat (pairD c e), .dat (.int m), .dat (encPair (joinedP a b c e)), .unk, .unk, .unk, .unk] ∧ G' = G) (gs_if (gt_cmp (gc_gt (ge_ix (gv_ge (ge_var 4 rfl)) ge_int (.tup rfl)) (ge_ix (gv_ge (ge_var 4 rfl)) ge_int (.tup rfl)))) (fun hc => ?_) (fun hc => ?_)) (fun ρ' G' h => ?_)
  · refine gss_one (gs_set 4 nd ge_non ⟨?_, rfl⟩)
    have z : joinedP a b c e = none := if_pos (by simpa using hc)
    rw [z]; rfl
  · refine gss_nil ⟨?_, rfl⟩
    have z : joinedP a b c e = some (max a c, min b e) := if_neg (by simpa using hc)
    rw [z]; rfl
  obtain ⟨rfl, rfl⟩ := h
  refine gss_cons (gs_if (gt_w (gtw_or (gt_not (gt_val (ge_gw (gw_call (has_same T) (gr_cons (ge_gw (gw_call (has_joined T) (gr_cons (ge_var 1 rfl) (gr_cons (ge_var 2 rfl) gr_nil)) ⟨a, b, c, e, rfl, rfl, rfl⟩)) (gr_cons (ge_var 4 rfl) gr_nil)) ⟨_, rfl, rfl, rfl⟩)))) fun _ => (gtw_or (gt_not (gt_val (ge_gw (gw_call (has_same T) (gr_cons (ge_gw (gw_call (has_joined T) (gr_cons (ge_var 2 rfl) (gr_cons (ge_var 1 rfl) gr_nil)) ⟨c, e, a, b, rfl, (by rw [joinedP_comm]), rfl⟩)) (gr_cons (ge_var 4 rfl) gr_nil)) ⟨_, rfl, rfl, rfl⟩)))) fun _ => (gtw_or1 (gt_cmp (gc_neI (ge_globI T.c_MOST_MAKE) ge_int)))))) (fun hc => by cases hc) (fun hc => gss_nil ?_))
  refine gss_cons (gs_if (gt_w (gtw_and (gt_cmp (gc_notB (ge_gw (gw_call (has_within T) (gr_cons (ge_var 3 rfl) (gr_cons (ge_ix (gv_ge (ge_var 1 rfl)) ge_int (.tup rfl)) (gr_cons (ge_ix (gv_ge (ge_var 1 rfl)) ge_int (.tup rfl)) gr_nil))) ⟨m, a, b, rfl, rfl, rfl⟩)) ge_bl)) fun _ => (gtw_and1 (gt_chain (f := fun i j => decide (i ≤ j)) (f' := fun i j => decide (i ≤ j)) (fun _ => op_le) (fun _ => op_le) (ge_ix (gv_ge (ge_var 1 rfl)) ge_int (.tup rfl)) (ge_var 3 rfl) (ge_ix (gv_ge (ge_var 1 rfl)) ge_int (.tup rfl)))))) (fun hc => ?_) (fun hc => gss_nil ?_))
  · exfalso
    generalize (decide (a ≤ m) && decide (m ≤ b)) = x at hc
    cases x <;> cases hc
  refine gss_cons (gs_if (gt_w (gtw_and (gt_cmp (gc_notB (ge_gw (gw_call (has_within T) (gr_cons (ge_var 3 rfl) (gr_cons (ge_ix (gv_ge (ge_var 1 rfl)) ge_int (.tup rfl)) (gr_cons (ge_ix (gv_ge (ge_var 1 rfl)) ge_int (.tup rfl)) gr_nil))) ⟨m, a, b, rfl, rfl, rfl⟩)) ge_bl)) fun _ => (gtw_and1 (gt_not (gt_chain (f := fun i j => decide (i ≤ j)) (f' := fun i j => decide (i ≤ j)) (fun _ => op_le) (fun _ => op_le) (ge_ix (gv_ge (ge_var 1 rfl)) ge_int (.tup rfl)) (ge_var 3 rfl) (ge_ix (gv_ge (ge_var 1 rfl)) ge_int (.tup rfl))))))) (fun hc => ?_) (fun hc => gss_nil ?_))
  · exfalso
    generalize (decide (a ≤ m) && decide (m ≤ b)) = x at hc
    cases x <;> cases hc
  -- the loop
  have e1 : cutD (ns.map D.int) (some 2) (some 32) ++ [D.int 0] = (((ns.drop (HT.sIx ns.length 0 (some 2))).take (HT.sIx ns.length ns.length (some 32) - HT.sIx ns.length 0 (some 2))) ++ [0]).map D.int := by
    unfold cutD
    rw [List.length_map, List.map_append, List.map_take, List.map_drop]; rfl
  generalize hcells : (((ns.drop (HT.sIx ns.length 0 (some 2))).take (HT.sIx ns.length ns.length (some 32) - HT.sIx ns.length 0 (some 2))) ++ [0]) = cells at e1
  refine gss_cons (gs_for (fun _ => PassesOwn.never) (gi_lst (xs := cells.map D.int) (ge_is (ge_addD (gv_ge (ge_n (gn_slice (gv_ge (ge_var 0 rfl)) (go_some ge_int) (go_some ge_int)))) (gv_ge (ge_n (gn_lst (gr_cons ge_int gr_nil)))) (.lst ?_)) (congrArg D.lst e1)) .rfl) (fun i ρ2 G2 => ∃ x y z, ρ2 = [.dat (.lst (ns.map .int)), .dat (pairD a b), .dat (pairD c e), .dat (.int m), .dat (encPair (joinedP a b c e)), x, y, z, .unk] ∧ G2 = G') ⟨_, _, _, rfl, rfl⟩ (fun _ _ _ _ => .rfl) (fun i d ρ' G' hi h => ?_) (fun ρ' G' h => ?_))
  · unfold cutD
    simp only [List.length_take, List.length_drop, List.length_map, List.length_singleton]
    omega
  · obtain ⟨x, y, z, rfl, rfl⟩ := h
    rw [List.getElem?_map] at hi
    cases ec : cells[i]? with
    | none => rw [ec] at hi; cases hi
    | some cell =>
    rw [ec] at hi; cases hi
    refine ⟨_, _, gg_name 5 nd, ?_⟩
    refine gss_cons (gs_setW 6 nd (gw_call (has_thing T) (gr_cons (ge_var 5 rfl) gr_nil) ⟨cell, rfl, fun d hd => ?_⟩))
    obtain ⟨d1, d2, d3⟩ : d.isD = true ∧ d.fit = true ∧ d.seen = true := by simpa [D.good] using hd
    refine gss_cons (gs_set 7 nd (ge_n (gn_lst (gr_cons (ge_gw (gw_call (has_is_ware T) (gr_cons (ge_var 6 rfl) gr_nil) ⟨d, d, rfl, .rfl, d1, d2, rfl, rfl⟩)) (gr_cons (ge_gw (gw_call (has_is_make T) (gr_cons (ge_var 6 rfl) gr_nil) ⟨d, d, rfl, .rfl, d1, rfl, rfl⟩)) (gr_cons (ge_gw (gw_call (has_is_need T) (gr_cons (ge_var 6 rfl) gr_nil) ⟨d, d, rfl, .rfl, d1, d3, rfl, rfl⟩)) gr_nil))))) ?_)
    refine gss_cons (gs_if (gt_cmp (gc_neD (gv_ge (ge_n (gn_lcIf (ys := [d.ware, d.make, d.need]) (enc := D.bl) (f := D.bl) (pr := fun _ => false) [("_law_answer", 8)] nd (gic_lst (ge_var 7 rfl) .rfl) (blkOk_by (N := N_law) (sc := defScope s_law) (by decide +kernel)) (fun y hy => gg_name 8 nd) (by decide) (fun y hy => (gt_is (gt_not (gt_val (ge_isiD T.blt (gv_ge (ge_var 8 rfl)) (ge_ty T.blt.at (by decide +kernel)) (.bl rfl)))) rfl)) (fun y hy _ => (ge_var 8 rfl)) (by show 3 < 100000; decide) ?_))) (gv_ge (ge_n (gn_lst gr_nil))) rfl rfl)) (fun hc => ?_) (fun hc => gss_nil ?_))
    · rintro j hj ⟨y, e1, e2⟩
      have : j = 8 := by simpa using hj
      subst this
      cases e1; cases e2
    · cases hc
    refine gss_one (gs_if (gt_cmp (gc_neD (gv_ge (ge_var 7 rfl)) (gv_ge (ge_n (gn_lst (gr_cons (ge_gw (gw_call (has_isword T) (gr_cons (ge_var 6 rfl) gr_nil) ⟨d, rfl, d1, d2, rfl, rfl⟩)) (gr_cons (ge_gw (gw_call (has_isnum T) (gr_cons (ge_var 6 rfl) gr_nil) ⟨d, rfl, d1, rfl, rfl⟩)) (gr_cons (ge_gw (gw_call (has_isneed T) (gr_cons (ge_var 6 rfl) gr_nil) ⟨d, rfl, d1, d3, rfl, rfl⟩)) gr_nil)))))) (ok3 _ _ _) (ok3 _ _ _))) (fun hc => ?_) (fun hc => gss_nil ⟨_, _, _, rfl, rfl⟩))
    exfalso
    rw [eqv3] at hc; cases hc
  · obtain ⟨x, y, z, rfl, rfl⟩ := h
    exact gss_one (gs_retE ge_bl q)
end
end Gh
end

section
set_option Elab.async false
set_option linter.all false
set_option maxRecDepth 100000
set_option maxHeartbeats 8000000
namespace Gh
open PySem PySem.Spec PyProof.Rows L2
theorem dfn_mk {K : PySem.W.Frag} {h : Heap} {mg : Str → Option Value} (X : K.In h) (G : h.Ns mainGlobals mg) {x : Str} {st : Stmt} {ps : List Str} {f : Addr} {oc : Value} {od an : Option Addr} {osl : Array (Option Value)} {kV dc pm cd ct : Value} (a : PySem.W.nsIn K mainGlobals x = some (some (.ref f))) (l : K.lookup f = some ⟨oc, od, .func (PySem.W.fnOf x x (defArgs st) (defBody st) (defScope st) .none kV dc pm an cd ct), osl⟩) (c : PySem.W.codeIn K cd x = true) (k : PySem.W.keepIn K (.ref f) = true)
    (hb : ∀ us : List Value, us.length = ps.length → bindArgs (PySem.W.fnOf x x (defArgs st) (defBody st) (defScope st) .none kV dc pm an cd ct) ⟨us, []⟩ = pure (ps.zip us)) : Dfn K mg x st ps := ⟨f, _, PySem.W.mg_of X G a, fun_mk l c k, fun s us hl => .of_eq (hb us hl)⟩
theorem tx_mk {K : PySem.W.Frag} {h : Heap} {mg : Str → Option Value} (X : K.In h) (G : h.Ns mainGlobals mg)
    {f0 f1 f2 f3 f4 f5 f6 f7 f8 f9 f10 f11 f12 f13 f14 : Addr} {od0 an0 od1 an1 od2 an2 od3 an3 od4 an4 od5 an5 od6 an6 od7 an7 od8 an8 od9 an9 od10 an10 od11 an11 od12 an12 od13 an13 od14 an14 : Option Addr} {sl0 sl1 sl2 sl3 sl4 sl5 sl6 sl7 sl8 sl9 sl10 sl11 sl12 sl13 sl14 : Array (Option Value)} {oc0 kV0 dc0 pm0 cd0 ct0 oc1 kV1 dc1 pm1 cd1 ct1 oc2 kV2 dc2 pm2 cd2 ct2 oc3 kV3 dc3 pm3 cd3 ct3 oc4 kV4 dc4 pm4 cd4 ct4 oc5 kV5 dc5 pm5 cd5 ct5 oc6 kV6 dc6 pm6 cd6 ct6 oc7 kV7 dc7 pm7 cd7 ct7 oc8 kV8 dc8 pm8 cd8 ct8 oc9 kV9 dc9 pm9 cd9 ct9 oc10 kV10 dc10 pm10 cd10 ct10 oc11 kV11 dc11 pm11 cd11 ct11 oc12 kV12 dc12 pm12 cd12 ct12 oc13 kV13 dc13 pm13 cd13 ct13 oc14 kV14 dc14 pm14 cd14 ct14 : Value} {t_MOST_MAKE : Tok} {t_MOST_SIGNS : Tok} {t_LETTERS : Tok}
    (a0 : PySem.W.nsIn K mainGlobals "is_whole" = some (some (.ref f0))) (l0 : K.lookup f0 = some ⟨oc0, od0, .func (PySem.W.fnOf "is_whole" "is_whole" (defArgs s_is_whole) (defBody s_is_whole) (defScope s_is_whole) .none kV0 dc0 pm0 an0 cd0 ct0), sl0⟩) (c0 : PySem.W.codeIn K cd0 "is_whole" = true) (k0 : PySem.W.keepIn K (.ref f0) = true)
    (a1 : PySem.W.nsIn K mainGlobals "is_ware" = some (some (.ref f1))) (l1 : K.lookup f1 = some ⟨oc1, od1, .func (PySem.W.fnOf "is_ware" "is_ware" (defArgs s_is_ware) (defBody s_is_ware) (defScope s_is_ware) .none kV1 dc1 pm1 an1 cd1 ct1), sl1⟩) (c1 : PySem.W.codeIn K cd1 "is_ware" = true) (k1 : PySem.W.keepIn K (.ref f1) = true)
    (a2 : PySem.W.nsIn K mainGlobals "is_make" = some (some (.ref f2))) (l2 : K.lookup f2 = some ⟨oc2, od2, .func (PySem.W.fnOf "is_make" "is_make" (defArgs s_is_make) (defBody s_is_make) (defScope s_is_make) .none kV2 dc2 pm2 an2 cd2 ct2), sl2⟩) (c2 : PySem.W.codeIn K cd2 "is_make" = true) (k2 : PySem.W.keepIn K (.ref f2) = true)
    (a3 : PySem.W.nsIn K mainGlobals "is_need" = some (some (.ref f3))) (l3 : K.lookup f3 = some ⟨oc3, od3, .func (PySem.W.fnOf "is_need" "is_need" (defArgs s_is_need) (defBody s_is_need) (defScope s_is_need) .none kV3 dc3 pm3 an3 cd3 ct3), sl3⟩) (c3 : PySem.W.codeIn K cd3 "is_need" = true) (k3 : PySem.W.keepIn K (.ref f3) = true)
    (a4 : PySem.W.nsIn K mainGlobals "joined" = some (some (.ref f4))) (l4 : K.lookup f4 = some ⟨oc4, od4, .func (PySem.W.fnOf "joined" "joined" (defArgs s_joined) (defBody s_joined) (defScope s_joined) .none kV4 dc4 pm4 an4 cd4 ct4), sl4⟩) (c4 : PySem.W.codeIn K cd4 "joined" = true) (k4 : PySem.W.keepIn K (.ref f4) = true)
    (a5 : PySem.W.nsIn K mainGlobals "within" = some (some (.ref f5))) (l5 : K.lookup f5 = some ⟨oc5, od5, .func (PySem.W.fnOf "within" "within" (defArgs s_within) (defBody s_within) (defScope s_within) .none kV5 dc5 pm5 an5 cd5 ct5), sl5⟩) (c5 : PySem.W.codeIn K cd5 "within" = true) (k5 : PySem.W.keepIn K (.ref f5) = true)
    (a6 : PySem.W.nsIn K mainGlobals "_law_cell_at" = some (some (.ref f6))) (l6 : K.lookup f6 = some ⟨oc6, od6, .func (PySem.W.fnOf "_law_cell_at" "_law_cell_at" (defArgs s__law_cell_at) (defBody s__law_cell_at) (defScope s__law_cell_at) .none kV6 dc6 pm6 an6 cd6 ct6), sl6⟩) (c6 : PySem.W.codeIn K cd6 "_law_cell_at" = true) (k6 : PySem.W.keepIn K (.ref f6) = true)
    (a7 : PySem.W.nsIn K mainGlobals "_law_pair" = some (some (.ref f7))) (l7 : K.lookup f7 = some ⟨oc7, od7, .func (PySem.W.fnOf "_law_pair" "_law_pair" (defArgs s__law_pair) (defBody s__law_pair) (defScope s__law_pair) .none kV7 dc7 pm7 an7 cd7 ct7), sl7⟩) (c7 : PySem.W.codeIn K cd7 "_law_pair" = true) (k7 : PySem.W.keepIn K (.ref f7) = true)
    (a8 : PySem.W.nsIn K mainGlobals "_law_same" = some (some (.ref f8))) (l8 : K.lookup f8 = some ⟨oc8, od8, .func (PySem.W.fnOf "_law_same" "_law_same" (defArgs s__law_same) (defBody s__law_same) (defScope s__law_same) .none kV8 dc8 pm8 an8 cd8 ct8), sl8⟩) (c8 : PySem.W.codeIn K cd8 "_law_same" = true) (k8 : PySem.W.keepIn K (.ref f8) = true)
    (a9 : PySem.W.nsIn K mainGlobals "_law_word" = some (some (.ref f9))) (l9 : K.lookup f9 = some ⟨oc9, od9, .func (PySem.W.fnOf "_law_word" "_law_word" (defArgs s__law_word) (defBody s__law_word) (defScope s__law_word) .none kV9 dc9 pm9 an9 cd9 ct9), sl9⟩) (c9 : PySem.W.codeIn K cd9 "_law_word" = true) (k9 : PySem.W.keepIn K (.ref f9) = true)
    (a10 : PySem.W.nsIn K mainGlobals "_law_thing" = some (some (.ref f10))) (l10 : K.lookup f10 = some ⟨oc10, od10, .func (PySem.W.fnOf "_law_thing" "_law_thing" (defArgs s__law_thing) (defBody s__law_thing) (defScope s__law_thing) .none kV10 dc10 pm10 an10 cd10 ct10), sl10⟩) (c10 : PySem.W.codeIn K cd10 "_law_thing" = true) (k10 : PySem.W.keepIn K (.ref f10) = true)
    (a11 : PySem.W.nsIn K mainGlobals "_law_is_word" = some (some (.ref f11))) (l11 : K.lookup f11 = some ⟨oc11, od11, .func (PySem.W.fnOf "_law_is_word" "_law_is_word" (defArgs s__law_is_word) (defBody s__law_is_word) (defScope s__law_is_word) .none kV11 dc11 pm11 an11 cd11 ct11), sl11⟩) (c11 : PySem.W.codeIn K cd11 "_law_is_word" = true) (k11 : PySem.W.keepIn K (.ref f11) = true)
    (a12 : PySem.W.nsIn K mainGlobals "_law_is_number" = some (some (.ref f12))) (l12 : K.lookup f12 = some ⟨oc12, od12, .func (PySem.W.fnOf "_law_is_number" "_law_is_number" (defArgs s__law_is_number) (defBody s__law_is_number) (defScope s__law_is_number) .none kV12 dc12 pm12 an12 cd12 ct12), sl12⟩) (c12 : PySem.W.codeIn K cd12 "_law_is_number" = true) (k12 : PySem.W.keepIn K (.ref f12) = true)
    (a13 : PySem.W.nsIn K mainGlobals "_law_is_need" = some (some (.ref f13))) (l13 : K.lookup f13 = some ⟨oc13, od13, .func (PySem.W.fnOf "_law_is_need" "_law_is_need" (defArgs s__law_is_need) (defBody s__law_is_need) (defScope s__law_is_need) .none kV13 dc13 pm13 an13 cd13 ct13), sl13⟩) (c13 : PySem.W.codeIn K cd13 "_law_is_need" = true) (k13 : PySem.W.keepIn K (.ref f13) = true)
    (a14 : PySem.W.nsIn K mainGlobals "law" = some (some (.ref f14))) (l14 : K.lookup f14 = some ⟨oc14, od14, .func (PySem.W.fnOf "law" "law" (defArgs s_law) (defBody s_law) (defScope s_law) .none kV14 dc14 pm14 an14 cd14 ct14), sl14⟩) (c14 : PySem.W.codeIn K cd14 "law" = true) (k14 : PySem.W.keepIn K (.ref f14) = true)
    (g_MOST_MAKE : PySem.W.nsIn K mainGlobals "MOST_MAKE" = some (some (.int 999 t_MOST_MAKE)))
    (g_MOST_SIGNS : PySem.W.nsIn K mainGlobals "MOST_SIGNS" = some (some (.int 8 t_MOST_SIGNS)))
    (g_LETTERS : PySem.W.nsIn K mainGlobals "LETTERS" = some (some (.str "abcdefghijklmnopqrstuvwxyz" t_LETTERS)))
    (b_len : PySem.W.nsIn K mainGlobals "len" = some none)
    (b_isinstance : PySem.W.nsIn K mainGlobals "isinstance" = some none)
    (b_int : PySem.W.nsIn K mainGlobals "int" = some none)
    (b_bool : PySem.W.nsIn K mainGlobals "bool" = some none)
    (b_str : PySem.W.nsIn K mainGlobals "str" = some none)
    (b_list : PySem.W.nsIn K mainGlobals "list" = some none)
    (b_tuple : PySem.W.nsIn K mainGlobals "tuple" = some none)
    (b_dict : PySem.W.nsIn K mainGlobals "dict" = some none)
    (b_max : PySem.W.nsIn K mainGlobals "max" = some none)
    (b_min : PySem.W.nsIn K mainGlobals "min" = some none)
    (b_range : PySem.W.nsIn K mainGlobals "range" = some none)
    (b_sorted : PySem.W.nsIn K mainGlobals "sorted" = some none)
    (b_reversed : PySem.W.nsIn K mainGlobals "reversed" = some none)
    (b_enumerate : PySem.W.nsIn K mainGlobals "enumerate" = some none)
    (b_zip : PySem.W.nsIn K mainGlobals "zip" = some none)
    (b_all : PySem.W.nsIn K mainGlobals "all" = some none)
    (b_set : PySem.W.nsIn K mainGlobals "set" = some none)
    (b_ValueError : PySem.W.nsIn K mainGlobals "ValueError" = some none)
    : Tx K mg where
  blt := ⟨fun x hx => by
    simp only [List.mem_cons, List.not_mem_nil, or_false] at hx
    rcases hx with rfl | rfl | rfl | rfl | rfl | rfl | rfl | rfl | rfl | rfl | rfl | rfl | rfl | rfl | rfl | rfl | rfl | rfl
    · exact PySem.W.mg_none_of X G b_len
    · exact PySem.W.mg_none_of X G b_isinstance
    · exact PySem.W.mg_none_of X G b_int
    · exact PySem.W.mg_none_of X G b_bool
    · exact PySem.W.mg_none_of X G b_str
    · exact PySem.W.mg_none_of X G b_list
    · exact PySem.W.mg_none_of X G b_tuple
    · exact PySem.W.mg_none_of X G b_dict
    · exact PySem.W.mg_none_of X G b_max
    · exact PySem.W.mg_none_of X G b_min
    · exact PySem.W.mg_none_of X G b_range
    · exact PySem.W.mg_none_of X G b_sorted
    · exact PySem.W.mg_none_of X G b_reversed
    · exact PySem.W.mg_none_of X G b_enumerate
    · exact PySem.W.mg_none_of X G b_zip
    · exact PySem.W.mg_none_of X G b_all
    · exact PySem.W.mg_none_of X G b_set
    · exact PySem.W.mg_none_of X G b_ValueError
    ⟩
  c_MOST_MAKE := ⟨_, PySem.W.mg_of X G g_MOST_MAKE⟩
  c_MOST_SIGNS := ⟨_, PySem.W.mg_of X G g_MOST_SIGNS⟩
  c_LETTERS := ⟨_, PySem.W.mg_of X G g_LETTERS⟩
  d_is_whole := dfn_mk X G a0 l0 c0 k0 fun us hl => match us, hl with | [_], _ => rfl
  d_is_ware := dfn_mk X G a1 l1 c1 k1 fun us hl => match us, hl with | [_], _ => rfl
  d_is_make := dfn_mk X G a2 l2 c2 k2 fun us hl => match us, hl with | [_], _ => rfl
  d_is_need := dfn_mk X G a3 l3 c3 k3 fun us hl => match us, hl with | [_], _ => rfl
  d_joined := dfn_mk X G a4 l4 c4 k4 fun us hl => match us, hl with | [_, _], _ => rfl
  d_within := dfn_mk X G a5 l5 c5 k5 fun us hl => match us, hl with | [_, _, _], _ => rfl
  d__law_cell_at := dfn_mk X G a6 l6 c6 k6 fun us hl => match us, hl with | [_, _], _ => rfl
  d__law_pair := dfn_mk X G a7 l7 c7 k7 fun us hl => match us, hl with | [_, _], _ => rfl
  d__law_same := dfn_mk X G a8 l8 c8 k8 fun us hl => match us, hl with | [_, _], _ => rfl
  d__law_word := dfn_mk X G a9 l9 c9 k9 fun us hl => match us, hl with | [_], _ => rfl
  d__law_thing := dfn_mk X G a10 l10 c10 k10 fun us hl => match us, hl with | [_], _ => rfl
  d__law_is_word := dfn_mk X G a11 l11 c11 k11 fun us hl => match us, hl with | [_], _ => rfl
  d__law_is_number := dfn_mk X G a12 l12 c12 k12 fun us hl => match us, hl with | [_], _ => rfl
  d__law_is_need := dfn_mk X G a13 l13 c13 k13 fun us hl => match us, hl with | [_], _ => rfl
  d_law := dfn_mk X G a14 l14 c14 k14 fun us hl => match us, hl with | [_], _ => rfl
end Gh
open PySem PySem.W PyProof.Rows
set_option maxRecDepth 100000 in
set_option maxHeartbeats 0 in
theorem PySem.Challenge.cw_pickfloor_k01_stretches_holds : PySem.Challenge.rw_pickfloor_k01_stretches.Holds := by
  w_on; o_law; k_head; (case hw => w_witness2)
  k_fill
  refine Gh.top_walk (l := PySem.Challenge.rw_pickfloor_k01_stretches) (k := 4) rfl rfl ⟨rfl, by decide, by decide⟩ rfl (fun w h Y => PySem.W.kIn_of Y) ?F
  case F =>
    intro w mg h KX G base
    refine Gh.has_law ?T
    refine' Gh.tx_mk KX G ?a0 ?l0 ?c0 ?k0 ?a1 ?l1 ?c1 ?k1 ?a2 ?l2 ?c2 ?k2 ?a3 ?l3 ?c3 ?k3 ?a4 ?l4 ?c4 ?k4 ?a5 ?l5 ?c5 ?k5 ?a6 ?l6 ?c6 ?k6 ?a7 ?l7 ?c7 ?k7 ?a8 ?l8 ?c8 ?k8 ?a9 ?l9 ?c9 ?k9 ?a10 ?l10 ?c10 ?k10 ?a11 ?l11 ?c11 ?k11 ?a12 ?l12 ?c12 ?k12 ?a13 ?l13 ?c13 ?k13 ?a14 ?l14 ?c14 ?k14 ?g_MOST_MAKE ?g_MOST_SIGNS ?g_LETTERS ?b_len ?b_isinstance ?b_int ?b_bool ?b_str ?b_list ?b_tuple ?b_dict ?b_max ?b_min ?b_range ?b_sorted ?b_reversed ?b_enumerate ?b_zip ?b_all ?b_set ?b_ValueError
    (case a0 => k_is)
    (case l0 => k_is)
    (case c0 => k_is)
    (case k0 => k_is)
    (case a1 => k_is)
    (case l1 => k_is)
    (case c1 => k_is)
    (case k1 => k_is)
    (case a2 => k_is)
    (case l2 => k_is)
    (case c2 => k_is)
    (case k2 => k_is)
    (case a3 => k_is)
    (case l3 => k_is)
    (case c3 => k_is)
    (case k3 => k_is)
    (case a4 => k_is)
    (case l4 => k_is)
    (case c4 => k_is)
    (case k4 => k_is)
    (case a5 => k_is)
    (case l5 => k_is)
    (case c5 => k_is)
    (case k5 => k_is)
    (case a6 => k_is)
    (case l6 => k_is)
    (case c6 => k_is)
    (case k6 => k_is)
    (case a7 => k_is)
    (case l7 => k_is)
    (case c7 => k_is)
    (case k7 => k_is)
    (case a8 => k_is)
    (case l8 => k_is)
    (case c8 => k_is)
    (case k8 => k_is)
    (case a9 => k_is)
    (case l9 => k_is)
    (case c9 => k_is)
    (case k9 => k_is)
    (case a10 => k_is)
    (case l10 => k_is)
    (case c10 => k_is)
    (case k10 => k_is)
    (case a11 => k_is)
    (case l11 => k_is)
    (case c11 => k_is)
    (case k11 => k_is)
    (case a12 => k_is)
    (case l12 => k_is)
    (case c12 => k_is)
    (case k12 => k_is)
    (case a13 => k_is)
    (case l13 => k_is)
    (case c13 => k_is)
    (case k13 => k_is)
    (case a14 => k_is)
    (case l14 => k_is)
    (case c14 => k_is)
    (case k14 => k_is)
    (case g_MOST_MAKE => k_is)
    (case g_MOST_SIGNS => k_is)
    (case g_LETTERS => k_is)
    (case b_len => k_is)
    (case b_isinstance => k_is)
    (case b_int => k_is)
    (case b_bool => k_is)
    (case b_str => k_is)
    (case b_list => k_is)
    (case b_tuple => k_is)
    (case b_dict => k_is)
    (case b_max => k_is)
    (case b_min => k_is)
    (case b_range => k_is)
    (case b_sorted => k_is)
    (case b_reversed => k_is)
    (case b_enumerate => k_is)
    (case b_zip => k_is)
    (case b_all => k_is)
    (case b_set => k_is)
    (case b_ValueError => k_is)
end

