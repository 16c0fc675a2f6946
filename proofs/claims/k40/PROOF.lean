import PyProof.Rows.All
import Wide.All
import OpenK.AllK
import Wide.FinOn
import HandS.ForMost
import HandS.ForExc
import HandS.Walk
import HandS.Deep
import HandS.TupLen
import HandS.Style
import HandS.DictComp
import HandS.TryMany
import HandS.ExcIs
import HandS.ExcField
import HandS.ExcInit
import HandS.IsInst
import HandS.Conv
import KE.GoesEnum
import PyProof.DictMoreH
import HandS.TupAny
import PyProof.Rows.TupDisplay
import PySem.Challenge.RW_liveplaces_k40_moves_fewest_spare_exactl
import KE.KExcSuper
import KE.KSuper
import HandS.ExcSuper
import HandS.HotCalls
import KE.KExcIs
import PyProof.FString
import PyProof.FString4
import PyProof.FitsInt
section
set_option Elab.async false
set_option linter.all false
set_option maxRecDepth 100000
set_option maxHeartbeats 2000000
/-! L3: a layer over L2 in which tuples are plain values. -/
namespace L3
open PySem L2

/-- a value; a tuple is its items, wherever it stands -/
inductive U where
  | non
  | bl (b : Bool)
  | int (i : Int)
  | str (x : Str)
  | ty (n : String)
  | ref (a : Addr)
  | tup (xs : List U)
  | wtup (xs : List U)
  | lit (xs : List U)

/-- a list that is never changed: locked, or written in the module -/
def LitAt (K : PySem.W.Frag) (H : Hp) (a : Addr) (xs : List V) : Prop := (∃ o, H a = some (.frz o (.lst xs))) ∨ (∀ G : Hp, SqL K G a xs)

mutual
inductive Rep (K : PySem.W.Frag) (H : Hp) : U → V → Prop
  | non : Rep K H .non .non
  | bl (b : Bool) : Rep K H (.bl b) (.bl b)
  | int (i : Int) : Rep K H (.int i) (.int i)
  | str (x : Str) : Rep K H (.str x) (.str x)
  | ty (n : String) : Rep K H (.ty n) (.ty n)
  | ref (a : Addr) : Rep K H (.ref a) (.ref a)
  | tup {a : Addr} {vs : List V} {ws : List U} : H a = some (.tup vs) → RepL K H ws vs → Rep K H (.tup ws) (.ref a)
  | wtup {a : Addr} {vs : List V} {ws : List U} : SqT K H a vs → RepL K H ws vs → Rep K H (.wtup ws) (.ref a)
  | lit {a : Addr} {vs : List V} {ws : List U} : LitAt K H a vs → RepL K H ws vs → Rep K H (.lit ws) (.ref a)
inductive RepL (K : PySem.W.Frag) (H : Hp) : List U → List V → Prop
  | nil : RepL K H [] []
  | cons {w : U} {v : V} {ws : List U} {vs : List V} : Rep K H w v → RepL K H ws vs → RepL K H (w :: ws) (v :: vs)
end

/-- the tuples and the locked lists stay -/
structure Keep (H H' : Hp) : Prop where
  tup : ∀ a xs, H a = some (.tup xs) → H' a = some (.tup xs)
  frz : ∀ a o xs, H a = some (.frz o (.tup xs)) → H' a = some (.frz o (.tup xs))
  lit : ∀ a o xs, H a = some (.frz o (.lst xs)) → H' a = some (.frz o (.lst xs))
theorem Keep.refl (H : Hp) : Keep H H := ⟨fun _ _ h => h, fun _ _ _ h => h, fun _ _ _ h => h⟩
theorem Keep.trans {H H1 H2 : Hp} (a : Keep H H1) (b : Keep H1 H2) : Keep H H2 :=
  ⟨fun x xs h => b.tup x xs (a.tup x xs h), fun x o xs h => b.frz x o xs (a.frz x o xs h), fun x o xs h => b.lit x o xs (a.lit x o xs h)⟩
theorem Keep.same {H H' : Hp} (s : Same H H') : Keep H H' := ⟨fun a _ h => s a _ h, fun a _ _ h => s a _ h, fun a _ _ h => s a _ h⟩
theorem Same.new {H : Hp} {p : Addr} {o : HO} (h : H p = none) : Same H (upd H p o) := fun b u e => by
  rw [upd_ne (ne_of_none e h)]; exact e
theorem Keep.new {H : Hp} {p : Addr} {o : HO} (h : H p = none) : Keep H (upd H p o) := Keep.same (Same.new h)
/-- a thing that is no tuple and no locked one is written -/
def Soft : HO → Prop
  | .tup _ => False
  | .frz _ (.tup _) => False
  | .frz _ (.lst _) => False
  | _ => True
theorem Keep.mut {H : Hp} {p : Addr} {u o : HO} (h : H p = some u) (s : Soft u) : Keep H (upd H p o) := by
  refine ⟨fun a xs e => ?_, fun a ob xs e => ?_, fun a ob xs e => ?_⟩ <;>
  · rw [upd_ne]
    · exact e
    · intro z
      subst z
      rw [h] at e
      cases e
      exact s
theorem SqT.keep {K : PySem.W.Frag} {H H' : Hp} {a : Addr} {xs : List V} (k : Keep H H') (h : SqT K H a xs) : SqT K H' a xs := by
  rcases h with (h | ⟨o, h⟩) | h
  · exact .inl (.inl (k.tup _ _ h))
  · exact .inl (.inr ⟨o, k.frz _ _ _ h⟩)
  · exact .inr h
theorem LitAt.keep {K : PySem.W.Frag} {H H' : Hp} {a : Addr} {xs : List V} (k : Keep H H') (h : LitAt K H a xs) : LitAt K H' a xs := by
  rcases h with ⟨o, h⟩ | h
  · exact .inl ⟨o, k.lit _ _ _ h⟩
  · exact .inr h
theorem LitAt.sq {K : PySem.W.Frag} {H : Hp} {a : Addr} {xs : List V} (h : LitAt K H a xs) : SqL K H a xs := by
  rcases h with ⟨o, h⟩ | h
  · exact .inl (.inr ⟨o, h⟩)
  · exact h H
section
variable {K : PySem.W.Frag} {H H' : Hp}
theorem Rep.keep (k : Keep H H') {w : U} {v : V} (r : Rep K H w v) : Rep K H' w v :=
  Rep.rec (motive_1 := fun w v _ => Rep K H' w v) (motive_2 := fun ws vs _ => RepL K H' ws vs)
    .non .bl .int .str .ty .ref (fun h _ r => .tup (k.tup _ _ h) r) (fun h _ r => .wtup (SqT.keep k h) r) (fun h _ r => .lit (LitAt.keep k h) r) .nil (fun _ _ a b => .cons a b) r
theorem RepL.keep (k : Keep H H') : ∀ {ws : List U} {vs : List V}, RepL K H ws vs → RepL K H' ws vs
  | _, _, .nil => .nil
  | _, _, .cons a b => .cons (a.keep k) (RepL.keep k b)
theorem RepL.length : ∀ {ws : List U} {vs : List V}, RepL K H ws vs → ws.length = vs.length
  | _, _, .nil => rfl
  | _, _, .cons _ b => by rw [List.length_cons, List.length_cons, RepL.length b]
theorem RepL.get : ∀ {ws : List U} {vs : List V} {i : Nat} {w : U}, RepL K H ws vs → ws[i]? = some w → ∃ v, vs[i]? = some v ∧ Rep K H w v
  | _, _, _, _, .nil, e => by simp at e
  | _, _, 0, _, .cons r _, e => by simp at e; subst e; exact ⟨_, rfl, r⟩
  | _, _, i + 1, w, .cons _ t, e => by
    obtain ⟨v, h1, h2⟩ := RepL.get (i := i) (w := w) t (by simpa using e)
    exact ⟨v, by simpa using h1, h2⟩
theorem RepL.get' : ∀ {ws : List U} {vs : List V} {i : Nat} {v : V}, RepL K H ws vs → vs[i]? = some v → ∃ w, ws[i]? = some w ∧ Rep K H w v
  | _, _, _, _, .nil, e => by simp at e
  | _, _, 0, _, .cons r _, e => by simp at e; subst e; exact ⟨_, rfl, r⟩
  | _, _, i + 1, w, .cons _ t, e => by
    obtain ⟨v, h1, h2⟩ := RepL.get' (i := i) (v := w) t (by simpa using e)
    exact ⟨v, by simpa using h1, h2⟩
theorem RepL.append : ∀ {ws us : List U} {vs xs : List V}, RepL K H ws vs → RepL K H us xs → RepL K H (ws ++ us) (vs ++ xs)
  | _, _, _, _, .nil, s => s
  | _, _, _, _, .cons r t, s => .cons r (RepL.append t s)
theorem RepL.set {w : U} {v : V} (r : Rep K H w v) : ∀ {ws : List U} {vs : List V} (i : Nat), RepL K H ws vs → RepL K H (ws.set i w) (vs.set i v)
  | _, _, _, .nil => .nil
  | _, _, 0, .cons _ t => .cons r t
  | _, _, i + 1, .cons q t => .cons q (RepL.set r i t)
theorem RepL.take : ∀ {ws : List U} {vs : List V} (n : Nat), RepL K H ws vs → RepL K H (ws.take n) (vs.take n)
  | _, _, 0, _ => .nil
  | _, _, _ + 1, .nil => .nil
  | _, _, n + 1, .cons r t => .cons r (RepL.take n t)
theorem RepL.drop : ∀ {ws : List U} {vs : List V} (n : Nat), RepL K H ws vs → RepL K H (ws.drop n) (vs.drop n)
  | _, _, 0, r => r
  | _, _, _ + 1, .nil => .nil
  | _, _, n + 1, .cons _ t => RepL.drop n t
theorem RepL.eraseIdx : ∀ {ws : List U} {vs : List V} (n : Nat), RepL K H ws vs → RepL K H (ws.eraseIdx n) (vs.eraseIdx n)
  | _, _, _, .nil => .nil
  | _, _, 0, .cons _ t => t
  | _, _, n + 1, .cons r t => .cons r (RepL.eraseIdx n t)
theorem RepL.ints : ∀ ns : List Int, RepL K H (ns.map U.int) (ns.map V.int)
  | [] => .nil
  | n :: ns => .cons (.int n) (RepL.ints ns)
theorem RepL.of_ints : ∀ {ns : List Int} {vs : List V}, RepL K H (ns.map U.int) vs → vs = ns.map V.int
  | [], _, .nil => rfl
  | _ :: ns, _, .cons r t => by
    cases r
    rw [RepL.of_ints t, List.map_cons]
theorem RepL.of_bls : ∀ {ns : List Bool} {vs : List V}, RepL K H (ns.map U.bl) vs → vs = ns.map V.bl
  | [], _, .nil => rfl
  | _ :: ns, _, .cons r t => by
    cases r
    rw [RepL.of_bls t, List.map_cons]
end

/-! ### the heap of things that may change -/
inductive GO where
  | lst (xs : List U)
  | dT (kvs : List (List Key × U))
  | dK (kvs : List (Key × U))
  | ldT (o : Obj) (vs : List (List Key × V)) (kvs : List (List Key × U))
  | ldK (o : Obj) (vs : List (Key × V)) (kvs : List (Key × U))
  | ins (C dx : Addr) (fs : List (Str × U))
  | own (x : Addr)
  | xd (fs : List (Str × U))
abbrev G3 := Addr → Option GO
abbrev S3 := List (Option U)
def gup (G : G3) (a : Addr) (o : GO) : G3 := fun b => if b = a then some o else G b
theorem gup_same {G : G3} {a : Addr} {o : GO} : gup G a o a = some o := by unfold gup; rw [if_pos rfl]
theorem gup_ne {G : G3} {a b : Addr} {o : GO} (h : b ≠ a) : gup G a o b = G b := by unfold gup; rw [if_neg h]
theorem gup_gup {G : G3} {a : Addr} {o u : GO} : gup (gup G a o) a u = gup G a u := by
  funext b; unfold gup; split <;> rfl
theorem gne_none {G : G3} {a b : Addr} {o : GO} (h : G a = some o) (h' : G b = none) : a ≠ b := by
  intro e; subst e; rw [h] at h'; cases h'
abbrev RepK (K : PySem.W.Frag) (H : Hp) {κ : Type} (us : List (κ × U)) (vs : List (κ × V)) : Prop := Paired (fun (p : κ × U) (q : κ × V) => p.1 = q.1 ∧ Rep K H p.2 q.2) us vs
def RepO (K : PySem.W.Frag) (H : Hp) (a : Addr) : GO → Prop
  | .lst xs => ∃ vs, H a = some (.lst vs) ∧ RepL K H xs vs
  | .dT kvs => ∃ vs, H a = some (.dT vs) ∧ RepK K H kvs vs
  | .dK kvs => ∃ vs, H a = some (.dK vs) ∧ RepK K H kvs vs
  | .ldT o vs kvs => H a = some (.frz o (.dT vs)) ∧ RepK K H kvs vs
  | .ldK o vs kvs => H a = some (.frz o (.dK vs)) ∧ RepK K H kvs vs
  | .ins C dx fs => ∃ vs, H a = some (.ins C dx vs) ∧ RepK K H fs vs
  | .own x => H a = some (.own x)
  | .xd fs => ∃ vs, H a = some (.xd vs) ∧ RepK K H fs vs
def RepH (K : PySem.W.Frag) (G : G3) (H : Hp) : Prop := ∀ a g, G a = some g → RepO K H a g
def RepS (K : PySem.W.Frag) (H : Hp) (σ3 : S3) (σ : St) : Prop := σ3.length = σ.length ∧ ∀ (i : Nat) (w : U), σ3[i]? = some (some w) → ∃ v, σ[i]? = some (some v) ∧ Rep K H w v
section
variable {K : PySem.W.Frag} {H H' : Hp} {G : G3} {a : Addr}
theorem RepK.keep {κ : Type} {us : List (κ × U)} {vs : List (κ × V)} (k : Keep H H') (r : RepK K H us vs) : RepK K H' us vs := Paired.mapP r fun _ _ z => ⟨z.1, z.2.keep k⟩
/-- an object that stands as it stood is what it was -/
theorem RepO.at {g : GO} (r : RepO K H a g) (k : Keep H H') (e : H' a = H a) : RepO K H' a g := by
  cases g with
  | lst xs => obtain ⟨vs, h, q⟩ := r; exact ⟨vs, e.trans h, q.keep k⟩
  | dT xs => obtain ⟨vs, h, q⟩ := r; exact ⟨vs, e.trans h, q.keep k⟩
  | dK xs => obtain ⟨vs, h, q⟩ := r; exact ⟨vs, e.trans h, q.keep k⟩
  | ldT o vs xs => obtain ⟨h, q⟩ := r; exact ⟨e.trans h, q.keep k⟩
  | ldK o vs xs => obtain ⟨h, q⟩ := r; exact ⟨e.trans h, q.keep k⟩
  | ins C dx xs => obtain ⟨vs, h, q⟩ := r; exact ⟨vs, e.trans h, q.keep k⟩
  | own x => exact e.trans r
  | xd xs => obtain ⟨vs, h, q⟩ := r; exact ⟨vs, e.trans h, q.keep k⟩
theorem RepO.some {g : GO} (r : RepO K H a g) : ∃ u, H a = some u := by
  cases g with
  | lst xs => obtain ⟨vs, h, q⟩ := r; exact ⟨_, h⟩
  | dT xs => obtain ⟨vs, h, q⟩ := r; exact ⟨_, h⟩
  | dK xs => obtain ⟨vs, h, q⟩ := r; exact ⟨_, h⟩
  | ldT o vs xs => obtain ⟨h, q⟩ := r; exact ⟨_, h⟩
  | ldK o vs xs => obtain ⟨h, q⟩ := r; exact ⟨_, h⟩
  | ins C dx xs => obtain ⟨vs, h, q⟩ := r; exact ⟨_, h⟩
  | own x => exact ⟨_, r⟩
  | xd xs => obtain ⟨vs, h, q⟩ := r; exact ⟨_, h⟩
theorem RepH.free (h : RepH K G H) (n : H a = none) : G a = none := by
  cases e : G a with
  | none => rfl
  | some g =>
    obtain ⟨u, q⟩ := RepO.some (h a g e)
    rw [n] at q; cases q
/-- a new thing that is not told: a tuple -/
theorem RepH.skip {o : HO} (h : RepH K G H) (n : H a = none) : RepH K G (upd H a o) := fun b g e =>
  (h b g e).at (Keep.new n) (upd_ne (gne_none e (h.free n)))
/-- a new thing that is told -/
theorem RepH.new {o : HO} {g : GO} (h : RepH K G H) (n : H a = none) (r : RepO K (upd H a o) a g) : RepH K (gup G a g) (upd H a o) := fun b u e => by
  by_cases hb : b = a
  · subst hb; rw [gup_same] at e; cases e; exact r
  · rw [gup_ne hb] at e
    exact (h b u e).at (Keep.new n) (upd_ne hb)
/-- a thing is changed -/
theorem RepH.mut {u o : HO} {g : GO} (h : RepH K G H) (n : H a = some u) (s : Soft u) (r : RepO K (upd H a o) a g) : RepH K (gup G a g) (upd H a o) := fun b v e => by
  by_cases hb : b = a
  · subst hb; rw [gup_same] at e; cases e; exact r
  · rw [gup_ne hb] at e
    exact (h b v e).at (Keep.mut n s) (upd_ne hb)
/-- fewer things are told -/
theorem RepH.less {G' : G3} (h : RepH K G H) (l : ∀ b g, G' b = some g → G b = some g) : RepH K G' H := fun b g e => h b g (l b g e)
theorem obj_new {p : Addr} {ws : List U} {vs : List V} (n : H p = none) (r : RepL K H ws vs) : RepO K (upd H p (.lst vs)) p (.lst ws) := ⟨vs, upd_same, r.keep (Keep.new n)⟩
theorem obj_mut {p : Addr} {u : HO} {ws : List U} {vs : List V} (h : H p = some u) (s : Soft u) (r : RepL K H ws vs) : RepO K (upd H p (.lst vs)) p (.lst ws) := ⟨vs, upd_same, r.keep (Keep.mut h s)⟩
theorem RepS.keep {σ3 : S3} {σ : St} (r : RepS K H σ3 σ) (k : Keep H H') : RepS K H' σ3 σ := ⟨r.1, fun i w e => let ⟨v, h, q⟩ := r.2 i w e; ⟨v, h, q.keep k⟩⟩
theorem RepS.set {σ3 : S3} {σ : St} {w : U} {v : V} (r : RepS K H σ3 σ) (i : Nat) (q : Rep K H w v) : RepS K H (σ3.set i (some w)) (σ.set i (some v)) := by
  refine ⟨by rw [List.length_set, List.length_set]; exact r.1, fun j u e => ?_⟩
  by_cases h : i = j
  · subst h
    have hl : i < σ3.length := by
      have := (List.getElem?_eq_some_iff.mp e).1
      rwa [List.length_set] at this
    rw [List.getElem?_set_self hl] at e
    cases e
    exact ⟨v, List.getElem?_set_self (by rw [← r.1]; exact hl), q⟩
  · rw [List.getElem?_set_ne h] at e
    obtain ⟨x, h1, h2⟩ := r.2 j u e
    exact ⟨x, by rw [List.getElem?_set_ne h]; exact h1, h2⟩
end

/-- fewer things, fewer slots are told -/
def Sub (G0 G : G3) : Prop := ∀ b g, G0 b = some g → G b = some g
def SubS (σ0 σ : S3) : Prop := σ0.length = σ.length ∧ ∀ (i : Nat) (w : U), σ0[i]? = some (some w) → σ[i]? = some (some w)
theorem Sub.refl (G : G3) : Sub G G := fun _ _ h => h
theorem Sub.trans {G G1 G2 : G3} (a : Sub G G1) (b : Sub G1 G2) : Sub G G2 := fun x g h => b x g (a x g h)
theorem Sub.free {G G1 : G3} (a : Sub G G1) {p : Addr} (h : G1 p = none) : G p = none := by
  cases e : G p with
  | none => rfl
  | some g => rw [a p g e] at h; cases h
theorem Sub.new {G G1 : G3} (a : Sub G G1) {p : Addr} {o : GO} (h : G p = none) : Sub G (gup G1 p o) := fun b g e => by
  rw [gup_ne (gne_none e h)]
  exact a b g e
theorem Sub.up {G G1 : G3} (a : Sub G G1) {p : Addr} {o : GO} : Sub (gup G p o) (gup G1 p o) := fun b g e => by
  by_cases h : b = p
  · subst h; rw [gup_same] at e ⊢; exact e
  · rw [gup_ne h] at e ⊢; exact a b g e
theorem SubS.refl (σ : S3) : SubS σ σ := ⟨rfl, fun _ _ h => h⟩
theorem RepS.sub {K : PySem.W.Frag} {H : Hp} {σ0 σ3 : S3} {σ : L2.St} (r : RepS K H σ3 σ) (s : SubS σ0 σ3) : RepS K H σ0 σ := ⟨s.1.trans r.1, fun i w e => r.2 i w (s.2 i w e)⟩
def Wk (Q : U → G3 → Prop) : U → G3 → Prop := fun v G => ∃ G0, Sub G0 G ∧ Q v G0
def Wk1 (P : G3 → Prop) : G3 → Prop := fun G => ∃ G0, Sub G0 G ∧ P G0
def Wk2 (P : S3 → G3 → Prop) : S3 → G3 → Prop := fun σ G => ∃ σ0 G0, SubS σ0 σ ∧ Sub G0 G ∧ P σ0 G0
/-! ### readings over these values -/
abbrev K3 := U → G3 → Prop
abbrev TE3 := S3 → G3 → K3 → Prop
abbrev TT3 := S3 → G3 → (Bool → G3 → Prop) → Prop
abbrev TA3 := S3 → G3 → (List U → G3 → Prop) → Prop
abbrev TO3 := S3 → G3 → (Option Int → G3 → Prop) → Prop
structure En3 where
  nx : S3 → G3 → Prop
  rt : K3
  bk : S3 → G3 → Prop := fun _ _ => False
  ct : S3 → G3 → Prop := fun _ _ => False
  ex : Value → Option Addr → S3 → G3 → Prop := fun _ _ _ _ => False
abbrev TS3 := En3 → S3 → G3 → Prop
/-- what a continuation over these values says of one over the heap -/
def Post {α β : Type} (K : PySem.W.Frag) (R : Hp → α → β → Prop) (H : Hp) (Q3 : α → G3 → Prop) (Q : β → Hp → Prop) : Prop :=
  ∀ b H' a G', Keep H H' → RepH K G' H' → R H' a b → Q3 a G' → Q b H'
def low {α β : Type} (K : PySem.W.Frag) (R : Hp → α → β → Prop) (t : S3 → G3 → (α → G3 → Prop) → Prop) : St → Hp → (β → Hp → Prop) → Prop := fun σ H Q =>
  ∃ σ3 G Q3, RepS K H σ3 σ ∧ RepH K G H ∧ t σ3 G Q3 ∧ Post K R H Q3 Q
abbrev lowE (K : PySem.W.Frag) (t : TE3) : TE := low K (Rep K) t
abbrev lowT (K : PySem.W.Frag) (t : TT3) : TT := low K (fun _ (a b : Bool) => a = b) t
abbrev lowA (K : PySem.W.Frag) (t : TA3) : TA := low K (RepL K) t
abbrev lowO (K : PySem.W.Frag) (t : TO3) : TO := low K (fun _ (a b : Option Int) => a = b) t
/-- the ends of a statement -/
structure EndsLe (K : PySem.W.Frag) (W : WX) (H : Hp) (D3 : En3) (D : Ends) : Prop where
  nx : ∀ σ' H' σ3 G', Keep H H' → RepS K H' σ3 σ' → RepH K G' H' → D3.nx σ3 G' → D.nx σ' H'
  rt : Post K (Rep K) H D3.rt D.rt
  bk : ∀ σ' H' σ3 G', Keep H H' → RepS K H' σ3 σ' → RepH K G' H' → D3.bk σ3 G' → D.bk σ' H'
  ct : ∀ σ' H' σ3 G', Keep H H' → RepS K H' σ3 σ' → RepH K G' H' → D3.ct σ3 G' → D.ct σ' H'
  ex : ∀ c d σ' H' σ3 G', Keep H H' → RepS K H' σ3 σ' → RepH K G' H' → D3.ex c d σ3 G' → W c d σ' H'
def W0 : WX := fun _ _ _ _ => False
def lowS (K : PySem.W.Frag) (W : WX) (t : TS3) : TS := fun D σ H => ∃ σ3 G D3, RepS K H σ3 σ ∧ RepH K G H ∧ t D3 σ3 G ∧ EndsLe K W H D3 D
theorem Post.from {α β : Type} {K : PySem.W.Frag} {R : Hp → α → β → Prop} {H H1 : Hp} {Q3 : α → G3 → Prop} {Q : β → Hp → Prop} (p : Post K R H Q3 Q) (k : Keep H H1) : Post K R H1 Q3 Q :=
  fun b H' a G' k' => p b H' a G' (k.trans k')
theorem Post.here {α β : Type} {K : PySem.W.Frag} {R : Hp → α → β → Prop} {H : Hp} {Q3 : α → G3 → Prop} {Q : β → Hp → Prop} {a : α} {b : β} {G : G3} (p : Post K R H Q3 Q) (h : RepH K G H) (r : R H a b) (q : Q3 a G) : Q b H := p b H a G (Keep.refl H) h r q
theorem EndsLe.from {K : PySem.W.Frag} {W : WX} {H H1 : Hp} {D3 : En3} {D : Ends} (p : EndsLe K W H D3 D) (k : Keep H H1) : EndsLe K W H1 D3 D :=
  ⟨fun a b c d k' => p.nx a b c d (k.trans k'), p.rt.from k, fun a b c d k' => p.bk a b c d (k.trans k'), fun a b c d k' => p.ct a b c d (k.trans k'), fun x y a b c d k' => p.ex x y a b c d (k.trans k')⟩
theorem _root_.L2.PE.imp {X : Cx} {e : Expr} {t t' : TE} (h : PE X e t) (i : ∀ σ H Q, t' σ H Q → t σ H Q) : PE X e t' := ⟨fun pins s σ H Q I q => h.run pins s σ H Q I (i σ H Q q)⟩
theorem _root_.L2.PT.imp {X : Cx} {e : Expr} {t t' : TT} (h : PT X e t) (i : ∀ σ H Q, t' σ H Q → t σ H Q) : PT X e t' := ⟨fun pins s σ H Q I q => h.run pins s σ H Q I (i σ H Q q)⟩
theorem _root_.L2.PW.imp {X : Cx} {e : Expr} {t t' : TT} (h : PW X e t) (i : ∀ σ H Q, t' σ H Q → t σ H Q) : PW X e t' := ⟨fun w pins s σ H Q I q => h.run w pins s σ H Q I (i σ H Q q)⟩
theorem _root_.L2.PA.imp {X : Cx} {e : List Expr} {t t' : TA} (h : PA X e t) (i : ∀ σ H Q, t' σ H Q → t σ H Q) : PA X e t' := ⟨fun p pins s σ H Q I q => h.run p pins s σ H Q I (i σ H Q q)⟩
theorem _root_.L2.PO.imp {X : Cx} {e : Option Expr} {t t' : TO} (h : PO X e t) (i : ∀ σ H Q, t' σ H Q → t σ H Q) : PO X e t' := ⟨fun pins s σ H Q I q => h.run pins s σ H Q I (i σ H Q q)⟩
theorem _root_.L2.PS.imp {X : Cx} {e : Stmt} {t t' : TS} (h : PS X e t) (i : ∀ D σ H, t' D σ H → t D σ H) : PS X e t' := ⟨fun pins s σ H D I q => h.run pins s σ H D I (i D σ H q)⟩
theorem _root_.L2.PSs.imp {X : Cx} {e : List Stmt} {t t' : TS} (h : PSs X e t) (i : ∀ D σ H, t' D σ H → t D σ H) : PSs X e t' := ⟨fun pins s σ H D I q => h.run pins s σ H D I (i D σ H q)⟩
end L3
end
section
set_option Elab.async false
set_option linter.all false
set_option maxRecDepth 100000
set_option maxHeartbeats 2000000
/-! L3: expressions. -/
namespace L3
open PySem L2
section
variable {X : Cx} {a b c e : Expr} {pos : Pos} {ta tb tc te : TE3} {tA tB' : TT3}

/-! ### names and constants -/
def v3 (i : Nat) : TE3 := fun σ G Q => match σ[i]? with
  | some (some w) => Q w G
  | _ => False
theorem e3v (i : Nat) {x : Str} {pos : Pos} (hN : X.N[i]? = some x := by rfl) (hv : Vis X.env.scope x := by first | exact Or.inl rfl | exact Or.inr (Or.inl rfl) | exact Or.inr (Or.inr rfl)) (hd : (x == ("__debug__" : Str)) = false := by decide)
    (hcd : (x == ("__classdict__" : Str)) = false := by decide) : PE X (.Name x pos) (lowE X.K (v3 i)) := (pe_var hN hv hd hcd).imp fun σ H Q h => by
  obtain ⟨σ3, G, Q3, hs, hh, ht, hq⟩ := h
  unfold v3 at ht
  split at ht
  · rename_i w e
    obtain ⟨v, e2, r⟩ := hs.2 _ _ e
    exact ⟨v, e2, hq.here hh r ht⟩
  · exact ht.elim
def c3 (w : U) : TE3 := fun _ G Q => Q w G
theorem e3c {v : V} {w : U} (h : PE X e (tC v)) (r : ∀ H, Rep X.K H w v) : PE X e (lowE X.K (c3 w)) := h.imp fun σ H Q h => by
  obtain ⟨σ3, G, Q3, hs, hh, ht, hq⟩ := h
  exact hq.here hh (r H) ht
theorem e3int {i j pos} : PE X (.Constant (.int i) j pos) (lowE X.K (c3 (.int i))) := e3c pe_int fun _ => .int i
theorem e3bl {i j pos} : PE X (.Constant (.bool i) j pos) (lowE X.K (c3 (.bl i))) := e3c pe_bl fun _ => .bl i
theorem e3non {j pos} : PE X (.Constant .none j pos) (lowE X.K (c3 .non)) := e3c pe_non fun _ => .non
theorem e3str {i j pos} : PE X (.Constant (.str i) j pos) (lowE X.K (c3 (.str i))) := e3c pe_str fun _ => .str i
theorem e3ty {x : Str} {n : String} {pos : Pos} (hg : Gl X x) (hm : X.mg x = none) (hv : bootBuiltins x = some (.type n)) (hn : x ≠ "__name__" := by decide) (hd : (x == ("__debug__" : Str)) = false := by decide) : PE X (.Name x pos) (lowE X.K (c3 (.ty n))) :=
  e3c (pe_bltn (v := .ty n) hg hm hv rfl hn hd) fun _ => .ty n
/-- a class, a def of the module as a value -/
theorem e3glob {x : Str} {C : Addr} {pos : Pos} (hg : Gl X x) (hm : X.mg x = some (.ref C)) (hd : (x == ("__debug__" : Str)) = false := by decide) : PE X (.Name x pos) (lowE X.K (c3 (.ref C))) :=
  e3c (pe_glob (v := .ref C) hg hm rfl hd) fun _ => .ref C

/-! ### operators by values -/
abbrev R3 := U → U → G3 → K3 → Prop
def lowR (K : PySem.W.Frag) (r : R3) : R2 := fun x y H Q => ∃ a b G Q3, Rep K H a x ∧ Rep K H b y ∧ RepH K G H ∧ r a b G Q3 ∧ Post K (Rep K) H Q3 Q
theorem OpR.imp {f : Value → Value → Sem Value} {r r' : R2} (h : OpR X f r) (i : ∀ x y H Q, r' x y H Q → r x y H Q) : OpR X f r' := fun pins s σ H x y v u Q I rx ry q => h pins s σ H x y v u Q I rx ry (i _ _ _ _ q)
def op3 (r : R3) (ta tb : TE3) : TE3 := fun σ G Q => ta σ G fun x G1 => tb σ G1 fun y G2 => r x y G2 Q
theorem op3_low {K : PySem.W.Frag} {r : R3} : ∀ σ H Q, lowE K (op3 r ta tb) σ H Q → tOp (lowR K r) (lowE K ta) (lowE K tb) σ H Q := fun σ H Q h => by
  obtain ⟨σ3, G, Q3, hs, hh, ht, hq⟩ := h
  refine ⟨σ3, G, _, hs, hh, ht, fun x H1 a G1 k1 hh1 ra q1 => ?_⟩
  refine ⟨σ3, G1, _, hs.keep k1, hh1, q1, fun y H2 b G2 k2 hh2 rb q2 => ?_⟩
  exact ⟨a, b, G2, Q3, ra.keep k2, rb, hh2, q2, hq.from (k1.trans k2)⟩
theorem e3op {op : Operator} {r : R3} (ho : OpR X (binaryOp op) (lowR X.K r)) (ha : PE X a (lowE X.K ta)) (hb : PE X b (lowE X.K tb)) : PE X (.BinOp a op b pos) (lowE X.K (op3 r ta tb)) := (pe_op ho ha hb).imp op3_low
theorem e3cmp {op : CmpOp} {r : R3} (ho : OpR X (compareOp op) (lowR X.K r)) (ha : PE X a (lowE X.K ta)) (hb : PE X b (lowE X.K tb)) (hm : behindInMarks op b = false := by first | exact nomark _ | rfl) : PE X (.Compare a [op] [b] pos) (lowE X.K (op3 r ta tb)) := (pe_cmpR ho ha hb hm).imp op3_low
/-- a value that is to be True or False, as a test -/
def te3 (t : TE3) : TT3 := fun σ G Q => t σ G fun x G1 => match x with
  | .bl b => Q b G1
  | _ => False
theorem te3_low {K : PySem.W.Frag} {t : TE3} : ∀ σ H Q, lowT K (te3 t) σ H Q → tTest (lowE K t) σ H Q := fun σ H Q h => by
  obtain ⟨σ3, G, Q3, hs, hh, ht, hq⟩ := h
  refine ⟨σ3, G, _, hs, hh, ht, fun x H1 a G1 k1 hh1 ra q1 => ?_⟩
  split at q1
  · cases ra
    exact ⟨_, rfl, hq _ _ _ _ k1 hh1 rfl q1⟩
  · exact q1.elim
theorem tTest_mono {t t' : TE} (h : ∀ σ H Q, t' σ H Q → t σ H Q) : ∀ σ H Q, tTest t' σ H Q → tTest t σ H Q := fun σ H Q q => h _ _ _ q
theorem t3cmp {op : CmpOp} {r : R3} (ho : OpR X (compareOp op) (lowR X.K r)) (ha : PE X a (lowE X.K ta)) (hb : PE X b (lowE X.K tb)) (hm : behindInMarks op b = false := by first | exact nomark _ | rfl) : PT X (.Compare a [op] [b] pos) (lowT X.K (te3 (op3 r ta tb))) :=
  (pt_cmpR ho ha hb hm).imp fun σ H Q h => tTest_mono op3_low _ _ _ (te3_low _ _ _ h)
theorem t3val {t : TE3} (h : PE X e (lowE X.K t)) (he : ∀ whole, isTrue e X.env whole = (do let v ← whole; standAt e.pos; holding [v] (truthy v)) := by intro _; rfl) : PT X e (lowT X.K (te3 t)) :=
  (pt_val h he).imp fun σ H Q h => te3_low _ _ _ h

def rI3 (C : Int → Int → Prop) (g : Int → Int → U) : R3 := fun x y G Q => match x, y with
  | .int i, .int j => C i j ∧ Q (g i j) G
  | _, _ => False
def rI03 (g : Int → Int → U) : R3 := fun x y G Q => match x, y with
  | .int i, .int j => Q (g i j) G
  | _, _ => False
theorem opI3 {f : Value → Value → Sem Value} {C : Int → Int → Prop} {g : Int → Int → V} {g3 : Int → Int → U} (h : OpR X f (rI C g)) (hg : ∀ H i j, Rep X.K H (g3 i j) (g i j)) : OpR X f (lowR X.K (rI3 C g3)) := OpR.imp h fun x y H Q q => by
  obtain ⟨a, b, G, Q3, ra, rb, hh, q, p⟩ := q
  unfold rI3 at q
  split at q
  · cases ra; cases rb
    exact ⟨_, _, rfl, rfl, q.1, p.here hh (hg H _ _) q.2⟩
  · exact q.elim
theorem opI03 {f : Value → Value → Sem Value} {g : Int → Int → V} {g3 : Int → Int → U} (h : OpR X f (rI0 g)) (hg : ∀ H i j, Rep X.K H (g3 i j) (g i j)) : OpR X f (lowR X.K (rI03 g3)) := OpR.imp h fun x y H Q q => by
  obtain ⟨a, b, G, Q3, ra, rb, hh, q, p⟩ := q
  unfold rI03 at q
  split at q
  · cases ra; cases rb
    exact ⟨_, _, rfl, rfl, p.here hh (hg H _ _) q⟩
  · exact q.elim
theorem o_add : OpR X (binaryOp .Add) (lowR X.K (rI03 fun i j => .int (i + j))) := opI03 op_add fun _ _ _ => .int _
theorem o_sub : OpR X (binaryOp .Sub) (lowR X.K (rI03 fun i j => .int (i - j))) := opI03 op_sub fun _ _ _ => .int _
theorem o_mul : OpR X (binaryOp .Mult) (lowR X.K (rI3 CMul fun i j => .int (i * j))) := opI3 op_mul fun _ _ _ => .int _
theorem o_fdiv : OpR X (binaryOp .FloorDiv) (lowR X.K (rI3 CDivN fun i j => .int (i.fdiv j))) := opI3 op_fdivN fun _ _ _ => .int _
theorem o_mod : OpR X (binaryOp .Mod) (lowR X.K (rI3 (fun _ j => j ≠ 0) fun i j => .int (i.fmod j))) := opI3 op_modN fun _ _ _ => .int _
theorem o_pow : OpR X (binaryOp .Pow) (lowR X.K (rI3 CPow fun i j => .int (i ^ j.toNat))) := opI3 op_pow fun _ _ _ => .int _
theorem o_shl : OpR X (binaryOp .LShift) (lowR X.K (rI3 CPow fun i j => .int (i * 2 ^ j.toNat))) := opI3 op_shl fun _ _ _ => .int _
theorem o_lt : OpR X (compareOp .Lt) (lowR X.K (rI03 fun i j => .bl (decide (i < j)))) := opI03 op_lt fun _ _ _ => .bl _
theorem o_le : OpR X (compareOp .LtE) (lowR X.K (rI03 fun i j => .bl (decide (i ≤ j)))) := opI03 op_le fun _ _ _ => .bl _
theorem o_gt : OpR X (compareOp .Gt) (lowR X.K (rI03 fun i j => .bl (decide (j < i)))) := opI03 op_gt fun _ _ _ => .bl _
theorem o_ge : OpR X (compareOp .GtE) (lowR X.K (rI03 fun i j => .bl (decide (j ≤ i)))) := opI03 op_ge fun _ _ _ => .bl _
def rI1 (g : Int → U) : U → G3 → K3 → Prop := fun x G Q => match x with
  | .int i => Q (g i) G
  | _ => False

/-! ### data: nested tuples of numbers, texts, truth values, None -/
mutual
def pd : U → PyData
  | .non => .none
  | .bl b => .bool b
  | .int i => .int i
  | .str x => .str x
  | .tup xs => .tuple (pdL xs)
  | .wtup xs => .tuple (pdL xs)
  | .lit xs => .list (pdL xs)
  | .ty _ => .none
  | .ref _ => .none
def pdL : List U → List PyData
  | [] => []
  | x :: xs => pd x :: pdL xs
end
mutual
def noref : U → Bool
  | .non => true
  | .bl _ => true
  | .int _ => true
  | .str _ => true
  | .tup xs => norefL xs
  | .wtup xs => norefL xs
  | .lit xs => norefL xs
  | .ty _ => false
  | .ref _ => false
def norefL : List U → Bool
  | [] => true
  | x :: xs => noref x && norefL xs
end
theorem pdL_map : ∀ xs : List U, pdL xs = xs.map pd
  | [] => rfl
  | x :: xs => by rw [pdL, List.map_cons, pdL_map xs]
theorem norefL_all : ∀ xs : List U, norefL xs = xs.all noref
  | [] => rfl
  | x :: xs => by rw [norefL, List.all_cons, norefL_all xs]
/-- may be compared -/
def dat (x : U) : Bool := noref x && SeqAt.shaped (pd x)
theorem Rep.dp {K : PySem.W.Frag} {H : Hp} {w : U} {v : V} (r : Rep K H w v) : noref w = true → Dp K H v (pd w) :=
  Rep.rec (motive_1 := fun w v _ => noref w = true → Dp K H v (pd w)) (motive_2 := fun ws vs _ => norefL ws = true → DpAll K H vs (pdL ws))
    (fun _ => .non) (fun b _ => .bl b) (fun i _ => .int i) (fun x _ => .str x) (fun n h => by cases h) (fun a h => by cases h)
    (fun h _ ih n => .tup (SqT.of h) (ih n)) (fun h _ ih n => .tup h (ih n)) (fun h _ ih n => .lst (LitAt.sq h) (ih n))
    (fun _ => .nil) (fun _ _ ih1 ih2 n => by
      rw [norefL, Bool.and_eq_true] at n
      exact .cons (ih1 n.1) (ih2 n.2)) r
theorem RepL.dp {K : PySem.W.Frag} {H : Hp} : ∀ {ws : List U} {vs : List V}, RepL K H ws vs → norefL ws = true → DpAll K H vs (pdL ws)
  | _, _, .nil, _ => .nil
  | _, _, .cons a b, n => by
    rw [norefL, Bool.and_eq_true] at n
    exact .cons (a.dp n.1) (RepL.dp b n.2)
/-- x == y of data -/
def eq3 (x y : U) : Bool := PyData.eqv (pd x) (pd y)
def rEq3 (neg : Bool) : R3 := fun x y G Q => dat x = true ∧ dat y = true ∧ Q (.bl (if neg then !eq3 x y else eq3 x y)) G
theorem o_eq (hu : X.A.units + 64 < cLine) : OpR X (compareOp .Eq) (lowR X.K (rEq3 false)) := OpR.imp (op_eqD hu) fun x y H Q q => by
  obtain ⟨a, b, G, Q3, ra, rb, hh, ⟨h1, h2, q⟩, p⟩ := q
  unfold dat at h1 h2
  rw [Bool.and_eq_true] at h1 h2
  exact ⟨_, _, ra.dp h1.1, rb.dp h2.1, h1.2, h2.2, p.here hh (.bl _) q⟩
theorem o_ne (hu : X.A.units + 64 < cLine) : OpR X (compareOp .NotEq) (lowR X.K (rEq3 true)) := OpR.imp (op_neD hu) fun x y H Q q => by
  obtain ⟨a, b, G, Q3, ra, rb, hh, ⟨h1, h2, q⟩, p⟩ := q
  unfold dat at h1 h2
  rw [Bool.and_eq_true] at h1 h2
  exact ⟨_, _, ra.dp h1.1, rb.dp h2.1, h1.2, h2.2, p.here hh (.bl _) q⟩
/-- two lists of data compared -/
def rNeL3 (neg : Bool) : R3 := fun x y G Q => match x, y with
  | .ref a, .ref b => ∃ xs ys, G a = some (.lst xs) ∧ G b = some (.lst ys) ∧ dat (.lit xs) = true ∧ dat (.lit ys) = true ∧ Q (.bl (if neg then !eq3 (.lit xs) (.lit ys) else eq3 (.lit xs) (.lit ys))) G
  | _, _ => False
theorem list_dp {K : PySem.W.Frag} {G : G3} {H : Hp} {a : Addr} {xs : List U} (hh : RepH K G H) (h : G a = some (.lst xs)) (d : noref (.lit xs) = true) : Dp K H (.ref a) (pd (.lit xs)) := by
  obtain ⟨vs, e, r⟩ := hh a _ h
  exact .lst (SqL.of e) (r.dp d)
theorem o_eqL (hu : X.A.units + 64 < cLine) : OpR X (compareOp .Eq) (lowR X.K (rNeL3 false)) := OpR.imp (op_eqD hu) fun x y H Q q => by
  obtain ⟨a, b, G, Q3, ra, rb, hh, q, p⟩ := q
  unfold rNeL3 at q
  split at q
  · obtain ⟨xs, ys, h1, h2, d1, d2, q⟩ := q
    cases ra; cases rb
    unfold dat at d1 d2
    rw [Bool.and_eq_true] at d1 d2
    exact ⟨_, _, list_dp hh h1 d1.1, list_dp hh h2 d2.1, d1.2, d2.2, p.here hh (.bl _) q⟩
  · exact q.elim
theorem o_neL (hu : X.A.units + 64 < cLine) : OpR X (compareOp .NotEq) (lowR X.K (rNeL3 true)) := OpR.imp (op_neD hu) fun x y H Q q => by
  obtain ⟨a, b, G, Q3, ra, rb, hh, q, p⟩ := q
  unfold rNeL3 at q
  split at q
  · obtain ⟨xs, ys, h1, h2, d1, d2, q⟩ := q
    cases ra; cases rb
    unfold dat at d1 d2
    rw [Bool.and_eq_true] at d1 d2
    exact ⟨_, _, list_dp hh h1 d1.1, list_dp hh h2 d2.1, d1.2, d2.2, p.here hh (.bl _) q⟩
  · exact q.elim
/-- x in a list of data -/
def rIn3 (neg : Bool) : R3 := fun x y G Q => match y with
  | .ref a => ∃ xs, G a = some (.lst xs) ∧ dat x = true ∧ dat (.lit xs) = true ∧ Q (.bl (if neg then !(xs.any fun z => eq3 z x) else xs.any fun z => eq3 z x)) G
  | _ => False
theorem any_pd (x : PyData) : ∀ xs : List U, ((pdL xs).any fun z => PyData.eqv z x) = xs.any fun z => PyData.eqv (pd z) x
  | [] => rfl
  | y :: ys => by rw [pdL, List.any_cons, List.any_cons, any_pd x ys]
theorem o_in (hu : X.A.units + 65 < cLine) : OpR X (compareOp .In) (lowR X.K (rIn3 false)) := OpR.imp (op_inD hu) fun x y H Q q => by
  obtain ⟨a, b, G, Q3, ra, rb, hh, q, p⟩ := q
  unfold rIn3 at q
  split at q
  · obtain ⟨xs, h1, d1, d2, q⟩ := q
    cases rb
    unfold dat at d1 d2
    rw [Bool.and_eq_true] at d1 d2
    refine ⟨_, _, ra.dp d1.1, list_dp hh h1 d2.1, d1.2, d2.2, p.here hh (.bl _) ?_⟩
    rw [any_pd]
    exact q
  · exact q.elim
theorem o_notin (hu : X.A.units + 65 < cLine) : OpR X (compareOp .NotIn) (lowR X.K (rIn3 true)) := OpR.imp (op_notInD hu) fun x y H Q q => by
  obtain ⟨a, b, G, Q3, ra, rb, hh, q, p⟩ := q
  unfold rIn3 at q
  split at q
  · obtain ⟨xs, h1, d1, d2, q⟩ := q
    cases rb
    unfold dat at d1 d2
    rw [Bool.and_eq_true] at d1 d2
    refine ⟨_, _, ra.dp d1.1, list_dp hh h1 d2.1, d1.2, d2.2, p.here hh (.bl _) ?_⟩
    rw [any_pd]
    exact q
  · exact q.elim
/-- x is None -/
def isN : U → Bool
  | .non => true
  | _ => false
def rIsN3 (neg : Bool) : R3 := fun x y G Q => match y with
  | .non => Q (.bl (if neg then !isN x else isN x)) G
  | _ => False
theorem isN_eq {K : PySem.W.Frag} {H : Hp} {w : U} {v : V} (r : Rep K H w v) : decide (v = .non) = isN w := by
  cases r <;> simp [isN]
theorem o_isN : OpR X (compareOp .Is) (lowR X.K (rIsN3 false)) := OpR.imp op_isN fun x y H Q q => by
  obtain ⟨a, b, G, Q3, ra, rb, hh, q, p⟩ := q
  unfold rIsN3 at q
  split at q
  · cases rb
    exact ⟨rfl, p.here hh (by rw [isN_eq ra]; exact .bl _) q⟩
  · exact q.elim
theorem o_notN : OpR X (compareOp .IsNot) (lowR X.K (rIsN3 true)) := OpR.imp op_notN fun x y H Q q => by
  obtain ⟨a, b, G, Q3, ra, rb, hh, q, p⟩ := q
  unfold rIsN3 at q
  split at q
  · cases rb
    exact ⟨rfl, p.here hh (by rw [isN_eq ra]; exact .bl _) q⟩
  · exact q.elim

/-! ### and, or, not -/
def and3 (t u : TT3) : TT3 := fun σ G Q => t σ G fun c G1 => if c = true then u σ G1 Q else Q false G1
def or3 (t u : TT3) : TT3 := fun σ G Q => t σ G fun c G1 => if c = true then Q true G1 else u σ G1 Q
def not3 (t : TT3) : TT3 := fun σ G Q => t σ G fun c G1 => Q (!c) G1
theorem w3and1 (ha : PT X a (lowT X.K tA)) : PW X (.BoolOp .And [a] pos) (lowT X.K tA) := pw_and1 ha
theorem w3or1 (ha : PT X a (lowT X.K tA)) : PW X (.BoolOp .Or [a] pos) (lowT X.K tA) := pw_or1 ha
theorem w3and {rest : List Expr} (ha : PT X a (lowT X.K tA)) (hb : PW X (.BoolOp .And (b :: rest) pos) (lowT X.K tB')) : PW X (.BoolOp .And (a :: b :: rest) pos) (lowT X.K (and3 tA tB')) := (pw_and ha hb).imp fun σ H Q h => by
  obtain ⟨σ3, G, Q3, hs, hh, ht, hq⟩ := h
  refine ⟨σ3, G, _, hs, hh, ht, fun d H1 d' G1 k1 hh1 e q1 => ?_⟩
  obtain rfl : d' = d := e
  cases d' with
  | true => exact ⟨σ3, G1, _, hs.keep k1, hh1, q1, hq.from k1⟩
  | false => exact hq _ _ _ _ k1 hh1 rfl q1
theorem w3or {rest : List Expr} (ha : PT X a (lowT X.K tA)) (hb : PW X (.BoolOp .Or (b :: rest) pos) (lowT X.K tB')) : PW X (.BoolOp .Or (a :: b :: rest) pos) (lowT X.K (or3 tA tB')) := (pw_or ha hb).imp fun σ H Q h => by
  obtain ⟨σ3, G, Q3, hs, hh, ht, hq⟩ := h
  refine ⟨σ3, G, _, hs, hh, ht, fun d H1 d' G1 k1 hh1 e q1 => ?_⟩
  obtain rfl : d' = d := e
  cases d' with
  | false => exact ⟨σ3, G1, _, hs.keep k1, hh1, q1, hq.from k1⟩
  | true => exact hq _ _ _ _ k1 hh1 rfl q1
theorem t3not (ha : PT X a (lowT X.K tA)) : PT X (.UnaryOp .Not a pos) (lowT X.K (not3 tA)) := (pt_not ha).imp fun σ H Q h => by
  obtain ⟨σ3, G, Q3, hs, hh, ht, hq⟩ := h
  refine ⟨σ3, G, _, hs, hh, ht, fun d H1 d' G1 k1 hh1 e q1 => ?_⟩
  obtain rfl : d' = d := e
  exact hq _ _ _ _ k1 hh1 rfl q1
/-- as values: True and False -/
def andV3 (ta tb : TE3) : TE3 := fun σ G Q => ta σ G fun x G1 => match x with
  | .bl c => if c = true then tb σ G1 Q else Q (.bl false) G1
  | _ => False
def orV3 (ta tb : TE3) : TE3 := fun σ G Q => ta σ G fun x G1 => match x with
  | .bl c => if c = true then Q (.bl true) G1 else tb σ G1 Q
  | _ => False
def notV3 (ta : TE3) : TE3 := fun σ G Q => ta σ G fun x G1 => match x with
  | .bl c => Q (.bl (!c)) G1
  | _ => False
theorem e3one {op : BoolOp} (h : PE X a (lowE X.K ta)) : PE X (.BoolOp op [a] pos) (lowE X.K ta) := pe_one h
theorem e3and {rest : List Expr} (ha : PE X a (lowE X.K ta)) (hb : PE X (.BoolOp .And (b :: rest) pos) (lowE X.K tb)) : PE X (.BoolOp .And (a :: b :: rest) pos) (lowE X.K (andV3 ta tb)) := (pe_and ha hb).imp fun σ H Q h => by
  obtain ⟨σ3, G, Q3, hs, hh, ht, hq⟩ := h
  refine ⟨σ3, G, _, hs, hh, ht, fun d H1 d' G1 k1 hh1 e q1 => ?_⟩
  split at q1
  · rename_i c
    cases e
    refine ⟨c, rfl, ?_⟩
    cases c with
    | true => exact ⟨σ3, G1, _, hs.keep k1, hh1, q1, hq.from k1⟩
    | false => exact hq _ _ _ _ k1 hh1 (.bl _) q1
  · exact q1.elim
theorem e3or {rest : List Expr} (ha : PE X a (lowE X.K ta)) (hb : PE X (.BoolOp .Or (b :: rest) pos) (lowE X.K tb)) : PE X (.BoolOp .Or (a :: b :: rest) pos) (lowE X.K (orV3 ta tb)) := (pe_or ha hb).imp fun σ H Q h => by
  obtain ⟨σ3, G, Q3, hs, hh, ht, hq⟩ := h
  refine ⟨σ3, G, _, hs, hh, ht, fun d H1 d' G1 k1 hh1 e q1 => ?_⟩
  split at q1
  · rename_i c
    cases e
    refine ⟨c, rfl, ?_⟩
    cases c with
    | false => exact ⟨σ3, G1, _, hs.keep k1, hh1, q1, hq.from k1⟩
    | true => exact hq _ _ _ _ k1 hh1 (.bl _) q1
  · exact q1.elim
theorem e3not (ha : PE X a (lowE X.K ta)) : PE X (.UnaryOp .Not a pos) (lowE X.K (notV3 ta)) := (pe_not ha).imp fun σ H Q h => by
  obtain ⟨σ3, G, Q3, hs, hh, ht, hq⟩ := h
  refine ⟨σ3, G, _, hs, hh, ht, fun d H1 d' G1 k1 hh1 e q1 => ?_⟩
  split at q1
  · cases e
    exact ⟨_, rfl, hq _ _ _ _ k1 hh1 (.bl _) q1⟩
  · exact q1.elim
def if3 (t : TT3) (ta tb : TE3) : TE3 := fun σ G Q => t σ G fun c G1 => if c = true then ta σ G1 Q else tb σ G1 Q
theorem e3if (hc : PT X c (lowT X.K tA)) (ha : PE X a (lowE X.K ta)) (hb : PE X b (lowE X.K tb)) : PE X (.IfExp c a b pos) (lowE X.K (if3 tA ta tb)) := (pe_ifExp hc ha hb).imp fun σ H Q h => by
  obtain ⟨σ3, G, Q3, hs, hh, ht, hq⟩ := h
  refine ⟨σ3, G, _, hs, hh, ht, fun d H1 d' G1 k1 hh1 e q1 => ?_⟩
  obtain rfl : d' = d := e
  cases d' with
  | false => exact ⟨σ3, G1, _, hs.keep k1, hh1, q1, hq.from k1⟩
  | true => exact ⟨σ3, G1, _, hs.keep k1, hh1, q1, hq.from k1⟩
/-- truth -/
def truR (x : U) (G : G3) (Q : Bool → G3 → Prop) : Prop := match x with
  | .non => Q false G
  | .bl b => Q b G
  | .int i => Q (i != 0) G
  | .tup xs => Q (!xs.isEmpty) G
  | .ref a => ∃ xs, G a = some (.lst xs) ∧ Q (!xs.isEmpty) G
  | _ => False
def tru3 (t : TE3) : TT3 := fun σ G Q => t σ G fun x G1 => truR x G1 Q
theorem RepL.isEmpty {K : PySem.W.Frag} {H : Hp} {ws : List U} {vs : List V} (r : RepL K H ws vs) : ws.isEmpty = vs.isEmpty := by cases r <;> rfl
theorem t3tru (ha : PE X a (lowE X.K ta)) (he : ∀ whole, isTrue a X.env whole = (do let v ← whole; standAt a.pos; holding [v] (truthy v)) := by intro _; rfl) : PT X a (lowT X.K (tru3 ta)) := (pt_truth ha he).imp fun σ H Q h => by
  obtain ⟨σ3, G, Q3, hs, hh, ht, hq⟩ := h
  refine ⟨σ3, G, _, hs, hh, ht, fun d H1 d' G1 k1 hh1 e q1 => ?_⟩
  unfold truR at q1
  split at q1
  · cases e; exact ⟨_, rfl, hq _ _ _ _ k1 hh1 rfl q1⟩
  · cases e; exact ⟨_, rfl, hq _ _ _ _ k1 hh1 rfl q1⟩
  · cases e; exact ⟨_, rfl, hq _ _ _ _ k1 hh1 rfl q1⟩
  · cases e with
    | tup h r => exact ⟨_, .inr (.inl ⟨_, SqT.of h, rfl⟩), hq _ _ _ _ k1 hh1 (by rw [← r.isEmpty]) q1⟩
  · cases e
    obtain ⟨xs, h, q1⟩ := q1
    obtain ⟨vs, h2, r⟩ := hh1 _ _ h
    exact ⟨_, .inl ⟨_, SqL.of h2, rfl⟩, hq _ _ _ _ k1 hh1 (by rw [← r.isEmpty]) q1⟩
  · exact q1.elim

/-! ### items, slices, displays -/
theorem RepL.atI {K : PySem.W.Frag} {H : Hp} {ws : List U} {vs : List V} {i : Int} {w : U} (r : RepL K H ws vs) (h : L2.atI ws i = some w) : ∃ v, L2.atI vs i = some v ∧ Rep K H w v := by
  unfold L2.atI at h ⊢
  rw [← r.length]
  cases e : ixN ws.length i with
  | none => rw [e] at h; cases h
  | some j =>
    rw [e] at h
    exact r.get h
def rIx3 : R3 := fun x y G Q => match x, y with
  | .tup xs, .int i => ∃ v, L2.atI xs i = some v ∧ Q v G
  | .wtup xs, .int i => ∃ v, L2.atI xs i = some v ∧ Q v G
  | .lit xs, .int i => ∃ v, L2.atI xs i = some v ∧ Q v G
  | .ref a, .int i => ∃ xs v, G a = some (.lst xs) ∧ L2.atI xs i = some v ∧ Q v G
  | _, _ => False
theorem IxR.imp {r r' : R2} (h : IxR X r) (i : ∀ x y H Q, r' x y H Q → r x y H Q) : IxR X r' := fun va sl pins s σ H x y v u Q I rx ry q hp => h va sl pins s σ H x y v u Q I rx ry (i _ _ _ _ q) hp
theorem x_ix : IxR X (lowR X.K rIx3) := IxR.imp ix_seq fun x y H Q q => by
  obtain ⟨a, b, G, Q3, ra, rb, hh, q, p⟩ := q
  unfold rIx3 at q
  split at q
  · obtain ⟨v, h, q⟩ := q
    cases rb
    cases ra with
    | tup h1 r =>
      obtain ⟨v', h2, r2⟩ := r.atI h
      exact .inr (.inl ⟨_, _, _, _, rfl, rfl, SqT.of h1, h2, p.here hh r2 q⟩)
  · obtain ⟨v, h, q⟩ := q
    cases rb
    cases ra with
    | wtup h1 r =>
      obtain ⟨v', h2, r2⟩ := r.atI h
      exact .inr (.inl ⟨_, _, _, _, rfl, rfl, h1, h2, p.here hh r2 q⟩)
  · obtain ⟨v, h, q⟩ := q
    cases rb
    cases ra with
    | lit h1 r =>
      obtain ⟨v', h2, r2⟩ := r.atI h
      exact .inl ⟨_, _, _, _, rfl, rfl, h1.sq, h2, p.here hh r2 q⟩
  · obtain ⟨xs, v, hg, h, q⟩ := q
    cases rb
    cases ra
    obtain ⟨vs, e, r⟩ := hh _ _ hg
    obtain ⟨v', h2, r2⟩ := r.atI h
    exact .inl ⟨_, _, _, _, rfl, rfl, SqL.of e, h2, p.here hh r2 q⟩
  · exact q.elim
theorem e3ix (ha : PE X a (lowE X.K ta)) (hb : PE X b (lowE X.K tb)) (hs : PlainIx b := by exact fun _ _ => rfl) : PE X (.Subscript a b pos) (lowE X.K (op3 rIx3 ta tb)) := (pe_ix x_ix ha hb hs).imp op3_low

/-! ### argument lists, displays -/
def nil3 : TA3 := fun _ G Q => Q [] G
def cons3 (ta : TE3) (tr : TA3) : TA3 := fun σ G Q => ta σ G fun x G1 => tr σ G1 fun xs G2 => Q (x :: xs) G2
theorem a3nil : PA X [] (lowA X.K nil3) := pa_nil.imp fun σ H Q h => by
  obtain ⟨σ3, G, Q3, hs, hh, ht, hq⟩ := h
  exact hq.here hh .nil ht
theorem a3cons {es : List Expr} {t : TA3} (ha : PE X e (lowE X.K te)) (hr : PA X es (lowA X.K t)) (hs : starEach (e :: es) X.env = (false, eval e X.env) :: starEach es X.env := by rfl) : PA X (e :: es) (lowA X.K (cons3 te t)) := (pa_cons ha hr hs).imp fun σ H Q h => by
  obtain ⟨σ3, G, Q3, hs, hh, ht, hq⟩ := h
  refine ⟨σ3, G, _, hs, hh, ht, fun x H1 a G1 k1 hh1 ra q1 => ?_⟩
  refine ⟨σ3, G1, _, hs.keep k1, hh1, q1, fun y H2 b G2 k2 hh2 rb q2 => ?_⟩
  exact hq _ _ _ _ (k1.trans k2) hh2 (.cons (ra.keep k2) rb) q2
def tup3 (t : TA3) : TE3 := fun σ G Q => t σ G fun xs G1 => decide (xs.length ≤ 100000) = true ∧ Q (.tup xs) G1
def lst3 (t : TA3) : TE3 := fun σ G Q => t σ G fun xs G1 => decide (xs.length ≤ 100000) = true ∧ ∀ p, G1 p = none → Q (.ref p) (gup G1 p (.lst xs))
theorem sz {n : Nat} (h : decide (n ≤ 100000) = true) : n ≤ sizeLine := Nat.le_trans (of_decide_eq_true h) (by decide)
theorem e3tup {es : List Expr} {t : TA3} {x1} (h : PA X es (lowA X.K t)) : PE X (.Tuple es x1 pos) (lowE X.K (tup3 t)) := (pe_tup h).imp fun σ H Q h => by
  obtain ⟨σ3, G, Q3, hs, hh, ht, hq⟩ := h
  refine ⟨σ3, G, _, hs, hh, ht, fun vs H1 ws G1 k1 hh1 r q1 => ⟨by rw [← r.length]; exact sz q1.1, fun p hp => ?_⟩⟩
  exact hq _ _ _ _ (k1.trans (Keep.new hp)) (hh1.skip hp) (.tup upd_same (r.keep (Keep.new hp))) q1.2
theorem e3lst {es : List Expr} {t : TA3} (h : PA X es (lowA X.K t)) : PE X (.List es pos) (lowE X.K (lst3 t)) := (pe_lst h).imp fun σ H Q h => by
  obtain ⟨σ3, G, Q3, hs, hh, ht, hq⟩ := h
  refine ⟨σ3, G, _, hs, hh, ht, fun vs H1 ws G1 k1 hh1 r q1 => ⟨by rw [← r.length]; exact sz q1.1, fun p hp => ?_⟩⟩
  exact hq _ _ _ _ (k1.trans (Keep.new hp)) (hh1.new hp (obj_new hp r)) (.ref _) (q1.2 p (hh1.free hp))

/-! ### slices -/
def cut3 (xs : List U) (lo hi : Option Int) : List U := (xs.drop (HT.sIx xs.length 0 lo)).take (HT.sIx xs.length xs.length hi - HT.sIx xs.length 0 lo)
theorem RepL.cut {K : PySem.W.Frag} {H : Hp} {ws : List U} {vs : List V} (r : RepL K H ws vs) (lo hi : Option Int) : RepL K H (cut3 ws lo hi) (cutV vs lo hi) := by
  unfold cut3 cutV
  rw [r.length]
  exact (r.drop _).take _
def noPart3 : TO3 := fun _ G Q => Q none G
def part3 (t : TE3) : TO3 := fun σ G Q => t σ G fun x G1 => match x with
  | .int i => Q (some i) G1
  | _ => False
theorem o3none : PO X none (lowO X.K noPart3) := po_none.imp fun σ H Q h => by
  obtain ⟨σ3, G, Q3, hs, hh, ht, hq⟩ := h
  exact hq.here hh rfl ht
theorem o3some (h : PE X e (lowE X.K te)) : PO X (some e) (lowO X.K (part3 te)) := (po_some h).imp fun σ H Q h => by
  obtain ⟨σ3, G, Q3, hs, hh, ht, hq⟩ := h
  refine ⟨σ3, G, _, hs, hh, ht, fun x H1 a G1 k1 hh1 ra q1 => ?_⟩
  split at q1
  · cases ra
    exact ⟨_, rfl, hq _ _ _ _ k1 hh1 rfl q1⟩
  · exact q1.elim
def sl3 (te : TE3) (tl th : TO3) : TE3 := fun σ G Q => te σ G fun x G1 => tl σ G1 fun l G2 => th σ G2 fun u G3 => match x with
  | .tup xs => ¬ (HT.sIx xs.length 0 l = 0 ∧ HT.sIx xs.length xs.length u = xs.length) ∧ Q (.tup (cut3 xs l u)) G3
  | .lit xs => ∀ p, G3 p = none → Q (.ref p) (gup G3 p (.lst (cut3 xs l u)))
  | .ref a => ∃ xs, G3 a = some (.lst xs) ∧ ∀ p, G3 p = none → Q (.ref p) (gup G3 p (.lst (cut3 xs l u)))
  | _ => False
def rSl3 (K : PySem.W.Frag) : V → Option Int → Option Int → Hp → VK → Prop := fun x lo hi H Q => rSlL K x lo hi H Q ∨ rSlT K x lo hi H Q
theorem e3sl {lo hi : Option Expr} {tl th : TO3} {p2 : Pos} (he : PE X e (lowE X.K te)) (hl : PO X lo (lowO X.K tl)) (hu : PO X hi (lowO X.K th)) : PE X (.Subscript e (.Slice lo hi none p2) pos) (lowE X.K (sl3 te tl th)) :=
  (pe_slice (r := rSl3 X.K) (sl_list.or sl_tup) he hl hu).imp fun σ H Q h => by
  obtain ⟨σ3, G, Q3, hs, hh, ht, hq⟩ := h
  refine ⟨σ3, G, _, hs, hh, ht, fun x H1 a G1 k1 hh1 ra q1 => ?_⟩
  refine ⟨σ3, G1, _, hs.keep k1, hh1, q1, fun l H2 l' G2 k2 hh2 el q2 => ?_⟩
  refine ⟨σ3, G2, _, hs.keep (k1.trans k2), hh2, q2, fun u H3 u' G3 k3 hh3 eu q3 => ?_⟩
  obtain rfl : l' = l := el
  obtain rfl : u' = u := eu
  have kk := (k1.trans k2).trans k3
  have ra3 := ra.keep (k2.trans k3)
  split at q3
  · cases ra3 with
    | tup h r => exact .inr ⟨_, _, rfl, SqT.of h, by rw [← r.length]; exact q3.1, fun p hp => hq _ _ _ _ (kk.trans (Keep.new hp)) (hh3.skip hp) (.tup upd_same ((r.cut _ _).keep (Keep.new hp))) q3.2⟩
  · cases ra3 with
    | lit h r => exact .inl ⟨_, _, rfl, h.sq, fun p hp => hq _ _ _ _ (kk.trans (Keep.new hp)) (hh3.new hp (obj_new hp (r.cut _ _))) (.ref _) (q3 p (hh3.free hp))⟩
  · cases ra3
    obtain ⟨xs, hg, q3⟩ := q3
    obtain ⟨vs, e, r⟩ := hh3 _ _ hg
    exact .inl ⟨_, _, rfl, SqL.of e, fun p hp => hq _ _ _ _ (kk.trans (Keep.new hp)) (hh3.new hp (obj_new hp (r.cut _ _))) (.ref _) (q3 p (hh3.free hp))⟩
  · exact q3.elim
end
end L3
end
section
set_option Elab.async false
set_option linter.all false
set_option maxRecDepth 100000
set_option maxHeartbeats 2000000
/-! L3: calls of built-ins, methods, statements, loops, comprehensions, own defs. -/
namespace L3
open PySem L2
section
variable {X : Cx} {a b c e : Expr} {pos : Pos} {ta tb tc te : TE3} {tA tB' : TT3}

/-! ### built-ins by name -/
abbrev C3 := List U → G3 → K3 → Prop
def lowC (K : PySem.W.Frag) (r : C3) : List V → Hp → VK → Prop := fun vs H Q => ∃ ws G Q3, RepL K H ws vs ∧ RepH K G H ∧ r ws G Q3 ∧ Post K (Rep K) H Q3 Q
theorem CallR.imp {f : Value} {r r' : List V → Hp → VK → Prop} (h : CallR X f r) (i : ∀ vs H Q, r' vs H Q → r vs H Q) : CallR X f r' := fun pins s σ H xs us Q I rx q => h pins s σ H xs us Q I rx (i _ _ _ q)
def cb3 (r : C3) (t : TA3) : TE3 := fun σ G Q => t σ G fun ws G1 => r ws G1 Q
theorem cb3_low {K : PySem.W.Frag} {r : C3} {t : TA3} : ∀ σ H Q, lowE K (cb3 r t) σ H Q → tCB (lowC K r) (lowA K t) σ H Q := fun σ H Q h => by
  obtain ⟨σ3, G, Q3, hs, hh, ht, hq⟩ := h
  exact ⟨σ3, G, _, hs, hh, ht, fun vs H1 ws G1 k1 hh1 r q1 => ⟨ws, G1, Q3, r, hh1, q1, hq.from k1⟩⟩
theorem e3B {x : Str} {id : String} {r : C3} {es : List Expr} {t : TA3} {p : Pos} (hc : CallR X (.builtin id) (lowC X.K r)) (hm : X.mg x = none) (ha : PA X (e :: es) (lowA X.K t)) (hg : Gl X x := by rfl) (hv : bootBuiltins x = some (.builtin id) := by decide +kernel) (hn : x ≠ "__name__" := by decide) (hdb : (x == ("__debug__" : Str)) = false := by decide)
    (he : starEach (e :: es) X.env = (false, eval e X.env) :: starEach es X.env := by rfl) (hpl : (backTo pos (starEach es X.env)).any (·.1) = false := by rfl) : PE X (.Call (.Name x p) (e :: es) [] pos) (lowE X.K (cb3 r t)) := (pe_callB hc hg hm hv ha hn hdb he hpl).imp cb3_low
theorem e3T {x : Str} {T : String} {r : C3} {es : List Expr} {t : TA3} {p : Pos} (hc : CallR X (.type T) (lowC X.K r)) (hm : X.mg x = none) (ha : PA X (e :: es) (lowA X.K t)) (hg : Gl X x := by rfl) (hv : bootBuiltins x = some (.type T) := by decide +kernel) (hn : x ≠ "__name__" := by decide) (hdb : (x == ("__debug__" : Str)) = false := by decide)
    (he : starEach (e :: es) X.env = (false, eval e X.env) :: starEach es X.env := by rfl) (hpl : (backTo pos (starEach es X.env)).any (·.1) = false := by rfl) : PE X (.Call (.Name x p) (e :: es) [] pos) (lowE X.K (cb3 r t)) := (pe_callTy hc hg hm hv ha hn hdb he hpl).imp cb3_low
theorem RepL.one {K : PySem.W.Frag} {H : Hp} {w : U} {vs : List V} (r : RepL K H [w] vs) : ∃ v, vs = [v] ∧ Rep K H w v := by
  cases r with
  | cons a b => cases b; exact ⟨_, rfl, a⟩
theorem RepL.two {K : PySem.W.Frag} {H : Hp} {w u : U} {vs : List V} (r : RepL K H [w, u] vs) : ∃ v x, vs = [v, x] ∧ Rep K H w v ∧ Rep K H u x := by
  cases r with
  | cons a b => cases b with
    | cons c d => cases d; exact ⟨_, _, rfl, a, c⟩
def kLen : C3 := fun ws G Q => match ws with
  | [.tup xs] => Q (.int xs.length) G
  | [.wtup xs] => Q (.int xs.length) G
  | [.lit xs] => Q (.int xs.length) G
  | [.str x] => decide (x.length ≤ 100000) = true ∧ Q (.int x.length) G
  | [.ref a] => (∃ xs, G a = some (.lst xs) ∧ Q (.int xs.length) G) ∨ (∃ kvs, G a = some (.dT kvs) ∧ Q (.int kvs.length) G)
  | _ => False
theorem RepK.length {K : PySem.W.Frag} {H : Hp} {κ : Type} {us : List (κ × U)} {vs : List (κ × V)} (r : RepK K H us vs) : us.length = vs.length := Paired.length r
theorem k_len : CallR X (.builtin "len") (lowC X.K kLen) := CallR.imp (call_len.or call_len_dT) fun vs H Q h => by
  obtain ⟨ws, G, Q3, r, hh, q, p⟩ := h
  unfold kLen at q
  split at q
  · obtain ⟨v, rfl, r0⟩ := r.one
    have r := r0
    cases r with
    | tup h1 r1 => exact .inl ⟨_, _, rfl, .inr ⟨_, SqT.of h1, r1.length⟩, p.here hh (.int _) q⟩
  · obtain ⟨v, rfl, r0⟩ := r.one
    have r := r0
    cases r with
    | wtup h1 r1 => exact .inl ⟨_, _, rfl, .inr ⟨_, h1, r1.length⟩, p.here hh (.int _) q⟩
  · obtain ⟨v, rfl, r0⟩ := r.one
    have r := r0
    cases r with
    | lit h1 r1 => exact .inl ⟨_, _, rfl, .inl ⟨_, h1.sq, r1.length⟩, p.here hh (.int _) q⟩
  · obtain ⟨v, rfl, r0⟩ := r.one
    have r := r0
    cases r
    exact .inl ⟨_, _, rfl, ⟨sz q.1, rfl⟩, p.here hh (.int _) q.2⟩
  · obtain ⟨v, rfl, r0⟩ := r.one
    have r := r0
    cases r
    rcases q with ⟨xs, hg, q⟩ | ⟨kvs, hg, q⟩
    · obtain ⟨vs, h1, r1⟩ := hh _ _ hg
      exact .inl ⟨_, _, rfl, .inl ⟨_, SqL.of h1, r1.length⟩, p.here hh (.int _) q⟩
    · obtain ⟨vs, h1, r1⟩ := hh _ _ hg
      exact .inr ⟨_, _, rfl, h1, p.here hh (by rw [← RepK.length r1]; exact .int _) q⟩
  · exact q.elim
def kList : C3 := fun ws G Q => match ws with
  | [.tup xs] => ∀ p, G p = none → Q (.ref p) (gup G p (.lst xs))
  | [.wtup xs] => ∀ p, G p = none → Q (.ref p) (gup G p (.lst xs))
  | [.lit xs] => ∀ p, G p = none → Q (.ref p) (gup G p (.lst xs))
  | [.ref a] => ∃ xs, G a = some (.lst xs) ∧ ∀ p, G p = none → Q (.ref p) (gup G p (.lst xs))
  | _ => False
theorem k_list : CallR X (.type "list") (lowC X.K kList) := CallR.imp call_list_of fun vs H Q h => by
  obtain ⟨ws, G, Q3, r, hh, q, p⟩ := h
  unfold kList at q
  split at q
  · obtain ⟨v, rfl, r0⟩ := r.one
    have r := r0
    cases r with
    | tup h1 r1 => exact ⟨_, _, rfl, .inr (SqT.of h1), fun l hl => p _ _ _ _ (Keep.new hl) (hh.new hl (obj_new hl r1)) (.ref _) (q l (hh.free hl))⟩
  · obtain ⟨v, rfl, r0⟩ := r.one
    have r := r0
    cases r with
    | wtup h1 r1 => exact ⟨_, _, rfl, .inr h1, fun l hl => p _ _ _ _ (Keep.new hl) (hh.new hl (obj_new hl r1)) (.ref _) (q l (hh.free hl))⟩
  · obtain ⟨v, rfl, r0⟩ := r.one
    have r := r0
    cases r with
    | lit h1 r1 => exact ⟨_, _, rfl, .inl h1.sq, fun l hl => p _ _ _ _ (Keep.new hl) (hh.new hl (obj_new hl r1)) (.ref _) (q l (hh.free hl))⟩
  · obtain ⟨v, rfl, r0⟩ := r.one
    have r := r0
    cases r
    obtain ⟨xs, hg, q⟩ := q
    obtain ⟨vs, h1, r1⟩ := hh _ _ hg
    exact ⟨_, _, rfl, .inl (SqL.of h1), fun l hl => p _ _ _ _ (Keep.new hl) (hh.new hl (obj_new hl r1)) (.ref _) (q l (hh.free hl))⟩
  · exact q.elim
def kTup : C3 := fun ws G Q => match ws with
  | [.tup xs] => Q (.tup xs) G
  | [.wtup xs] => Q (.wtup xs) G
  | [.lit xs] => Q (.tup xs) G
  | [.ref a] => ∃ xs, G a = some (.lst xs) ∧ Q (.tup xs) G
  | _ => False
theorem k_tuple : CallR X (.type "tuple") (lowC X.K kTup) := CallR.imp call_tuple_of fun vs H Q h => by
  obtain ⟨ws, G, Q3, r, hh, q, p⟩ := h
  unfold kTup at q
  split at q
  · obtain ⟨v, rfl, r0⟩ := r.one
    have r := r0
    cases id r with
    | tup h1 r1 => exact ⟨_, _, rfl, .inr ⟨SqT.of h1, p.here hh r q⟩⟩
  · obtain ⟨v, rfl, r0⟩ := r.one
    have r := r0
    cases id r with
    | wtup h1 r1 => exact ⟨_, _, rfl, .inr ⟨h1, p.here hh r q⟩⟩
  · obtain ⟨v, rfl, r0⟩ := r.one
    have r := r0
    cases r with
    | lit h1 r1 => exact ⟨_, _, rfl, .inl ⟨h1.sq, fun l hl => p _ _ _ _ (Keep.new hl) (hh.skip hl) (.tup upd_same (r1.keep (Keep.new hl))) q⟩⟩
  · obtain ⟨v, rfl, r0⟩ := r.one
    have r := r0
    cases r
    obtain ⟨xs, hg, q⟩ := q
    obtain ⟨vs, h1, r1⟩ := hh _ _ hg
    exact ⟨_, _, rfl, .inl ⟨SqL.of h1, fun l hl => p _ _ _ _ (Keep.new hl) (hh.skip hl) (.tup upd_same (r1.keep (Keep.new hl))) q⟩⟩
  · exact q.elim
def kInt : C3 := fun ws G Q => match ws with
  | [.int i] => Q (.int i) G
  | [.bl b] => Q (.int (if b then 1 else 0)) G
  | _ => False
theorem k_int : CallR X (.type "int") (lowC X.K kInt) := CallR.imp call_int1 fun vs H Q h => by
  obtain ⟨ws, G, Q3, r, hh, q, p⟩ := h
  unfold kInt at q
  split at q
  · obtain ⟨v, rfl, r0⟩ := r.one
    have r := r0
    cases r
    exact .inl ⟨_, rfl, p.here hh (.int _) q⟩
  · obtain ⟨v, rfl, r0⟩ := r.one
    have r := r0
    cases r
    exact .inr ⟨_, rfl, p.here hh (.int _) q⟩
  · exact q.elim
def kAbs : C3 := fun ws G Q => match ws with
  | [.int i] => Q (.int (if i < 0 then -i else i)) G
  | _ => False
theorem k_abs : CallR X (.builtin "abs") (lowC X.K kAbs) := CallR.imp call_abs fun vs H Q h => by
  obtain ⟨ws, G, Q3, r, hh, q, p⟩ := h
  unfold kAbs at q
  split at q
  · obtain ⟨v, rfl, r0⟩ := r.one
    have r := r0
    cases r
    exact ⟨_, rfl, p.here hh (.int _) q⟩
  · exact q.elim
def kMin : C3 := fun ws G Q => match ws with
  | [.int i, .int j] => Q (.int (if j < i then j else i)) G
  | _ => False
theorem k_min (hc : X.calm = true) : CallR X (.builtin "min") (lowC X.K kMin) := CallR.imp (call_min2 hc) fun vs H Q h => by
  obtain ⟨ws, G, Q3, r, hh, q, p⟩ := h
  unfold kMin at q
  split at q
  · obtain ⟨v, x, rfl, r, r'⟩ := r.two
    cases r; cases r'
    exact ⟨_, _, rfl, p.here hh (.int _) q⟩
  · exact q.elim
def kSum : C3 := fun ws G Q => match ws with
  | [.ref a] => ∃ ns : List Int, G a = some (.lst (ns.map U.int)) ∧ Q (.int ns.sum) G
  | _ => False
theorem k_sum (hc : X.calm = true) : CallR X (.builtin "sum") (lowC X.K kSum) := CallR.imp (cr_sum hc) fun vs H Q h => by
  obtain ⟨ws, G, Q3, r, hh, q, p⟩ := h
  unfold kSum at q
  split at q
  · obtain ⟨v, rfl, r0⟩ := r.one
    have r := r0
    cases r
    obtain ⟨ns, hg, q⟩ := q
    obtain ⟨vs, h1, r1⟩ := hh _ _ hg
    rw [r1.of_ints] at h1
    exact ⟨_, ns, rfl, SqL.of h1, p.here hh (.int _) q⟩
  · exact q.elim
def kAll : C3 := fun ws G Q => match ws with
  | [.ref a] => ∃ ns : List Bool, G a = some (.lst (ns.map U.bl)) ∧ Q (.bl (ns.all id)) G
  | _ => False
theorem k_all (hc : X.calm = true) : CallR X (.builtin "all") (lowC X.K kAll) := CallR.imp (cr_all hc) fun vs H Q h => by
  obtain ⟨ws, G, Q3, r, hh, q, p⟩ := h
  unfold kAll at q
  split at q
  · obtain ⟨v, rfl, r0⟩ := r.one
    have r := r0
    cases r
    obtain ⟨ns, hg, q⟩ := q
    obtain ⟨vs, h1, r1⟩ := hh _ _ hg
    rw [r1.of_bls] at h1
    exact ⟨_, ns, rfl, SqL.of h1, p.here hh (.bl _) q⟩
  · exact q.elim
def kAny : C3 := fun ws G Q => match ws with
  | [.ref a] => ∃ ns : List Bool, G a = some (.lst (ns.map U.bl)) ∧ Q (.bl (ns.any id)) G
  | _ => False
theorem k_any (hc : X.calm = true) : CallR X (.builtin "any") (lowC X.K kAny) := CallR.imp (cr_any hc) fun vs H Q h => by
  obtain ⟨ws, G, Q3, r, hh, q, p⟩ := h
  unfold kAny at q
  split at q
  · obtain ⟨v, rfl, r0⟩ := r.one
    have r := r0
    cases r
    obtain ⟨ns, hg, q⟩ := q
    obtain ⟨vs, h1, r1⟩ := hh _ _ hg
    rw [r1.of_bls] at h1
    exact ⟨_, ns, rfl, SqL.of h1, p.here hh (.bl _) q⟩
  · exact q.elim
/-- isinstance(x, T), T a built-in type -/
def tyU : U → Option String
  | .non => some "NoneType"
  | .bl _ => some "bool"
  | .int _ => some "int"
  | .str _ => some "str"
  | .tup _ => some "tuple"
  | _ => none
def kIsi : C3 := fun ws G Q => match ws with
  | [x, .ty n] => ∃ t b, tyU x = some t ∧ kitB t n = some b ∧ Q (.bl b) G
  | _ => False
theorem k_isi : CallR X (.builtin "isinstance") (lowC X.K kIsi) := CallR.imp call_isi fun vs H Q h => by
  obtain ⟨ws, G, Q3, r, hh, q, p⟩ := h
  unfold kIsi at q
  split at q
  · obtain ⟨v, x, rfl, r0, r'⟩ := r.two
    have r := r0
    cases r'
    obtain ⟨t, b, ht, hb, q⟩ := q
    refine ⟨v, .ty _, .type t, .type _, b, rfl, .ty _, .base ?_, kit_ty hb, p.here hh (.bl _) q⟩
    cases r0 with
    | tup h1 r1 => cases ht; exact .tup h1
    | non => cases ht; exact .non
    | bl => cases ht; exact .bl _
    | int => cases ht; exact .int _
    | str => cases ht; exact .str _
    | ty => cases ht
    | ref => cases ht
    | wtup => cases ht
    | lit => cases ht
  · exact q.elim
/-- list(range(n)) -/
def lstRg3 (ta : TE3) : TE3 := fun σ G Q => ta σ G fun x G1 => match x with
  | .int n => decide (0 ≤ n ∧ n ≤ 100000) = true ∧ ∀ p, G1 p = none → Q (.ref p) (gup G1 p (.lst ((List.range n.toNat).map fun i => U.int (i : Nat))))
  | _ => False
theorem repL_rg {K : PySem.W.Frag} {H : Hp} (f : Nat → Int) : ∀ l : List Nat, RepL K H (l.map fun i => U.int (f i)) (l.map fun i => V.int (f i))
  | [] => .nil
  | x :: xs => .cons (.int _) (repL_rg f xs)
theorem e3listRg {p p2 pos2 : Pos} (hc : X.calm = true) (hm : X.mg "list" = none) (hm2 : X.mg "range" = none) (ha : PE X a (lowE X.K ta)) (hg : Gl X "list" := by rfl) (hg2 : Gl X "range" := by rfl) (na : starEach [a] X.env = (false, eval a X.env) :: starEach [] X.env := by rfl)
    (nb : starEach [.Call (.Name "range" p2) [a] [] pos2] X.env = (false, eval (.Call (.Name "range" p2) [a] [] pos2) X.env) :: starEach [] X.env := by rfl) : PE X (.Call (.Name "list" p) [.Call (.Name "range" p2) [a] [] pos2] [] pos) (lowE X.K (lstRg3 ta)) :=
  (pe_listRg hc hg hm (prg_1 hg2 hm2 ha na) nb).imp fun σ H Q h => by
  obtain ⟨σ3, G, Q3, hs, hh, ht, hq⟩ := h
  refine ⟨σ3, G, _, hs, hh, ht, fun x H1 w G1 k1 hh1 r q1 => ?_⟩
  split at q1
  · cases r
    rename_i n
    have hd := of_decide_eq_true q1.1
    refine ⟨n, rfl, RgOk.of_le (Int.le_refl 0) (by omega) (by omega) hd.1, fun q hq2 => hq _ _ _ _ (k1.trans (Keep.new hq2)) (hh1.new hq2 ?_) (.ref _) (q1.2 q (hh1.free hq2))⟩
    refine obj_new hq2 ?_
    unfold rgV
    have e0 : (n - 0).toNat = n.toNat := by rw [Int.sub_zero]
    rw [e0]
    have e1 : (fun i : Nat => V.int (0 + (i : Nat))) = fun i : Nat => V.int ((i : Nat) : Int) := by funext i; rw [Int.zero_add]
    rw [e1]
    exact repL_rg (fun i => ((i : Nat) : Int)) _
  · exact q1.elim

/-! ### methods of lists -/
def bmL (r : Addr → List U → G3 → K3 → Prop) (to : TE3) (t : TA3) : TE3 := fun σ G Q => to σ G fun x G1 => match x with
  | .ref l => (∃ xs, G1 l = some (.lst xs)) ∧ t σ G1 fun ws G2 => r l ws G2 Q
  | _ => False
def lowM (K : PySem.W.Frag) (r : Addr → List U → G3 → K3 → Prop) : V → List V → Hp → VK → Prop := fun x vs H Q => ∃ l ws G Q3, x = .ref l ∧ RepL K H ws vs ∧ RepH K G H ∧ r l ws G Q3 ∧ Post K (Rep K) H Q3 Q
theorem MtR.imp {id : String} {r r' : V → List V → Hp → VK → Prop} (h : MtR X id r) (i : ∀ x vs H Q, r' x vs H Q → r x vs H Q) : MtR X id r' := fun pins s σ H x xs v us Q I rx rs q => h pins s σ H x xs v us Q I rx rs (i _ _ _ _ q)
theorem e3bmL {o : Expr} {es : List Expr} {to : TE3} {t : TA3} {name : Str} {id : String} {apos cpos : Pos} {r : Addr → List U → G3 → K3 → Prop} (slot : Slot "list" name id) (hty : typeOf (.builtin id) = pure (.type "method_descriptor")) (hm : MtR X id (lowM X.K r)) (ho : PE X o (lowE X.K to)) (ha : PA X (e :: es) (lowA X.K t))
    (hbase : attributeBase o name X.env (eval o X.env) = eval o X.env := by rfl)
    (hfew : ((backTo cpos (starEach (e :: es) X.env)).all (fun x => !x.1) && (backToKw cpos (keywordEach [] X.env)).all (fun x => x.1.isSome)
      && decide ((e :: es).length + ([] : List Keyword).length + (if ([] : List Keyword).isEmpty then 0 else 1) < 30)) = true := by rfl)
    (hline : (apos.endLine == cpos.line) = true := by rfl) (hs : starEach (e :: es) X.env = (false, eval e X.env) :: starEach es X.env := by rfl) (hplain : (backTo cpos (starEach es X.env)).any (·.1) = false := by rfl) :
    PE X (.Call (.Attribute o name apos) (e :: es) [] cpos) (lowE X.K (bmL r to t)) := (pe_bm PySem.F.plainAttrs_list slot hty hm ho ha hbase hfew hline hs hplain).imp fun σ H Q h => by
  obtain ⟨σ3, G, Q3, hs, hh, ht, hq⟩ := h
  refine ⟨σ3, G, _, hs, hh, ht, fun x H1 w G1 k1 hh1 r q1 => ?_⟩
  split at q1
  · cases r
    obtain ⟨⟨xs, hg⟩, q1⟩ := q1
    obtain ⟨vs, h1, _⟩ := hh1 _ _ hg
    refine ⟨.inl ⟨rfl, vs, SqL.of h1⟩, σ3, G1, _, hs.keep k1, hh1, q1, fun ys H2 ws G2 k2 hh2 r2 q2 => ?_⟩
    exact ⟨_, ws, G2, Q3, rfl, r2, hh2, q2, hq.from (k1.trans k2)⟩
  · exact q1.elim
theorem e3bmL0 {o : Expr} {to : TE3} {name : Str} {id : String} {apos cpos : Pos} {r : Addr → List U → G3 → K3 → Prop} (slot : Slot "list" name id) (hty : typeOf (.builtin id) = pure (.type "method_descriptor")) (hm : MtR X id (lowM X.K r)) (ho : PE X o (lowE X.K to))
    (hbase : attributeBase o name X.env (eval o X.env) = eval o X.env := by rfl) (hline : (apos.endLine == cpos.line) = true := by rfl) : PE X (.Call (.Attribute o name apos) [] [] cpos) (lowE X.K (bmL r to nil3)) := (pe_bm0 PySem.F.plainAttrs_list slot hty hm ho hbase hline).imp fun σ H Q h => by
  obtain ⟨σ3, G, Q3, hs, hh, ht, hq⟩ := h
  refine ⟨σ3, G, _, hs, hh, ht, fun x H1 w G1 k1 hh1 r q1 => ?_⟩
  split at q1
  · cases r
    obtain ⟨⟨xs, hg⟩, q1⟩ := q1
    obtain ⟨vs, h1, _⟩ := hh1 _ _ hg
    exact ⟨.inl ⟨rfl, vs, SqL.of h1⟩, _, [], G1, Q3, rfl, .nil, hh1, q1, hq.from k1⟩
  · exact q1.elim
theorem RepL.dropLast {K : PySem.W.Frag} {H : Hp} {ws : List U} {vs : List V} (r : RepL K H ws vs) : RepL K H ws.dropLast vs.dropLast := by
  rw [List.dropLast_eq_take, List.dropLast_eq_take, r.length]
  exact r.take _
def mAppend (l : Addr) : List U → G3 → K3 → Prop := fun ws G Q => match ws with
  | [y] => ∃ xs, G l = some (.lst xs) ∧ decide (xs.length ≤ 99999) = true ∧ Q .non (gup G l (.lst (xs ++ [y])))
  | _ => False
theorem sl {n : Nat} (h : decide (n ≤ 99999) = true) : n < sizeLine := Nat.lt_of_le_of_lt (of_decide_eq_true h) (by decide)
theorem m_append : MtR X "list.append" (lowM X.K mAppend) := MtR.imp mt_append fun x vs H Q h => by
  obtain ⟨l, ws, G, Q3, rfl, r, hh, q, p⟩ := h
  unfold mAppend at q
  split at q
  · obtain ⟨v, rfl, r0⟩ := r.one
    have r := r0
    obtain ⟨xs, hg, hz, q⟩ := q
    obtain ⟨vs, h1, r1⟩ := hh _ _ hg
    exact ⟨l, vs, v, rfl, rfl, h1, by rw [← r1.length]; exact sl hz, p _ _ _ _ (Keep.mut h1 trivial) (hh.mut h1 trivial (obj_mut h1 trivial (r1.append (.cons r .nil)))) .non q⟩
  · exact q.elim
def mExtend (l : Addr) : List U → G3 → K3 → Prop := fun ws G Q => match ws with
  | [.ref b] => ∃ xs ys, G l = some (.lst xs) ∧ G b = some (.lst ys) ∧ decide (xs.length + ys.length ≤ 100000) = true ∧ Q .non (gup G l (.lst (xs ++ ys)))
  | _ => False
theorem m_extend : MtR X "list.extend" (lowM X.K mExtend) := MtR.imp mt_extend fun x vs H Q h => by
  obtain ⟨l, ws, G, Q3, rfl, r, hh, q, p⟩ := h
  unfold mExtend at q
  split at q
  · obtain ⟨v, rfl, r0⟩ := r.one
    have r := r0
    cases r
    obtain ⟨xs, ys, hg, hg2, hz, q⟩ := q
    obtain ⟨vs, h1, r1⟩ := hh _ _ hg
    obtain ⟨us, h2, r2⟩ := hh _ _ hg2
    exact ⟨l, _, vs, us, rfl, rfl, h1, h2, by rw [← r1.length, ← r2.length]; exact sz hz, p _ _ _ _ (Keep.mut h1 trivial) (hh.mut h1 trivial (obj_mut h1 trivial (r1.append r2))) .non q⟩
  · exact q.elim
/-- xs.pop(i), 0 <= i in bounds (or -1 ..) -/
def mPopAt (l : Addr) : List U → G3 → K3 → Prop := fun ws G Q => match ws with
  | [.int i] => ∃ xs k y, G l = some (.lst xs) ∧ decide (-100000 ≤ i ∧ i ≤ 100000) = true ∧ seqIndex? i xs.length = some k ∧ xs[k]? = some y ∧ Q y (gup G l (.lst (xs.eraseIdx k)))
  | _ => False
theorem m_popAt : MtR X "list.pop" (lowM X.K mPopAt) := MtR.imp mt_popAt fun x vs H Q h => by
  obtain ⟨l, ws, G, Q3, rfl, r, hh, q, p⟩ := h
  unfold mPopAt at q
  split at q
  · obtain ⟨v, rfl, r0⟩ := r.one
    have r := r0
    cases r
    rename_i i
    obtain ⟨xs, k, y, hg, hz, hk, hy, q⟩ := q
    have hz := of_decide_eq_true hz
    obtain ⟨vs, h1, r1⟩ := hh _ _ hg
    obtain ⟨v, hv, rv⟩ := r1.get hy
    exact ⟨l, vs, i, k, v, rfl, rfl, h1, by omega, by omega, by rw [← r1.length]; exact hk, hv, p _ _ _ _ (Keep.mut h1 trivial) (hh.mut h1 trivial (obj_mut h1 trivial (r1.eraseIdx k))) (rv.keep (Keep.mut h1 trivial)) q⟩
  · exact q.elim

/-! ### a + b of lists -/
def rCat3 : R3 := fun x y G Q => match x, y with
  | .ref a, .ref b => ∃ xs ys, G a = some (.lst xs) ∧ G b = some (.lst ys) ∧ decide (xs.length + ys.length ≤ 100000) = true ∧ ∀ p, G p = none → Q (.ref p) (gup G p (.lst (xs ++ ys)))
  | _, _ => False
theorem o_cat : OpR X (binaryOp .Add) (lowR X.K rCat3) := OpR.imp op_cat fun x y H Q q => by
  obtain ⟨a, b, G, Q3, ra, rb, hh, q, p⟩ := q
  unfold rCat3 at q
  split at q
  · cases ra; cases rb
    obtain ⟨xs, ys, hg, hg2, hz, q⟩ := q
    obtain ⟨vs, h1, r1⟩ := hh _ _ hg
    obtain ⟨us, h2, r2⟩ := hh _ _ hg2
    exact ⟨_, _, vs, us, rfl, rfl, h1, h2, by rw [← r1.length, ← r2.length]; exact sz hz, fun l hl => p _ _ _ _ (Keep.new hl) (hh.new hl (obj_new hl (r1.append r2))) (.ref _) (q l (hh.free hl))⟩
  · exact q.elim
/-- t + u of tuples, the left one not empty -/
def rCatT3 : R3 := fun x y G Q => match x, y with
  | .tup xs, .tup ys => xs ≠ [] ∧ decide (xs.length + ys.length ≤ 100000) = true ∧ Q (.tup (xs ++ ys)) G
  | _, _ => False

/-! ### statements -/
abbrev TG3 := U → S3 → G3 → (S3 → G3 → Prop) → Prop
abbrev TGs3 := List U → S3 → G3 → (S3 → G3 → Prop) → Prop
/-- vs: the slots that the target may write (none: any) -/
def Pres (vs : Option (List Nat)) (σ σ' : St) : Prop := match vs with
  | none => True
  | some vs => wipe σ' vs = wipe σ vs
theorem Pres.trans {vs : Option (List Nat)} {σ σ1 σ2 : St} (a : Pres vs σ σ1) (b : Pres vs σ1 σ2) : Pres vs σ σ2 := by
  cases vs with
  | none => trivial
  | some vs => exact Eq.trans b a
theorem Pres.refl {vs : Option (List Nat)} {σ : St} : Pres vs σ σ := by
  cases vs with
  | none => trivial
  | some vs => rfl
theorem wipe_set {i : Nat} {x : Option V} : ∀ {vs : List Nat} {σ : St}, i ∈ vs → wipe (σ.set i x) vs = wipe σ vs
  | [], _, h => by cases h
  | v :: vs, σ, h => by
    unfold wipe
    by_cases e : i ∈ vs
    · rw [wipe_set e]
    · have e2 : i = v := by
        rcases List.mem_cons.mp h with z | z
        · exact z
        · exact absurd z e
      subst e2
      have key : ∀ (ws : List Nat) (τ : St), i ∉ ws → wipe (τ.set i x) ws = (wipe τ ws).set i x := by
        intro ws
        induction ws with
        | nil => intro τ _; rfl
        | cons w ws ih =>
          intro τ hw
          unfold wipe
          rw [ih τ (fun z => hw (List.mem_cons_of_mem _ z)), List.set_comm _ _ (fun z => hw (by rw [z]; exact List.mem_cons_self))]
      rw [key vs σ e, List.set_set]
def GLow (K : PySem.W.Frag) (vs : Option (List Nat)) (g : TG) (g3 : TG3) : Prop := ∀ (w : U) (v : V) (σ3 : S3) (σ : St) (G : G3) (H : Hp) (Q3 : S3 → G3 → Prop) (Q : St → Hp → Prop), Rep K H w v → RepS K H σ3 σ → RepH K G H → g3 w σ3 G Q3 →
  (∀ σ' H' σ3' G', Keep H H' → Pres vs σ σ' → RepS K H' σ3' σ' → RepH K G' H' → Q3 σ3' G' → Q σ' H') → g v σ H Q
def GsLow (K : PySem.W.Frag) (vs : Option (List Nat)) (g : TGs) (g3 : TGs3) : Prop := ∀ (w : List U) (v : List V) (σ3 : S3) (σ : St) (G : G3) (H : Hp) (Q3 : S3 → G3 → Prop) (Q : St → Hp → Prop), RepL K H w v → RepS K H σ3 σ → RepH K G H → g3 w σ3 G Q3 →
  (∀ σ' H' σ3' G', Keep H H' → Pres vs σ σ' → RepS K H' σ3' σ' → RepH K G' H' → Q3 σ3' G' → Q σ' H') → g v σ H Q
def n3 (i : Nat) : TG3 := fun w σ G Q => Q (σ.set i (some w)) G
theorem gl_name {K : PySem.W.Frag} {i : Nat} : GLow K none (gName i) (n3 i) := fun w v σ3 σ G H Q3 Q r hs hh q k => k _ _ _ _ (Keep.refl H) trivial (hs.set i r) hh q
theorem gl_own {K : PySem.W.Frag} {i : Nat} {vs : List Nat} (h : i ∈ vs) : GLow K (some vs) (gName i) (n3 i) := fun w v σ3 σ G H Q3 Q r hs hh q k => k _ _ _ _ (Keep.refl H) (wipe_set h) (hs.set i r) hh q
def gnil3 : TGs3 := fun ws σ G Q => match ws with
  | [] => Q σ G
  | _ => False
def gcons3 (t : TG3) (u : TGs3) : TGs3 := fun ws σ G Q => match ws with
  | w :: r => t w σ G fun σ' G' => u r σ' G' Q
  | [] => False
theorem gl_nil {K : PySem.W.Frag} {vs : Option (List Nat)} : GsLow K vs gNil gnil3 := fun w v σ3 σ G H Q3 Q r hs hh q k => by
  unfold gnil3 at q
  split at q
  · cases r
    exact ⟨rfl, k _ _ _ _ (Keep.refl H) Pres.refl hs hh q⟩
  · exact q.elim
theorem gl_cons {K : PySem.W.Frag} {vs : Option (List Nat)} {t : TG} {u : TGs} {t3 : TG3} {u3 : TGs3} (ht : GLow K vs t t3) (hu : GsLow K vs u u3) : GsLow K vs (gCons t u) (gcons3 t3 u3) := fun w v σ3 σ G H Q3 Q r hs hh q k => by
  unfold gcons3 at q
  split at q
  · cases r with
    | cons r1 r2 =>
      refine ⟨_, _, rfl, ht _ _ _ _ _ _ _ _ r1 hs hh q fun σ' H' σ3' G' k1 p1 hs1 hh1 q1 => ?_⟩
      exact hu _ _ _ _ _ _ _ _ (r2.keep k1) hs1 hh1 q1 fun σ2 H2 σ32 G2 k2 p2 hs2 hh2 q2 => k _ _ _ _ (k1.trans k2) (p1.trans p2) hs2 hh2 q2
  · exact q.elim
def gtup3 (n : Nat) (t : TGs3) : TG3 := fun w σ G Q => match w with
  | .tup xs => decide (xs.length = n) = true ∧ t xs σ G Q
  | .wtup xs => decide (xs.length = n) = true ∧ t xs σ G Q
  | _ => False
theorem gl_tup {K : PySem.W.Frag} {vs : Option (List Nat)} {n : Nat} {t : TGs} {t3 : TGs3} (ht : GsLow K vs t t3) : GLow K vs (gTup K n t) (gtup3 n t3) := fun w v σ3 σ G H Q3 Q r hs hh q k => by
  unfold gtup3 at q
  split at q
  · cases r with
    | tup h1 r1 => exact ⟨_, _, rfl, SqT.of h1, by rw [← r1.length]; exact of_decide_eq_true q.1, ht _ _ _ _ _ _ _ _ r1 hs hh q.2 k⟩
  · cases r with
    | wtup h1 r1 => exact ⟨_, _, rfl, h1, by rw [← r1.length]; exact of_decide_eq_true q.1, ht _ _ _ _ _ _ _ _ r1 hs hh q.2 k⟩
  · exact q.elim
variable {W : WX} {st : Stmt} {rest : List Stmt} {t u : TS3}
def next3 : TS3 := fun D σ G => D.nx σ G
def seq3 (t u : TS3) : TS3 := fun D σ G => t { D with nx := u D } σ G
theorem ss_nil : PSs X [] (lowS X.K W next3) := pss_nil.imp fun D σ H h => by
  obtain ⟨σ3, G, D3, hs, hh, ht, hl⟩ := h
  exact hl.nx _ _ _ _ (Keep.refl H) hs hh ht
theorem ss_cons (h1 : PS X st (lowS X.K W t)) (h2 : PSs X rest (lowS X.K W u)) : PSs X (st :: rest) (lowS X.K W (seq3 t u)) := (pss_cons h1 h2).imp fun D σ H h => by
  obtain ⟨σ3, G, D3, hs, hh, ht, hl⟩ := h
  exact ⟨σ3, G, _, hs, hh, ht, ⟨fun σ' H' σ3' G' k hs' hh' q => ⟨σ3', G', D3, hs', hh', q, hl.from k⟩, hl.rt, hl.bk, hl.ct, hl.ex⟩⟩
theorem ss_one (h1 : PS X st (lowS X.K W t)) : PSs X [st] (lowS X.K W t) := pss_one h1
def brk3 : TS3 := fun D σ G => D.bk σ G
def cont3 : TS3 := fun D σ G => D.ct σ G
theorem s_pass : PS X (.Pass pos) (lowS X.K W next3) := ps_pass.imp fun D σ H h => by
  obtain ⟨σ3, G, D3, hs, hh, ht, hl⟩ := h
  exact hl.nx _ _ _ _ (Keep.refl H) hs hh ht
theorem s_break : PS X (.Break pos) (lowS X.K W brk3) := ps_break.imp fun D σ H h => by
  obtain ⟨σ3, G, D3, hs, hh, ht, hl⟩ := h
  exact hl.bk _ _ _ _ (Keep.refl H) hs hh ht
theorem s_continue : PS X (.Continue pos) (lowS X.K W cont3) := ps_continue.imp fun D σ H h => by
  obtain ⟨σ3, G, D3, hs, hh, ht, hl⟩ := h
  exact hl.ct _ _ _ _ (Keep.refl H) hs hh ht
def drop3 (te : TE3) : TS3 := fun D σ G => te σ G fun _ G1 => D.nx σ G1
theorem s_expr (he : PE X e (lowE X.K te)) (hs : swapsWith e none pos.line X.env = pure false := by rfl) : PS X (.Expr e pos) (lowS X.K W (drop3 te)) := (ps_expr he hs).imp fun D σ H h => by
  obtain ⟨σ3, G, D3, hs, hh, ht, hl⟩ := h
  exact ⟨σ3, G, _, hs, hh, ht, fun v H1 w G1 k1 hh1 r q1 => hl.nx _ _ _ _ k1 (hs.keep k1) hh1 q1⟩
def ret3 (te : TE3) : TS3 := fun D σ G => te σ G D.rt
theorem s_ret (he : PE X e (lowE X.K te)) : PS X (.Return (some e) pos) (lowS X.K W (ret3 te)) := (ps_ret he).imp fun D σ H h => by
  obtain ⟨σ3, G, D3, hs, hh, ht, hl⟩ := h
  exact ⟨σ3, G, _, hs, hh, ht, hl.rt⟩
def retN3 : TS3 := fun D _ G => D.rt .non G
theorem s_retN : PS X (.Return none pos) (lowS X.K W retN3) := ps_retN.imp fun D σ H h => by
  obtain ⟨σ3, G, D3, hs, hh, ht, hl⟩ := h
  exact hl.rt.here hh .non ht
def ifS3 (c : TT3) (t u : TS3) : TS3 := fun D σ G => c σ G fun b G1 => if b = true then t D σ G1 else u D σ G1
theorem s_if {a b : List Stmt} (hc : PT X c (lowT X.K tA)) (ha : PSs X a (lowS X.K W t)) (hb : PSs X b (lowS X.K W u)) : PS X (.If c a b pos) (lowS X.K W (ifS3 tA t u)) := (ps_if hc ha hb).imp fun D σ H h => by
  obtain ⟨σ3, G, D3, hs, hh, ht, hl⟩ := h
  refine ⟨σ3, G, _, hs, hh, ht, fun d H1 d' G1 k1 hh1 r q1 => ?_⟩
  obtain rfl : d' = d := r
  cases d' with
  | true => exact ⟨σ3, G1, D3, hs.keep k1, hh1, q1, hl.from k1⟩
  | false => exact ⟨σ3, G1, D3, hs.keep k1, hh1, q1, hl.from k1⟩
def never3 : TS3 := fun _ _ _ => False
theorem s_never : PS X st (lowS X.K W never3) := ps_never.imp fun D σ H h => by
  obtain ⟨σ3, G, D3, hs, hh, ht, hl⟩ := h
  exact ht
def asg3 (te : TE3) (g : TG3) : TS3 := fun D σ G => te σ G fun x G1 => g x σ G1 D.nx
theorem s_asg {tg : Expr} {g : TG} {g3 : TG3} (he : PE X e (lowE X.K te)) (hg : PG X tg g) (hl : GLow X.K none g g3) (hs : swapsWithSole [tg] e pos.line X.env = pure false := by rfl) (hw : swappedStores [tg] e X.env = pure none := by rfl)
    (h1 : (assignEach [tg] X.env).map (·.2) = [assign tg X.env] := by rfl) : PS X (.Assign [tg] e pos) (lowS X.K W (asg3 te g3)) := (ps_asg he hg hs hw h1).imp fun D σ H h => by
  obtain ⟨σ3, G, D3, hs, hh, ht, hle⟩ := h
  refine ⟨σ3, G, _, hs, hh, ht, fun v H1 w G1 k1 hh1 r q1 => ?_⟩
  exact hl _ _ _ _ _ _ _ _ r (hs.keep k1) hh1 q1 fun σ' H' σ3' G' k2 _ hs2 hh2 q2 => hle.nx _ _ _ _ (k1.trans k2) hs2 hh2 q2
theorem s_set {i : Nat} {x : Str} {pos' : Pos} (hN : X.N.Nodup) (he : PE X e (lowE X.K te)) (hi : X.N[i]? = some x := by rfl) (hx : Loc X.env.scope x := by first | exact Or.inl rfl | exact Or.inr rfl) (hs : swapsWith e (some (.Name x pos')) pos.line X.env = pure false := by rfl) (hf : X.fn x = true ∨ X.env.scope.names.lookup x = some .local := by first | exact .inl rfl | exact .inr rfl | assumption) :
    PS X (.Assign [.Name x pos'] e pos) (lowS X.K W (asg3 te (n3 i))) := (ps_set hN hi hx he hs hf).imp fun D σ H h => by
  obtain ⟨σ3, G, D3, hs, hh, ht, hle⟩ := h
  exact ⟨σ3, G, _, hs, hh, ht, fun v H1 w G1 k1 hh1 r q1 => hle.nx _ _ _ _ k1 ((hs.keep k1).set i r) hh1 q1⟩
/-- xs[i] = e -/
def setL3 (to ti tv : TE3) : TS3 := fun D σ G => tv σ G fun v G1 => to σ G1 fun o G2 => ti σ G2 fun i G3 => match o, i with
  | .ref l, .int k => ∃ xs j, G3 l = some (.lst xs) ∧ ixN xs.length k = some j ∧ D.nx σ (gup G3 l (.lst (xs.set j v)))
  | _, _ => False
theorem s_setL {o i : Expr} {to ti : TE3} {pos' : Pos} (ho : PE X o (lowE X.K to)) (hi : PE X i (lowE X.K ti)) (hv : PE X e (lowE X.K te))
    (ha : ∀ v, assign (.Subscript o i pos') X.env v = (do
      let ov ← holding [v] (eval o X.env)
      let iv ← holding [v, ov] (eval i X.env)
      standAt pos'
      holding [v, ov, iv] (setItem ov iv v)
      release [v, ov, iv] []) := by intro _; rfl) (hs : swapsWithSole [.Subscript o i pos'] e pos.line X.env = pure false := by rfl) (hw : swappedStores [.Subscript o i pos'] e X.env = pure none := by rfl)
    (h1 : (assignEach [.Subscript o i pos'] X.env).map (·.2) = [assign (.Subscript o i pos') X.env] := by rfl) : PS X (.Assign [.Subscript o i pos'] e pos) (lowS X.K W (setL3 to ti te)) :=
  (ps_asg hv (pg_sub ho hi set_list ha) hs hw h1).imp fun D σ H h => by
  obtain ⟨σ3, G, D3, hs, hh, ht, hle⟩ := h
  refine ⟨σ3, G, _, hs, hh, ht, fun v H1 w G1 k1 hh1 r q1 => ?_⟩
  refine ⟨σ3, G1, _, hs.keep k1, hh1, q1, fun x H2 w2 G2 k2 hh2 r2 q2 => ?_⟩
  refine ⟨σ3, G2, _, hs.keep (k1.trans k2), hh2, q2, fun y H3 w3 G3 k3 hh3 r3 q3 => ?_⟩
  split at q3
  · cases r2; cases r3
    obtain ⟨xs, j, hg, hj, q3⟩ := q3
    obtain ⟨vs, e1, rl⟩ := hh3 _ _ hg
    have k4 := Keep.mut (o := .lst (vs.set j v)) e1 trivial
    exact ⟨_, vs, _, j, rfl, rfl, e1, by rw [← rl.length]; exact hj, hle.nx _ _ _ _ (((k1.trans k2).trans k3).trans k4) (hs.keep (((k1.trans k2).trans k3).trans k4)) (hh3.mut e1 trivial (obj_mut e1 trivial (RepL.set (r.keep (k2.trans k3)) j rl))) q3⟩
  · exact q3.elim
/-- x += e of ints -/
def aug3 (i : Nat) (te : TE3) (f : Int → Int → Int) : TS3 := fun D σ G => match σ[i]? with
  | some (some (.int x)) => te σ G fun y G1 => match y with
    | .int j => D.nx (σ.set i (some (.int (f x j)))) G1
    | _ => False
  | _ => False
theorem s_aug {i : Nat} {x : Str} {pos' : Pos} {op : Operator} {f : Int → Int → Int} (hN : X.N.Nodup) (ho : PIp X op (ipI f)) (he : PE X e (lowE X.K te)) (hi : X.N[i]? = some x := by rfl) (hx : Loc X.env.scope x := by first | exact Or.inl rfl | exact Or.inr rfl) (hf : X.fn x = true ∨ X.env.scope.names.lookup x = some .local := by first | exact .inl rfl | exact .inr rfl | assumption) :
    PS X (.AugAssign (.Name x pos') op e pos) (lowS X.K W (aug3 i te f)) := (ps_aug hN hi hx he ho hf).imp fun D σ H h => by
  obtain ⟨σ3, G, D3, hs, hh, ht, hle⟩ := h
  unfold aug3 at ht
  split at ht
  · rename_i x0 e0
    obtain ⟨v, e1, r⟩ := hs.2 _ _ e0
    cases r
    refine ⟨_, e1, σ3, G, _, hs, hh, ht, fun v H1 w G1 k1 hh1 r q1 => ?_⟩
    split at q1
    · cases r
      exact ⟨_, _, rfl, rfl, hle.nx _ _ _ _ k1 ((hs.keep k1).set i (.int _)) hh1 q1⟩
    · exact q1.elim
  · exact ht.elim
end
end L3
end
section
set_option Elab.async false
set_option linter.all false
set_option maxRecDepth 100000
set_option maxHeartbeats 2000000
/-! L3: dicts, loops, comprehensions, own defs. -/
namespace L3
open PySem L2

/-! ### keys -/
def kU : Key → U
  | .inl i => .int i
  | .inr x => .str x
/-- the key that a tuple of ints and texts is -/
def keyOf : U → Option Key
  | .int i => some (.inl i)
  | .str x => some (.inr x)
  | _ => none
def keysOf : List U → Option (List Key)
  | [] => some []
  | x :: xs => match keyOf x, keysOf xs with
    | some k, some ks => some (k :: ks)
    | _, _ => none
def tkey : U → Option (List Key)
  | .tup xs => keysOf xs
  | _ => none
theorem rep_key {K : PySem.W.Frag} {H : Hp} {w : U} {v : V} {k : Key} (r : Rep K H w v) (h : keyOf w = some k) : v = kV k := by
  cases r <;> simp [keyOf] at h <;> subst h <;> rfl
theorem rep_keys {K : PySem.W.Frag} {H : Hp} : ∀ {ws : List U} {vs : List V} {ks : List Key}, RepL K H ws vs → keysOf ws = some ks → vs = ks.map kV
  | _, _, _, .nil, h => by
    simp [keysOf] at h
    subst h
    rfl
  | _, _, _, .cons (w := w) (ws := ws) r t, h => by
    unfold keysOf at h
    cases e1 : keyOf w with
    | none => rw [e1] at h; cases h
    | some k =>
      cases e2 : keysOf ws with
      | none => rw [e1, e2] at h; cases h
      | some ks =>
        rw [e1, e2] at h
        cases h
        rw [rep_key r e1, rep_keys t e2]
        rfl
theorem keyOf_kU (k : Key) : keyOf (kU k) = some k := by cases k <;> rfl
theorem keysOf_kU : ∀ ks : List Key, keysOf (ks.map kU) = some ks
  | [] => rfl
  | k :: ks => by
    rw [List.map_cons]
    unfold keysOf
    rw [keyOf_kU, keysOf_kU ks]
theorem repL_keys {K : PySem.W.Frag} {H : Hp} : ∀ ks : List Key, RepL K H (ks.map kU) (ks.map kV)
  | [] => .nil
  | .inl i :: ks => .cons (.int i) (repL_keys ks)
  | .inr x :: ks => .cons (.str x) (repL_keys ks)

section
variable {κ : Type} [DecidableEq κ]
def look (kvs : List (κ × U)) (k : κ) : Option U := (kvs.find? fun kv => decide (kv.1 = k)).map (·.2)
def put (kvs : List (κ × U)) (k : κ) (v : U) : List (κ × U) := if (look kvs k).isSome then kvs.map fun kv => if kv.1 = k then (kv.1, v) else kv else kvs ++ [(k, v)]
theorem look_nil {k : κ} : look ([] : List (κ × U)) k = none := rfl
theorem look_pos {p : κ × U} {r : List (κ × U)} {k : κ} (e : p.1 = k) : look (p :: r) k = some p.2 := by simp [look, List.find?_cons, e]
theorem look_neg {p : κ × U} {r : List (κ × U)} {k : κ} (e : ¬ p.1 = k) : look (p :: r) k = look r k := by simp [look, List.find?_cons, e]
theorem look_rep {K : PySem.W.Frag} {H : Hp} {kvs : List (κ × U)} {vs : List (κ × V)} (r : RepK K H kvs vs) (k : κ) : (look kvs k = none ∧ valV vs k = none) ∨ ∃ w v, look kvs k = some w ∧ valV vs k = some v ∧ Rep K H w v := by
  induction r with
  | nil => exact .inl ⟨rfl, rfl⟩
  | @cons p q ps qs h t ih =>
    obtain ⟨h1, h2⟩ := h
    by_cases e : p.1 = k
    · exact .inr ⟨p.2, q.2, look_pos e, valV_pos (h1.symm.trans e), h2⟩
    · rw [look_neg e, valV_neg fun z => e (h1.trans z)]
      exact ih
theorem put_rep {K : PySem.W.Frag} {H : Hp} {kvs : List (κ × U)} {vs : List (κ × V)} (r : RepK K H kvs vs) (k : κ) {w : U} {v : V} (q : Rep K H w v) : RepK K H (put kvs k w) (putK vs k v) := by
  have e : (vs.any fun kv => decide (kv.1 = k)) = (look kvs k).isSome := by
    rw [valV_any]
    rcases look_rep r k with ⟨h1, h2⟩ | ⟨a, b, h1, h2, _⟩
    · rw [h1, h2] <;> rfl
    · rw [h1, h2] <;> rfl
  unfold put putK
  rw [e]
  by_cases c : (look kvs k).isSome = true
  · rw [if_pos c, if_pos c]
    clear e c
    induction r with
    | nil => exact .nil
    | @cons p p' ps qs h t ih =>
      rw [List.map_cons, List.map_cons]
      refine .cons ?_ ih
      obtain ⟨h1, h2⟩ := h
      by_cases z : p.1 = k
      · rw [if_pos z, if_pos (h1.symm.trans z)]
        exact ⟨h1, q⟩
      · rw [if_neg z, if_neg fun y => z (h1.trans y)]
        exact ⟨h1, h2⟩
  · rw [if_neg c, if_neg c]
    exact Paired.snoc r ⟨rfl, q⟩
theorem look_put (kvs : List (κ × U)) (k j : κ) (y : U) : look (put kvs k y) j = if j = k then some y else look kvs j := by
  unfold put
  by_cases c : (look kvs k).isSome = true
  · rw [if_pos c]
    induction kvs with
    | nil => cases c
    | cons p r ih =>
      rw [List.map_cons]
      by_cases e : p.1 = k
      · rw [if_pos e]
        by_cases z : j = k
        · rw [if_pos z, look_pos (show (p.1, y).1 = j from e.trans z.symm)]
        · rw [if_neg z, look_neg (show ¬ (p.1, y).1 = j from fun q => z (q.symm.trans e)), look_neg (show ¬ p.1 = j from fun q => z (q.symm.trans e))]
          by_cases c2 : (look r k).isSome = true
          · rw [ih c2, if_neg z]
          · have key : ∀ l : List (κ × U), (look l k).isSome = false → look (l.map fun kv => if kv.1 = k then (kv.1, y) else kv) j = look l j := by
              intro l
              induction l with
              | nil => intro _; rfl
              | cons p2 r2 ih2 =>
                intro h2
                by_cases e2 : p2.1 = k
                · rw [look_pos e2] at h2; cases h2
                · rw [look_neg e2] at h2
                  rw [List.map_cons, if_neg e2]
                  by_cases e3 : p2.1 = j
                  · rw [look_pos e3, look_pos e3]
                  · rw [look_neg e3, look_neg e3, ih2 h2]
            exact key r (by simpa using c2)
      · rw [if_neg e]
        rw [look_neg e] at c
        by_cases z : p.1 = j
        · rw [look_pos z, look_pos z, if_neg fun q => e (z.trans q)]
        · rw [look_neg z, look_neg z, ih c]
  · rw [if_neg c]
    induction kvs with
    | nil =>
      show look [(k, y)] j = _
      by_cases z : j = k
      · rw [if_pos z, look_pos (show (k, y).1 = j from z.symm)]
      · rw [if_neg z, look_neg (show ¬ (k, y).1 = j from fun q => z q.symm)]
    | cons p r ih =>
      have e : ¬ p.1 = k := fun z => by rw [look_pos z] at c; exact c rfl
      rw [look_neg e] at c
      rw [List.cons_append]
      by_cases z : p.1 = j
      · rw [look_pos z, look_pos z, if_neg fun q => e (z.trans q)]
      · rw [look_neg z, look_neg z, ih c]
theorem length_put (kvs : List (κ × U)) (k : κ) (y : U) : (put kvs k y).length ≤ kvs.length + 1 := by
  unfold put
  split
  · rw [List.length_map]; omega
  · rw [List.length_append]; exact Nat.le_refl _
theorem put_new {kvs : List (κ × U)} {k : κ} (y : U) (h : look kvs k = none) : put kvs k y = kvs ++ [(k, y)] := by
  unfold put
  rw [h]
  rfl
end

section
variable {X : Cx} {a b c e : Expr} {pos : Pos} {ta tb tc te : TE3} {tA tB' : TT3} {W : WX}
/-- what a dict holds at a key; locked or not -/
def DLook (G : G3) (d : Addr) (y : U) (r : Option U) : Prop :=
  (∃ kvs k, (G d = some (.dT kvs) ∨ ∃ o vs, G d = some (.ldT o vs kvs)) ∧ tkey y = some k ∧ r = look kvs k) ∨ (∃ kvs k, (G d = some (.dK kvs) ∨ ∃ o vs, G d = some (.ldK o vs kvs)) ∧ keyOf y = some k ∧ r = look kvs k)
theorem dlook_low {K : PySem.W.Frag} {G : G3} {H : Hp} {d : Addr} {y : U} {v : V} {r : Option U} (hh : RepH K G H) (ry : Rep K H y v) (h : DLook G d y r) : ∃ o, DGet H d v o ∧ ((r = none ∧ o = none) ∨ ∃ w x, r = some w ∧ o = some x ∧ Rep K H w x) := by
  rcases h with ⟨kvs, k, hg, hk, rfl⟩ | ⟨kvs, k, hg, hk, rfl⟩
  · cases ry with
    | tup h1 rl =>
      have e := rep_keys rl hk
      subst e
      rcases hg with hg | ⟨o, vs, hg⟩
      · obtain ⟨vs, h2, rk⟩ := hh _ _ hg
        exact ⟨_, .inr ⟨vs, k, _, .inl h2, rfl, h1, rfl⟩, look_rep rk k⟩
      · obtain ⟨h2, rk⟩ := hh _ _ hg
        exact ⟨_, .inr ⟨vs, k, _, .inr ⟨o, h2⟩, rfl, h1, rfl⟩, look_rep rk k⟩
    | _ => cases hk
  · have e := rep_key ry hk
    subst e
    rcases hg with hg | ⟨o, vs, hg⟩
    · obtain ⟨vs, h2, rk⟩ := hh _ _ hg
      exact ⟨_, .inl ⟨vs, k, .inl h2, rfl, rfl⟩, look_rep rk k⟩
    · obtain ⟨h2, rk⟩ := hh _ _ hg
      exact ⟨_, .inl ⟨vs, k, .inr ⟨o, h2⟩, rfl, rfl⟩, look_rep rk k⟩
def dget3 (td ty : TE3) : TE3 := fun σ G Q => td σ G fun x G1 => ty σ G1 fun y G2 => match x with
  | .ref d => ∃ v, DLook G2 d y (some v) ∧ Q v G2
  | _ => False
theorem e3dget {o i : Expr} {td ty : TE3} (hu : X.A.units + 1 < cLine) (ho : PE X o (lowE X.K td)) (hi : PE X i (lowE X.K ty)) (hs : NoSl i := by exact fun _ _ => rfl) : PE X (.Subscript o i pos) (lowE X.K (dget3 td ty)) := (pe_dget hu ho hi hs).imp fun σ H Q h => by
  obtain ⟨σ3, G, Q3, hs, hh, ht, hq⟩ := h
  refine ⟨σ3, G, _, hs, hh, ht, fun x H1 w G1 k1 hh1 r q1 => ?_⟩
  refine ⟨σ3, G1, _, hs.keep k1, hh1, q1, fun y H2 u G2 k2 hh2 r2 q2 => ?_⟩
  split at q2
  · cases r
    obtain ⟨v, hl, q2⟩ := q2
    obtain ⟨o, hd, ho⟩ := dlook_low hh2 r2 hl
    rcases ho with ⟨z, _⟩ | ⟨w, x, e1, e2, rw⟩
    · cases z
    · cases e1
      subst e2
      exact ⟨_, x, rfl, hd, hq _ _ _ _ (k1.trans k2) hh2 rw q2⟩
  · exact q2.elim
def din3 (neg : Bool) (ty td : TE3) : TE3 := fun σ G Q => ty σ G fun y G1 => td σ G1 fun x G2 => match x with
  | .ref d => ∃ r, DLook G2 d y r ∧ Q (.bl (if neg then !r.isSome else r.isSome)) G2
  | _ => False
theorem din_low {K : PySem.W.Frag} {ty td : TE3} : ∀ σ H Q, lowE K (din3 false ty td) σ H Q → tDIn (lowE K ty) (lowE K td) σ H Q := fun σ H Q h => by
  obtain ⟨σ3, G, Q3, hs, hh, ht, hq⟩ := h
  refine ⟨σ3, G, _, hs, hh, ht, fun x H1 w G1 k1 hh1 r q1 => ?_⟩
  refine ⟨σ3, G1, _, hs.keep k1, hh1, q1, fun y H2 u G2 k2 hh2 r2 q2 => ?_⟩
  split at q2
  · cases r2
    obtain ⟨v, hl, q2⟩ := q2
    obtain ⟨o, hd, ho⟩ := dlook_low hh2 (r.keep k2) hl
    refine ⟨_, o, rfl, hd, ?_⟩
    have e : v.isSome = o.isSome := by
      rcases ho with ⟨e1, e2⟩ | ⟨w, x, e1, e2, _⟩ <;> rw [e1, e2] <;> rfl
    rw [← e]
    exact hq _ _ _ _ (k1.trans k2) hh2 (.bl _) q2
  · exact q2.elim
theorem dnotin_low {K : PySem.W.Frag} {ty td : TE3} : ∀ σ H Q, lowE K (din3 true ty td) σ H Q → tDNotIn (lowE K ty) (lowE K td) σ H Q := fun σ H Q h => by
  obtain ⟨σ3, G, Q3, hs, hh, ht, hq⟩ := h
  refine ⟨σ3, G, _, hs, hh, ht, fun x H1 w G1 k1 hh1 r q1 => ?_⟩
  refine ⟨σ3, G1, _, hs.keep k1, hh1, q1, fun y H2 u G2 k2 hh2 r2 q2 => ?_⟩
  split at q2
  · cases r2
    obtain ⟨v, hl, q2⟩ := q2
    obtain ⟨o, hd, ho⟩ := dlook_low hh2 (r.keep k2) hl
    refine ⟨_, o, rfl, hd, ?_⟩
    have e : v.isSome = o.isSome := by
      rcases ho with ⟨e1, e2⟩ | ⟨w, x, e1, e2, _⟩ <;> rw [e1, e2] <;> rfl
    rw [← e]
    exact hq _ _ _ _ (k1.trans k2) hh2 (.bl _) q2
  · exact q2.elim
theorem e3din {i o : Expr} {ty td : TE3} (hu : X.A.units + 1 < cLine) (hi : PE X i (lowE X.K ty)) (ho : PE X o (lowE X.K td)) (h1 : behindInMarks .In o = false := by rfl) : PE X (.Compare i [.In] [o] pos) (lowE X.K (din3 false ty td)) := (pe_cmp (pc_din hu hi ho) h1).imp din_low
theorem e3dnotin {i o : Expr} {ty td : TE3} (hu : X.A.units + 1 < cLine) (hi : PE X i (lowE X.K ty)) (ho : PE X o (lowE X.K td)) (h1 : behindInMarks .NotIn o = false := by rfl) : PE X (.Compare i [.NotIn] [o] pos) (lowE X.K (din3 true ty td)) := (pe_cmp (pc_dnotin hu hi ho) h1).imp dnotin_low
theorem tB_mono {t t' : TE} (h : ∀ σ H Q, t' σ H Q → t σ H Q) : ∀ σ H Q, tB t' σ H Q → tB t σ H Q := fun σ H Q q => h _ _ _ q
theorem t3din {i o : Expr} {ty td : TE3} (hu : X.A.units + 1 < cLine) (hi : PE X i (lowE X.K ty)) (ho : PE X o (lowE X.K td)) (h1 : behindInMarks .In o = false := by rfl) : PT X (.Compare i [.In] [o] pos) (lowT X.K (te3 (din3 false ty td))) :=
  (pt_cmp (pc_din hu hi ho) h1).imp fun σ H Q h => tB_mono din_low _ _ _ (te3_low _ _ _ h)
theorem t3dnotin {i o : Expr} {ty td : TE3} (hu : X.A.units + 1 < cLine) (hi : PE X i (lowE X.K ty)) (ho : PE X o (lowE X.K td)) (h1 : behindInMarks .NotIn o = false := by rfl) : PT X (.Compare i [.NotIn] [o] pos) (lowT X.K (te3 (din3 true ty td))) :=
  (pt_cmp (pc_dnotin hu hi ho) h1).imp fun σ H Q h => tB_mono dnotin_low _ _ _ (te3_low _ _ _ h)
/-- d.get(k, x) -/
def dget23 (td ty tx : TE3) : TE3 := fun σ G Q => td σ G fun x G1 => match x with
  | .ref d => ((∃ kvs, G1 d = some (.dT kvs)) ∨ ∃ kvs, G1 d = some (.dK kvs)) ∧ ty σ G1 fun y G2 => tx σ G2 fun z G3 => ∃ r, DLook G3 d y r ∧ Q (r.getD z) G3
  | _ => False
theorem e3dget2 {o e f : Expr} {td ty tx : TE3} {apos cpos : Pos} (hu : X.A.units + 1 < cLine) (ho : PE X o (lowE X.K td)) (he : PE X e (lowE X.K ty)) (hf : PE X f (lowE X.K tx)) (m : M2 X o "get" apos e f cpos) : PE X (.Call (.Attribute o "get" apos) [e, f] [] cpos) (lowE X.K (dget23 td ty tx)) :=
  (pe_dget2 hu ho he hf m).imp fun σ H Q h => by
  obtain ⟨σ3, G, Q3, hs, hh, ht, hq⟩ := h
  refine ⟨σ3, G, _, hs, hh, ht, fun x H1 w G1 k1 hh1 r q1 => ?_⟩
  split at q1
  · cases r
    obtain ⟨hd, q1⟩ := q1
    refine ⟨_, rfl, ?_, ?_⟩
    · rcases hd with ⟨kvs, hd⟩ | ⟨kvs, hd⟩
      · obtain ⟨vs, h2, _⟩ := hh1 _ _ hd
        exact .inr ⟨vs, .inl h2⟩
      · obtain ⟨vs, h2, _⟩ := hh1 _ _ hd
        exact .inl ⟨vs, .inl h2⟩
    · refine ⟨σ3, G1, _, hs.keep k1, hh1, q1, fun y H2 u G2 k2 hh2 r2 q2 => ?_⟩
      refine ⟨σ3, G2, _, hs.keep (k1.trans k2), hh2, q2, fun z H3 u3 G3 k3 hh3 r3 q3 => ?_⟩
      obtain ⟨rr, hl, q3⟩ := q3
      obtain ⟨o, hd, ho⟩ := dlook_low hh3 (r2.keep k3) hl
      refine ⟨o, hd, ?_⟩
      rcases ho with ⟨e1, e2⟩ | ⟨w, x, e1, e2, rx⟩
      · subst e1 e2
        exact hq _ _ _ _ ((k1.trans k2).trans k3) hh3 r3 q3
      · subst e1 e2
        exact hq _ _ _ _ ((k1.trans k2).trans k3) hh3 rx q3
  · exact q1.elim
/-- {} whose keys will be tuples -/
def dnewT3 : TE3 := fun _ G Q => ∀ p, G p = none → Q (.ref p) (gup G p (.dT []))
theorem e3dnewT : PE X (.Dict [] [] pos) (lowE X.K dnewT3) := pe_dnewT.imp fun σ H Q h => by
  obtain ⟨σ3, G, Q3, hs, hh, ht, hq⟩ := h
  exact fun p hp => hq _ _ _ _ (Keep.new hp) (hh.new hp (g := .dT []) ⟨[], upd_same, .nil⟩) (.ref _) (ht p (hh.free hp))
def dnewK3 : TE3 := fun _ G Q => ∀ p, G p = none → Q (.ref p) (gup G p (.dK []))
theorem e3dnewK : PE X (.Dict [] [] pos) (lowE X.K dnewK3) := pe_dnewK.imp fun σ H Q h => by
  obtain ⟨σ3, G, Q3, hs, hh, ht, hq⟩ := h
  exact fun p hp => hq _ _ _ _ (Keep.new hp) (hh.new hp (g := .dK []) ⟨[], upd_same, .nil⟩) (.ref _) (ht p (hh.free hp))
/-- d[k] = v, tuple keys -/
def dput3 (td ty tv : TE3) : TS3 := fun D σ G => tv σ G fun v G1 => td σ G1 fun x G2 => ty σ G2 fun y G3 => match x with
  | .ref d => ∃ kvs k, G3 d = some (.dT kvs) ∧ tkey y = some k ∧ decide (kvs.length ≤ 99999) = true ∧ D.nx σ (gup G3 d (.dT (put kvs k v)))
  | _ => False
theorem obj_dT {K : PySem.W.Frag} {H : Hp} {p : Addr} {u : HO} {ws : List (List Key × U)} {vs : List (List Key × V)} (h : H p = some u) (s : Soft u) (r : RepK K H ws vs) : RepO K (upd H p (.dT vs)) p (.dT ws) := ⟨vs, upd_same, RepK.keep (Keep.mut h s) r⟩
theorem s_dput {o i value : Expr} {td ty tv : TE3} {pos' : Pos} (hu : X.A.units + 1 < cLine) (ho : PE X o (lowE X.K td)) (hi : PE X i (lowE X.K ty)) (hv : PE X value (lowE X.K tv)) (hs : swapsWith value (some (.Subscript o i pos')) pos.line X.env = pure false := by rfl) :
    PS X (.Assign [.Subscript o i pos'] value pos) (lowS X.K W (dput3 td ty tv)) := (ps_dput hu ho hi hv hs).imp fun D σ H h => by
  obtain ⟨σ3, G, D3, hs, hh, ht, hle⟩ := h
  refine ⟨σ3, G, _, hs, hh, ht, fun v H1 w G1 k1 hh1 r q1 => ?_⟩
  refine ⟨σ3, G1, _, hs.keep k1, hh1, q1, fun x H2 w2 G2 k2 hh2 r2 q2 => ?_⟩
  refine ⟨σ3, G2, _, hs.keep (k1.trans k2), hh2, q2, fun y H3 w3 G3 k3 hh3 r3 q3 => ?_⟩
  split at q3
  · cases r2
    obtain ⟨kvs, k, hg, hk, hz, q3⟩ := q3
    cases r3 with
    | tup h1 rl =>
      have e := rep_keys rl hk
      subst e
      obtain ⟨vs, h2, rk⟩ := hh3 _ _ hg
      have k4 := Keep.mut (o := .dT (putK vs k v)) h2 trivial
      have kk := ((k1.trans k2).trans k3).trans k4
      refine ⟨_, _, rfl, DPut.t h2 h1 (by rw [← RepK.length rk]; exact sl hz), hle.nx _ _ _ _ kk (hs.keep kk) (hh3.mut h2 trivial (obj_dT h2 trivial (put_rep rk k (r.keep (k2.trans k3))))) q3⟩
    | _ => cases hk
  · exact q3.elim

/-! ### what a for walks -/
structure It3 where
  items : List U
  ok : G3 → Prop
structure ItLow (K : PySem.W.Frag) (H0 : Hp) (it : It3) (J : It) : Prop where
  goes : ∀ i G H, i < it.items.length → Keep H0 H → RepH K G H → it.ok G → J.go i H
  stops : ∀ G H, Keep H0 H → RepH K G H → it.ok G → J.stop it.items.length H
  yields : ∀ i G H x H', i < it.items.length → Keep H0 H → RepH K G H → it.ok G → J.yld i H x H' → Keep H H' ∧ RepH K G H' ∧ ∃ w, it.items[i]? = some w ∧ Rep K H' w x
abbrev TI3 := S3 → G3 → (It3 → G3 → Prop) → Prop
def lowI (K : PySem.W.Frag) (t : TI3) : TI := fun σ H R => ∃ σ3 G Q3, RepS K H σ3 σ ∧ RepH K G H ∧ t σ3 G Q3 ∧ ∀ J H' it G', Keep H H' → RepH K G' H' → ItLow K H' it J → Q3 it G' → R J H'
theorem _root_.L2.PI.imp {tg iter : Expr} {w w' : TI} (h : PI X tg iter w) (i : ∀ σ H R, w' σ H R → w σ H R) : PI X tg iter w' := ⟨fun pins s σ H R I q => h.run pins s σ H R I (i σ H R q)⟩
/-- over a list -/
def il3 (te : TE3) : TI3 := fun σ G R => te σ G fun x G1 => match x with
  | .ref a => ∃ xs, G1 a = some (.lst xs) ∧ R ⟨xs, fun G => G a = some (.lst xs)⟩ G1
  | .lit xs => R ⟨xs, fun _ => True⟩ G1
  | _ => False
theorem i_list {tg l : Expr} {tl : TE3} (hl : PE X l (lowE X.K tl)) : PI X tg l (lowI X.K (il3 tl)) := (pi_list hl).imp fun σ H R h => by
  obtain ⟨σ3, G, Q3, hs, hh, ht, hq⟩ := h
  refine ⟨σ3, G, _, hs, hh, ht, fun x H1 w G1 k1 hh1 r q1 => ?_⟩
  split at q1
  · cases r
    obtain ⟨xs, hg, q1⟩ := q1
    obtain ⟨vs, h1, rl⟩ := hh1 _ _ hg
    refine ⟨_, rfl, ⟨vs, SqL.of h1⟩, hq _ _ _ _ k1 hh1 ⟨fun i G' H' hi k hh' ok => ?_, fun G' H' k hh' ok => ?_, fun i G' H' x H'' hi k hh' ok y => ?_⟩ q1⟩
    · obtain ⟨us, h2, r2⟩ := hh' _ _ ok
      have hi2 : i < us.length := by rw [← r2.length]; exact hi
      exact ⟨us, us[i], SqL.of h2, by simp [hi2]⟩
    · obtain ⟨us, h2, r2⟩ := hh' _ _ ok
      exact ⟨us, SqL.of h2, Nat.le_of_eq r2.length.symm⟩
    · obtain ⟨us, h2, r2⟩ := hh' _ _ ok
      obtain ⟨e, y⟩ := y
      subst e
      obtain ⟨w, hw, rw⟩ := r2.get' (y us (SqL.of h2))
      exact ⟨Keep.refl _, hh', w, hw, rw⟩
  · cases r with
    | @lit a vs ws h1 rl =>
      refine ⟨_, rfl, ⟨vs, h1.sq⟩, hq _ _ _ _ k1 hh1 ⟨fun i G' H' hi k hh' ok => ?_, fun G' H' k hh' ok => ?_, fun i G' H' x H'' hi k hh' ok y => ?_⟩ q1⟩
      · have hi2 : i < vs.length := by rw [← rl.length]; exact hi
        exact ⟨vs, vs[i], (LitAt.keep k h1).sq, by simp [hi2]⟩
      · exact ⟨vs, (LitAt.keep k h1).sq, Nat.le_of_eq rl.length.symm⟩
      · obtain ⟨e, y⟩ := y
        subst e
        obtain ⟨w, hw, rw⟩ := (rl.keep k).get' (y vs (LitAt.keep k h1).sq)
        exact ⟨Keep.refl _, hh', w, hw, rw⟩
  · exact q1.elim
/-- over a tuple -/
def it3 (te : TE3) : TI3 := fun σ G R => te σ G fun x G1 => match x with
  | .tup xs => R ⟨xs, fun _ => True⟩ G1
  | .wtup xs => R ⟨xs, fun _ => True⟩ G1
  | _ => False
theorem i_tup {tg l : Expr} {tl : TE3} (hl : PE X l (lowE X.K tl)) : PI X tg l (lowI X.K (it3 tl)) := (pi_tup hl).imp fun σ H R h => by
  obtain ⟨σ3, G, Q3, hs, hh, ht, hq⟩ := h
  refine ⟨σ3, G, _, hs, hh, ht, fun x H1 w G1 k1 hh1 r q1 => ?_⟩
  have main : ∀ {a : Addr} {vs : List V} {ws : List U}, SqT X.K H1 a vs → RepL X.K H1 ws vs → Q3 ⟨ws, fun _ => True⟩ G1 → ∃ a', V.ref a = .ref a' ∧ (∃ xs, SqT X.K H1 a' xs) ∧ R (Itt X.K a') H1 := by
    intro a vs ws h1 rl q
    refine ⟨_, rfl, ⟨vs, h1⟩, hq _ _ _ _ k1 hh1 ⟨fun i G' H' hi k hh' ok => ?_, fun G' H' k hh' ok => ?_, fun i G' H' x H'' hi k hh' ok y => ?_⟩ q⟩
    · have hi2 : i < vs.length := by rw [← rl.length]; exact hi
      exact ⟨vs, vs[i], SqT.keep k h1, by simp [hi2]⟩
    · exact ⟨vs, SqT.keep k h1, Nat.le_of_eq rl.length.symm⟩
    · obtain ⟨e, y⟩ := y
      subst e
      obtain ⟨w, hw, rw⟩ := (rl.keep k).get' (y vs (SqT.keep k h1))
      exact ⟨Keep.refl _, hh', w, hw, rw⟩
  split at q1
  · cases r with
    | tup h1 rl => exact main (SqT.of h1) rl q1
  · cases r with
    | wtup h1 rl => exact main h1 rl q1
  · exact q1.elim
/-- over range(n), range(a, b) -/
def rgU (lo : Int) (n : Nat) : List U := (List.range n).map fun i => U.int (lo + (i : Nat))
theorem rgU_len (lo : Int) (n : Nat) : (rgU lo n).length = n := by unfold rgU; rw [List.length_map, List.length_range]
theorem rgU_get {lo : Int} {n i : Nat} (h : i < n) : (rgU lo n)[i]? = some (.int (lo + (i : Nat))) := by
  unfold rgU
  rw [List.getElem?_map, List.getElem?_range h]
  rfl
theorem rg_low {K : PySem.W.Frag} {H0 : Hp} (lo : Int) (n : Nat) : ItLow K H0 ⟨rgU lo n, fun _ => True⟩ (Itr lo n) := by
  refine ⟨fun i G H hi _ _ _ => ?_, fun G H _ _ _ => ?_, fun i G H x H' hi _ hh _ y => ?_⟩
  · have hi : i < (rgU lo n).length := hi
    rw [rgU_len] at hi; exact hi
  · show n ≤ (rgU lo n).length
    rw [rgU_len]; exact Nat.le_refl _
  · have hi : i < (rgU lo n).length := hi
    rw [rgU_len] at hi
    obtain ⟨e, y⟩ := y
    subst e y
    exact ⟨Keep.refl _, hh, _, rgU_get hi, .int _⟩
def ir1 (ta : TE3) : TI3 := fun σ G R => ta σ G fun x G1 => match x with
  | .int j => decide (-1000000000 ≤ j ∧ j ≤ 1000000000) = true ∧ R ⟨rgU 0 j.toNat, fun _ => True⟩ G1
  | _ => False
theorem i_range1 {tg a : Expr} {ta : TE3} {p pos : Pos} (hm : X.mg "range" = none) (ha : PE X a (lowE X.K ta)) (hg : Gl X "range" := by rfl) (hs : starEach [a] X.env = [(false, eval a X.env)] := by rfl) (hs2 : starEach [a] X.env = (false, eval a X.env) :: starEach [] X.env := by rfl) : PI X tg (.Call (.Name "range" p) [a] [] pos) (lowI X.K (ir1 ta)) :=
  (pi_range1 hg hm (pa_cons ha pa_nil hs2) hs).imp fun σ H R h => by
  obtain ⟨σ3, G, Q3, hs, hh, ht, hq⟩ := h
  refine ⟨σ3, G, _, hs, hh, ht, fun v H1 w G1 k1 hh1 r q1 => ?_⟩
  split at q1
  · cases r
    obtain ⟨hd, q⟩ := q1
    have hd := of_decide_eq_true hd
    exact ⟨_, rfl, by omega, by omega, hq _ _ _ _ k1 hh1 (rg_low 0 _) q⟩
  · exact q1.elim
def ir2 (ta tb : TE3) : TI3 := fun σ G R => ta σ G fun x G1 => tb σ G1 fun y G2 => match x, y with
  | .int i, .int j => decide (-1000000000 ≤ i ∧ i ≤ 1000000000 ∧ -1000000000 ≤ j ∧ j ≤ 1000000000) = true ∧ R ⟨rgU i (j - i).toNat, fun _ => True⟩ G2
  | _, _ => False
theorem i_range2 {tg a b : Expr} {ta tb : TE3} {p pos : Pos} (hm : X.mg "range" = none) (ha : PE X a (lowE X.K ta)) (hb : PE X b (lowE X.K tb)) (hg : Gl X "range" := by rfl) (hs : starEach [a, b] X.env = [(false, eval a X.env), (false, eval b X.env)] := by rfl) (hs2 : starEach [b] X.env = [(false, eval b X.env)] := by rfl)
    (hs3 : starEach [a, b] X.env = (false, eval a X.env) :: starEach [b] X.env := by rfl) (hs4 : starEach [b] X.env = (false, eval b X.env) :: starEach [] X.env := by rfl) : PI X tg (.Call (.Name "range" p) [a, b] [] pos) (lowI X.K (ir2 ta tb)) :=
  (pi_range2 hg hm (pa_cons ha (pa_cons hb pa_nil hs4) hs3) hs hs2).imp fun σ H R h => by
  obtain ⟨σ3, G, Q3, hs, hh, ht, hq⟩ := h
  refine ⟨σ3, G, _, hs, hh, ht, fun v H1 w G1 k1 hh1 r q1 => ?_⟩
  refine ⟨σ3, G1, _, hs.keep k1, hh1, q1, fun v2 H2 w2 G2 k2 hh2 r2 q2 => ?_⟩
  split at q2
  · cases r; cases r2
    obtain ⟨hd, q⟩ := q2
    have hd := of_decide_eq_true hd
    exact ⟨_, _, rfl, by omega, hq _ _ _ _ (k1.trans k2) hh2 (rg_low _ _) q⟩
  · exact q2.elim
/-- range(a, b, -1) -/
def rgD (a b : Int) : List U := (List.range (a - b).toNat).map fun i => U.int (a - (i : Nat))
theorem rgD_len (a b : Int) : (rgD a b).length = (a - b).toNat := by unfold rgD; rw [List.length_map, List.length_range]
theorem rgD_low {K : PySem.W.Frag} {H0 : Hp} (a b : Int) : ItLow K H0 ⟨rgD a b, fun _ => True⟩ (Itc a (-1) (a - b).toNat) := by
  refine ⟨fun i G H hi _ _ _ => ?_, fun G H _ _ _ => ?_, fun i G H x H' hi _ hh _ y => ?_⟩
  · have hi : i < (rgD a b).length := hi
    rw [rgD_len] at hi; exact hi
  · show (a - b).toNat ≤ (rgD a b).length
    rw [rgD_len]; exact Nat.le_refl _
  · have hi : i < (rgD a b).length := hi
    rw [rgD_len] at hi
    obtain ⟨e, y⟩ := y
    subst e y
    refine ⟨Keep.refl _, hh, .int (a - (i : Nat)), ?_, ?_⟩
    · unfold rgD
      rw [List.getElem?_map, List.getElem?_range hi]
      rfl
    · have e : a - (i : Nat) = a + (i : Nat) * (-1) := by omega
      rw [e]
      exact .int _
def irD (ta tb tc : TE3) : TI3 := fun σ G R => ta σ G fun x G1 => tb σ G1 fun y G2 => tc σ G2 fun z G3 => match x, y, z with
  | .int i, .int j, .int c => c = -1 ∧ decide (-1000000000 ≤ i ∧ i ≤ 1000000000 ∧ -1000000000 ≤ j ∧ j ≤ 1000000000) = true ∧ R ⟨rgD i j, fun _ => True⟩ G3
  | _, _, _ => False
theorem i_rangeD {tg a b c : Expr} {ta tb tc : TE3} {p pos : Pos} (hm : X.mg "range" = none) (ha : PE X a (lowE X.K ta)) (hb : PE X b (lowE X.K tb)) (hc : PE X c (lowE X.K tc)) (hi : ∀ t : TA, PA X [a, b, c] t → PI X tg (.Call (.Name "range" p) [a, b, c] [] pos) (iRng3 t))
    (hs3 : starEach [a, b, c] X.env = (false, eval a X.env) :: starEach [b, c] X.env := by rfl) (hs4 : starEach [b, c] X.env = (false, eval b X.env) :: starEach [c] X.env := by rfl) (hs5 : starEach [c] X.env = (false, eval c X.env) :: starEach [] X.env := by rfl) : PI X tg (.Call (.Name "range" p) [a, b, c] [] pos) (lowI X.K (irD ta tb tc)) :=
  (hi _ (pa_cons ha (pa_cons hb (pa_cons hc pa_nil hs5) hs4) hs3)).imp fun σ H R h => by
  obtain ⟨σ3, G, Q3, hs, hh, ht, hq⟩ := h
  refine ⟨σ3, G, _, hs, hh, ht, fun v H1 w G1 k1 hh1 r q1 => ?_⟩
  refine ⟨σ3, G1, _, hs.keep k1, hh1, q1, fun v2 H2 w2 G2 k2 hh2 r2 q2 => ?_⟩
  refine ⟨σ3, G2, _, hs.keep (k1.trans k2), hh2, q2, fun v3 H3 w3 G3 k3 hh3 r3 q3 => ?_⟩
  split at q3
  · cases r; cases r2; cases r3
    obtain ⟨hc, hd, q⟩ := q3
    subst hc
    have hd := of_decide_eq_true hd
    exact ⟨_, _, _, _, rfl, RgC.neg (by omega) (by omega) (by omega) (by omega), hq _ _ _ _ ((k1.trans k2).trans k3) hh3 (rgD_low _ _) q⟩
  · exact q3.elim
/-- the keys of a locked dict with tuple keys -/
def ikT (te : TE3) : TI3 := fun σ G R => te σ G fun x G1 => match x with
  | .ref d => ∃ o vs kvs, G1 d = some (.ldT o vs kvs) ∧ R ⟨kvs.map fun kv => .tup (kv.1.map kU), fun G => G d = some (.ldT o vs kvs)⟩ G1
  | _ => False
theorem i_keysT {tg l : Expr} {tl : TE3} (hl : PE X l (lowE X.K tl)) : PI X tg l (lowI X.K (ikT tl)) := (pi_keys hl).imp fun σ H R h => by
  obtain ⟨σ3, G, Q3, hs, hh, ht, hq⟩ := h
  refine ⟨σ3, G, _, hs, hh, ht, fun x H1 w G1 k1 hh1 r q1 => ?_⟩
  split at q1
  · cases r
    rename_i d
    obtain ⟨o, vs, kvs, hg, q1⟩ := q1
    obtain ⟨h1, rl⟩ := hh1 _ _ hg
    have hln : (kvs.map fun kv => U.tup (kv.1.map kU)).length = vs.length := by rw [List.length_map]; exact RepK.length rl
    refine ⟨d, o, rfl, .inr ⟨vs, h1, hq _ _ _ _ k1 hh1 ⟨fun i G' H' hi k hh' ok => ?_, fun G' H' k hh' ok => ?_, fun i G' H' x H'' hi k hh' ok y => ?_⟩ q1⟩⟩
    · obtain ⟨h2, r2⟩ := hh' _ _ ok
      refine ⟨h2, ?_⟩
      rw [← hln]; exact hi
    · obtain ⟨h2, r2⟩ := hh' _ _ ok
      exact ⟨h2, Nat.le_of_eq hln.symm⟩
    · obtain ⟨e, k0, v0, q0, e1, e2, e3⟩ := y
      subst e e2
      have hi2 : i < kvs.length := by
        have hi : i < (kvs.map fun kv => U.tup (kv.1.map kU)).length := hi
        rw [List.length_map] at hi; exact hi
      obtain ⟨b, hb, hbb⟩ := paired_get rl (List.getElem?_eq_getElem hi2)
      rw [e1] at hb
      cases hb
      refine ⟨Keep.refl _, hh', .tup (kvs[i].1.map kU), ?_, ?_⟩
      · show (kvs.map fun kv => U.tup (kv.1.map kU))[i]? = _
        rw [List.getElem?_map, List.getElem?_eq_getElem hi2]
        rfl
      · rw [hbb.1]
        exact .tup e3 (repL_keys k0)
  · exact q1.elim

/-! ### for -/
def for3 (wi : TI3) (g : TG3) (tb : TS3) : TS3 := fun D σ G => wi σ G fun it G1 => ∃ Pv : Nat → S3 → G3 → Prop, Pv 0 σ G1 ∧ (∀ i σ' G', i ≤ it.items.length → Pv i σ' G' → it.ok G') ∧
  (∀ i x σ' G', it.items[i]? = some x → Pv i σ' G' → g x σ' G' fun σ2 G2 => tb { D with nx := Wk2 (Pv (i + 1)), ct := Wk2 (Pv (i + 1)), bk := Wk2 D.nx } σ2 G2) ∧ ∀ σ' G', Pv it.items.length σ' G' → D.nx σ' G'
theorem s_for {tg iter : Expr} {body : List Stmt} {wi : TI3} {g : TG} {g3 : TG3} {tb : TS3} (hp : PassesOwn (model X.prog X.w) X.A X.env X.xe) (hc : X.calm = true) (hi : PI X tg iter (lowI X.K wi)) (hg : PG X tg g) (hl : GLow X.K none g g3) (hb : PSs X body (lowS X.K W tb))
    (hs : ∀ x, foldedSetIterable iter X.env x = pure x := by intro _; rfl) : PS X (.For tg iter body [] pos) (lowS X.K W (for3 wi g3 tb)) := (ps_for hp hc hi hg hb hs).imp fun D σ H h => by
  obtain ⟨σ3, G, D3, hs, hh, ht, hle⟩ := h
  refine ⟨σ3, G, _, hs, hh, ht, fun J H1 it G1 k1 hh1 il q1 => ?_⟩
  obtain ⟨Pv, p0, pok, pst, pdn⟩ := q1
  refine ⟨fun i m σ' H' => m = it.items.length - i ∧ i ≤ it.items.length ∧ ∃ σ3' G', Keep H1 H' ∧ RepS X.K H' σ3' σ' ∧ RepH X.K G' H' ∧ Pv i σ3' G', ⟨_, rfl, Nat.zero_le _, σ3, G1, Keep.refl _, hs.keep k1, hh1, p0⟩, ?_⟩
  rintro i m σ' H' ⟨rfl, hi, σ3', G', kk, hs', hh', pv⟩
  have ok := pok i σ3' G' hi pv
  by_cases hlt : i < it.items.length
  · refine .inr ⟨il.goes i G' H' hlt kk hh' ok, fun σ2 H2 => ∃ σ32 G2, Keep H1 H2 ∧ RepS X.K H2 σ32 σ2 ∧ RepH X.K G2 H2 ∧ Pv (i + 1) σ32 G2, fun σ2 H2 q => ⟨it.items.length - (i + 1), by omega, rfl, hlt, q⟩, fun x H2 y => ?_⟩
    obtain ⟨k2, hh2, w, hw, rw⟩ := il.yields i G' H' x H2 hlt kk hh' ok y
    refine hl _ _ _ _ _ _ _ _ rw (hs'.keep k2) hh2 (pst i w σ3' G' hw pv) fun σ4 H4 σ34 G4 k4 _ hs4 hh4 q4 => ?_
    have kH4 : Keep H1 H4 := (kk.trans k2).trans k4
    refine ⟨σ34, G4, _, hs4, hh4, q4, ⟨fun σ5 H5 σ35 G5 k5 hs5 hh5 ⟨σ0, G0, z1, z2, q5⟩ => ⟨σ0, G0, kH4.trans k5, hs5.sub z1, hh5.less z2, q5⟩, hle.rt.from (k1.trans kH4), fun σ5 H5 σ35 G5 k5 hs5 hh5 ⟨σ0, G0, z1, z2, q5⟩ => hle.nx _ _ _ _ ((k1.trans kH4).trans k5) (hs5.sub z1) (hh5.less z2) q5,
      fun σ5 H5 σ35 G5 k5 hs5 hh5 ⟨σ0, G0, z1, z2, q5⟩ => ⟨σ0, G0, kH4.trans k5, hs5.sub z1, hh5.less z2, q5⟩, fun c d σ5 H5 σ35 G5 k5 hs5 hh5 q5 => hle.ex _ _ _ _ _ _ ((k1.trans kH4).trans k5) hs5 hh5 q5⟩⟩
  · have e : i = it.items.length := by omega
    subst e
    exact .inl ⟨il.stops G' H' kk hh' ok, hle.nx _ _ _ _ (k1.trans kk) hs' hh' (pdn _ _ pv)⟩
/-- a dict with tuple keys is locked while the statement runs -/
def lock3 (t : TS3) : TS3 := fun D σ G => ∃ d kvs, G d = some (.dT kvs) ∧ ∀ od vs, t ⟨fun σ' G' => G' d = some (.ldT od vs kvs) ∧ D.nx σ' (gup G' d (.dT kvs)), fun v G' => G' d = some (.ldT od vs kvs) ∧ D.rt v (gup G' d (.dT kvs)),
  fun σ' G' => G' d = some (.ldT od vs kvs) ∧ D.bk σ' (gup G' d (.dT kvs)), fun σ' G' => G' d = some (.ldT od vs kvs) ∧ D.ct σ' (gup G' d (.dT kvs)), fun _ _ _ _ => False⟩ σ (gup G d (.ldT od vs kvs))
theorem s_lock {st : Stmt} {t : TS3} (h : PS X st (lowS X.K W t)) : PS X st (lowS X.K W (lock3 t)) := (ps_lock h).imp fun D σ H h => by
  obtain ⟨σ3, G, D3, hs, hh, ht, hle⟩ := h
  obtain ⟨d, kvs, hg, ht⟩ := ht
  obtain ⟨vs, h1, rk⟩ := hh _ _ hg
  refine ⟨d, .dT vs, h1, trivial, fun od => ?_⟩
  have k1 : Keep H (upd H d (.frz od (.dT vs))) := Keep.mut h1 trivial
  have back : ∀ {H' : Hp} {G' : G3}, Keep (upd H d (.frz od (.dT vs))) H' → RepH X.K G' H' → G' d = some (.ldT od vs kvs) → H' d = some (.frz od (.dT vs)) ∧ Keep H (upd H' d (.dT vs)) ∧ Keep H' (upd H' d (.dT vs)) ∧ RepH X.K (gup G' d (.dT kvs)) (upd H' d (.dT vs)) := by
    intro H' G' k hh' hg'
    obtain ⟨h2, r2⟩ := hh' _ _ hg'
    have k2 : Keep H' (upd H' d (.dT vs)) := Keep.mut h2 trivial
    exact ⟨h2, (k1.trans k).trans k2, k2, hh'.mut h2 trivial ⟨vs, upd_same, RepK.keep k2 r2⟩⟩
  refine ⟨σ3, gup G d (.ldT od vs kvs), _, hs.keep k1, hh.mut h1 trivial ⟨upd_same, RepK.keep k1 rk⟩, ht od vs, ⟨?_, ?_, ?_, ?_, ?_⟩⟩
  · intro σ' H' σ3' G' k hs' hh' q
    obtain ⟨a, b, c, e⟩ := back k hh' q.1
    exact ⟨a, hle.nx _ _ _ _ b (hs'.keep c) e q.2⟩
  · intro v H' w G' k hh' r q
    obtain ⟨a, b, c, e⟩ := back k hh' q.1
    exact ⟨a, hle.rt _ _ _ _ b e (r.keep c) q.2⟩
  · intro σ' H' σ3' G' k hs' hh' q
    obtain ⟨a, b, c, e⟩ := back k hh' q.1
    exact ⟨a, hle.bk _ _ _ _ b (hs'.keep c) e q.2⟩
  · intro σ' H' σ3' G' k hs' hh' q
    obtain ⟨a, b, c, e⟩ := back k hh' q.1
    exact ⟨a, hle.ct _ _ _ _ b (hs'.keep c) e q.2⟩
  · intro c d σ' H' σ3' G' k hs' hh' q
    exact q.elim

/-! ### comprehensions -/
def wipe3 (σ : S3) : List Nat → S3
  | [] => σ
  | v :: vs => (wipe3 σ vs).set v none
theorem RepS.wipe {K : PySem.W.Frag} {H : Hp} {σ3 : S3} {σ : L2.St} (r : RepS K H σ3 σ) : ∀ vs : List Nat, RepS K H (wipe3 σ3 vs) (L2.wipe σ vs)
  | [] => r
  | v :: vs => by
    have ih := RepS.wipe r vs
    refine ⟨by unfold wipe3 L2.wipe; rw [List.length_set, List.length_set]; exact ih.1, fun i w e => ?_⟩
    unfold wipe3 at e
    unfold L2.wipe
    by_cases h : v = i
    · subst h
      have hl : v < (wipe3 σ3 vs).length := by
        have := (List.getElem?_eq_some_iff.mp e).1
        rwa [List.length_set] at this
      rw [List.getElem?_set_self hl] at e
      cases e
    · rw [List.getElem?_set_ne h] at e
      rw [List.getElem?_set_ne h]
      exact ih.2 i w e
def yes3 : TT3 := fun _ G Q => Q true G
theorem ts3nil : PTs X [] (lowT X.K yes3) := ⟨fun pins s σ H Q I h => by
  obtain ⟨σ3, G, Q3, hs, hh, ht, hq⟩ := h
  exact pts_nil.run pins s σ H Q I (hq.here hh rfl ht)⟩
theorem ts3one {c : Expr} (h : PT X c (lowT X.K tA)) : PTs X [c] (lowT X.K tA) := pts_one h
def lc3 (wi : TI3) (g : TG3) (tt : TT3) (te : TE3) (vs : List Nat) : TE3 := fun σ G Q => wi σ G fun it G1 => ∀ L, G1 L = none → ∃ Pv : Nat → G3 → Prop, Pv 0 (gup G1 L (.lst [])) ∧ (∀ i G', i ≤ it.items.length → Pv i G' → it.ok G') ∧
  (∀ i x G', it.items[i]? = some x → Pv i G' → g x (wipe3 σ vs) G' fun σ2 G2 => tt σ2 G2 fun b G3 => if b = true then te σ2 G3 fun y G4 => ∃ acc, G4 L = some (.lst acc) ∧ decide (acc.length ≤ 99999) = true ∧ Wk1 (Pv (i + 1)) (gup G4 L (.lst (acc ++ [y]))) else Wk1 (Pv (i + 1)) G3) ∧ ∀ G', Pv it.items.length G' → Q (.ref L) G'
theorem lc3_low {K : PySem.W.Frag} {wi : TI3} {g : TG} {g3 : TG3} {tt : TT3} {vs : List Nat} (hl : GLow K (some vs) g g3) : ∀ σ H Q, lowE K (lc3 wi g3 tt te vs) σ H Q → tLc (lowI K wi) g (lowT K tt) (lowE K te) vs σ H Q := fun σ H Q h => by
  obtain ⟨σ3, G, Q3, hs, hh, ht, hq⟩ := h
  refine ⟨σ3, G, _, hs, hh, ht, fun J H1 it G1 k1 hh1 il q1 => ?_⟩
  intro L hL
  obtain ⟨Pv, p0, pok, pst, pdn⟩ := q1 L (hh1.free hL)
  have kL : Keep H1 (upd H1 L (.lst [])) := Keep.new hL
  have hsw : RepS K H1 (wipe3 σ3 vs) (wipe σ vs) := (hs.keep k1).wipe vs
  refine ⟨fun i m H' => m = it.items.length - i ∧ i ≤ it.items.length ∧ ∃ G', Keep H1 H' ∧ RepH K G' H' ∧ Pv i G', ⟨_, rfl, Nat.zero_le _, _, kL, hh1.new hL (obj_new hL .nil), p0⟩, ?_⟩
  rintro i m H' ⟨rfl, hi, G', kk, hh', pv⟩
  have ok := pok i G' hi pv
  by_cases hlt : i < it.items.length
  · refine .inr ⟨il.goes i G' H' hlt kk hh' ok, fun H2 => ∃ G2, Keep H1 H2 ∧ RepH K G2 H2 ∧ Pv (i + 1) G2, fun H2 q => ⟨it.items.length - (i + 1), by omega, rfl, hlt, q⟩, fun x H2 y => ?_⟩
    obtain ⟨k2, hh2, w, hw, rw⟩ := il.yields i G' H' x H2 hlt kk hh' ok y
    have kH2 := kk.trans k2
    refine hl _ _ _ _ _ _ _ _ rw (hsw.keep kH2) hh2 (pst i w G' hw pv) fun σ4 H4 σ34 G4 k4 pr hs4 hh4 q4 => ⟨?_, ?_⟩
    · have pr : wipe σ4 vs = wipe (wipe σ vs) vs := pr
      have ww : ∀ (us : List Nat) (τ : L2.St), (∀ u ∈ us, u ∈ vs) → wipe (wipe τ us) vs = wipe τ vs := by
        intro us
        induction us with
        | nil => intro τ _; rfl
        | cons u us ih =>
          intro τ hu
          show wipe ((wipe τ us).set u none) vs = _
          rw [wipe_set (hu u List.mem_cons_self)]
          exact ih τ fun z hz => hu z (List.mem_cons_of_mem _ hz)
      rw [pr, ww vs σ fun _ h => h]
    · refine ⟨σ34, G4, _, hs4, hh4, q4, fun b H5 b' G5 k5 hh5 eb q5 => ?_⟩
      obtain rfl : b' = b := eb
      have kH5 := (kH2.trans k4).trans k5
      cases b' with
      | false =>
        obtain ⟨G0, z, q5⟩ := q5
        exact ⟨G0, kH5, hh5.less z, q5⟩
      | true =>
        refine ⟨σ34, G5, _, hs4.keep k5, hh5, q5, fun v H6 w6 G6 k6 hh6 r6 q6 => ?_⟩
        obtain ⟨acc, ha, hz, G0, z, pv'⟩ := q6
        obtain ⟨us, h6, ru⟩ := hh6 _ _ ha
        exact ⟨us, h6, by rw [← ru.length]; exact sl hz, G0, (kH5.trans k6).trans (Keep.mut h6 trivial), (hh6.mut h6 trivial (obj_mut h6 trivial (ru.append (.cons r6 .nil)))).less z, pv'⟩
  · have e : i = it.items.length := by omega
    subst e
    exact .inl ⟨il.stops G' H' kk hh' ok, hq _ _ _ _ (k1.trans kk) hh' (.ref _) (pdn _ pv)⟩
theorem e3lc {elt tg iter : Expr} {ifs : List Expr} {scope : Scope} {own : List (Str × Nat)} {wi : TI3} {g : TG} {g3 : TG3} {tt : TT3} (hc : X.calm = true) (hN : X.N.Nodup) (hi : PI X tg iter (lowI X.K wi)) (ok : BlkOk X.N X.env.scope scope own) (hl : GLow X.K (some (own.map (·.2))) g g3)
    (hg : ∀ (s : Shared) (H : Hp) (C : Addr) (cl : List (Str × Addr)) (fp : List Addr), PG (X.blk s H scope (compEnvC scope cl C X.env) fp) tg g) (ht : ∀ (s : Shared) (H : Hp) (C : Addr) (cl : List (Str × Addr)) (fp : List Addr), PTs (X.blk s H scope (compEnvC scope cl C X.env) fp) ifs (lowT X.K tt))
    (he : ∀ (s : Shared) (H : Hp) (C : Addr) (cl : List (Str × Addr)) (fp : List Addr), PE (X.blk s H scope (compEnvC scope cl C X.env) fp) elt (lowE X.K te)) (hs : ∀ x, foldedSetIterable iter X.env x = pure x := by intro _; rfl) :
    PE X (.ListComp elt [⟨tg, iter, ifs, 0⟩] scope pos) (lowE X.K (lc3 wi g3 tt te (own.map (·.2)))) := (pe_lc hc hN hi ok hg ht he hs).imp (lc3_low hl)
theorem s_setLc {i : Nat} {y : Str} {py : Pos} {elt tg iter : Expr} {ifs : List Expr} {scope : Scope} {own : List (Str × Nat)} {spos : Pos} {wi : TI3} {g : TG} {g3 : TG3} {tt : TT3} (hc : X.calm = true) (hN : X.N.Nodup) (hyl : X.env.scope.names.lookup y = some .local)
    (hsw : swapsWith (.ListComp elt [⟨tg, iter, ifs, 0⟩] scope pos) (some (.Name y py)) spos.line X.env = pure true) (hi : PI X tg iter (lowI X.K wi)) (ok : BlkOk X.N X.env.scope scope own) (hl : GLow X.K (some (own.map (·.2))) g g3)
    (hg : ∀ (s : Shared) (H : Hp) (C : Addr) (cl : List (Str × Addr)) (fp : List Addr), PG (X.blk s H scope (compEnvC scope cl C X.env) fp) tg g) (ht : ∀ (s : Shared) (H : Hp) (C : Addr) (cl : List (Str × Addr)) (fp : List Addr), PTs (X.blk s H scope (compEnvC scope cl C X.env) fp) ifs (lowT X.K tt))
    (he : ∀ (s : Shared) (H : Hp) (C : Addr) (cl : List (Str × Addr)) (fp : List Addr), PE (X.blk s H scope (compEnvC scope cl C X.env) fp) elt (lowE X.K te)) (hy : X.N[i]? = some y := by rfl) (hs : ∀ x, foldedSetIterable iter X.env x = pure x := by intro _; rfl) :
    PS X (.Assign [.Name y py] (.ListComp elt [⟨tg, iter, ifs, 0⟩] scope pos) spos) (lowS X.K W (asg3 (lc3 wi g3 tt te (own.map (·.2))) (n3 i))) := (ps_setLc hc hN hy hyl hsw hi ok hg ht he hs).imp fun D σ H h => by
  obtain ⟨σ3, G, D3, hs, hh, ht, hle⟩ := h
  exact lc3_low hl σ H _ ⟨σ3, G, _, hs, hh, ht, fun v H1 w G1 k1 hh1 r q1 => hle.nx _ _ _ _ k1 ((hs.keep k1).set i r) hh1 q1⟩

/-! ### own defs -/
abbrev X3 := Value → Option Addr → G3 → Prop
abbrev Sp3 := List U → G3 → K3 → X3 → Prop
def no3 : X3 := fun _ _ _ => False
def lowSp (K : PySem.W.Frag) (sp : Sp3) : Sp := fun vs H Q E => ∃ ws G Q3 E3, RepL K H ws vs ∧ RepH K G H ∧ sp ws G Q3 E3 ∧ Post K (Rep K) H Q3 Q ∧ ∀ c d H' G', Keep H H' → RepH K G' H' → E3 c d G' → E c d H'
def call3 (sp : Sp3) (t : TA3) : TE3 := fun σ G Q => t σ G fun ws G1 => sp ws G1 Q no3
theorem e3call {CX : CXT} {k : Nat} {f : Addr} {fd : FuncData} {ps : List Str} {sp : Sp3} {x : Str} {p : Pos} {es : List Expr} {t : TA3} (F : FnOk X.prog X.w X.K X.mg X.base CX k f fd ps (lowSp X.K sp)) (hr : Room k X.A) (hm : X.mg x = some (.ref f)) (hk : PySem.W.keepIn X.K (.ref f) = true) (hb : Binds X.K fd ps []) (hx : Passes CX X E0)
    (ha : PA X (e :: es) (lowA X.K t)) (hg : Gl X x := by rfl) (hdb : (x == ("__debug__" : Str)) = false := by decide) (he : starEach (e :: es) X.env = (false, eval e X.env) :: starEach es X.env := by rfl) (hpl : (backTo pos (starEach es X.env)).any (·.1) = false := by rfl) :
    PE X (.Call (.Name x p) (e :: es) [] pos) (lowE X.K (call3 sp t)) := (pe_call F hr hg hm hk hb .nil hx ha hdb he hpl).imp fun σ H Q h => by
  obtain ⟨σ3, G, Q3, hs, hh, ht, hq⟩ := h
  refine ⟨σ3, G, _, hs, hh, ht, fun vs H1 ws G1 k1 hh1 r q1 => ?_⟩
  refine ⟨ws, G1, Q3, no3, by rw [List.append_nil]; exact r, hh1, q1, hq.from k1, fun c d H' G' _ _ z => z.elim⟩
def start3 (N : List Str) (ws : List U) : S3 := ws.map some ++ List.replicate (N.length - ws.length) none
theorem rep_start {K : PySem.W.Frag} {H : Hp} {N : List Str} {ws : List U} {vs : List V} (r : RepL K H ws vs) : RepS K H (start3 N ws) (L2.start N vs) := by
  unfold start3 L2.start
  refine ⟨by simp [r.length], fun i w e => ?_⟩
  by_cases h : i < ws.length
  · rw [List.getElem?_append_left (by rw [List.length_map]; exact h), List.getElem?_map] at e
    have h2 : i < vs.length := by rw [← r.length]; exact h
    cases q : ws[i]? with
    | none => rw [q] at e; cases e
    | some u =>
      rw [q] at e
      cases e
      obtain ⟨v, hv, rv⟩ := r.get q
      exact ⟨v, by rw [List.getElem?_append_left (by rw [List.length_map]; exact h2), List.getElem?_map, hv]; rfl, rv⟩
  · rw [List.getElem?_append_right (by rw [List.length_map]; omega), List.getElem?_replicate] at e
    split at e <;> cases e
end
section
variable {P : Program} {w : World} {K : PySem.W.Frag} {mg : Str → Option Value} {base : Heap}
theorem Fun_ok3 {x qual : Str} {st : Stmt} {f : Addr} {fd : FuncData} {N ps : List Str} {k : Nat} {sp : Sp3} (F : Fun K x qual st f fd) (S : FnScope N ps (defScope st)) (len : ∀ ws G Q E, sp ws G Q E → ws.length = ps.length)
    (hbody : ∀ (cdv : Value) (A : Around) (outer : List Env) (s : Shared) (H : Hp) (E : XK) (ws : List U) (G : G3) (Q : K3) (E3 : X3), Room k (A.deeper (PyProof.Rows.envOfC qual (defScope st) s.heap.objs.size f cdv)) → sp ws G Q E3 →
      ∃ t, PSs (cxOf CX0 P w K mg base N qual (defScope st) f cdv A outer s H E).nox (defBody st) (lowS K W0 t) ∧ t { nx := fun _ G' => Wk Q .non G', rt := Wk Q } (start3 N ws) G) : FnOk P w K mg base CX0 (k + 1) f fd ps (lowSp K sp) := by
  refine F.ok S (fun vs H Q E h => ?_) (fun cdv A outer s H vs Q E hr h => ?_)
  · obtain ⟨ws, G, Q3, E3, r, _, h, _⟩ := h
    rw [← r.length]
    exact len _ _ _ _ h
  · obtain ⟨ws, G, Q3, E3, r, hh, h, hq, _⟩ := h
    obtain ⟨t, ht, q⟩ := hbody cdv A outer s H E ws G Q3 E3 hr h
    refine ⟨_, ht, start3 N ws, G, _, rep_start r, hh, q, ⟨fun σ' H' σ3' G' k1 hs' hh' q' => ?_, fun v H' w G' k hh' rv ⟨G0, z, q'⟩ => hq _ _ _ _ k (hh'.less z) rv q', fun _ _ _ _ _ _ _ z => z.elim, fun _ _ _ _ _ _ _ z => z.elim, fun _ _ _ _ _ _ _ _ _ z => z.elim⟩⟩
    obtain ⟨G0, z, q'⟩ := q'
    exact hq _ _ _ _ k1 (hh'.less z) .non q'
end
/-! ### the forms one uses -/
section
/-- a statement, then the rest, with a word between them -/
def cutS (t u : TS3) : TS3 := fun D σ G => ∃ Mid : S3 → G3 → Prop, t { D with nx := Wk2 Mid } σ G ∧ ∀ σ' G', Mid σ' G' → u D σ' G'
theorem ss_cut {X : Cx} {W : WX} {st : Stmt} {rest : List Stmt} {t u : TS3} (h1 : PS X st (lowS X.K W t)) (h2 : PSs X rest (lowS X.K W u)) : PSs X (st :: rest) (lowS X.K W (cutS t u)) := (pss_cons h1 h2).imp fun D σ H h => by
  obtain ⟨σ3, G, D3, hs, hh, ⟨Mid, ht, hu⟩, hl⟩ := h
  exact ⟨σ3, G, _, hs, hh, ht, ⟨fun σ' H' σ3' G' k hs' hh' ⟨σ0, G0, z1, z2, q⟩ => ⟨σ0, G0, D3, hs'.sub z1, hh'.less z2, hu _ _ q, hl.from k⟩, hl.rt, hl.bk, hl.ct, hl.ex⟩⟩
/-- a comprehension whose element and test change nothing: f which items, v what they give -/
theorem lcL {xs : List U} {ok : G3 → Prop} {σ : S3} {G1 : G3} {Q : K3} {g : TG3} {tt : TT3} {te : TE3} {vs : List Nat} (f : U → Bool) (v : U → U) (hok : ∀ G', Sub G1 G' → ok G') (hz : xs.length ≤ 99999)
    (hs : ∀ (i : Nat) (x : U) (L : Addr) (acc : List U), xs[i]? = some x → G1 L = none → ∀ (Y : U → G3 → Prop) (N : G3 → Prop), (f x = true → ∀ G4, Sub (gup G1 L (.lst acc)) G4 → Y (v x) G4) → (f x = false → ∀ G4, Sub (gup G1 L (.lst acc)) G4 → N G4) →
      g x (wipe3 σ vs) (gup G1 L (.lst acc)) fun σ2 G2 => tt σ2 G2 fun b G3 => if b = true then te σ2 G3 Y else N G3)
    (hq : ∀ L, G1 L = none → Q (.ref L) (gup G1 L (.lst ((xs.filter f).map v)))) :
    ∀ L, G1 L = none → ∃ Pv : Nat → G3 → Prop, Pv 0 (gup G1 L (.lst [])) ∧ (∀ i G', i ≤ (It3.mk xs ok).items.length → Pv i G' → (It3.mk xs ok).ok G') ∧
  (∀ i x G', (It3.mk xs ok).items[i]? = some x → Pv i G' → g x (wipe3 σ vs) G' fun σ2 G2 => tt σ2 G2 fun b G3 => if b = true then te σ2 G3 fun y G4 => ∃ acc, G4 L = some (.lst acc) ∧ decide (acc.length ≤ 99999) = true ∧ Wk1 (Pv (i + 1)) (gup G4 L (.lst (acc ++ [y]))) else Wk1 (Pv (i + 1)) G3) ∧ ∀ G', Pv (It3.mk xs ok).items.length G' → Q (.ref L) G' := by
  intro L hL
  refine ⟨fun i G' => G' = gup G1 L (.lst (((xs.take i).filter f).map v)), rfl, fun i G' _ e => ?_, fun i x G' hx e => ?_, fun G' e => ?_⟩
  · subst e
    exact hok _ ((Sub.refl G1).new hL)
  · subst e
    have hx : xs[i]? = some x := hx
    have hi : i < xs.length := (List.getElem?_eq_some_iff.mp hx).1
    have et : xs.take (i + 1) = xs.take i ++ [x] := by rw [List.take_succ, hx]; rfl
    have hln : (((xs.take i).filter f).map v).length ≤ 99999 := by
      rw [List.length_map]
      have := List.length_filter_le f (xs.take i)
      have := List.length_take_le i xs
      omega
    refine hs i x L _ hx hL _ _ (fun h G4 z => ⟨_, z L _ gup_same, decide_eq_true hln, _, ?_, rfl⟩) fun h G4 z => ⟨_, z, ?_⟩
    · rw [et, List.filter_append, List.map_append, List.filter_cons, if_pos h]
      have := Sub.up z (p := L) (o := .lst (((xs.take i).filter f).map v ++ [v x]))
      rw [gup_gup] at this
      exact this
    · show _ = gup G1 L (.lst (((xs.take (i + 1)).filter f).map v))
      rw [et, List.filter_append, List.map_append, List.filter_cons, if_neg (by rw [h]; decide)]
      simp
  · subst e
    have e2 : xs.take (It3.mk xs ok).items.length = xs := List.take_length
    rw [e2]
    exact hq L hL
end
end L3
end
section
set_option Elab.async false
set_option linter.all false
set_option maxRecDepth 100000
set_option maxHeartbeats 2000000
/-! Dict comprehensions whose keys are tuples, with one for and with two (the proofs follow HandS.DictComp and HandS.Comp); setdefault of such dicts. -/
namespace L2
open PySem PySem.Spec PyProof.Rows
theorem compTurnD2_out (kx elt t0 i0 t1 i1 : Expr) (ifs0 ifs1 : List Expr) (scope : Scope) (pos : Pos) (it : Value) (acc : Addr) (env : Env) :
    compTurn (.DictComp kx elt [⟨t0, i0, ifs0, 0⟩, ⟨t1, i1, ifs1, 0⟩] scope pos) 0 it (.ref acc) env = (do
      standAt i0.pos
      match ← pyNext it with
      | none => pure (.done .next)
      | some v =>
        letOwnedTupleGo t0 it v
        assign t0 env v
        let mut ok := true
        for c in ifs0 do
          if ok then ok ← isTrue c env (eval c env)
        if ok then
          let x ← eval i1 env
          standAt i1.pos
          let x ← foldedSetIterable i1 env x
          let _ ← runOwn (.compStart (.DictComp kx elt [⟨t0, i0, ifs0, 0⟩, ⟨t1, i1, ifs1, 0⟩] scope pos) 1 (← holding [x] (pyIter x)) (.ref acc) env) env
        again (.compLoop (.DictComp kx elt [⟨t0, i0, ifs0, 0⟩, ⟨t1, i1, ifs1, 0⟩] scope pos) 0 it (.ref acc) env)) := by rfl
theorem compTurnD2_in (kx elt t0 i0 t1 i1 : Expr) (ifs0 ifs1 : List Expr) (scope : Scope) (pos : Pos) (it : Value) (acc : Addr) (env : Env) :
    compTurn (.DictComp kx elt [⟨t0, i0, ifs0, 0⟩, ⟨t1, i1, ifs1, 0⟩] scope pos) 1 it (.ref acc) env = (do
      standAt i1.pos
      match ← pyNext it with
      | none => pure (.done .next)
      | some v =>
        letOwnedTupleGo t1 it v
        assign t1 env v
        let mut ok := true
        for c in ifs1 do
          if ok then ok ← isTrue c env (eval c env)
        if ok then
          (do
            let kv ← eval kx env
            let vv ← holding [kv] (eval elt env)
            standAt { kx.pos with endLine := elt.pos.endLine, endCol := elt.pos.endCol }
            holding [kv, vv] (dictSet acc kv vv))
        again (.compLoop (.DictComp kx elt [⟨t0, i0, ifs0, 0⟩, ⟨t1, i1, ifs1, 0⟩] scope pos) 1 it (.ref acc) env)) := by rfl

section
variable {prog : Program} {w : World} {A : Around} {R : Result → Shared → Prop} {s : Shared} {kx elt t0 i0 t1 i1 : Expr} {ifs0 ifs1 : List Expr} {scope : Scope} {pos : Pos} {it : Value} {acc : Addr} {env : Env}
/-- the loop of the first clause -/
theorem compLoopD2_out (hs : ∀ x, foldedSetIterable i1 env x = pure x) (I : Nat → Shared → Prop)
    (turn : ∀ n s, I n s → wpAny (model prog w) A (pyNext it) (fun r s₁ => match r with
      | none => R (.ok .next) s₁
      | some v => wpAny (model prog w) A (letOwnedTupleGo t0 it v) (fun _ s₁' => wpAny (model prog w) A (assign t0 env v) (fun _ s₂ =>
          wpAny (model prog w) A (forIn ifs0 true fun c r => if r = true then do let ok ← isTrue c env (eval c env); pure (ForInStep.yield ok) else pure (ForInStep.yield r)) (fun ok s₃ =>
            if ok = true then wpAny (model prog w) A (eval i1 env) (fun x s₄ => wpAny (model prog w) A (pyIter x) (fun it1 s₅ =>
              codeAny (model prog w) A (.compStart (.DictComp kx elt [⟨t0, i0, ifs0, 0⟩, ⟨t1, i1, ifs1, 0⟩] scope pos) 1 it1 (.ref acc) env) (fun r s' => match r with
                | .ok _ => ∃ m, m < n ∧ I m s'
                | .error _ => False) s₅) (notedBy (model prog w) A env fun e s' => R (.error e) s') s₄) (notedBy (model prog w) A env fun e s' => R (.error e) s') s₃
            else ∃ m, m < n ∧ I m s₃) (notedBy (model prog w) A env fun e s' => R (.error e) s') s₂) (notedBy (model prog w) A env fun e s' => R (.error e) s') s₁') (notedBy (model prog w) A env fun e s' => R (.error e) s') s₁) (notedBy (model prog w) A env fun e s' => R (.error e) s') s)
    (n : Nat) (h : I n s) :
    codeAny (model prog w) A (.compLoop (.DictComp kx elt [⟨t0, i0, ifs0, 0⟩, ⟨t1, i1, ifs1, 0⟩] scope pos) 0 it (.ref acc) env) R s := by
  refine codeAny_loop rfl I (fun n s hI => ?_) n h
  show wpAny _ A ((compTurn (.DictComp kx elt [⟨t0, i0, ifs0, 0⟩, ⟨t1, i1, ifs1, 0⟩] scope pos) 0 it (.ref acc) env).onRaise (fun x => do noteFrame x env; theTreesLotGoes x)) _ _ s
  refine wpAny_noted ?_
  rw [compTurnD2_out]
  refine wpAny_bind (wpAny_standAt (wpAny_bind (wpAny_mono (turn n s hI) (fun r s₁ h₁ => ?_) fun _ _ h' => h')))
  cases r with
  | none => exact wpAny_pure h₁
  | some v =>
    refine wpAny_bind (wpAny_mono h₁ (fun _ s₁' h₁' => ?_) fun _ _ h' => h')
    refine wpAny_bind (wpAny_mono h₁' (fun _ s₂ h₂ => wpAny_bind (wpAny_mono h₂ (fun ok s₃ h₃ => ?_) fun _ _ h' => h')) fun _ _ h' => h')
    cases ok with
    | false => exact wpAny_pure ⟨rfl, h₃⟩
    | true =>
      refine wpAny_bind (wpAny_mono h₃ (fun x s₄ h₄ => ?_) fun _ _ h' => h')
      refine wpAny_bind (wpAny_standAt (wpAny_bind (wpAny_of_eq (hs x) (wpAny_bind (wpAny_holding (wpAny_mono h₄ (fun it1 s₅ h₅ => ?_) fun _ _ h' => h'))))))
      refine wpAny_bind (wpAny_runOwn ?_)
      rw [Around.mark_none]
      refine codeAny_mono h₅ fun r s' hr => ?_
      cases r with
      | ok f =>
        first
          | exact wpAny_pure ⟨rfl, hr⟩
          | exact wpAny_bind (wpAny_pure (wpAny_pure ⟨rfl, hr⟩))
      | error e => exact hr.elim
/-- the loop of the second -/
theorem compLoopD2_in (I : Nat → Shared → Prop)
    (turn : ∀ n s, I n s → wpAny (model prog w) A (pyNext it) (fun r s₁ => match r with
      | none => R (.ok .next) s₁
      | some v => wpAny (model prog w) A (letOwnedTupleGo t1 it v) (fun _ s₁' => wpAny (model prog w) A (assign t1 env v) (fun _ s₂ =>
          wpAny (model prog w) A (forIn ifs1 true fun c r => if r = true then do let ok ← isTrue c env (eval c env); pure (ForInStep.yield ok) else pure (ForInStep.yield r)) (fun ok s₃ =>
            if ok = true then wpAny (model prog w) A (eval kx env) (fun kv s₄ => wpAny (model prog w) A (eval elt env) (fun vv s₅ =>
              wpAny (model prog w) A (dictSet acc kv vv) (fun _ s₆ => ∃ m, m < n ∧ I m s₆) (notedBy (model prog w) A env fun e s' => R (.error e) s') s₅) (notedBy (model prog w) A env fun e s' => R (.error e) s') s₄) (notedBy (model prog w) A env fun e s' => R (.error e) s') s₃
            else ∃ m, m < n ∧ I m s₃) (notedBy (model prog w) A env fun e s' => R (.error e) s') s₂) (notedBy (model prog w) A env fun e s' => R (.error e) s') s₁') (notedBy (model prog w) A env fun e s' => R (.error e) s') s₁) (notedBy (model prog w) A env fun e s' => R (.error e) s') s)
    (n : Nat) (h : I n s) :
    codeAny (model prog w) A (.compLoop (.DictComp kx elt [⟨t0, i0, ifs0, 0⟩, ⟨t1, i1, ifs1, 0⟩] scope pos) 1 it (.ref acc) env) R s := by
  refine codeAny_loop rfl I (fun n s hI => ?_) n h
  show wpAny _ A ((compTurn (.DictComp kx elt [⟨t0, i0, ifs0, 0⟩, ⟨t1, i1, ifs1, 0⟩] scope pos) 1 it (.ref acc) env).onRaise (fun x => do noteFrame x env; theTreesLotGoes x)) _ _ s
  refine wpAny_noted ?_
  rw [compTurnD2_in]
  refine wpAny_bind (wpAny_standAt (wpAny_bind (wpAny_mono (turn n s hI) (fun r s₁ h₁ => ?_) fun _ _ h' => h')))
  cases r with
  | none => exact wpAny_pure h₁
  | some v =>
    refine wpAny_bind (wpAny_mono h₁ (fun _ s₁' h₁' => ?_) fun _ _ h' => h')
    refine wpAny_bind (wpAny_mono h₁' (fun _ s₂ h₂ => wpAny_bind (wpAny_mono h₂ (fun ok s₃ h₃ => ?_) fun _ _ h' => h')) fun _ _ h' => h')
    cases ok with
    | false => exact wpAny_pure ⟨rfl, h₃⟩
    | true =>
      exact wpAny_bind (wpAny_bind (wpAny_mono h₃ (fun kv s₄ h₄ => wpAny_bind (wpAny_holding (wpAny_mono h₄ (fun vv s₅ h₅ => wpAny_bind (wpAny_standAt (wpAny_holding (wpAny_mono h₅ (fun _ s₆ h₆ => wpAny_pure ⟨rfl, h₆⟩) fun _ _ h' => h')))) fun _ _ h' => h'))) fun _ _ h' => h'))
/-- the second clause's start -/
theorem compStartD1_ok (h0 : codeAny (model prog w) A (.compLoop (.DictComp kx elt [⟨t0, i0, ifs0, 0⟩, ⟨t1, i1, ifs1, 0⟩] scope pos) 1 it (.ref acc) env) R s)
    (h : wpAny (model prog w) A (pyIter it) (fun it' s' => codeAny (model prog w) A (.compLoop (.DictComp kx elt [⟨t0, i0, ifs0, 0⟩, ⟨t1, i1, ifs1, 0⟩] scope pos) 1 it' (.ref acc) env) R s')
      (notedBy (model prog w) A env fun x s' => R (.error x) s') s) :
    codeAny (model prog w) A (.compStart (.DictComp kx elt [⟨t0, i0, ifs0, 0⟩, ⟨t1, i1, ifs1, 0⟩] scope pos) 1 it (.ref acc) env) R s := by
  refine codeAny_of_tree ?_
  show wpAny _ _ ((compStart (.DictComp kx elt [⟨t0, i0, ifs0, 0⟩, ⟨t1, i1, ifs1, 0⟩] scope pos) 1 it (.ref acc) env).onRaise (fun x => do noteFrame x env; standAt theWindowsPlace)) _ _ s
  refine wpAny_notedAt ?_
  unfold compStart
  show wpAny _ _ (ask >>= _) _ _ s
  refine wpAny_bind (wpAny_askSetting (wpAny_ite ?_))
  split
  · first
      | exact wpAny_bind (wpAny_pure (wpAny_pure (And.intro rfl h0)))
      | exact wpAny_pure (And.intro rfl h0)
  · first
      | exact wpAny_bind (wpAny_rule (wpAny_bind (wpAny_standAt (wpAny_bind (wpAny_mono h (fun it' s' h' => wpAny_pure (And.intro rfl h')) fun _ _ x => x)))))
      | (refine wpAny_bind (wpAny_rule ?_); show wpAny _ _ (standAt i1.pos >>= _) _ _ s; exact wpAny_bind (wpAny_standAt (wpAny_bind (wpAny_mono h (fun it' s' h' => wpAny_pure (And.intro rfl h')) fun _ _ x => x))))
end


/-- d[k] = v by a comprehension, k a tuple -/
theorem d_dictSetT {X : Cx} {pins : List (Addr × Obj)} {σ : L2.St} {H : Hp} {s : Shared} {E : Value → Shared → Prop} {D b : Addr} {kvs : List (List Key × V)} {k : List Key} {v : V} {u r : Value} {Q : Unit → Shared → Prop} (hu : X.A.units + 1 < cLine) (I : Inv X pins σ H s) (hD : H D = some (.dT kvs)) (eb : H b = some (.tup (k.map kV))) (hz : kvs.length < sizeLine)
    (ry : RelV (.ref b) u) (rv : RelV v r) (h : ∀ s', Inv X pins σ (upd H D (.dT (putK kvs k v))) s' → Q () s') : wpAny (model X.prog X.w) X.A (dictSet D u r) Q E s := by
  cases (show u = Value.ref b from ry)
  obtain ⟨z, hd, xs, rel, dd⟩ := dt_of I.hok hD
  have hzx : xs.length ≤ sizeLine := by rw [← Paired.length rel]; exact z
  have hl : (putK kvs k v).length ≤ sizeLine := by have := length_putK kvs k v; omega
  refine wpAny_dictSet_heap (hsz := hzx) (show (tupleKind (mixKind X.prog X.w)).room X.A from (by show X.A.units < cLine; omega)) (key_of I.hok eb) dd fun h' dd' hs => h _ ?_
  obtain ⟨q, es, ep, hq, h2, h3, h4, _, h5⟩ := dd'
  refine d_write I (by rw [hD]; exact True.intro) hs ⟨q, hq⟩ ⟨hl, hd, _, (rel.put k eb rv).keeps fun c ys ec => ?_, q, es, ep, hq, h2, h3, h4, h5⟩
  rw [upd_ne (ne_of ec hD (fun z => nomatch z))]
  exact ec
section
variable {X : Cx}
/-- {k: v for target in iter if ..}, keys tuples -/
def tDcT (wi : TI) (g : TG) (tt : TT) (tk tv : TE) (vs : List Nat) : TE := fun σ H Q => wi σ H fun J H1 => ∀ D, H1 D = none → ∃ W : Nat → Nat → Hp → Prop, (∃ m, W 0 m (upd H1 D (.dT []))) ∧ ∀ i m H, W i m H →
  (J.stop i H ∧ Q (.ref D) H) ∨ (J.go i H ∧ ∃ Nx : Hp → Prop, (∀ H', Nx H' → ∃ m', m' < m ∧ W (i + 1) m' H') ∧ ∀ x H', J.yld i H x H' → g x (wipe σ vs) H' fun σ2 H2 => wipe σ2 vs = wipe σ vs ∧ tt σ2 H2 fun b H3 =>
    if b = true then tk σ2 H3 fun y H4 => tv σ2 H4 fun z H5 => ∃ kvs k q, y = .ref q ∧ H5 q = some (.tup (k.map kV)) ∧ H5 D = some (.dT kvs) ∧ kvs.length < sizeLine ∧ Nx (upd H5 D (.dT (putK kvs k z))) else Nx H3)
theorem dcT_core {pins : List (Addr × Obj)} {s : Shared} {σ : St} {H : Hp} {Q : VK} {kx vx tg iter : Expr} {ifs : List Expr} {scope : Scope} {own : List (Str × Nat)} {pos pos' : Pos} {wi : TI} {g : TG} {tt : TT} {tk tv : TE} {use : Option (Value → Sem Unit)} {Qf : Value → Shared → Prop}
    (hu : X.A.units + 1 < cLine) (hc : X.calm = true) (hN : X.N.Nodup) (I : Inv X pins σ H s) (hi : PI X tg iter wi) (ok : BlkOk X.N X.env.scope scope own)
    (hg : ∀ (s : Shared) (H : Hp) (C : Addr) (cl : List (Str × Addr)) (fp : List Addr), PG (X.blk s H scope (compEnvC scope cl C X.env) fp) tg g) (ht : ∀ (s : Shared) (H : Hp) (C : Addr) (cl : List (Str × Addr)) (fp : List Addr), PTs (X.blk s H scope (compEnvC scope cl C X.env) fp) ifs tt)
    (hk : ∀ (s : Shared) (H : Hp) (C : Addr) (cl : List (Str × Addr)) (fp : List Addr), PE (X.blk s H scope (compEnvC scope cl C X.env) fp) kx tk)
    (he : ∀ (s : Shared) (H : Hp) (C : Addr) (cl : List (Str × Addr)) (fp : List Addr), PE (X.blk s H scope (compEnvC scope cl C X.env) fp) vx tv) (hs : ∀ x, foldedSetIterable iter X.env x = pure x)
    (h : tDcT wi g tt tk tv (own.map (·.2)) σ H Q)
    (hRR : ∀ D C s' m H', Inv X pins σ H' s' → Q (.ref D) H' → s'.heap.Ns C m → FpOk X pins H' C → compPost (model X.prog X.w) X.A X.xe use Qf (.ref D) C (.ok .next) s') :
    wpAny (model X.prog X.w) X.A (comprehension (.DictComp kx vx [⟨tg, iter, ifs, 0⟩] scope pos) scope X.env pos' newDict false (eval iter X.env) use) Qf X.xe s := by
  have hfree : ∀ y ∈ scope.names, y.2 = .free → ∃ c, X.env.cells.lookup y.1 = some c := fun y hy e => by
    rcases ok.free y hy e with k | k
    · exact I.ok.has _ (.inl k)
    · exact I.ok.has _ (.inr k)
  refine wpAny_comprehension_free (use := use) rfl hs (closure_ok hfree) ok.kind (fun y hy e => by rw [ok.uniq y hy, e])
    (thn (hi.run pins s σ H _ I h) fun xv s1 hx => thn hx fun itv s2 h2 => ?_)
  obtain ⟨it, fp, tn, J, H2, e, I2, T, st2, f2, q⟩ := h2
  subst e
  refine wpAny_newObj_type (newEnv_comp ?_)
  generalize hD : s2.heap.objs.size = D
  have hDn : H2 D = none := I2.hok.fresh (Nat.le_of_eq hD)
  obtain ⟨W, ⟨m0, w0⟩, turn⟩ := q D hDn
  -- the new list
  generalize hs3 : ({ s2 with heap := s2.heap.push { cls := .type "dict", data := .dict #[] } } : Shared) = s3
  have I3 : Inv X pins σ (upd H2 D (.dT [])) s3 := by
    rw [← hs3]
    refine I2.laid (t' := s2.toks) (fun b o e => Heap.get?_push_of_some _ e) (Nat.le_of_eq hD) ?_
    rw [← hD]
    exact dt_empty s2.heap I2.big
  have h3 : s3.heap = s2.heap.push { cls := .type "dict", data := .dict #[] } := by rw [← hs3]
  have sz : ∀ b ∈ fp, b < s2.heap.objs.size := fun b hb => by
    obtain ⟨o, e, _⟩ := T.obj _ _ st2 b hb
    exact Heap.lt_size e
  have f3 : ∀ b ∈ fp, FpOk X pins (upd H2 D (.dT [])) b ∧ b < s3.heap.objs.size := fun b hb => by
    have hlt := sz b hb
    refine ⟨⟨?_, (f2 b hb).2⟩, by rw [h3, Heap.size_push]; exact Nat.lt_succ_of_lt hlt⟩
    rw [upd_ne (by rw [← hD]; exact Nat.ne_of_lt hlt)]
    exact (f2 b hb).1
  have st3 : tn 0 s3.heap := T.keep _ _ _ st2 fun b _ o e => by rw [h3]; exact Heap.get?_push_of_some _ e
  have I4 := block_start I3 ok hN f3
  have pg := hg s3 (upd H2 D (.dT [])) s3.heap.objs.size (cellsFrom (s3.heap.objs.size + 1) scope.names (cloFrom X.env.cells scope.names [])) fp
  have pt := ht s3 (upd H2 D (.dT [])) s3.heap.objs.size (cellsFrom (s3.heap.objs.size + 1) scope.names (cloFrom X.env.cells scope.names [])) fp
  have pk := hk s3 (upd H2 D (.dT [])) s3.heap.objs.size (cellsFrom (s3.heap.objs.size + 1) scope.names (cloFrom X.env.cells scope.names [])) fp
  have pe := he s3 (upd H2 D (.dT [])) s3.heap.objs.size (cellsFrom (s3.heap.objs.size + 1) scope.names (cloFrom X.env.cells scope.names [])) fp
  show codeAny _ _ (.compStart (.DictComp kx vx [⟨tg, iter, ifs, 0⟩] scope pos) 0 (.ref it) (.ref D) (compEnvC scope (cellsFrom (s3.heap.objs.size + 1) scope.names (cloFrom X.env.cells scope.names [])) s3.heap.objs.size X.env)) (compPost (model X.prog X.w) X.A X.xe use Qf (.ref D) s3.heap.objs.size) { s3 with heap := pushCells (s3.heap.push { cls := .type "dict", data := .dict #[] }) scope.names }
  have nfp : ∀ b ∈ fp, (upd H2 D (.dT [])) b = none := fun b hb => (f3 b hb).1.1
  generalize hce : compEnvC scope (cellsFrom (s3.heap.objs.size + 1) scope.names (cloFrom X.env.cells scope.names [])) s3.heap.objs.size X.env = ce at I4 pg pt pk pe ⊢
  have cL : ce.locals = s3.heap.objs.size := by subst hce; rfl
  generalize hH3 : upd H2 D (.dT []) = H3 at I3 I4 pg pt pk pe w0 nfp f3
  generalize hs4 : ({ s3 with heap := pushCells (s3.heap.push { cls := .type "dict", data := .dict #[] }) scope.names } : Shared) = s4 at I4 ⊢
  have st4 : tn 0 s4.heap := T.keep _ _ _ st3 fun b _ o e => by rw [← hs4]; exact pushCells_keeps _ _ _ _ (Heap.get?_push_of_some _ e)
  have stat : ∀ {σ' : St} {H' : Hp} {s' : Shared}, Inv (X.blk s3 H3 scope ce fp) [] σ' H' s' → (∀ b ∈ fp, H' b = none) → ∀ b ∈ fp, FpOk (X.blk s3 H3 scope ce fp) [] H' b := fun {σ' H' s'} I' hn b hb =>
    ⟨hn b hb, (I'.ok.exf b hb).1, I'.ok.exfs b hb, .inl hb, fun x c e => (I'.ok.exf b hb).2 x c e, fun p hp => absurd (show p ∈ ([] : List (Addr × Obj)) ++ [] from hp) (by simp)⟩
  have loop : codeAny (model X.prog X.w) X.A (.compLoop (.DictComp kx vx [⟨tg, iter, ifs, 0⟩] scope pos) 0 (.ref it) (.ref D) ce) (compPost (model X.prog X.w) X.A X.xe use Qf (.ref D) s3.heap.objs.size) s4 := by
    refine compLoop_anyD (fun n s' => ∃ i H', Inv (X.blk s3 H3 scope ce fp) [] (wipe σ (own.map (·.2))) H' s' ∧ tn i s'.heap ∧ (∀ b ∈ fp, H' b = none) ∧ W i n H') ?_ m0 ⟨0, H3, I4, st4, nfp, w0⟩
    rintro n s5 ⟨i, H5, I5, st5, n5, w5⟩
    rcases turn i n H5 w5 with ⟨stop, qq⟩ | ⟨go, Nx, hNx, step⟩
    · have td := T.done (X.blk s3 H3 scope ce fp) rfl rfl rfl hc i [] s5 _ H5 (fun _ _ => False) I5 (stat I5 n5) st5 stop
      refine thnF td fun r s6 ⟨hr, I6⟩ => ?_
      subst hr
      -- back in the def's context
      have I7 : Inv X pins σ H5 s6 := I3.call' (ch := fp) I6.os I6.base I6.hok I6.bare fun b hb => ⟨(f3 b hb).1.2.2.2.1, (f3 b hb).1.2.1, (f3 b hb).1.2.2.2.2.1, (f3 b hb).1.2.2.2.2.2⟩
      have nC : H5 s3.heap.objs.size = none := by
        have z : H5 ce.locals = none := I6.free
        rw [cL] at z
        exact z
      obtain ⟨m, hn, _⟩ := I6.loc
      have hn : s6.heap.Ns ce.locals m := hn
      rw [cL] at hn
      exact hRR D s3.heap.objs.size s6 m H5 I7 qq hn (I3.fpOk (Nat.le_refl _) nC)
    · have ti := T.item (X.blk s3 H3 scope ce fp) rfl rfl rfl hc i [] s5 _ H5 (fun _ _ => False) I5 (stat I5 n5) st5 go
      refine thnF ti fun r s6 ⟨u, hr, h6⟩ => ?_
      subst hr
      refine thnF h6 fun _ s7 ⟨x, H7, I7, r7, y7, st7, n7⟩ => ?_
      have I7' := I7.pinned (stat I7 n7) (T.obj _ _ st7)
      refine thnF (pg.run _ s7 _ H7 x u _ I7' r7 (step x H7 y7)) fun _ s8 ⟨σ8, H8, I8, hw8, q8⟩ => ?_
      refine thnF (pt.run _ s8 σ8 H8 _ I8 q8) fun b s9 ⟨H9, I9, q9⟩ => ?_
      -- the turn's end
      have fin : ∀ {s' : Shared} {H' : Hp}, Inv (X.blk s3 H3 scope ce fp) ([] ++ pinsAt fp s7.heap) σ8 H' s' → Nx H' → ∃ m, m < n ∧ ∃ i H', Inv (X.blk s3 H3 scope ce fp) [] (wipe σ (own.map (·.2))) H' s' ∧ tn i s'.heap ∧ (∀ b ∈ fp, H' b = none) ∧ W i m H' := fun {s' H'} I' nx => by
        obtain ⟨m', hm, w'⟩ := hNx H' nx
        have pin' : ∀ b ∈ fp, ∀ o, s7.heap.get? b = some o → s'.heap.get? b = some o ∧ H' b = none := fun b hb o e =>
          let z := I'.pin (b, o) (List.mem_append_right _ (List.mem_append_right _ (mem_pinsAt hb e)))
          ⟨z.1, z.2.1⟩
        have hl : (wipe σ (own.map (·.2))).length = σ8.length := by rw [← hw8, wipe_length]
        refine ⟨m', hm, i + 1, H', (I'.unpinned (pins := [])).weak hl (fun j v e => ?_), T.keep _ _ _ st7 fun b hb o e => (pin' b hb o e).1, fun b hb => ?_, w'⟩
        · rw [← hw8] at e
          exact (wipe_some e).1
        · obtain ⟨o, e, _⟩ := T.obj _ _ st7 b hb
          exact (pin' b hb o e).2
      cases b with
      | false =>
        simp only [Bool.false_eq_true, if_false] at q9 ⊢
        exact fin I9 q9
      | true =>
        simp only [if_true] at q9 ⊢
        refine thnF (pk.run _ s9 σ8 H9 _ I9 q9) fun z s10 ⟨yk, H10, I10, r10, q10⟩ => ?_
        refine thnF (pe.run _ s10 σ8 H10 _ I10 q10) fun z2 s11 ⟨yv, H11, I11, r11, kvs, k, b0, ek, eb, hD11, hz11, nx⟩ => ?_
        subst ek
        exact d_dictSetT (X := X.blk s3 H3 scope ce fp) hu I11 hD11 eb hz11 r10 r11 fun s12 I12 => fin I12 nx
  exact codeAny_compStart_dict loop (T.self X.A 0 _ _ _ st4 loop)
theorem pe_dcT {kx vx tg iter : Expr} {ifs : List Expr} {scope : Scope} {own : List (Str × Nat)} {pos : Pos} {wi : TI} {g : TG} {tt : TT} {tk tv : TE} (hu : X.A.units + 1 < cLine) (hc : X.calm = true) (hN : X.N.Nodup) (hi : PI X tg iter wi) (ok : BlkOk X.N X.env.scope scope own)
    (hg : ∀ (s : Shared) (H : Hp) (C : Addr) (cl : List (Str × Addr)) (fp : List Addr), PG (X.blk s H scope (compEnvC scope cl C X.env) fp) tg g) (ht : ∀ (s : Shared) (H : Hp) (C : Addr) (cl : List (Str × Addr)) (fp : List Addr), PTs (X.blk s H scope (compEnvC scope cl C X.env) fp) ifs tt)
    (hk : ∀ (s : Shared) (H : Hp) (C : Addr) (cl : List (Str × Addr)) (fp : List Addr), PE (X.blk s H scope (compEnvC scope cl C X.env) fp) kx tk)
    (he : ∀ (s : Shared) (H : Hp) (C : Addr) (cl : List (Str × Addr)) (fp : List Addr), PE (X.blk s H scope (compEnvC scope cl C X.env) fp) vx tv) (hs : ∀ x, foldedSetIterable iter X.env x = pure x := by intro _; rfl) :
    PE X (.DictComp kx vx [⟨tg, iter, ifs, 0⟩] scope pos) (tDcT wi g tt tk tv (own.map (·.2))) := by
  refine ⟨fun pins s σ H Q I h => ?_⟩
  rw [arm_eval_DictComp]
  refine dcT_core hu hc hN I hi ok hg ht hk he hs h fun D C s' m H' I' q hn f => ⟨m, hn, fun h'' sb => ?_⟩
  obtain ⟨f0, f1, f2, f3, f4, f5⟩ := f
  exact ⟨.ref D, H', I'.turned (t' := s'.toks) (fun b o hb e => (sb.2 b hb).trans e) f0 f1 f3 f4 f5, rfl, q⟩

/-- two fors -/
def tDc2T (wi : TI) (g : TG) (tt : TT) (wi1 : TI) (g1 : TG) (tt1 : TT) (tk te : TE) (vs vs1 : List Nat) : TE := fun σ H Q => wi σ H fun J H1 => ∀ D, H1 D = none → ∃ W : Nat → Nat → Hp → Prop, (∃ m, W 0 m (upd H1 D (.dT []))) ∧ ∀ i m H, W i m H →
  (J.stop i H ∧ Q (.ref D) H) ∨ (J.go i H ∧ ∃ Nx : Hp → Prop, (∀ H', Nx H' → ∃ m', m' < m ∧ W (i + 1) m' H') ∧ ∀ x H', J.yld i H x H' → g x (wipe σ vs) H' fun σ2 H2 => wipe σ2 vs = wipe σ vs ∧ tt σ2 H2 fun b H3 =>
    if b = true then wi1 σ2 H3 fun J1 H4 => ∃ W1 : Nat → Nat → Hp → Prop, (∃ m, W1 0 m H4) ∧ ∀ j k H, W1 j k H →
      (J1.stop j H ∧ Nx H) ∨ (J1.go j H ∧ ∃ Nx1 : Hp → Prop, (∀ H', Nx1 H' → ∃ k', k' < k ∧ W1 (j + 1) k' H') ∧ ∀ x H', J1.yld j H x H' → g1 x (wipe σ2 vs1) H' fun σ3 H5 => wipe σ3 vs1 = wipe σ2 vs1 ∧ tt1 σ3 H5 fun b H6 =>
        if b = true then tk σ3 H6 fun y H7 => te σ3 H7 fun z H8 => ∃ kvs k q, y = .ref q ∧ H8 q = some (.tup (k.map kV)) ∧ H8 D = some (.dT kvs) ∧ kvs.length < sizeLine ∧ Nx1 (upd H8 D (.dT (putK kvs k z))) else Nx1 H6)
    else Nx H3)
theorem dc2T_core {pins : List (Addr × Obj)} {s : Shared} {σ : St} {H : Hp} {Q : VK} {kx elt tg iter tg1 iter1 : Expr} {ifs ifs1 : List Expr} {scope : Scope} {own : List (Str × Nat)} {vs1 : List Nat} {pos pos' : Pos} {wi wi1 : TI} {g g1 : TG} {tt tt1 : TT} {tk te : TE} {use : Option (Value → Sem Unit)} {Qf : Value → Shared → Prop}
    (hu : X.A.units + 1 < cLine) (hc : X.calm = true) (hN : X.N.Nodup) (I : Inv X pins σ H s) (hi : PI X tg iter wi) (ok : BlkOk X.N X.env.scope scope own) (hv : ∀ i ∈ vs1, i ∈ own.map (·.2))
    (hg : ∀ (s : Shared) (H : Hp) (C : Addr) (cl : List (Str × Addr)) (fp : List Addr), PG (X.blk s H scope (compEnvC scope cl C X.env) fp) tg g) (ht : ∀ (s : Shared) (H : Hp) (C : Addr) (cl : List (Str × Addr)) (fp : List Addr), PTs (X.blk s H scope (compEnvC scope cl C X.env) fp) ifs tt)
    (hk : ∀ (s : Shared) (H : Hp) (C : Addr) (cl : List (Str × Addr)) (fp : List Addr), PE (X.blk s H scope (compEnvC scope cl C X.env) fp) kx tk)
    (he : ∀ (s : Shared) (H : Hp) (C : Addr) (cl : List (Str × Addr)) (fp : List Addr), PE (X.blk s H scope (compEnvC scope cl C X.env) fp) elt te) (hs : ∀ x, foldedSetIterable iter X.env x = pure x)
    (hi1 : ∀ (s : Shared) (H : Hp) (C : Addr) (cl : List (Str × Addr)) (fp : List Addr), PI (X.blk s H scope (compEnvC scope cl C X.env) fp) tg1 iter1 wi1)
    (hg1 : ∀ (s : Shared) (H : Hp) (C : Addr) (cl : List (Str × Addr)) (fp : List Addr), PG (X.blk s H scope (compEnvC scope cl C X.env) fp) tg1 g1)
    (ht1 : ∀ (s : Shared) (H : Hp) (C : Addr) (cl : List (Str × Addr)) (fp : List Addr), PTs (X.blk s H scope (compEnvC scope cl C X.env) fp) ifs1 tt1)
    (hs1 : ∀ env x, foldedSetIterable iter1 env x = pure x)
    (h : tDc2T wi g tt wi1 g1 tt1 tk te (own.map (·.2)) vs1 σ H Q)
    (hRR : ∀ D C s' m H', Inv X pins σ H' s' → Q (.ref D) H' → s'.heap.Ns C m → FpOk X pins H' C → compPost (model X.prog X.w) X.A X.xe use Qf (.ref D) C (.ok .next) s') :
    wpAny (model X.prog X.w) X.A (comprehension (.DictComp kx elt [⟨tg, iter, ifs, 0⟩, ⟨tg1, iter1, ifs1, 0⟩] scope pos) scope X.env pos' newDict false (eval iter X.env) use) Qf X.xe s := by
  have hfree : ∀ y ∈ scope.names, y.2 = .free → ∃ c, X.env.cells.lookup y.1 = some c := fun y hy e => by
    rcases ok.free y hy e with k | k
    · exact I.ok.has _ (.inl k)
    · exact I.ok.has _ (.inr k)
  refine wpAny_comprehension_free (use := use) rfl hs (closure_ok hfree) ok.kind (fun y hy e => by rw [ok.uniq y hy, e])
    (thn (hi.run pins s σ H _ I h) fun xv s1 hx => thn hx fun itv s2 h2 => ?_)
  obtain ⟨it, fp, tn, J, H2, e, I2, T, st2, f2, q⟩ := h2
  subst e
  refine wpAny_newObj_type (newEnv_comp ?_)
  generalize hD : s2.heap.objs.size = D
  have hDn : H2 D = none := I2.hok.fresh (Nat.le_of_eq hD)
  obtain ⟨W, ⟨m0, w0⟩, turn⟩ := q D hDn
  -- the new list
  generalize hs3 : ({ s2 with heap := s2.heap.push { cls := .type "dict", data := .dict #[] } } : Shared) = s3
  have I3 : Inv X pins σ (upd H2 D (.dT [])) s3 := by
    rw [← hs3]
    refine I2.laid (t' := s2.toks) (fun b o e => Heap.get?_push_of_some _ e) (Nat.le_of_eq hD) ?_
    rw [← hD]
    exact dt_empty s2.heap I2.big
  have h3 : s3.heap = s2.heap.push { cls := .type "dict", data := .dict #[] } := by rw [← hs3]
  have sz : ∀ b ∈ fp, b < s2.heap.objs.size := fun b hb => by
    obtain ⟨o, e, _⟩ := T.obj _ _ st2 b hb
    exact Heap.lt_size e
  have f3 : ∀ b ∈ fp, FpOk X pins (upd H2 D (.dT [])) b ∧ b < s3.heap.objs.size := fun b hb => by
    have hlt := sz b hb
    refine ⟨⟨?_, (f2 b hb).2⟩, by rw [h3, Heap.size_push]; exact Nat.lt_succ_of_lt hlt⟩
    rw [upd_ne (by rw [← hD]; exact Nat.ne_of_lt hlt)]
    exact (f2 b hb).1
  have st3 : tn 0 s3.heap := T.keep _ _ _ st2 fun b _ o e => by rw [h3]; exact Heap.get?_push_of_some _ e
  have I4 := block_start I3 ok hN f3
  have pg := hg s3 (upd H2 D (.dT [])) s3.heap.objs.size (cellsFrom (s3.heap.objs.size + 1) scope.names (cloFrom X.env.cells scope.names [])) fp
  have pt := ht s3 (upd H2 D (.dT [])) s3.heap.objs.size (cellsFrom (s3.heap.objs.size + 1) scope.names (cloFrom X.env.cells scope.names [])) fp
  have pk := hk s3 (upd H2 D (.dT [])) s3.heap.objs.size (cellsFrom (s3.heap.objs.size + 1) scope.names (cloFrom X.env.cells scope.names [])) fp
  have pe := he s3 (upd H2 D (.dT [])) s3.heap.objs.size (cellsFrom (s3.heap.objs.size + 1) scope.names (cloFrom X.env.cells scope.names [])) fp
  have pi1 := hi1 s3 (upd H2 D (.dT [])) s3.heap.objs.size (cellsFrom (s3.heap.objs.size + 1) scope.names (cloFrom X.env.cells scope.names [])) fp
  have pg1 := hg1 s3 (upd H2 D (.dT [])) s3.heap.objs.size (cellsFrom (s3.heap.objs.size + 1) scope.names (cloFrom X.env.cells scope.names [])) fp
  have pt1 := ht1 s3 (upd H2 D (.dT [])) s3.heap.objs.size (cellsFrom (s3.heap.objs.size + 1) scope.names (cloFrom X.env.cells scope.names [])) fp
  show codeAny _ _ (.compStart (.DictComp kx elt [⟨tg, iter, ifs, 0⟩, ⟨tg1, iter1, ifs1, 0⟩] scope pos) 0 (.ref it) (.ref D) (compEnvC scope (cellsFrom (s3.heap.objs.size + 1) scope.names (cloFrom X.env.cells scope.names [])) s3.heap.objs.size X.env)) (compPost (model X.prog X.w) X.A X.xe use Qf (.ref D) s3.heap.objs.size) { s3 with heap := pushCells (s3.heap.push { cls := .type "dict", data := .dict #[] }) scope.names }
  have nfp : ∀ b ∈ fp, (upd H2 D (.dT [])) b = none := fun b hb => (f3 b hb).1.1
  generalize hce : compEnvC scope (cellsFrom (s3.heap.objs.size + 1) scope.names (cloFrom X.env.cells scope.names [])) s3.heap.objs.size X.env = ce at I4 pg pt pk pe pi1 pg1 pt1 ⊢
  have cL : ce.locals = s3.heap.objs.size := by subst hce; rfl
  generalize hH3 : upd H2 D (.dT []) = H3 at I3 I4 pg pt pk pe pi1 pg1 pt1 w0 nfp f3
  generalize hs4 : ({ s3 with heap := pushCells (s3.heap.push { cls := .type "dict", data := .dict #[] }) scope.names } : Shared) = s4 at I4 ⊢
  have st4 : tn 0 s4.heap := T.keep _ _ _ st3 fun b _ o e => by rw [← hs4]; exact pushCells_keeps _ _ _ _ (Heap.get?_push_of_some _ e)
  have stat : ∀ {σ' : St} {H' : Hp} {s' : Shared}, Inv (X.blk s3 H3 scope ce fp) [] σ' H' s' → (∀ b ∈ fp, H' b = none) → ∀ b ∈ fp, FpOk (X.blk s3 H3 scope ce fp) [] H' b := fun {σ' H' s'} I' hn b hb =>
    ⟨hn b hb, (I'.ok.exf b hb).1, I'.ok.exfs b hb, .inl hb, fun x c e => (I'.ok.exf b hb).2 x c e, fun p hp => absurd (show p ∈ ([] : List (Addr × Obj)) ++ [] from hp) (by simp)⟩
  have loop : codeAny (model X.prog X.w) X.A (.compLoop (.DictComp kx elt [⟨tg, iter, ifs, 0⟩, ⟨tg1, iter1, ifs1, 0⟩] scope pos) 0 (.ref it) (.ref D) ce) (compPost (model X.prog X.w) X.A X.xe use Qf (.ref D) s3.heap.objs.size) s4 := by
    refine compLoopD2_out (hs1 ce) (fun n s' => ∃ i H', Inv (X.blk s3 H3 scope ce fp) [] (wipe σ (own.map (·.2))) H' s' ∧ tn i s'.heap ∧ (∀ b ∈ fp, H' b = none) ∧ W i n H') ?_ m0 ⟨0, H3, I4, st4, nfp, w0⟩
    rintro n s5 ⟨i, H5, I5, st5, n5, w5⟩
    rcases turn i n H5 w5 with ⟨stop, qq⟩ | ⟨go, Nx, hNx, step⟩
    · have td := T.done (X.blk s3 H3 scope ce fp) rfl rfl rfl hc i [] s5 _ H5 (fun _ _ => False) I5 (stat I5 n5) st5 stop
      refine thnF td fun r s6 ⟨hr, I6⟩ => ?_
      subst hr
      -- back in the def's context
      have I7 : Inv X pins σ H5 s6 := I3.call' (ch := fp) I6.os I6.base I6.hok I6.bare fun b hb => ⟨(f3 b hb).1.2.2.2.1, (f3 b hb).1.2.1, (f3 b hb).1.2.2.2.2.1, (f3 b hb).1.2.2.2.2.2⟩
      have nC : H5 s3.heap.objs.size = none := by
        have z : H5 ce.locals = none := I6.free
        rw [cL] at z
        exact z
      obtain ⟨m, hn, _⟩ := I6.loc
      have hn : s6.heap.Ns ce.locals m := hn
      rw [cL] at hn
      exact hRR D s3.heap.objs.size s6 m H5 I7 qq hn (I3.fpOk (Nat.le_refl _) nC)
    · have ti := T.item (X.blk s3 H3 scope ce fp) rfl rfl rfl hc i [] s5 _ H5 (fun _ _ => False) I5 (stat I5 n5) st5 go
      refine thnF ti fun r s6 ⟨u, hr, h6⟩ => ?_
      subst hr
      refine thnF h6 fun _ s7 ⟨x, H7, I7, r7, y7, st7, n7⟩ => ?_
      have I7' := I7.pinned (stat I7 n7) (T.obj _ _ st7)
      refine thnF (pg.run _ s7 _ H7 x u _ I7' r7 (step x H7 y7)) fun _ s8 ⟨σ8, H8, I8, hw8, q8⟩ => ?_
      refine thnF (pt.run _ s8 σ8 H8 _ I8 q8) fun b s9 ⟨H9, I9, q9⟩ => ?_
      -- the turn's end, from any slots that know what the block knew at its start
      have fin : ∀ {σ9 : St} {s' : Shared} {H' : Hp}, Inv (X.blk s3 H3 scope ce fp) ([] ++ pinsAt fp s7.heap) σ9 H' s' → (wipe σ (own.map (·.2))).length = σ9.length → (∀ (j : Nat) v, (wipe σ (own.map (·.2)))[j]? = some (some v) → σ9[j]? = some (some v)) → Nx H' →
          ∃ m, m < n ∧ ∃ i H', Inv (X.blk s3 H3 scope ce fp) [] (wipe σ (own.map (·.2))) H' s' ∧ tn i s'.heap ∧ (∀ b ∈ fp, H' b = none) ∧ W i m H' := fun {σ9 s' H'} I' hl hk nx => by
        obtain ⟨m', hm, w'⟩ := hNx H' nx
        have pin' : ∀ b ∈ fp, ∀ o, s7.heap.get? b = some o → s'.heap.get? b = some o ∧ H' b = none := fun b hb o e =>
          let z := I'.pin (b, o) (List.mem_append_right _ (List.mem_append_right _ (mem_pinsAt hb e)))
          ⟨z.1, z.2.1⟩
        refine ⟨m', hm, i + 1, H', (I'.unpinned (pins := [])).weak hl hk, T.keep _ _ _ st7 fun b hb o e => (pin' b hb o e).1, fun b hb => ?_, w'⟩
        obtain ⟨o, e, _⟩ := T.obj _ _ st7 b hb
        exact (pin' b hb o e).2
      have hl8 : (wipe σ (own.map (·.2))).length = σ8.length := by rw [← hw8, wipe_length]
      have hk8 : ∀ (j : Nat) v, (wipe σ (own.map (·.2)))[j]? = some (some v) → σ8[j]? = some (some v) := fun j v e => by
        rw [← hw8] at e
        exact (wipe_some e).1
      have hk9 : ∀ (j : Nat) v, (wipe σ (own.map (·.2)))[j]? = some (some v) → (wipe σ8 vs1)[j]? = some (some v) := fun j v e => by
        rw [← hw8] at e
        obtain ⟨e1, e2⟩ := wipe_some e
        rw [wipe_out fun z => e2 (hv j z)]
        exact e1
      cases b with
      | false =>
        simp only [Bool.false_eq_true, if_false] at q9 ⊢
        exact fin I9 hl8 hk8 q9
      | true =>
        simp only [if_true] at q9 ⊢
        refine thnF (pi1.run _ s9 σ8 H9 _ I9 q9) fun xv s10 hx => thnF hx fun itv s11 h11 => ?_
        obtain ⟨it1, fp1, tn1, J1, H11, e1, I11, T1, st11, f11, W1, ⟨m1, w1⟩, turn1⟩ := h11
        subst e1
        -- the inner loop
        have stat1 : ∀ {H' : Hp}, (∀ b ∈ fp1, H' b = none) → ∀ b ∈ fp1, FpOk (X.blk s3 H3 scope ce fp) ([] ++ pinsAt fp s7.heap) H' b := fun hn b hb => ⟨hn b hb, (f11 b hb).2⟩
        have loop1 : codeAny (model X.prog X.w) X.A (.compLoop (.DictComp kx elt [⟨tg, iter, ifs, 0⟩, ⟨tg1, iter1, ifs1, 0⟩] scope pos) 1 (.ref it1) (.ref D) ce)
            (fun r s' => match r with
              | .ok _ => ∃ m, m < n ∧ ∃ i H', Inv (X.blk s3 H3 scope ce fp) [] (wipe σ (own.map (·.2))) H' s' ∧ tn i s'.heap ∧ (∀ b ∈ fp, H' b = none) ∧ W i m H'
              | .error _ => False) s11 := by
          refine compLoopD2_in (fun k s' => ∃ j H', Inv (X.blk s3 H3 scope ce fp) ([] ++ pinsAt fp s7.heap) (wipe σ8 vs1) H' s' ∧ tn1 j s'.heap ∧ (∀ b ∈ fp1, H' b = none) ∧ W1 j k H') ?_ m1 ⟨0, H11, I11.weak (wipe_length _ _) (fun j v e => (wipe_some e).1), st11, fun b hb => (f11 b hb).1, w1⟩
          rintro k s12 ⟨j, H12, I12, st12, n12, w12⟩
          rcases turn1 j k H12 w12 with ⟨stop1, nx1⟩ | ⟨go1, Nx1, hNx1, step1⟩
          · refine thnF (T1.done (X.blk s3 H3 scope ce fp) rfl rfl rfl hc j _ s12 (wipe σ8 vs1) H12 (fun _ _ => False) I12 (stat1 n12) st12 stop1) fun r s13 ⟨hr, I13⟩ => ?_
            subst hr
            exact fin I13 (hl8.trans (wipe_length σ8 vs1).symm) hk9 nx1
          · refine thnF (T1.item (X.blk s3 H3 scope ce fp) rfl rfl rfl hc j _ s12 (wipe σ8 vs1) H12 (fun _ _ => False) I12 (stat1 n12) st12 go1) fun r s13 ⟨u1, hr, h13⟩ => ?_
            subst hr
            refine thnF h13 fun _ s14 ⟨x1, H14, I14, r14, y14, st14, n14⟩ => ?_
            have I14' := I14.pinned (stat1 n14) (T1.obj _ _ st14)
            refine thnF (pg1.run _ s14 (wipe σ8 vs1) H14 x1 u1 _ I14' r14 (step1 x1 H14 y14)) fun _ s15 ⟨σ15, H15, I15, hw15, q15⟩ => ?_
            refine thnF (pt1.run _ s15 σ15 H15 _ I15 q15) fun b1 s16 ⟨H16, I16, q16⟩ => ?_
            have fin1 : ∀ {s' : Shared} {H' : Hp}, Inv (X.blk s3 H3 scope ce fp) (([] ++ pinsAt fp s7.heap) ++ pinsAt fp1 s14.heap) σ15 H' s' → Nx1 H' → ∃ m, m < k ∧ ∃ j H', Inv (X.blk s3 H3 scope ce fp) ([] ++ pinsAt fp s7.heap) (wipe σ8 vs1) H' s' ∧ tn1 j s'.heap ∧ (∀ b ∈ fp1, H' b = none) ∧ W1 j m H' := fun {s' H'} I' nx => by
              obtain ⟨m', hm, w'⟩ := hNx1 H' nx
              have pin' : ∀ b ∈ fp1, ∀ o, s14.heap.get? b = some o → s'.heap.get? b = some o ∧ H' b = none := fun b hb o e =>
                let z := I'.pin (b, o) (List.mem_append_right _ (List.mem_append_right _ (mem_pinsAt hb e)))
                ⟨z.1, z.2.1⟩
              refine ⟨m', hm, j + 1, H', I'.unpinned.weak (by rw [← hw15, wipe_length]) (fun j v e => by rw [← hw15] at e; exact (wipe_some e).1), T1.keep _ _ _ st14 fun b hb o e => (pin' b hb o e).1, fun b hb => ?_, w'⟩
              obtain ⟨o, e, _⟩ := T1.obj _ _ st14 b hb
              exact (pin' b hb o e).2
            cases b1 with
            | false =>
              simp only [Bool.false_eq_true, if_false] at q16 ⊢
              exact fin1 I16 q16
            | true =>
              simp only [if_true] at q16 ⊢
              refine thnF (pk.run _ s16 σ15 H16 _ I16 q16) fun z0 s160 ⟨y0, H160, I160, r160, q160⟩ => ?_
              refine thnF (pe.run _ s160 σ15 H160 _ I160 q160) fun z s17 ⟨yv, H17, I17, r17, kvs, k0, b0, ek, eb, hD17, hz17, nx⟩ => ?_
              subst ek
              exact d_dictSetT (X := X.blk s3 H3 scope ce fp) hu I17 hD17 eb hz17 r160 r17 fun s18 I18 => fin1 I18 nx
        exact compStartD1_ok loop1 (T1.self X.A 0 _ _ _ st11 loop1)
  exact codeAny_compStart_dict loop (T.self X.A 0 _ _ _ st4 loop)
theorem pe_dc2T {kx elt tg iter tg1 iter1 : Expr} {ifs ifs1 : List Expr} {scope : Scope} {own : List (Str × Nat)} {vs1 : List Nat} {pos : Pos} {wi wi1 : TI} {g g1 : TG} {tt tt1 : TT} {tk te : TE} (hu : X.A.units + 1 < cLine) (hc : X.calm = true) (hN : X.N.Nodup) (hi : PI X tg iter wi) (ok : BlkOk X.N X.env.scope scope own) (hv : ∀ i ∈ vs1, i ∈ own.map (·.2))
    (hg : ∀ (s : Shared) (H : Hp) (C : Addr) (cl : List (Str × Addr)) (fp : List Addr), PG (X.blk s H scope (compEnvC scope cl C X.env) fp) tg g) (ht : ∀ (s : Shared) (H : Hp) (C : Addr) (cl : List (Str × Addr)) (fp : List Addr), PTs (X.blk s H scope (compEnvC scope cl C X.env) fp) ifs tt)
    (hi1 : ∀ (s : Shared) (H : Hp) (C : Addr) (cl : List (Str × Addr)) (fp : List Addr), PI (X.blk s H scope (compEnvC scope cl C X.env) fp) tg1 iter1 wi1)
    (hg1 : ∀ (s : Shared) (H : Hp) (C : Addr) (cl : List (Str × Addr)) (fp : List Addr), PG (X.blk s H scope (compEnvC scope cl C X.env) fp) tg1 g1) (ht1 : ∀ (s : Shared) (H : Hp) (C : Addr) (cl : List (Str × Addr)) (fp : List Addr), PTs (X.blk s H scope (compEnvC scope cl C X.env) fp) ifs1 tt1)
    (hk : ∀ (s : Shared) (H : Hp) (C : Addr) (cl : List (Str × Addr)) (fp : List Addr), PE (X.blk s H scope (compEnvC scope cl C X.env) fp) kx tk)
    (he : ∀ (s : Shared) (H : Hp) (C : Addr) (cl : List (Str × Addr)) (fp : List Addr), PE (X.blk s H scope (compEnvC scope cl C X.env) fp) elt te) (hs : ∀ x, foldedSetIterable iter X.env x = pure x := by intro _; rfl) (hs1 : ∀ env x, foldedSetIterable iter1 env x = pure x := by intro _ _; rfl) :
    PE X (.DictComp kx elt [⟨tg, iter, ifs, 0⟩, ⟨tg1, iter1, ifs1, 0⟩] scope pos) (tDc2T wi g tt wi1 g1 tt1 tk te (own.map (·.2)) vs1) := by
  refine ⟨fun pins s σ H Q I h => ?_⟩
  rw [arm_eval_DictComp]
  refine dc2T_core hu hc hN I hi ok hv hg ht hk he hs hi1 hg1 ht1 hs1 h fun D C s' m H' I' q hn f => ⟨m, hn, fun h'' sb => ?_⟩
  obtain ⟨f0, f1, f2, f3, f4, f5⟩ := f
  exact ⟨.ref D, H', I'.turned (t' := s'.toks) (fun b o hb e => (sb.2 b hb).trans e) f0 f1 f3 f4 f5, rfl, q⟩

end
end L2
end
section
set_option Elab.async false
set_option linter.all false
set_option maxRecDepth 100000
set_option maxHeartbeats 2000000
/-! enumerate of a tuple; setdefault of a dict with tuple keys; x is True; -x: at the hand layer's level -/
namespace L2
open PySem PySem.Spec PyProof.Rows
theorem meets_enum_tup (t0 : Addr) (items : Array Value) :
    Meets (Builtin.«enumerate.__new__» ⟨[.type "enumerate", .ref t0], []⟩) (fun _ R s => s.heap.IsTuple t0 items ∧
      R (.ok (.ret (.ref (s.heap.push { cls := .type "tuple_iterator", data := .fields #[.ref t0, .int 0 0] }).objs.size))) { s with heap := (s.heap.push { cls := .type "tuple_iterator", data := .fields #[.ref t0, .int 0 0] }).push { cls := .type "enumerate", data := .fields #[.none, .bool false, .ref s.heap.objs.size, rawInt 0, .none, .none] } }) :=
  .of_wp fun prog w A R s h => by
    obtain ⟨hp, g, d, tk, os⟩ := s
    obtain ⟨h1, h⟩ := h
    have hsub := sub_enumerate
    have q1 : ∀ {A' : Around} {E : Value → Shared → Prop} {Q : Value → Shared → Prop}, Q (.ref hp.objs.size) ⟨hp.push { cls := .type "tuple_iterator", data := .fields #[.ref t0, .int 0 0] }, g, d, tk, os⟩ → wpAny (model prog w) A' (pyIter (.ref t0)) Q E ⟨hp, g, d, tk, os⟩ :=
      fun q => (begins_tuple t0 items).iter prog w _ _ ⟨hp, g, d, tk, os⟩ _ h1 q
    wp_walk using q1
    refine wpAny_stack_any fun st => wpAny_pure ?_
    split
    · rename_i c _ _ _ _ _
      cases (c == Value.type "enumerate")
      · wp_walk using q1
        exact ⟨_, rfl, h⟩
      · wp_walk using q1
        exact ⟨_, rfl, h⟩
    · wp_walk using q1
      exact ⟨_, rfl, h⟩
theorem call_enum_tup {prog : Program} {w : World} {A : Around} {E : Value → Shared → Prop} {s : Shared} {l : Addr} {items : Array Value} {Q : Value → Shared → Prop} (hL : s.heap.IsTuple l items)
    (h : ∀ h', IsEnum h' (s.heap.objs.size + 1) s.heap.objs.size 0 .none → h'.IsTupleIter s.heap.objs.size l 0 → h'.objs.size = s.heap.objs.size + 2 →
      (∀ b o, s.heap.get? b = some o → h'.get? b = some o) → Q (.ref (s.heap.objs.size + 1)) { s with heap := h' }) :
    wpAny (model prog w) A (call (.type "enumerate") [.ref l]) Q E s := by
  refine callType_new F.called_enumerate (by decide) (F.typeCall_enumerate_1 _) (F.newCall_enumerate_1 _) (fun obj => F.args_object_init_2 obj _) F.entry_enumerate_new (meets_enum_tup l items) ⟨hL, ?_⟩
  have hz : (s.heap.push { cls := .type "tuple_iterator", data := .fields #[.ref l, .int 0 0] }).objs.size = s.heap.objs.size + 1 := Heap.size_push ..
  show _ ∧ _
  rw [hz]
  have he : IsEnum ((s.heap.push { cls := .type "tuple_iterator", data := .fields #[.ref l, .int 0 0] }).push { cls := .type "enumerate", data := .fields #[.none, .bool false, .ref s.heap.objs.size, rawInt 0, .none, .none] }) (s.heap.objs.size + 1) s.heap.objs.size 0 .none := by
    have := Heap.get?_push_size (s.heap.push { cls := .type "tuple_iterator", data := .fields #[.ref l, .int 0 0] }) (o := { cls := .type "enumerate", data := .fields #[.none, .bool false, .ref s.heap.objs.size, rawInt 0, .none, .none] }) rfl
    rw [hz] at this; exact this
  exact ⟨⟨_, he, rfl⟩, h _ he ⟨_, Heap.get?_push_of_some _ (Heap.get?_push_size _ rfl), rfl, rfl⟩ (by rw [Heap.size_push, hz]) fun b o x => Heap.get?_push_of_some _ (Heap.get?_push_of_some _ x)⟩
/-- the tuple at a, each item in a new pair -/
def IteT (K : PySem.W.Frag) (a : Addr) : It :=
  ⟨fun i H => ∃ (xs : List V) (x : V), SqT K H a xs ∧ xs[i]? = some x, fun i H v H' => ∃ T x, v = .ref T ∧ H T = none ∧ H' = upd H T (.tup [.int (i : Nat), x]) ∧ ∀ xs, SqT K H a xs → xs[i]? = some x, fun i H => ∃ xs : List V, SqT K H a xs ∧ xs.length = i⟩
theorem turn_enumT {P : Program} {w : World} {K : PySem.W.Frag} {elts : List Expr} {kk : Nat} {tpos : Pos} (a e it : Addr) :
    Turn P w K (.Tuple elts kk tpos) (IteT K a) [e, it] e (fun i h => (∃ old, IsEnum h e it ((i : Nat) : Int) old) ∧ h.IsTupleIter it a i ∧ e ≠ it ∧ a ≠ it ∧ a ≠ e) where
  mem := by simp
  obj := fun i h st b hb => by
    obtain ⟨⟨old, he⟩, ⟨o, ho, hc, hd⟩, _⟩ := st
    have e' : b = e ∨ b = it := by simpa using hb
    rcases e' with z | z
    · rw [z]; exact ⟨_, he, fun v q => nomatch q⟩
    · rw [z]; exact ⟨o, ho, fun v q => by rw [hd] at q; cases q⟩
  keep := fun i h h' st k => let ⟨⟨old, he⟩, hi, hne⟩ := st; ⟨⟨old, k e (by simp) _ he⟩, hi.at fun o q => k it (by simp) o q, hne⟩
  item := by
    intro X hP hw hK hc i pins s σ H E I hf st hg
    subst hP hw hK
    obtain ⟨⟨old, he⟩, hit, hne, hai, hae⟩ := st
    obtain ⟨xs, x, hq, hx⟩ := hg
    obtain ⟨its, rv, p, hz⟩ := I.tuple hq
    obtain ⟨u, hu, ru⟩ := rv.get hx
    have hel : e < s.heap.objs.size := Heap.lt_size he
    have hil : it < s.heap.objs.size := by obtain ⟨_, q, _⟩ := hit; exact Heap.lt_size q
    have hin : i < its.toArray.size := by
      have := (List.getElem?_eq_some_iff.mp hu).1
      simpa using this
    refine wpAny_pyNext_enum_itemD (Draws.tuple (A := X.A.in1) (I.ok.hd hc) it a hai its.toArray) he ⟨hit, (show s.heap.IsTuple a its.toArray from p)⟩ hin hne (by simp [hne, hae.symm]) fun y h' tk hy ho hit' hT hsz hk => ?_
    have hy' : y = u := by
      have hy : its.toArray[i]? = some y := hy
      simp only [List.getElem?_toArray] at hy
      rw [hu] at hy
      exact (Option.some.inj hy).symm
    subst hy'
    refine ⟨_, rfl, wpAny_letOwnedTupleGo_enum (s := { s with heap := h', toks := tk + 1 }) ho fun h'' he' sb => ?_⟩
    have hT2 : h''.get? s.heap.objs.size = some { cls := .type "tuple", data := .seq #[.int i tk, y] } := (sb.2 _ (Nat.ne_of_gt hel)).trans hT
    have new : ObjOk X.prog X.w (upd H s.heap.objs.size (.tup [.int (i : Nat), x])) h'' s.heap.objs.size (.tup [.int (i : Nat), x]) :=
      ⟨by show 2 ≤ sizeLine; decide, [.int i tk, y], .cons ⟨_, rfl⟩ (.cons ru .nil), ⟨_, hT2, rfl, _, rfl⟩⟩
    have I1 : Inv X pins σ (upd H s.heap.objs.size (.tup [.int (i : Nat), x])) { s with heap := h'', toks := tk + 1 } :=
      I.turnedNew (ch := [e, it]) (fun b ob hb q => (sb.2 b (fun z => hb (by simp [z]))).trans (hk b ob (fun z => hb (by simp [z])) (fun z => hb (by simp [z])) q)) hf (Nat.le_refl _) new
    refine ⟨.ref s.heap.objs.size, _, I1, rfl, ⟨_, x, rfl, I.hok.fresh (Nat.le_refl _), rfl, fun ys hy => by rw [I.tuple_inj hy hq]; exact hx⟩, ⟨⟨y, ?_⟩, hit'.1.at fun o q => (sb.2 it (Ne.symm hne)).trans q, hne, hai, hae⟩, fun b hb => ?_⟩
    · have e1 : ((i + 1 : Nat) : Int) = (i : Int) + 1 := by omega
      rw [e1]; exact he'
    · have hb' : b < s.heap.objs.size := by
        have e' : b = e ∨ b = it := by simpa using hb
        rcases e' with z | z
        · rw [z]; exact hel
        · rw [z]; exact hil
      rw [upd_ne (Nat.ne_of_lt hb')]
      exact (hf b hb).1
  done := by
    intro X hP hw hK hc i pins s σ H E I hf st hg
    subst hP hw hK
    obtain ⟨⟨old, he⟩, hit, hne, hai, hae⟩ := st
    obtain ⟨xs, hq, hx⟩ := hg
    obtain ⟨its, rv, p, hz⟩ := I.tuple hq
    obtain ⟨f0, f1, f2, f3, f4, f5⟩ := hf it (by simp)
    have hl := rv.length
    have ei : i = its.toArray.size := by simp; omega
    subst ei
    exact wpAny_pyNext_enum_endD (Draws.tuple (A := X.A.in1) (I.ok.hd hc) it a hai its.toArray) he ⟨hit, (show s.heap.IsTuple a its.toArray from p)⟩ fun h' eb => ⟨rfl, I.turned (t' := s.toks) (fun b o hb q => eb b o hb q) f0 f1 f3 f4 f5⟩
  self := fun A i s Q E st h => let ⟨⟨_, he⟩, _⟩ := st; wpAny_pyIter_enum he h
def iEnumT (K : PySem.W.Frag) (ta : TA) : TI := fun σ H R => ta σ H fun vs H1 => ∃ a xs, vs = [V.ref a] ∧ SqT K H1 a xs ∧ R (IteT K a) H1
theorem pi_enumT {X : Cx} {e : Expr} {ta : TA} {p pos tpos : Pos} {elts : List Expr} {kk : Nat} (hg : Gl X "enumerate") (hm : X.mg "enumerate" = none) (ha : PA X [e] ta) (hs : starEach [e] X.env = [(false, eval e X.env)] := by rfl) :
    PI X (.Tuple elts kk tpos) (.Call (.Name "enumerate" p) [e] [] pos) (iEnumT X.K ta) := by
  refine ⟨fun pins s σ H R I h => ?_⟩
  refine Call_ (ld_blt I hg hm boot_enumerate (PyProof.Rows.callWith_type1 (thn (ha.run pos pins s σ H _ I h) fun us s1 ⟨vs, H1, I1, r1, q1⟩ => ?_) hs rfl))
  obtain ⟨a, xs, ex, hq, q⟩ := q1
  subst ex
  cases r1 with
  | cons r rr =>
    cases rr
    cases r
    obtain ⟨its, rv, p', hz⟩ := I1.tuple hq
    have hal : a < s1.heap.objs.size := by obtain ⟨o, e, _⟩ := p'; exact Heap.lt_size e
    refine call_enum_tup (show s1.heap.IsTuple a its.toArray from p') fun h' he hit hsz hk => wpAny_pyIter_enum he ?_
    have I2 : Inv X pins σ H1 { s1 with heap := h' } := I1.kept (t' := s1.toks) hk
    refine ⟨s1.heap.objs.size + 1, [s1.heap.objs.size + 1, s1.heap.objs.size], _, _, H1, rfl, I2, turn_enumT a (s1.heap.objs.size + 1) s1.heap.objs.size, ⟨⟨.none, he⟩, hit, Nat.succ_ne_self _, Nat.ne_of_lt hal, Nat.ne_of_lt (Nat.lt_succ_of_lt hal)⟩, fun b hb => ?_, q⟩
    have e' : b = s1.heap.objs.size + 1 ∨ b = s1.heap.objs.size := by simpa using hb
    have hle : s1.heap.objs.size ≤ b := by
      rcases e' with z | z
      · rw [z]; exact Nat.le_add_right _ _
      · rw [z]; exact Nat.le_refl _
    exact I1.fpOk hle (I1.hok.fresh hle)
/-- d.setdefault(k, x), k a tuple -/
def tDSetdT (td ty tx : TE) : TE := fun σ H Q => td σ H fun x H1 => ∃ a, x = .ref a ∧ IsD H1 a ∧ ty σ H1 fun y H2 => tx σ H2 fun z H3 => ∃ (kvs : List (List Key × V)) (k : List Key) (b : Addr), H3 a = some (.dT kvs) ∧ y = .ref b ∧ H3 b = some (.tup (k.map kV)) ∧ kvs.length < sizeLine ∧
  (∀ v, valV kvs k = some v → Q v H3) ∧ (valV kvs k = none → Q z (upd H3 a (.dT (putK kvs k z))))
theorem d_setdT {X : Cx} {pins : List (Addr × Obj)} {σ : St} {H : Hp} {s : Shared} {a b : Addr} {u r : Value} {d : V} {k : List Key} {A : Around} {E : Value → Shared → Prop} {kvs : List (List Key × V)} {Q : Value → Shared → Prop} (hu : A.units + 1 < cLine) (I : Inv X pins σ H s) (e : H a = some (.dT kvs)) (eb : H b = some (.tup (k.map kV))) (ry : RelV (.ref b) u) (rd : RelV d r) (hl : kvs.length < sizeLine)
    (h1 : ∀ v, valV kvs k = some v → ∀ (w' : Value) (s' : Shared), Inv X pins σ H s' → RelV v w' → Q w' s') (h2 : valV kvs k = none → ∀ (w' : Value) (s' : Shared), Inv X pins σ (upd H a (.dT (putK kvs k d))) s' → RelV d w' → Q w' s') :
    wpAny (model X.prog X.w) A (call (.builtin "dict.setdefault") [.ref a, u, r]) Q E s := by
  cases (show u = Value.ref b from ry)
  obtain ⟨z, hd, xs, rel, dd⟩ := dt_of I.hok e
  have hz : xs.length ≤ sizeLine := by rw [← Paired.length rel]; exact z
  refine call_setdefault_heap (hsz := hz) (tupleKind_room_in1 hu) (key_of I.hok eb) hd dd (fun p hp => ?_) fun hn h' dd' hs => ?_
  · have q := rel.val k
    rw [hp] at q
    cases q0 : valV kvs k with
    | none =>
      rw [q0] at q
      exact (show False from q).elim
    | some v0 =>
      rw [q0] at q
      exact h1 v0 q0 _ _ (I.kept (t' := _) fun _ _ z => z) q
  · have q := rel.val k
    rw [hn] at q
    cases q0 : valV kvs k with
    | some v0 =>
      rw [q0] at q
      exact (show False from q).elim
    | none =>
      have hl2 : (putK kvs k d).length ≤ sizeLine := by
        have := length_putK kvs k d
        omega
      obtain ⟨q, es, ep, hq, e2, e3, e4, _, e5⟩ := dd'
      refine h2 q0 _ _ (d_write (t' := _) I (by rw [e]; exact True.intro) hs ⟨q, hq⟩ ⟨hl2, hd, _, (rel.put k eb rd).keeps fun c ys ec => ?_, q, es, ep, hq, e2, e3, e4, e5⟩) rd
      rw [upd_ne (ne_of ec e (fun z => nomatch z))]
      exact ec
section
variable {X : Cx} {o e f : Expr} {td ty tx : TE} {apos cpos : Pos}
theorem pe_dsetdT (hu : X.A.units + 1 < cLine) (ho : PE X o td) (he : PE X e ty) (hf : PE X f tx) (m : M2 X o "setdefault" apos e f cpos) : PE X (.Call (.Attribute o "setdefault" apos) [e, f] [] cpos) (tDSetdT td ty tx) := by
  refine ⟨fun pins s σ H Q I h => ?_⟩
  refine wpAny_Call_method m.base m.few m.line PySem.F.plainAttrs_dict PySem.F.slot_dict_setdefault PySem.F.type_dict_setdefault (thn (ho.run pins s σ H _ I h) fun u s1 ⟨x, H1, I1, rx, a, ex, d, q1⟩ => ?_)
  subst ex
  obtain rfl : u = Value.ref a := rx
  obtain ⟨t1, t2, _⟩ := isD_at I1 d
  refine ⟨t1, t2, ?_⟩
  rw [m.trees]
  refine Calls.callWith_builtin rfl (Calls.evalArgs_plain (Calls.spliced_cons (thn (he.run pins s1 σ H1 _ I1 q1) fun iv s2 ⟨y, H2, I2, ry, q2⟩ =>
    Calls.spliced_cons (thn (hf.run pins s2 σ H2 _ I2 q2) fun fv s3 ⟨z, H3, I3, rz, kvs, k, b, ea, ey, eb, hl, q3, q4⟩ => Calls.spliced_nil ?_))))
  subst ey
  exact d_setdT hu I3 ea eb ry rz hl (fun v hv w' s4 I4 rw' => ⟨v, _, I4, rw', q3 v hv⟩) fun hn w' s4 I4 rw' => ⟨z, _, I4, rw', q4 hn⟩
end
/-- x is True, x is False, x any value -/
def isTrueV (b : Bool) : V → Bool
  | .bl c => c == b
  | _ => false
def rIsBV (b : Bool) : R2 := fun x y H Q => y = .bl b ∧ Q (.bl (isTrueV b x)) H
theorem op_isBV {X : Cx} (b : Bool) : OpR X (compareOp .Is) (rIsBV b) := by
  intro pins s σ H x y v u Q I rx ry h
  obtain ⟨rfl, q⟩ := h
  cases (show u = Value.bool b from ry)
  have key : ∀ (v : Value) (c : Bool), plainIs v (.bool b) = true → (v == Value.bool b) = c → RelV x v → isTrueV b x = c → wpAny (model X.prog X.w) X.A (compareOp .Is v (.bool b)) (EP X pins σ Q) X.xe s := fun v c hp he _ hc =>
    wpAny_is_plain hp ⟨.bl (isTrueV b x), H, I, by rw [he, hc]; rfl, q⟩
  cases x with
  | non => cases (show v = Value.none from rx); exact key _ false rfl rfl rfl rfl
  | bl c => cases (show v = Value.bool c from rx); exact key _ (c == b) rfl (by cases c <;> cases b <;> rfl) rfl rfl
  | int i => obtain ⟨t, e⟩ := (show ∃ t, v = Value.int i t from rx); subst e; exact key _ false rfl rfl ⟨t, rfl⟩ rfl
  | str z => obtain ⟨t, e⟩ := (show ∃ t, v = Value.str z t from rx); subst e; exact key _ false rfl rfl ⟨t, rfl⟩ rfl
  | byt z => obtain ⟨t, e⟩ := (show ∃ t, v = Value.bytes z t from rx); subst e; exact key _ false rfl rfl ⟨t, rfl⟩ rfl
  | flt z => obtain ⟨t, e⟩ := (show ∃ t, v = Value.float z t from rx); subst e; exact key _ false rfl rfl ⟨t, rfl⟩ rfl
  | ref a => cases (show v = Value.ref a from rx); exact key _ false rfl rfl rfl rfl
  | ty n => cases (show v = Value.type n from rx); exact key _ false rfl rfl rfl rfl
end L2
end
section
set_option Elab.async false
set_option linter.all false
set_option maxRecDepth 100000
set_option maxHeartbeats 2000000
/-! L3: dict comprehensions, enumerate, setdefault, x is True, -x -/
namespace L3
open PySem L2
section
variable {X : Cx} {a b c e : Expr} {pos : Pos} {ta tb tc te : TE3} {tA tB' : TT3} {W : WX}
def un3 (g : Int → U) (ta : TE3) : TE3 := fun σ G Q => ta σ G fun x G1 => rI1 g x G1 Q
theorem e3neg (ha : PE X a (lowE X.K ta)) : PE X (.UnaryOp .USub a pos) (lowE X.K (un3 (fun i => .int (-i)) ta)) := (pe_un un_neg ha).imp fun σ H Q h => by
  obtain ⟨σ3, G, Q3, hs, hh, ht, hq⟩ := h
  refine ⟨σ3, G, _, hs, hh, ht, fun x H1 w G1 k1 hh1 r q1 => ?_⟩
  unfold rI1 at q1
  split at q1
  · cases r
    exact ⟨_, rfl, hq _ _ _ _ k1 hh1 (.int _) q1⟩
  · exact q1.elim
/-- x is True -/
def isB (b : Bool) : U → Bool
  | .bl c => c == b
  | _ => false
def rIsB3 (b : Bool) : R3 := fun x y G Q => match y with
  | .bl c => c = b ∧ Q (.bl (isB b x)) G
  | _ => False
theorem isB_eq {K : PySem.W.Frag} {H : Hp} {w : U} {v : V} {b : Bool} (r : Rep K H w v) : isTrueV b v = isB b w := by cases r <;> rfl
theorem o_isB (b : Bool) : OpR X (compareOp .Is) (lowR X.K (rIsB3 b)) := OpR.imp (op_isBV b) fun x y H Q q => by
  obtain ⟨a, b', G, Q3, ra, rb, hh, q, p⟩ := q
  unfold rIsB3 at q
  split at q
  · obtain ⟨rfl, q⟩ := q
    cases rb
    exact ⟨rfl, p.here hh (by rw [isB_eq ra]; exact .bl _) q⟩
  · exact q.elim

/-! ### enumerate -/
def enU (xs : List U) : List U := (List.range xs.length).map fun i => U.tup [.int (i : Nat), xs.getD i .non]
theorem enU_len (xs : List U) : (enU xs).length = xs.length := by unfold enU; rw [List.length_map, List.length_range]
theorem enU_get {xs : List U} {i : Nat} {x : U} (h : xs[i]? = some x) : (enU xs)[i]? = some (.tup [.int (i : Nat), x]) := by
  have hi := (List.getElem?_eq_some_iff.mp h).1
  unfold enU
  rw [List.getElem?_map, List.getElem?_range hi]
  show some (U.tup [.int (i : Nat), xs.getD i .non]) = _
  rw [List.getD_eq_getElem?_getD, h]
  rfl
def ie3 (ta : TE3) : TI3 := fun σ G R => ta σ G fun x G1 => match x with
  | .ref a => ∃ xs, G1 a = some (.lst xs) ∧ R ⟨enU xs, fun G => G a = some (.lst xs)⟩ G1
  | _ => False
theorem pair_low {K : PySem.W.Frag} {G : G3} {H H' : Hp} {T : Addr} {i : Int} {x : V} {w : U} (hh : RepH K G H) (hT : H T = none) (e : H' = upd H T (.tup [.int i, x])) (r : Rep K H w x) : Keep H H' ∧ RepH K G H' ∧ Rep K H' (.tup [.int i, w]) (.ref T) := by
  subst e
  exact ⟨Keep.new hT, hh.skip hT, .tup upd_same (.cons (.int _) (.cons (r.keep (Keep.new hT)) .nil))⟩
theorem i_enum {elts : List Expr} {kk : Nat} {tpos p : Pos} (hm : X.mg "enumerate" = none) (ha : PE X e (lowE X.K ta)) (hg : Gl X "enumerate" := by rfl) (hs : starEach [e] X.env = [(false, eval e X.env)] := by rfl) (hs2 : starEach [e] X.env = (false, eval e X.env) :: starEach [] X.env := by rfl) :
    PI X (.Tuple elts kk tpos) (.Call (.Name "enumerate" p) [e] [] pos) (lowI X.K (ie3 ta)) := (pi_enum hg hm (pa_cons ha pa_nil hs2) hs).imp fun σ H R h => by
  obtain ⟨σ3, G, Q3, hs, hh, ht, hq⟩ := h
  refine ⟨σ3, G, _, hs, hh, ht, fun v H1 w G1 k1 hh1 r q1 => ?_⟩
  split at q1
  · cases r
    rename_i a
    obtain ⟨xs, hg, q1⟩ := q1
    obtain ⟨vs, h1, rl⟩ := hh1 _ _ hg
    refine ⟨a, vs, rfl, SqL.of h1, hq _ _ _ _ k1 hh1 ⟨fun i G' H' hi k hh' ok => ?_, fun G' H' k hh' ok => ?_, fun i G' H' x H'' hi k hh' ok y => ?_⟩ q1⟩
    · have hi : i < (enU xs).length := hi
      rw [enU_len] at hi
      obtain ⟨us, h2, r2⟩ := hh' _ _ ok
      have hi2 : i < us.length := by rw [← r2.length]; exact hi
      exact ⟨us, us[i], SqL.of h2, by simp [hi2]⟩
    · obtain ⟨us, h2, r2⟩ := hh' _ _ ok
      refine ⟨us, SqL.of h2, ?_⟩
      show us.length ≤ (enU xs).length
      rw [enU_len]
      exact Nat.le_of_eq r2.length.symm
    · obtain ⟨us, h2, r2⟩ := hh' _ _ ok
      obtain ⟨T, x0, e1, e2, e3, e4⟩ := y
      subst e1
      obtain ⟨w, hw, rw⟩ := r2.get' (e4 us (SqL.of h2))
      obtain ⟨z1, z2, z3⟩ := pair_low hh' e2 e3 rw
      exact ⟨z1, z2, _, enU_get hw, z3⟩
  · exact q1.elim
/-- enumerate of a tuple -/
def ieT3 (ta : TE3) : TI3 := fun σ G R => ta σ G fun x G1 => match x with
  | .tup xs => R ⟨enU xs, fun _ => True⟩ G1
  | _ => False
theorem i_enumT {elts : List Expr} {kk : Nat} {tpos p : Pos} (hm : X.mg "enumerate" = none) (ha : PE X e (lowE X.K ta)) (hg : Gl X "enumerate" := by rfl) (hs : starEach [e] X.env = [(false, eval e X.env)] := by rfl) (hs2 : starEach [e] X.env = (false, eval e X.env) :: starEach [] X.env := by rfl) :
    PI X (.Tuple elts kk tpos) (.Call (.Name "enumerate" p) [e] [] pos) (lowI X.K (ieT3 ta)) := (pi_enumT hg hm (pa_cons ha pa_nil hs2) hs).imp fun σ H R h => by
  obtain ⟨σ3, G, Q3, hs, hh, ht, hq⟩ := h
  refine ⟨σ3, G, _, hs, hh, ht, fun v H1 w G1 k1 hh1 r q1 => ?_⟩
  split at q1
  · rename_i xs
    cases r with
    | @tup a vs ws h1 rl =>
      refine ⟨a, vs, rfl, SqT.of h1, hq _ _ _ _ k1 hh1 ⟨fun i G' H' hi k hh' ok => ?_, fun G' H' k hh' ok => ?_, fun i G' H' x H'' hi k hh' ok y => ?_⟩ q1⟩
      · have hi : i < (enU xs).length := hi
        rw [enU_len] at hi
        have hi2 : i < vs.length := by rw [← rl.length]; exact hi
        exact ⟨vs, vs[i], SqT.of (k.tup _ _ h1), by simp [hi2]⟩
      · refine ⟨vs, SqT.of (k.tup _ _ h1), ?_⟩
        show vs.length = (enU xs).length
        rw [enU_len]
        exact rl.length.symm
      · obtain ⟨T, x0, e1, e2, e3, e4⟩ := y
        subst e1
        obtain ⟨w, hw, rw⟩ := (rl.keep k).get' (e4 vs (SqT.of (k.tup _ _ h1)))
        obtain ⟨z1, z2, z3⟩ := pair_low hh' e2 e3 rw
        exact ⟨z1, z2, _, enU_get hw, z3⟩
  · exact q1.elim

/-! ### setdefault -/
def setd3 (td ty tx : TE3) : TE3 := fun σ G Q => td σ G fun x G1 => match x with
  | .ref d => (∃ kvs, G1 d = some (.dT kvs)) ∧ ty σ G1 fun y G2 => tx σ G2 fun z G3 => ∃ kvs k, G3 d = some (.dT kvs) ∧ tkey y = some k ∧ decide (kvs.length ≤ 99999) = true ∧ match look kvs k with
    | some v => Q v G3
    | none => Q z (gup G3 d (.dT (kvs ++ [(k, z)])))
  | _ => False
theorem e3setd {o e f : Expr} {td ty tx : TE3} {apos cpos : Pos} (hu : X.A.units + 1 < cLine) (ho : PE X o (lowE X.K td)) (he : PE X e (lowE X.K ty)) (hf : PE X f (lowE X.K tx)) (m : M2 X o "setdefault" apos e f cpos) : PE X (.Call (.Attribute o "setdefault" apos) [e, f] [] cpos) (lowE X.K (setd3 td ty tx)) :=
  (pe_dsetdT hu ho he hf m).imp fun σ H Q h => by
  obtain ⟨σ3, G, Q3, hs, hh, ht, hq⟩ := h
  refine ⟨σ3, G, _, hs, hh, ht, fun x H1 w G1 k1 hh1 r q1 => ?_⟩
  split at q1
  · cases r
    obtain ⟨⟨kvs, hd⟩, q1⟩ := q1
    obtain ⟨vs, h2, _⟩ := hh1 _ _ hd
    refine ⟨_, rfl, .inr ⟨vs, .inl h2⟩, ?_⟩
    refine ⟨σ3, G1, _, hs.keep k1, hh1, q1, fun y H2 u G2 k2 hh2 r2 q2 => ?_⟩
    refine ⟨σ3, G2, _, hs.keep (k1.trans k2), hh2, q2, fun z H3 u3 G3 k3 hh3 r3 q3 => ?_⟩
    obtain ⟨kvs, k, hd, hk, hz, q3⟩ := q3
    obtain ⟨vs, h4, rk⟩ := hh3 _ _ hd
    have r2' := r2.keep k3
    cases r2' with
    | tup h5 rl =>
      have e := rep_keys rl hk
      subst e
      refine ⟨vs, k, _, h4, rfl, h5, by rw [← RepK.length rk]; exact sl hz, fun v hv => ?_, fun hv => ?_⟩
      · rcases look_rep rk k with ⟨e1, e2⟩ | ⟨w0, v0, e1, e2, rv⟩
        · rw [hv] at e2; cases e2
        · rw [hv] at e2
          cases e2
          rw [e1] at q3
          exact hq _ _ _ _ ((k1.trans k2).trans k3) hh3 rv q3
      · rcases look_rep rk k with ⟨e1, e2⟩ | ⟨w0, v0, e1, e2, rv⟩
        · rw [e1] at q3
          have k4 := Keep.mut (o := .dT (putK vs k z)) h4 trivial
          have rp := put_rep rk k r3
          rw [put_new _ e1] at rp
          exact hq _ _ _ _ (((k1.trans k2).trans k3).trans k4) (hh3.mut h4 trivial (obj_dT h4 trivial rp)) (r3.keep k4) q3
        · rw [hv] at e2; cases e2
    | _ => cases hk
  · exact q1.elim

/-! ### dict comprehensions, the keys tuples -/
def dc3 (wi : TI3) (g : TG3) (tt : TT3) (tk te : TE3) (vs : List Nat) : TE3 := fun σ G Q => wi σ G fun it G1 => ∀ L, G1 L = none → ∃ Pv : Nat → G3 → Prop, Pv 0 (gup G1 L (.dT [])) ∧ (∀ i G', i ≤ it.items.length → Pv i G' → it.ok G') ∧
  (∀ i x G', it.items[i]? = some x → Pv i G' → g x (wipe3 σ vs) G' fun σ2 G2 => tt σ2 G2 fun b G3 => if b = true then tk σ2 G3 fun y G4 => te σ2 G4 fun z G5 => ∃ kvs k, tkey y = some k ∧ G5 L = some (.dT kvs) ∧ decide (kvs.length ≤ 99999) = true ∧ Wk1 (Pv (i + 1)) (gup G5 L (.dT (put kvs k z))) else Wk1 (Pv (i + 1)) G3) ∧ ∀ G', Pv it.items.length G' → Q (.ref L) G'
theorem wipe_wipe {vs : List Nat} : ∀ (us : List Nat) (τ : L2.St), (∀ u ∈ us, u ∈ vs) → wipe (wipe τ us) vs = wipe τ vs
  | [], _, _ => rfl
  | u :: us, τ, hu => by
    show wipe ((wipe τ us).set u none) vs = _
    rw [wipe_set (hu u List.mem_cons_self)]
    exact wipe_wipe us τ fun z hz => hu z (List.mem_cons_of_mem _ hz)
theorem dput_low {K : PySem.W.Frag} {G : G3} {H : Hp} {L : Addr} {y : V} {yu : U} {z : V} {zu : U} {kvs : List (List Key × U)} {k : List Key} (hh : RepH K G H) (ry : Rep K H yu y) (rz : Rep K H zu z) (hk : tkey yu = some k) (hL : G L = some (.dT kvs)) (hz : decide (kvs.length ≤ 99999) = true) :
    ∃ vs q, y = .ref q ∧ H q = some (.tup (k.map kV)) ∧ H L = some (.dT vs) ∧ vs.length < sizeLine ∧ Keep H (upd H L (.dT (putK vs k z))) ∧ RepH K (gup G L (.dT (put kvs k zu))) (upd H L (.dT (putK vs k z))) := by
  cases ry with
  | tup h1 rl =>
    have e := rep_keys rl hk
    subst e
    obtain ⟨vs, h2, rk⟩ := hh _ _ hL
    exact ⟨vs, _, rfl, h1, h2, by rw [← RepK.length rk]; exact sl hz, Keep.mut h2 trivial, hh.mut h2 trivial (obj_dT h2 trivial (put_rep rk k rz))⟩
  | _ => cases hk
theorem dc_low {K : PySem.W.Frag} {own : List (Str × Nat)} {wi : TI3} {g : TG} {g3 : TG3} {tt : TT3} {tk te : TE3} (hl : GLow K (some (own.map (·.2))) g g3) : ∀ σ H Q, lowE K (dc3 wi g3 tt tk te (own.map (·.2))) σ H Q → tDcT (lowI K wi) g (lowT K tt) (lowE K tk) (lowE K te) (own.map (·.2)) σ H Q := fun σ H Q h => by
  obtain ⟨σ3, G, Q3, hs, hh, ht, hq⟩ := h
  refine ⟨σ3, G, _, hs, hh, ht, fun J H1 it G1 k1 hh1 il q1 => ?_⟩
  intro L hL
  obtain ⟨Pv, p0, pok, pst, pdn⟩ := q1 L (hh1.free hL)
  have kL : Keep H1 (upd H1 L (.dT [])) := Keep.new hL
  have hsw : RepS K H1 (wipe3 σ3 (own.map (·.2))) (wipe σ (own.map (·.2))) := (hs.keep k1).wipe _
  refine ⟨fun i m H' => m = it.items.length - i ∧ i ≤ it.items.length ∧ ∃ G', Keep H1 H' ∧ RepH K G' H' ∧ Pv i G', ⟨_, rfl, Nat.zero_le _, _, kL, hh1.new hL (g := .dT []) ⟨[], upd_same, .nil⟩, p0⟩, ?_⟩
  rintro i m H' ⟨rfl, hi, G', kk, hh', pv⟩
  have okk := pok i G' hi pv
  by_cases hlt : i < it.items.length
  · refine .inr ⟨il.goes i G' H' hlt kk hh' okk, fun H2 => ∃ G2, Keep H1 H2 ∧ RepH K G2 H2 ∧ Pv (i + 1) G2, fun H2 q => ⟨it.items.length - (i + 1), by omega, rfl, hlt, q⟩, fun x H2 y => ?_⟩
    obtain ⟨k2, hh2, w, hw, rw⟩ := il.yields i G' H' x H2 hlt kk hh' okk y
    have kH2 := kk.trans k2
    refine hl _ _ _ _ _ _ _ _ rw (hsw.keep kH2) hh2 (pst i w G' hw pv) fun σ4 H4 σ34 G4 k4 pr hs4 hh4 q4 => ⟨?_, ?_⟩
    · have pr : wipe σ4 (own.map (·.2)) = wipe (wipe σ (own.map (·.2))) (own.map (·.2)) := pr
      rw [pr, wipe_wipe _ σ fun _ h => h]
    · refine ⟨σ34, G4, _, hs4, hh4, q4, fun b H5 b' G5 k5 hh5 eb q5 => ?_⟩
      obtain rfl : b' = b := eb
      have kH5 := (kH2.trans k4).trans k5
      cases b' with
      | false =>
        obtain ⟨G0, z, q5⟩ := q5
        exact ⟨G0, kH5, hh5.less z, q5⟩
      | true =>
        refine ⟨σ34, G5, _, hs4.keep k5, hh5, q5, fun v H6 w6 G6 k6 hh6 r6 q6 => ?_⟩
        refine ⟨σ34, G6, _, hs4.keep (k5.trans k6), hh6, q6, fun v7 H7 w7 G7 k7 hh7 r7 q7 => ?_⟩
        obtain ⟨kvs, k, hk, ha, hz, G0, z, pv'⟩ := q7
        obtain ⟨us, q0, e1, e2, e3, e4, e5, e6⟩ := dput_low hh7 (r6.keep k7) r7 hk ha hz
        exact ⟨us, k, q0, e1, e2, e3, e4, G0, ((kH5.trans k6).trans k7).trans e5, e6.less z, pv'⟩
  · have e : i = it.items.length := by omega
    subst e
    exact .inl ⟨il.stops G' H' kk hh' okk, hq _ _ _ _ (k1.trans kk) hh' (.ref _) (pdn _ pv)⟩
theorem e3dc {kx elt tg iter : Expr} {ifs : List Expr} {scope : Scope} {own : List (Str × Nat)} {wi : TI3} {g : TG} {g3 : TG3} {tt : TT3} {tk : TE3} (hu : X.A.units + 1 < cLine) (hc : X.calm = true) (hN : X.N.Nodup) (hi : PI X tg iter (lowI X.K wi)) (ok : BlkOk X.N X.env.scope scope own) (hl : GLow X.K (some (own.map (·.2))) g g3)
    (hg : ∀ (s : Shared) (H : Hp) (C : Addr) (cl : List (Str × Addr)) (fp : List Addr), PG (X.blk s H scope (compEnvC scope cl C X.env) fp) tg g) (ht : ∀ (s : Shared) (H : Hp) (C : Addr) (cl : List (Str × Addr)) (fp : List Addr), PTs (X.blk s H scope (compEnvC scope cl C X.env) fp) ifs (lowT X.K tt))
    (hk : ∀ (s : Shared) (H : Hp) (C : Addr) (cl : List (Str × Addr)) (fp : List Addr), PE (X.blk s H scope (compEnvC scope cl C X.env) fp) kx (lowE X.K tk))
    (he : ∀ (s : Shared) (H : Hp) (C : Addr) (cl : List (Str × Addr)) (fp : List Addr), PE (X.blk s H scope (compEnvC scope cl C X.env) fp) elt (lowE X.K te)) (hs : ∀ x, foldedSetIterable iter X.env x = pure x := by intro _; rfl) :
    PE X (.DictComp kx elt [⟨tg, iter, ifs, 0⟩] scope pos) (lowE X.K (dc3 wi g3 tt tk te (own.map (·.2)))) := (pe_dcT hu hc hN hi ok hg ht hk he hs).imp (dc_low hl)
/-- two fors -/
def dc23 (wi : TI3) (g : TG3) (tt : TT3) (wi1 : TI3) (g1 : TG3) (tt1 : TT3) (tk te : TE3) (vs vs1 : List Nat) : TE3 := fun σ G Q => wi σ G fun it G1 => ∀ L, G1 L = none → ∃ Pv : Nat → G3 → Prop, Pv 0 (gup G1 L (.dT [])) ∧ (∀ i G', i ≤ it.items.length → Pv i G' → it.ok G') ∧
  (∀ i x G', it.items[i]? = some x → Pv i G' → g x (wipe3 σ vs) G' fun σ2 G2 => tt σ2 G2 fun b Gb => if b = true then wi1 σ2 Gb fun it1 G4 => ∃ Pv1 : Nat → G3 → Prop, Pv1 0 G4 ∧ (∀ j G', j ≤ it1.items.length → Pv1 j G' → it1.ok G') ∧
    (∀ j x1 G', it1.items[j]? = some x1 → Pv1 j G' → g1 x1 (wipe3 σ2 vs1) G' fun σ3 G5 => tt1 σ3 G5 fun b1 G6 => if b1 = true then tk σ3 G6 fun y G7 => te σ3 G7 fun z G8 => ∃ kvs k, tkey y = some k ∧ G8 L = some (.dT kvs) ∧ decide (kvs.length ≤ 99999) = true ∧ Wk1 (Pv1 (j + 1)) (gup G8 L (.dT (put kvs k z))) else Wk1 (Pv1 (j + 1)) G6) ∧
    ∀ G', Pv1 it1.items.length G' → Wk1 (Pv (i + 1)) G' else Wk1 (Pv (i + 1)) Gb) ∧ ∀ G', Pv it.items.length G' → Q (.ref L) G'
theorem dc2_low {K : PySem.W.Frag} {own : List (Str × Nat)} {vs1 : List Nat} {wi wi1 : TI3} {g g1 : TG} {g3 g13 : TG3} {tt tt1 : TT3} {tk te : TE3} (hv : ∀ i ∈ vs1, i ∈ own.map (·.2)) (hl : GLow K (some (own.map (·.2))) g g3) (hl1 : GLow K (some vs1) g1 g13) : ∀ σ H Q, lowE K (dc23 wi g3 tt wi1 g13 tt1 tk te (own.map (·.2)) vs1) σ H Q → tDc2T (lowI K wi) g (lowT K tt) (lowI K wi1) g1 (lowT K tt1) (lowE K tk) (lowE K te) (own.map (·.2)) vs1 σ H Q := fun σ H Q h => by
  obtain ⟨σ3, G, Q3, hs, hh, ht, hq⟩ := h
  refine ⟨σ3, G, _, hs, hh, ht, fun J H1 it G1 k1 hh1 il q1 => ?_⟩
  intro L hL
  obtain ⟨Pv, p0, pok, pst, pdn⟩ := q1 L (hh1.free hL)
  have kL : Keep H1 (upd H1 L (.dT [])) := Keep.new hL
  have hsw : RepS K H1 (wipe3 σ3 (own.map (·.2))) (wipe σ (own.map (·.2))) := (hs.keep k1).wipe _
  refine ⟨fun i m H' => m = it.items.length - i ∧ i ≤ it.items.length ∧ ∃ G', Keep H1 H' ∧ RepH K G' H' ∧ Pv i G', ⟨_, rfl, Nat.zero_le _, _, kL, hh1.new hL (g := .dT []) ⟨[], upd_same, .nil⟩, p0⟩, ?_⟩
  rintro i m H' ⟨rfl, hi, G', kk, hh', pv⟩
  have okk := pok i G' hi pv
  by_cases hlt : i < it.items.length
  · refine .inr ⟨il.goes i G' H' hlt kk hh' okk, fun H2 => ∃ G2, Keep H1 H2 ∧ RepH K G2 H2 ∧ Pv (i + 1) G2, fun H2 q => ⟨it.items.length - (i + 1), by omega, rfl, hlt, q⟩, fun x H2 y => ?_⟩
    obtain ⟨k2, hh2, w, hw, rw⟩ := il.yields i G' H' x H2 hlt kk hh' okk y
    have kH2 := kk.trans k2
    refine hl _ _ _ _ _ _ _ _ rw (hsw.keep kH2) hh2 (pst i w G' hw pv) fun σ4 H4 σ34 G4 k4 pr hs4 hh4 q4 => ⟨?_, ?_⟩
    · have pr : wipe σ4 (own.map (·.2)) = wipe (wipe σ (own.map (·.2))) (own.map (·.2)) := pr
      rw [pr, wipe_wipe _ σ fun _ h => h]
    · refine ⟨σ34, G4, _, hs4, hh4, q4, fun b H5 b' G5 k5 hh5 eb q5 => ?_⟩
      obtain rfl : b' = b := eb
      have kH5 := (kH2.trans k4).trans k5
      cases b' with
      | false =>
        obtain ⟨G0, z, q5⟩ := q5
        exact ⟨G0, kH5, hh5.less z, q5⟩
      | true =>
        refine ⟨σ34, G5, _, hs4.keep k5, hh5, q5, fun J1 H6 it1 G6 k6 hh6 il1 q6 => ?_⟩
        obtain ⟨Pv1, r0, rok, rst, rdn⟩ := q6
        have kH6 := kH5.trans k6
        refine ⟨fun j m H' => m = it1.items.length - j ∧ j ≤ it1.items.length ∧ ∃ G', Keep H6 H' ∧ RepH K G' H' ∧ Pv1 j G', ⟨_, rfl, Nat.zero_le _, _, Keep.refl _, hh6, r0⟩, ?_⟩
        rintro j m2 H7 ⟨rfl, hj, G7, kk7, hh7, pv7⟩
        have okk1 := rok j G7 hj pv7
        by_cases hlt1 : j < it1.items.length
        · refine .inr ⟨il1.goes j G7 H7 hlt1 kk7 hh7 okk1, fun H2 => ∃ G2, Keep H6 H2 ∧ RepH K G2 H2 ∧ Pv1 (j + 1) G2, fun H2 q => ⟨it1.items.length - (j + 1), by omega, rfl, hlt1, q⟩, fun x8 H8 y8 => ?_⟩
          obtain ⟨k8, hh8, w8, hw8, rw8⟩ := il1.yields j G7 H7 x8 H8 hlt1 kk7 hh7 okk1 y8
          have k68 := kk7.trans k8
          have hsw1 : RepS K H8 (wipe3 σ34 vs1) (wipe σ4 vs1) := (hs4.keep ((k5.trans k6).trans k68)).wipe _
          refine hl1 _ _ _ _ _ _ _ _ rw8 hsw1 hh8 (rst j w8 G7 hw8 pv7) fun σ9 H9 σ39 G9 k9 pr9 hs9 hh9 q9 => ⟨?_, ?_⟩
          · have pr9 : wipe σ9 vs1 = wipe (wipe σ4 vs1) vs1 := pr9
            rw [pr9, wipe_wipe _ σ4 fun _ h => h]
          · refine ⟨σ39, G9, _, hs9, hh9, q9, fun c Ha c' Ga ka hha ec qa => ?_⟩
            obtain rfl : c' = c := ec
            have k6a := (k68.trans k9).trans ka
            cases c' with
            | false =>
              obtain ⟨G0, z, qa⟩ := qa
              exact ⟨G0, k6a, hha.less z, qa⟩
            | true =>
              refine ⟨σ39, Ga, _, hs9.keep ka, hha, qa, fun vb Hb wb Gb kb hhb rb qb => ?_⟩
              refine ⟨σ39, Gb, _, hs9.keep (ka.trans kb), hhb, qb, fun vc Hc wc Gc kc hhc rc qc => ?_⟩
              obtain ⟨kvs, k, hk, ha, hz, G0, z, pv'⟩ := qc
              obtain ⟨us, q0, e1, e2, e3, e4, e5, e6⟩ := dput_low hhc (rb.keep kc) rc hk ha hz
              exact ⟨us, k, q0, e1, e2, e3, e4, G0, ((k6a.trans kb).trans kc).trans e5, e6.less z, pv'⟩
        · have e : j = it1.items.length := by omega
          subst e
          obtain ⟨G0, z, pv0⟩ := rdn _ pv7
          exact .inl ⟨il1.stops G7 H7 kk7 hh7 okk1, G0, kH6.trans kk7, hh7.less z, pv0⟩
  · have e : i = it.items.length := by omega
    subst e
    exact .inl ⟨il.stops G' H' kk hh' okk, hq _ _ _ _ (k1.trans kk) hh' (.ref _) (pdn _ pv)⟩
theorem e3dc2 {kx elt tg iter tg1 iter1 : Expr} {ifs ifs1 : List Expr} {scope : Scope} {own : List (Str × Nat)} {vs1 : List Nat} {wi wi1 : TI3} {g g1 : TG} {g3 g13 : TG3} {tt tt1 : TT3} {tk : TE3} (hu : X.A.units + 1 < cLine) (hc : X.calm = true) (hN : X.N.Nodup) (hi : PI X tg iter (lowI X.K wi)) (ok : BlkOk X.N X.env.scope scope own) (hv : ∀ i ∈ vs1, i ∈ own.map (·.2))
    (hl : GLow X.K (some (own.map (·.2))) g g3) (hl1 : GLow X.K (some vs1) g1 g13)
    (hg : ∀ (s : Shared) (H : Hp) (C : Addr) (cl : List (Str × Addr)) (fp : List Addr), PG (X.blk s H scope (compEnvC scope cl C X.env) fp) tg g) (ht : ∀ (s : Shared) (H : Hp) (C : Addr) (cl : List (Str × Addr)) (fp : List Addr), PTs (X.blk s H scope (compEnvC scope cl C X.env) fp) ifs (lowT X.K tt))
    (hi1 : ∀ (s : Shared) (H : Hp) (C : Addr) (cl : List (Str × Addr)) (fp : List Addr), PI (X.blk s H scope (compEnvC scope cl C X.env) fp) tg1 iter1 (lowI X.K wi1))
    (hg1 : ∀ (s : Shared) (H : Hp) (C : Addr) (cl : List (Str × Addr)) (fp : List Addr), PG (X.blk s H scope (compEnvC scope cl C X.env) fp) tg1 g1) (ht1 : ∀ (s : Shared) (H : Hp) (C : Addr) (cl : List (Str × Addr)) (fp : List Addr), PTs (X.blk s H scope (compEnvC scope cl C X.env) fp) ifs1 (lowT X.K tt1))
    (hk : ∀ (s : Shared) (H : Hp) (C : Addr) (cl : List (Str × Addr)) (fp : List Addr), PE (X.blk s H scope (compEnvC scope cl C X.env) fp) kx (lowE X.K tk))
    (he : ∀ (s : Shared) (H : Hp) (C : Addr) (cl : List (Str × Addr)) (fp : List Addr), PE (X.blk s H scope (compEnvC scope cl C X.env) fp) elt (lowE X.K te)) (hs : ∀ x, foldedSetIterable iter X.env x = pure x := by intro _; rfl) (hs1 : ∀ env x, foldedSetIterable iter1 env x = pure x := by intro _ _; rfl) :
    PE X (.DictComp kx elt [⟨tg, iter, ifs, 0⟩, ⟨tg1, iter1, ifs1, 0⟩] scope pos) (lowE X.K (dc23 wi g3 tt wi1 g13 tt1 tk te (own.map (·.2)) vs1)) := (pe_dc2T hu hc hN hi ok hv hg ht hi1 hg1 ht1 hk he hs hs1).imp (dc2_low hv hl hl1)
end
end L3
end
section
set_option Elab.async false
set_option linter.all false
set_option maxRecDepth 100000
set_option maxHeartbeats 2000000
namespace L3
open PySem L2
theorem ifT {c : Bool} {A B : Prop} (hc : c = true) (h : A) : if c = true then A else B := by rw [if_pos hc]; exact h
theorem ifF {c : Bool} {A B : Prop} (hc : c = false) (h : B) : if c = true then A else B := by rw [hc, if_neg Bool.false_ne_true]; exact h
theorem dat_int (i : Int) : dat (.int i) = true := by simp [dat, noref, pd, SeqAt.shaped, PyData.canLay0, PyData.depth]
theorem dat_non : dat .non = true := by simp [dat, noref, pd, SeqAt.shaped, PyData.canLay0, PyData.depth]
theorem eq3_int (i j : Int) : eq3 (.int i) (.int j) = (i == j) := rfl
/-- for, with the word of its turns -/
def forK (g : TG3) (tb : TS3) (D : En3) (σ : S3) (it : It3) (G1 : G3) : Prop := ∃ Pv : Nat → S3 → G3 → Prop, Pv 0 σ G1 ∧ (∀ i σ' G', i ≤ it.items.length → Pv i σ' G' → it.ok G') ∧
  (∀ i x σ' G', it.items[i]? = some x → Pv i σ' G' → g x σ' G' fun σ2 G2 => tb { D with nx := Wk2 (Pv (i + 1)), ct := Wk2 (Pv (i + 1)), bk := Wk2 D.nx } σ2 G2) ∧ ∀ σ' G', Pv it.items.length σ' G' → D.nx σ' G'
theorem for_of {wi : TI3} {g : TG3} {tb : TS3} {D : En3} {σ : S3} {G : G3} (h : wi σ G (forK g tb D σ)) : for3 wi g tb D σ G := h
theorem forK_of {g : TG3} {tb : TS3} {D : En3} {σ : S3} {xs : List U} {ok : G3 → Prop} {G1 : G3} (n : Nat) (hn : xs.length = n) (Pv : Nat → S3 → G3 → Prop) (h0 : Pv 0 σ G1) (hok : ∀ i σ' G', i ≤ n → Pv i σ' G' → ok G')
    (hs : ∀ i x σ' G', i < n → xs[i]? = some x → Pv i σ' G' → g x σ' G' fun σ2 G2 => tb { D with nx := Wk2 (Pv (i + 1)), ct := Wk2 (Pv (i + 1)), bk := Wk2 D.nx } σ2 G2) (hd : ∀ σ' G', Pv n σ' G' → D.nx σ' G') : forK g tb D σ ⟨xs, ok⟩ G1 := by
  subst hn
  exact ⟨Pv, h0, hok, fun i x σ' G' hx hp => hs i x σ' G' (List.getElem?_eq_some_iff.mp hx).1 hx hp, hd⟩
theorem Wk2.of {P : S3 → G3 → Prop} {σ : S3} {G : G3} (h : P σ G) : Wk2 P σ G := ⟨σ, G, SubS.refl σ, Sub.refl G, h⟩
theorem Wk2.sub {P : S3 → G3 → Prop} {σ : S3} {G G' : G3} (h : P σ G) (s : Sub G G') : Wk2 P σ G' := ⟨σ, G, SubS.refl σ, s, h⟩
theorem Wk.of {Q : U → G3 → Prop} {v : U} {G : G3} (h : Q v G) : Wk Q v G := ⟨G, Sub.refl G, h⟩
theorem Wk.sub {Q : U → G3 → Prop} {v : U} {G G' : G3} (h : Q v G) (s : Sub G G') : Wk Q v G' := ⟨G, s, h⟩
/-- a comprehension, with the word of its turns -/
def lcK (g : TG3) (tt : TT3) (te : TE3) (vs : List Nat) (σ : S3) (Q : K3) (it : It3) (G1 : G3) : Prop := ∀ L, G1 L = none → ∃ Pv : Nat → G3 → Prop, Pv 0 (gup G1 L (.lst [])) ∧ (∀ i G', i ≤ it.items.length → Pv i G' → it.ok G') ∧
  (∀ i x G', it.items[i]? = some x → Pv i G' → g x (wipe3 σ vs) G' fun σ2 G2 => tt σ2 G2 fun b G3 => if b = true then te σ2 G3 fun y G4 => ∃ acc, G4 L = some (.lst acc) ∧ decide (acc.length ≤ 99999) = true ∧ Wk1 (Pv (i + 1)) (gup G4 L (.lst (acc ++ [y]))) else Wk1 (Pv (i + 1)) G3) ∧ ∀ G', Pv it.items.length G' → Q (.ref L) G'
theorem lc_of {wi : TI3} {g : TG3} {tt : TT3} {te : TE3} {vs : List Nat} {σ : S3} {G : G3} {Q : K3} (h : wi σ G (lcK g tt te vs σ Q)) : lc3 wi g tt te vs σ G Q := h
/-- a comprehension over told data whose test and element change nothing -/
theorem lcK_of {α β : Type} {g : TG3} {tt : TT3} {te : TE3} {vs : List Nat} {σ : S3} {Q : K3} {ok : G3 → Prop} {G1 : G3} (xs : List α) (u : α → U) (f : α → Bool) (v : α → β) (u2 : β → U) (hok : ∀ G', Sub G1 G' → ok G') (hz : xs.length ≤ 99999)
    (hs : ∀ (x : α), x ∈ xs → ∀ (G : G3), Sub G1 G → ∀ (Y : U → G3 → Prop) (N : G3 → Prop), (f x = true → ∀ G4, Sub G G4 → Y (u2 (v x)) G4) → (f x = false → ∀ G4, Sub G G4 → N G4) →
      g (u x) (wipe3 σ vs) G fun σ2 G2 => tt σ2 G2 fun b G3 => if b = true then te σ2 G3 Y else N G3)
    (hq : ∀ L, G1 L = none → Q (.ref L) (gup G1 L (.lst (((xs.filter f).map v).map u2)))) : lcK g tt te vs σ Q ⟨xs.map u, ok⟩ G1 := by
  intro L hL
  refine ⟨fun i G' => G' = gup G1 L (.lst ((((xs.take i).filter f).map v).map u2)), rfl, fun i G' _ e => ?_, fun i x G' hx e => ?_, fun G' e => ?_⟩
  · subst e
    exact hok _ ((Sub.refl G1).new hL)
  · subst e
    have hx : (xs.map u)[i]? = some x := hx
    rw [List.getElem?_map] at hx
    cases ex : xs[i]? with
    | none => rw [ex] at hx; cases hx
    | some x0 =>
      rw [ex] at hx
      cases hx
      have hi : i < xs.length := (List.getElem?_eq_some_iff.mp ex).1
      have et : xs.take (i + 1) = xs.take i ++ [x0] := by rw [List.take_succ, ex]; rfl
      have hln : ((((xs.take i).filter f).map v).map u2).length ≤ 99999 := by
        rw [List.length_map, List.length_map]
        have := List.length_filter_le f (xs.take i)
        have := List.length_take_le i xs
        omega
      refine hs x0 (List.mem_of_getElem? ex) _ ((Sub.refl G1).new hL) _ _ (fun h G4 z => ⟨_, z L _ gup_same, decide_eq_true hln, _, ?_, rfl⟩) fun h G4 z => ⟨_, z, ?_⟩
      · rw [et, List.filter_append, List.map_append, List.map_append, List.filter_cons, if_pos h]
        have := Sub.up z (p := L) (o := .lst ((((xs.take i).filter f).map v).map u2 ++ [u2 (v x0)]))
        rw [gup_gup] at this
        exact this
      · show _ = gup G1 L (.lst ((((xs.take (i + 1)).filter f).map v).map u2))
        rw [et, List.filter_append, List.map_append, List.map_append, List.filter_cons, if_neg (by rw [h]; decide)]
        simp
  · subst e
    have e2 : xs.take (It3.mk (xs.map u) ok).items.length = xs := by
      show xs.take (xs.map u).length = xs
      rw [List.length_map, List.take_length]
    rw [e2]
    exact hq L hL
end L3
end
section
set_option Elab.async false
set_option linter.all false
set_option maxRecDepth 100000
set_option maxHeartbeats 2000000
/-! a dict display with one pair whose key is a tuple; tuple + tuple; xs.index(y); tuple(range(n)) -/
namespace L2
open PySem PySem.Spec PyProof.Rows
def tDisp1T (tk tv : TE) : TE := fun σ H Q => ∀ p, H p = none → tk σ (upd H p (.dT [])) fun x H1 => tv σ H1 fun y H2 => H2 p = some (.dT []) ∧ ∃ (k : List Key) (b : Addr), x = .ref b ∧ H2 b = some (.tup (k.map kV)) ∧ Q (.ref p) (upd H2 p (.dT (putK [] k y)))
theorem pe_disp1T {X : Cx} {pos : Pos} {k v : Expr} {tk tv : TE} (hu : X.A.units + 1 < cLine) (hk : PE X k tk) (hv : PE X v tv) : PE X (.Dict [some k] [v] pos) (tDisp1T tk tv) := by
  refine ⟨fun pins s σ H Q I q => ?_⟩
  have hn := I.hok.fresh (Nat.le_refl s.heap.objs.size)
  have I1 := I.laid (a := s.heap.objs.size) (o := .dT []) (h' := s.heap.push { cls := .type "dict", data := .dict #[] }) (t' := s.toks) (fun _ _ q => Heap.get?_push_of_some _ q) (Nat.le_refl _) (dt_empty s.heap I.big)
  have P1 : PPs X pos [some k] [v] [(tk, tv)] := pps_cons hk hv pps_nil
  refine wpAny_Dict_any rfl rfl (by intro h; cases h) (show 1 ≤ 15 by decide) (thn (P1.run pins _ σ _ (fun ps H2 => match ps with
    | [(x, y)] => H2 s.heap.objs.size = some (.dT []) ∧ ∃ (k : List Key) (b : Addr), x = .ref b ∧ H2 b = some (.tup (k.map kV)) ∧ Q (.ref s.heap.objs.size) (upd H2 s.heap.objs.size (.dT (putK [] k y)))
    | _ => False) I1 (q _ hn)) fun ws s2 hh => ?_)
  obtain ⟨ps, H2, I2, rel, h2⟩ := hh
  split at h2
  · rename_i x y
    obtain ⟨e, kk, b, ex, eb, q2⟩ := h2
    subst ex
    cases rel with
    | cons r1 r2 =>
      cases r2
      rename_i p
      obtain ⟨u, r⟩ := p
      unfold storeAll
      rw [List.forIn_cons]
      exact wpAny_bind (wpAny_bind (d_dictSetT hu I2 e eb (by decide) r1.1 r1.2 fun s3 I3 => wpAny_pure (wpAny_pure ⟨.ref s.heap.objs.size, _, I3, rfl, q2⟩)))
  · exact h2.elim
end L2
namespace L3
open PySem L2
section
variable {X : Cx} {a b c e : Expr} {pos : Pos} {ta tb tc te : TE3} {tA tB' : TT3}
def disp13 (tk tv : TE3) : TE3 := fun σ G Q => ∀ p, G p = none → tk σ (gup G p (.dT [])) fun x G1 => tv σ G1 fun y G2 => G2 p = some (.dT []) ∧ ∃ k, tkey x = some k ∧ Q (.ref p) (gup G2 p (.dT [(k, y)]))
theorem e3disp1 {k v : Expr} {tk tv : TE3} (hu : X.A.units + 1 < cLine) (hk : PE X k (lowE X.K tk)) (hv : PE X v (lowE X.K tv)) : PE X (.Dict [some k] [v] pos) (lowE X.K (disp13 tk tv)) := (pe_disp1T hu hk hv).imp fun σ H Q h => by
  obtain ⟨σ3, G, Q3, hs, hh, ht, hq⟩ := h
  intro p hp
  have kp : Keep H (upd H p (.dT [])) := Keep.new hp
  refine ⟨σ3, _, _, hs.keep kp, hh.new hp (g := .dT []) ⟨[], upd_same, .nil⟩, ht p (hh.free hp), fun x H1 w1 G1 k1 hh1 r1 q1 => ?_⟩
  refine ⟨σ3, G1, _, hs.keep (kp.trans k1), hh1, q1, fun y H2 w2 G2 k2 hh2 r2 q2 => ?_⟩
  obtain ⟨hg, kk, hkk, q2⟩ := q2
  obtain ⟨vs, q, e3, e4, e5, hl, k3, hh3⟩ := dput_low hh2 (r1.keep k2) r2 hkk hg (by decide)
  obtain ⟨vs2, e6, rk⟩ := hh2 _ _ hg
  cases rk
  rw [e6] at e5
  cases e5
  exact ⟨e6, kk, q, e3, e4, hq _ _ _ _ ((kp.trans (k1.trans k2)).trans k3) hh3 (.ref _) q2⟩
/-- t + u of tuples -/
def rCatA3 : R3 := fun x y G Q => match x, y with
  | .tup xs, .tup ys => decide (xs.length + ys.length ≤ 100000) = true ∧ Q (.tup (xs ++ ys)) G
  | _, _ => False
theorem o_catA : OpR X (binaryOp .Add) (lowR X.K rCatA3) := OpR.imp op_catA fun x y H Q q => by
  obtain ⟨a, b, G, Q3, ra, rb, hh, q, p⟩ := q
  unfold rCatA3 at q
  split at q
  · obtain ⟨hz, q⟩ := q
    cases id ra with
    | tup h1 r1 =>
      cases id rb with
      | tup h2 r2 =>
        refine ⟨_, _, _, _, rfl, rfl, SqT.of h1, SqT.of h2, by rw [← r1.length, ← r2.length]; exact sz hz, fun e => ?_, fun e e2 => ?_, fun e e2 l hl => ?_⟩
        · subst e
          cases r1
          exact p.here hh rb q
        · subst e2
          cases r2
          rw [List.append_nil] at q
          exact p.here hh ra q
        · exact p _ _ _ _ (Keep.new hl) (hh.skip hl) (.tup upd_same ((r1.append r2).keep (Keep.new hl))) q
  · exact q.elim
/-- xs.index(y) -/
def mIndex (l : Addr) : List U → G3 → K3 → Prop := fun ws G Q => match ws with
  | [y] => ∃ xs j z, G l = some (.lst xs) ∧ dat (.lit xs) = true ∧ dat y = true ∧ xs[j]? = some z ∧ eq3 z y = true ∧ (∀ (m : Nat) z', m < j → xs[m]? = some z' → eq3 z' y = false) ∧ Q (.int (j : Nat)) G
  | _ => False
theorem pdL_get {xs : List U} {j : Nat} : (pdL xs)[j]? = (xs[j]?).map pd := by rw [pdL_map, List.getElem?_map]
theorem m_index (hu : X.A.units + 65 < cLine) : MtR X "list.index" (lowM X.K mIndex) := MtR.imp (mt_indexD hu) fun x vs H Q h => by
  obtain ⟨l, ws, G, Q3, rfl, r, hh, q, p⟩ := h
  unfold mIndex at q
  split at q
  · obtain ⟨v, rfl, r0⟩ := r.one
    obtain ⟨xs, j, z, hg, d1, d2, hz, he, hm, q⟩ := q
    unfold dat at d1 d2
    rw [Bool.and_eq_true] at d1 d2
    refine ⟨l, v, _, pdL xs, j, pd z, rfl, rfl, list_dp hh hg d1.1, r0.dp d2.1, d1.2, d2.2, by rw [pdL_get, hz]; rfl, he, fun m z' hmj hz' => ?_, p.here hh (.int _) q⟩
    rw [pdL_get] at hz'
    cases e : xs[m]? with
    | none => rw [e] at hz'; cases hz'
    | some z2 => rw [e] at hz'; cases hz'; exact hm m z2 hmj e
  · exact q.elim
/-- tuple(range(n)) -/
def tupRg3 (ta : TE3) : TE3 := fun σ G Q => ta σ G fun x G1 => match x with
  | .int n => decide (0 ≤ n ∧ n ≤ 100000) = true ∧ Q (.tup ((List.range n.toNat).map fun i => U.int (i : Nat))) G1
  | _ => False
theorem e3tupRg {p p2 pos2 : Pos} (hc : X.calm = true) (hm : X.mg "tuple" = none) (hm2 : X.mg "range" = none) (ha : PE X a (lowE X.K ta)) (hg : Gl X "tuple" := by rfl) (hg2 : Gl X "range" := by rfl) (na : starEach [a] X.env = (false, eval a X.env) :: starEach [] X.env := by rfl)
    (nb : starEach [.Call (.Name "range" p2) [a] [] pos2] X.env = (false, eval (.Call (.Name "range" p2) [a] [] pos2) X.env) :: starEach [] X.env := by rfl) : PE X (.Call (.Name "tuple" p) [.Call (.Name "range" p2) [a] [] pos2] [] pos) (lowE X.K (tupRg3 ta)) :=
  (pe_tupRg hc hg hm (prg_1 hg2 hm2 ha na) nb).imp fun σ H Q h => by
  obtain ⟨σ3, G, Q3, hs, hh, ht, hq⟩ := h
  refine ⟨σ3, G, _, hs, hh, ht, fun x H1 w G1 k1 hh1 r q1 => ?_⟩
  split at q1
  · cases r
    rename_i n
    have hd := of_decide_eq_true q1.1
    refine ⟨n, rfl, RgOk.of_le (Int.le_refl 0) (by omega) (by omega) hd.1, fun q hq2 => hq _ _ _ _ (k1.trans (Keep.new hq2)) (hh1.skip hq2) (.tup upd_same ?_) q1.2⟩
    unfold rgV
    have e0 : (n - 0).toNat = n.toNat := by rw [Int.sub_zero]
    rw [e0]
    have e1 : (fun i : Nat => V.int (0 + (i : Nat))) = fun i : Nat => V.int ((i : Nat) : Int) := by funext i; rw [Int.zero_add]
    rw [e1]
    exact repL_rg (fun i => ((i : Nat) : Int)) _
  · exact q1.elim
end
end L3
end
section
set_option Elab.async false
set_option linter.all false
set_option maxRecDepth 100000
set_option maxHeartbeats 2000000
namespace L2
open PySem PySem.Spec PyProof.Rows
section
variable {X : Cx}
theorem sw_trueD {kx elt : Expr} {gs : List Comprehension} {scope : Scope} {pos py : Pos} {y : Str} {l : Nat} {env : Env} (hk : env.scope.kind = .function) (hy : env.scope.names.lookup y = some .local) (hl : (py.line == pos.line) = true)
    (ha : (scope.names.any fun (n, k) => n == y && (k == .local || k == .cell)) = false) : swapsWith (.DictComp kx elt gs scope pos) (some (.Name y py)) l env = pure true := by
  have ky : env.kindOf y = some .local := hy
  have hb : env.blockKind = .function := by unfold Env.blockKind; rw [hk]; rfl
  unfold swapsWith
  simp only [hb, ky, ha, Expr.pos, hl]
  rfl
theorem ps_setDcT {i : Nat} {y : Str} {py : Pos} {kx elt tg iter : Expr} {ifs : List Expr} {scope : Scope} {own : List (Str × Nat)} {pos spos : Pos} {wi : TI} {g : TG} {tt : TT} {tk te : TE} (hu : X.A.units + 1 < cLine) (hc : X.calm = true) (hN : X.N.Nodup) (hy : X.N[i]? = some y) (hyl : X.env.scope.names.lookup y = some .local)
    (hsw : swapsWith (.DictComp kx elt [⟨tg, iter, ifs, 0⟩] scope pos) (some (.Name y py)) spos.line X.env = pure true) (hi : PI X tg iter wi) (ok : BlkOk X.N X.env.scope scope own) 
    (hg : ∀ (s : Shared) (H : Hp) (C : Addr) (cl : List (Str × Addr)) (fp : List Addr), PG (X.blk s H scope (compEnvC scope cl C X.env) fp) tg g) (ht : ∀ (s : Shared) (H : Hp) (C : Addr) (cl : List (Str × Addr)) (fp : List Addr), PTs (X.blk s H scope (compEnvC scope cl C X.env) fp) ifs tt)
    (hk : ∀ (s : Shared) (H : Hp) (C : Addr) (cl : List (Str × Addr)) (fp : List Addr), PE (X.blk s H scope (compEnvC scope cl C X.env) fp) kx tk)
    (he : ∀ (s : Shared) (H : Hp) (C : Addr) (cl : List (Str × Addr)) (fp : List Addr), PE (X.blk s H scope (compEnvC scope cl C X.env) fp) elt te) (hs : ∀ x, foldedSetIterable iter X.env x = pure x := by intro _; rfl) :
    PS X (.Assign [.Name y py] (.DictComp kx elt [⟨tg, iter, ifs, 0⟩] scope pos) spos) (tAsg (tDcT wi g tt tk te (own.map (·.2))) (gName i)) := by
  refine ⟨fun pins s σ H D I h => ?_⟩
  rw [exec_Assign_Name_used _ _ _ _ hsw]
  refine wpAny_bind (wpAny_standAt (wpAny_bind ?_))
  show wpAny _ X.A (do let _ ← comprehension (.DictComp kx elt [⟨tg, iter, ifs, 0⟩] scope pos) scope X.env (firstIterPos [⟨tg, iter, ifs, 0⟩] pos) newDict false (eval iter X.env) (some (assign (.Name y py) X.env))) _ _ s
  have h : tDcT wi g tt tk te (own.map (·.2)) σ H (fun x H1 => gName i x σ H1 D.nx) := h
  refine wpAny_bind (thn (dcT_core (Qf := fun _ s' => SP X pins D .next s') hu hc hN I hi ok hg ht hk he hs h fun L C s' m H' I' q hn f => ?_) fun _ s' hq => wpAny_pure (wpAny_pure hq))
  show wpAny _ _ (assign (.Name y py) X.env (.ref L)) _ _ _
  refine wpAny_assign_Name (store_ok2 (v := V.ref L) I' hN hy (.inl hyl) rfl (fun s2 I2 ⟨a, sb, ha⟩ => ?_) (.inr hyl))
  obtain ⟨f0, f1, f2, f3, f4, f5⟩ := f
  have haC : C ≠ a := by
    rcases ha with z | z
    · rw [z]; exact f1
    · exact fun e => f4 y a z e.symm
  refine ⟨m, hn.sameBut sb haC, fun h3 sb3 => ?_⟩
  exact ⟨_, H', I2.turned (t' := s2.toks) (fun b o hb e => (sb3.2 b hb).trans e) f0 f1 f3 f4 f5, q⟩
theorem ps_setDc2T {i : Nat} {y : Str} {py : Pos} {kx elt tg iter tg1 iter1 : Expr} {ifs ifs1 : List Expr} {scope : Scope} {own : List (Str × Nat)} {vs1 : List Nat} {pos spos : Pos} {wi wi1 : TI} {g g1 : TG} {tt tt1 : TT} {tk te : TE} (hu : X.A.units + 1 < cLine) (hc : X.calm = true) (hN : X.N.Nodup) (hy : X.N[i]? = some y) (hyl : X.env.scope.names.lookup y = some .local)
    (hsw : swapsWith (.DictComp kx elt [⟨tg, iter, ifs, 0⟩, ⟨tg1, iter1, ifs1, 0⟩] scope pos) (some (.Name y py)) spos.line X.env = pure true) (hi : PI X tg iter wi) (ok : BlkOk X.N X.env.scope scope own) (hv : ∀ i ∈ vs1, i ∈ own.map (·.2)) 
    (hg : ∀ (s : Shared) (H : Hp) (C : Addr) (cl : List (Str × Addr)) (fp : List Addr), PG (X.blk s H scope (compEnvC scope cl C X.env) fp) tg g) (ht : ∀ (s : Shared) (H : Hp) (C : Addr) (cl : List (Str × Addr)) (fp : List Addr), PTs (X.blk s H scope (compEnvC scope cl C X.env) fp) ifs tt)
    (hi1 : ∀ (s : Shared) (H : Hp) (C : Addr) (cl : List (Str × Addr)) (fp : List Addr), PI (X.blk s H scope (compEnvC scope cl C X.env) fp) tg1 iter1 wi1)
    (hg1 : ∀ (s : Shared) (H : Hp) (C : Addr) (cl : List (Str × Addr)) (fp : List Addr), PG (X.blk s H scope (compEnvC scope cl C X.env) fp) tg1 g1) (ht1 : ∀ (s : Shared) (H : Hp) (C : Addr) (cl : List (Str × Addr)) (fp : List Addr), PTs (X.blk s H scope (compEnvC scope cl C X.env) fp) ifs1 tt1)
    (hk : ∀ (s : Shared) (H : Hp) (C : Addr) (cl : List (Str × Addr)) (fp : List Addr), PE (X.blk s H scope (compEnvC scope cl C X.env) fp) kx tk)
    (he : ∀ (s : Shared) (H : Hp) (C : Addr) (cl : List (Str × Addr)) (fp : List Addr), PE (X.blk s H scope (compEnvC scope cl C X.env) fp) elt te) (hs : ∀ x, foldedSetIterable iter X.env x = pure x := by intro _; rfl) (hs1 : ∀ env x, foldedSetIterable iter1 env x = pure x := by intro _ _; rfl) :
    PS X (.Assign [.Name y py] (.DictComp kx elt [⟨tg, iter, ifs, 0⟩, ⟨tg1, iter1, ifs1, 0⟩] scope pos) spos) (tAsg (tDc2T wi g tt wi1 g1 tt1 tk te (own.map (·.2)) vs1) (gName i)) := by
  refine ⟨fun pins s σ H D I h => ?_⟩
  rw [exec_Assign_Name_used _ _ _ _ hsw]
  refine wpAny_bind (wpAny_standAt (wpAny_bind ?_))
  show wpAny _ X.A (do let _ ← comprehension (.DictComp kx elt [⟨tg, iter, ifs, 0⟩, ⟨tg1, iter1, ifs1, 0⟩] scope pos) scope X.env (firstIterPos [⟨tg, iter, ifs, 0⟩, ⟨tg1, iter1, ifs1, 0⟩] pos) newDict false (eval iter X.env) (some (assign (.Name y py) X.env))) _ _ s
  have h : tDc2T wi g tt wi1 g1 tt1 tk te (own.map (·.2)) vs1 σ H (fun x H1 => gName i x σ H1 D.nx) := h
  refine wpAny_bind (thn (dc2T_core (Qf := fun _ s' => SP X pins D .next s') hu hc hN I hi ok hv hg ht hk he hs hi1 hg1 ht1 hs1 h fun L C s' m H' I' q hn f => ?_) fun _ s' hq => wpAny_pure (wpAny_pure hq))
  show wpAny _ _ (assign (.Name y py) X.env (.ref L)) _ _ _
  refine wpAny_assign_Name (store_ok2 (v := V.ref L) I' hN hy (.inl hyl) rfl (fun s2 I2 ⟨a, sb, ha⟩ => ?_) (.inr hyl))
  obtain ⟨f0, f1, f2, f3, f4, f5⟩ := f
  have haC : C ≠ a := by
    rcases ha with z | z
    · rw [z]; exact f1
    · exact fun e => f4 y a z e.symm
  refine ⟨m, hn.sameBut sb haC, fun h3 sb3 => ?_⟩
  exact ⟨_, H', I2.turned (t' := s2.toks) (fun b o hb e => (sb3.2 b hb).trans e) f0 f1 f3 f4 f5, q⟩
end
end L2
namespace L3
open PySem L2
section
variable {X : Cx}
theorem s_setDc {i : Nat} {y : Str} {py : Pos} {kx elt tg iter : Expr} {ifs : List Expr} {scope : Scope} {own : List (Str × Nat)} {pos spos : Pos} {W : WX} {wi : TI3} {g : TG} {g3 : TG3} {tt : TT3} {tk te : TE3} (hu : X.A.units + 1 < cLine) (hc : X.calm = true) (hN : X.N.Nodup) (hyl : X.env.scope.names.lookup y = some .local)
    (hsw : swapsWith (.DictComp kx elt [⟨tg, iter, ifs, 0⟩] scope pos) (some (.Name y py)) spos.line X.env = pure true) (hi : PI X tg iter (lowI X.K wi)) (ok : BlkOk X.N X.env.scope scope own) (hl : GLow X.K (some (own.map (·.2))) g g3) 
    (hg : ∀ (s : Shared) (H : Hp) (C : Addr) (cl : List (Str × Addr)) (fp : List Addr), PG (X.blk s H scope (compEnvC scope cl C X.env) fp) tg g) (ht : ∀ (s : Shared) (H : Hp) (C : Addr) (cl : List (Str × Addr)) (fp : List Addr), PTs (X.blk s H scope (compEnvC scope cl C X.env) fp) ifs (lowT X.K tt))
    (hk : ∀ (s : Shared) (H : Hp) (C : Addr) (cl : List (Str × Addr)) (fp : List Addr), PE (X.blk s H scope (compEnvC scope cl C X.env) fp) kx (lowE X.K tk))
    (he : ∀ (s : Shared) (H : Hp) (C : Addr) (cl : List (Str × Addr)) (fp : List Addr), PE (X.blk s H scope (compEnvC scope cl C X.env) fp) elt (lowE X.K te)) (hy : X.N[i]? = some y := by rfl) (hs : ∀ x, foldedSetIterable iter X.env x = pure x := by intro _; rfl) :
    PS X (.Assign [.Name y py] (.DictComp kx elt [⟨tg, iter, ifs, 0⟩] scope pos) spos) (lowS X.K W (asg3 (dc3 wi g3 tt tk te (own.map (·.2))) (n3 i))) := (ps_setDcT hu hc hN hy hyl hsw hi ok hg ht hk he hs).imp fun D σ H h => by
  obtain ⟨σ3, G, D3, hs, hh, ht, hle⟩ := h
  exact dc_low hl σ H _ ⟨σ3, G, _, hs, hh, ht, fun v H1 w G1 k1 hh1 r q1 => hle.nx _ _ _ _ k1 ((hs.keep k1).set i r) hh1 q1⟩
theorem s_setDc2 {i : Nat} {y : Str} {py : Pos} {kx elt tg iter tg1 iter1 : Expr} {ifs ifs1 : List Expr} {scope : Scope} {own : List (Str × Nat)} {vs1 : List Nat} {pos spos : Pos} {W : WX} {wi wi1 : TI3} {g g1 : TG} {g3 g13 : TG3} {tt tt1 : TT3} {tk te : TE3} (hu : X.A.units + 1 < cLine) (hc : X.calm = true) (hN : X.N.Nodup) (hyl : X.env.scope.names.lookup y = some .local)
    (hsw : swapsWith (.DictComp kx elt [⟨tg, iter, ifs, 0⟩, ⟨tg1, iter1, ifs1, 0⟩] scope pos) (some (.Name y py)) spos.line X.env = pure true) (hi : PI X tg iter (lowI X.K wi)) (ok : BlkOk X.N X.env.scope scope own) (hv : ∀ i ∈ vs1, i ∈ own.map (·.2)) (hl : GLow X.K (some (own.map (·.2))) g g3) (hl1 : GLow X.K (some vs1) g1 g13) 
    (hg : ∀ (s : Shared) (H : Hp) (C : Addr) (cl : List (Str × Addr)) (fp : List Addr), PG (X.blk s H scope (compEnvC scope cl C X.env) fp) tg g) (ht : ∀ (s : Shared) (H : Hp) (C : Addr) (cl : List (Str × Addr)) (fp : List Addr), PTs (X.blk s H scope (compEnvC scope cl C X.env) fp) ifs (lowT X.K tt))
    (hi1 : ∀ (s : Shared) (H : Hp) (C : Addr) (cl : List (Str × Addr)) (fp : List Addr), PI (X.blk s H scope (compEnvC scope cl C X.env) fp) tg1 iter1 (lowI X.K wi1))
    (hg1 : ∀ (s : Shared) (H : Hp) (C : Addr) (cl : List (Str × Addr)) (fp : List Addr), PG (X.blk s H scope (compEnvC scope cl C X.env) fp) tg1 g1) (ht1 : ∀ (s : Shared) (H : Hp) (C : Addr) (cl : List (Str × Addr)) (fp : List Addr), PTs (X.blk s H scope (compEnvC scope cl C X.env) fp) ifs1 (lowT X.K tt1))
    (hk : ∀ (s : Shared) (H : Hp) (C : Addr) (cl : List (Str × Addr)) (fp : List Addr), PE (X.blk s H scope (compEnvC scope cl C X.env) fp) kx (lowE X.K tk))
    (he : ∀ (s : Shared) (H : Hp) (C : Addr) (cl : List (Str × Addr)) (fp : List Addr), PE (X.blk s H scope (compEnvC scope cl C X.env) fp) elt (lowE X.K te)) (hy : X.N[i]? = some y := by rfl) (hs : ∀ x, foldedSetIterable iter X.env x = pure x := by intro _; rfl) (hs1 : ∀ env x, foldedSetIterable iter1 env x = pure x := by intro _ _; rfl) :
    PS X (.Assign [.Name y py] (.DictComp kx elt [⟨tg, iter, ifs, 0⟩, ⟨tg1, iter1, ifs1, 0⟩] scope pos) spos) (lowS X.K W (asg3 (dc23 wi g3 tt wi1 g13 tt1 tk te (own.map (·.2)) vs1) (n3 i))) := (ps_setDc2T hu hc hN hy hyl hsw hi ok hv hg ht hi1 hg1 ht1 hk he hs hs1).imp fun D σ H h => by
  obtain ⟨σ3, G, D3, hs, hh, ht, hle⟩ := h
  exact dc2_low hv hl hl1 σ H _ ⟨σ3, G, _, hs, hh, ht, fun v H1 w G1 k1 hh1 r q1 => hle.nx _ _ _ _ k1 ((hs.keep k1).set i r) hh1 q1⟩
end
end L3
end
section
set_option Elab.async false
set_option linter.all false
set_option maxRecDepth 100000
set_option maxHeartbeats 2000000
/-! the words of law k39: the text by places, places and moves as values -/
namespace K39
open PySem L2 L3
def topS (i : Nat) : Stmt := PySem.Challenge.pw_liveplaces_k40_moves_fewest_spare_exactl.main.body.getD i (.Pass ⟨0, 0, 0, 0⟩)
/-- no built-in name is written over -/
structure Tg (mg : Str → Option Value) : Prop where
  len : mg "len" = none
  list : mg "list" = none
  tuple : mg "tuple" = none
  range : mg "range" = none
  enumerate : mg "enumerate" = none
  int : mg "int" = none
  abs : mg "abs" = none
  sum : mg "sum" = none
  all : mg "all" = none
  isinstance : mg "isinstance" = none
  bool : mg "bool" = none
  str : mg "str" = none
/-- a def of the text, with its promise -/
structure Own (P : Program) (w : World) (K : PySem.W.Frag) (mg : Str → Option Value) (base : Heap) (k : Nat) (x : Str) (ps : List Str) (sp : Sp3) (f : Addr) (fd : FuncData) : Prop where
  G : FnOk P w K mg base CX0 k f fd ps (lowSp K sp)
  g : mg x = some (.ref f)
  kp : PySem.W.keepIn K (.ref f) = true
  b : Binds K fd ps []
/-! ### places, moves, rows -/
inductive Kd | p | s | out deriving DecidableEq
def Kd.str : Kd → Str
  | .p => "p"
  | .s => "s"
  | .out => "out"
theorem Kd.str_inj : ∀ {a b : Kd}, a.str = b.str → a = b := by
  intro a b
  cases a <;> cases b <;> intro h <;> first | rfl | (exact absurd h (by decide +kernel))
abbrev Loc := Kd × Int
abbrev Mv := Loc × Loc
abbrev Row := Bool × Loc × Loc
def rowS (b : Bool) : Str := if b then "swap" else "move"
def uL (l : Loc) : U := .tup [.str l.1.str, .int l.2]
def uM (m : Mv) : U := .tup [uL m.1, uL m.2]
def uR (r : Row) : U := .tup [.str (rowS r.1), uL r.2.1, uL r.2.2]
def kL (l : Loc) : List Key := [.inr l.1.str, .inl l.2]
theorem kL_inj {a b : Loc} (h : kL a = kL b) : a = b := by
  obtain ⟨a1, a2⟩ := a
  obtain ⟨b1, b2⟩ := b
  unfold kL at h
  simp at h
  rw [Kd.str_inj h.1, h.2]
theorem tkey_uL (l : Loc) : tkey (uL l) = some (kL l) := rfl
theorem kU_kL (l : Loc) : U.tup ((kL l).map kU) = uL l := rfl
theorem lay_uL (l : Loc) : (pd (uL l)).canLay0 = true := by
  obtain ⟨k, i⟩ := l
  show ((PyData.str k.str).canLay0 && ((PyData.int i).canLay0 && true)) = true
  have h1 : (PyData.str k.str).canLay0 = true := by cases k <;> decide +kernel
  have h2 : (PyData.int i).canLay0 = true := by first | rfl | simp [PyData.canLay0]
  rw [h1, h2]; rfl
theorem dep_uL (l : Loc) : (pd (uL l)).depth = 1 := by
  obtain ⟨k, i⟩ := l
  rfl
theorem dat_uL (l : Loc) : dat (uL l) = true := by
  unfold dat SeqAt.shaped
  rw [lay_uL, dep_uL]
  rfl
theorem lay_uM (m : Mv) : (pd (uM m)).canLay0 = true := by
  show ((pd (uL m.1)).canLay0 && ((pd (uL m.2)).canLay0 && true)) = true
  rw [lay_uL, lay_uL]; rfl
theorem dep_uM (m : Mv) : (pd (uM m)).depth = 2 := by
  show max (pd (uL m.1)).depth (max (pd (uL m.2)).depth 0) + 1 = 2
  rw [dep_uL, dep_uL]; rfl
/-- lists of data of bounded depth -/
theorem norefL_map {α : Type} (f : α → U) (h : ∀ x, noref (f x) = true) : ∀ xs : List α, norefL (xs.map f) = true
  | [] => rfl
  | x :: xs => by rw [List.map_cons, norefL, h x, norefL_map f h xs]; rfl
theorem layL_map {α : Type} (f : α → U) (h : ∀ x, (pd (f x)).canLay0 = true) : ∀ xs : List α, PyData.canLayAll0 (pdL (xs.map f)) = true
  | [] => rfl
  | x :: xs => by rw [List.map_cons, pdL, PyData.canLayAll0, h x, layL_map f h xs]; rfl
theorem depL_map {α : Type} (f : α → U) (n : Nat) (h : ∀ x, (pd (f x)).depth ≤ n) : ∀ xs : List α, PyData.depthAll (pdL (xs.map f)) ≤ n
  | [] => Nat.zero_le _
  | x :: xs => by
    rw [List.map_cons, pdL, PyData.depthAll]
    have := h x
    have := depL_map f n h xs
    omega
theorem dat_lit {α : Type} (f : α → U) (n : Nat) (hn : n ≤ 63) (h1 : ∀ x, noref (f x) = true) (h2 : ∀ x, (pd (f x)).canLay0 = true) (h3 : ∀ x, (pd (f x)).depth ≤ n) (xs : List α) : dat (.lit (xs.map f)) = true := by
  unfold dat SeqAt.shaped
  have a : noref (.lit (xs.map f)) = true := norefL_map f h1 xs
  have b : (pd (.lit (xs.map f))).canLay0 = true := layL_map f h2 xs
  have c : (pd (.lit (xs.map f))).depth ≤ 64 := by
    show PyData.depthAll (pdL (xs.map f)) + 1 ≤ 64
    have := depL_map f n h3 xs
    omega
  rw [a, b, decide_eq_true c]; rfl
theorem dat_tup {α : Type} (f : α → U) (n : Nat) (hn : n ≤ 63) (h1 : ∀ x, noref (f x) = true) (h2 : ∀ x, (pd (f x)).canLay0 = true) (h3 : ∀ x, (pd (f x)).depth ≤ n) (xs : List α) : dat (.tup (xs.map f)) = true := by
  unfold dat SeqAt.shaped
  have a : noref (.tup (xs.map f)) = true := norefL_map f h1 xs
  have b : (pd (.tup (xs.map f))).canLay0 = true := layL_map f h2 xs
  have c : (pd (.tup (xs.map f))).depth ≤ 64 := by
    show PyData.depthAll (pdL (xs.map f)) + 1 ≤ 64
    have := depL_map f n h3 xs
    omega
  rw [a, b, decide_eq_true c]; rfl
theorem dat_Ls (xs : List Loc) : dat (.lit (xs.map uL)) = true := dat_lit uL 1 (by decide) (fun _ => rfl) lay_uL (fun x => Nat.le_of_eq (dep_uL x)) xs
theorem dat_Ms (xs : List Mv) : dat (.lit (xs.map uM)) = true := dat_lit uM 2 (by decide) (fun _ => rfl) lay_uM (fun x => Nat.le_of_eq (dep_uM x)) xs
theorem eq3_uL (a b : Loc) : eq3 (uL a) (uL b) = decide (a = b) := by
  obtain ⟨a1, a2⟩ := a
  obtain ⟨b1, b2⟩ := b
  show (a1.str == b1.str && (a2 == b2 && true)) = _
  by_cases h : a1 = b1
  · subst h
    by_cases h2 : a2 = b2
    · subst h2; simp
    · simp [h2]
  · have : ¬ a1.str = b1.str := fun z => h (Kd.str_inj z)
    simp [h, this]
theorem any_uL (x : Loc) : ∀ xs : List Loc, ((xs.map uL).any fun z => eq3 z (uL x)) = decide (x ∈ xs)
  | [] => rfl
  | y :: ys => by
    rw [List.map_cons, List.any_cons, any_uL x ys, eq3_uL]
    by_cases h : y = x
    · subst h; simp
    · have h' : ¬ x = y := fun z => h z.symm
      simp [h, h']
theorem eqv_Ms : ∀ xs ys : List Mv, PyData.eqvAll (pdL (xs.map uM)) (pdL (ys.map uM)) = decide (xs = ys)
  | [], [] => rfl
  | [], _ :: _ => rfl
  | _ :: _, [] => rfl
  | x :: xs, y :: ys => by
    rw [List.map_cons, List.map_cons, pdL, pdL, PyData.eqvAll, eqv_Ms xs ys]
    have : PyData.eqv (pd (uM x)) (pd (uM y)) = (eq3 (uL x.1) (uL y.1) && (eq3 (uL x.2) (uL y.2) && true)) := rfl
    rw [this, eq3_uL, eq3_uL]
    obtain ⟨x1, x2⟩ := x
    obtain ⟨y1, y2⟩ := y
    by_cases h1 : x1 = y1 <;> by_cases h2 : x2 = y2 <;> simp [h1, h2]
theorem eq3_Ms (xs ys : List Mv) : eq3 (.lit (xs.map uM)) (.lit (ys.map uM)) = decide (xs = ys) := eqv_Ms xs ys
/-! ### dicts with places as keys -/
def dL {α : Type} (f : α → U) (kvs : List (Loc × α)) : List (List Key × U) := kvs.map fun p => (kL p.1, f p.2)
def lk {α : Type} (kvs : List (Loc × α)) (k : Loc) : Option α := (kvs.find? fun kv => decide (kv.1 = k)).map (·.2)
def pt {α : Type} (kvs : List (Loc × α)) (k : Loc) (v : α) : List (Loc × α) := if (lk kvs k).isSome then kvs.map fun kv => if kv.1 = k then (kv.1, v) else kv else kvs ++ [(k, v)]
section
variable {α : Type} (f : α → U)
theorem kL_iff {a b : Loc} : kL a = kL b ↔ a = b := ⟨kL_inj, fun h => by rw [h]⟩
theorem look_dL (k : Loc) : ∀ kvs : List (Loc × α), look (dL f kvs) (kL k) = (lk kvs k).map f
  | [] => rfl
  | p :: r => by
    by_cases h : p.1 = k
    · rw [show dL f (p :: r) = (kL p.1, f p.2) :: dL f r from rfl, look_pos (p := (kL p.1, f p.2)) (by rw [h])]
      simp [lk, List.find?_cons, h]
    · rw [show dL f (p :: r) = (kL p.1, f p.2) :: dL f r from rfl, look_neg (p := (kL p.1, f p.2)) (fun z => h (kL_inj z)), look_dL k r]
      simp [lk, List.find?_cons, h]
theorem put_dL (k : Loc) (v : α) (kvs : List (Loc × α)) : put (dL f kvs) (kL k) (f v) = dL f (pt kvs k v) := by
  unfold put pt
  rw [look_dL]
  cases h : lk kvs k with
  | none =>
    simp [dL]
  | some x =>
    simp only [Option.map_some, Option.isSome_some, if_true, dL, List.map_map]
    refine List.map_congr_left fun p _ => ?_
    show (if kL p.1 = kL k then (kL p.1, f v) else (kL p.1, f p.2)) = _
    by_cases hp : p.1 = k
    · simp [hp]
    · rw [if_neg (fun z => hp (kL_inj z))]; simp [hp]
theorem dL_len (kvs : List (Loc × α)) : (dL f kvs).length = kvs.length := by unfold dL; rw [List.length_map]
theorem dlook_dL {G : G3} {d : Addr} {kvs : List (Loc × α)} (h : G d = some (.dT (dL f kvs))) (k : Loc) : DLook G d (uL k) ((lk kvs k).map f) := .inl ⟨_, _, .inl h, tkey_uL k, (look_dL f k kvs).symm⟩
theorem lk_pt (kvs : List (Loc × α)) (k k' : Loc) (v : α) : lk (pt kvs k v) k' = if k' = k then some v else lk kvs k' := by
  have key : ∀ l : List (Loc × α), lk (l.map fun kv => if kv.1 = k then (kv.1, v) else kv) k' = if k' = k then (lk l k').map (fun _ => v) else lk l k' := by
    intro l
    induction l with
    | nil => split <;> rfl
    | cons p r ih =>
      unfold lk at ih ⊢
      by_cases hp : p.1 = k'
      · by_cases hk : k' = k
        · have hpk : p.1 = k := hp.trans hk
          simp [List.find?_cons, hpk, hk]
        · have hpk : ¬ p.1 = k := fun z => hk (hp.symm.trans z)
          simp [List.find?_cons, hp, hk, hpk]
      · by_cases hpk : p.1 = k
        · simp only [List.map_cons, List.find?_cons, hpk, if_true]
          have : ¬ k = k' := fun z => hp (hpk.trans z)
          simp only [this, decide_false]
          exact ih
        · simp only [List.map_cons, List.find?_cons, hpk, if_false, hp, decide_false]
          exact ih
  unfold pt
  cases h : lk kvs k with
  | some x =>
    simp only [Option.isSome_some, if_true]
    rw [key]
    by_cases hk : k' = k
    · subst hk; rw [if_pos rfl, if_pos rfl, h]; rfl
    · rw [if_neg hk, if_neg hk]
  | none =>
    simp only [Option.isSome_none, Bool.false_eq_true, if_false]
    unfold lk at h ⊢
    rw [List.find?_append]
    by_cases hk : k' = k
    · subst hk
      rw [if_pos rfl]
      have : kvs.find? (fun kv => decide (kv.1 = k')) = none := by
        cases e : kvs.find? (fun kv => decide (kv.1 = k')) with
        | none => rfl
        | some y => rw [e] at h; cases h
      rw [this]; simp
    · rw [if_neg hk]
      have : ¬ k = k' := fun z => hk z.symm
      simp [this]
end
end K39
end
section
set_option Elab.async false
set_option linter.all false
set_option maxRecDepth 100000
set_option maxHeartbeats 2000000
/-! dicts that serve as sets of places -/
namespace K39
open PySem L2 L3
structure SetD (kvs : List (Loc × Bool)) (S : List Loc) : Prop where
  look : ∀ k, lk kvs k = if k ∈ S then some true else none
  len : kvs.length ≤ S.length
theorem SetD.nil : SetD [] [] := ⟨fun k => rfl, Nat.le_refl _⟩
theorem pt_len {α : Type} (kvs : List (Loc × α)) (k : Loc) (v : α) : (pt kvs k v).length ≤ kvs.length + 1 := by
  unfold pt
  split
  · rw [List.length_map]; omega
  · rw [List.length_append]; exact Nat.le_refl _
theorem SetD.add {kvs : List (Loc × Bool)} {S : List Loc} (h : SetD kvs S) (k : Loc) : SetD (pt kvs k true) (S ++ [k]) := by
  refine ⟨fun x => ?_, ?_⟩
  · rw [lk_pt, h.look]
    by_cases hx : x = k
    · subst hx; simp
    · simp [hx]
  · have := pt_len kvs k true
    have := h.len
    rw [List.length_append]
    show _ ≤ S.length + 1
    omega
theorem SetD.isSome {kvs : List (Loc × Bool)} {S : List Loc} (h : SetD kvs S) (k : Loc) : ((lk kvs k).map U.bl).isSome = decide (k ∈ S) := by
  rw [h.look]
  by_cases hk : k ∈ S <;> simp [hk]
/-- the word of a dict comprehension's turns -/
def dcK (g : TG3) (tt : TT3) (tk te : TE3) (vs : List Nat) (σ : S3) (Q : K3) (it : It3) (G1 : G3) : Prop := ∀ L, G1 L = none → ∃ Pv : Nat → G3 → Prop, Pv 0 (gup G1 L (.dT [])) ∧ (∀ i G', i ≤ it.items.length → Pv i G' → it.ok G') ∧
  (∀ i x G', it.items[i]? = some x → Pv i G' → g x (wipe3 σ vs) G' fun σ2 G2 => tt σ2 G2 fun b G3 => if b = true then tk σ2 G3 fun y G4 => te σ2 G4 fun z G5 => ∃ kvs k, tkey y = some k ∧ G5 L = some (.dT kvs) ∧ decide (kvs.length ≤ 99999) = true ∧ Wk1 (Pv (i + 1)) (gup G5 L (.dT (put kvs k z))) else Wk1 (Pv (i + 1)) G3) ∧ ∀ G', Pv it.items.length G' → Q (.ref L) G'
theorem dc_of {wi : TI3} {g : TG3} {tt : TT3} {tk te : TE3} {vs : List Nat} {σ : S3} {G : G3} {Q : K3} (h : wi σ G (dcK g tt tk te vs σ Q)) : dc3 wi g tt tk te vs σ G Q := h
theorem dcK_of {α : Type} {g : TG3} {tk te : TE3} {vs : List Nat} {σ : S3} {Q : K3} {ok : G3 → Prop} {G1 : G3} (xs : List α) (u : α → U) (key : α → Loc) (hok : ∀ G', Sub G1 G' → ok G') (hz : xs.length ≤ 99999)
    (hs : ∀ (x : α), x ∈ xs → ∀ (G : G3) (Y : U → U → G3 → Prop), Y (uL (key x)) (.bl true) G → g (u x) (wipe3 σ vs) G fun σ2 G2 => yes3 σ2 G2 fun b G3 => if b = true then tk σ2 G3 fun y G4 => te σ2 G4 fun z G5 => Y y z G5 else False)
    (hq : ∀ L kvs, G1 L = none → SetD kvs (xs.map key) → Q (.ref L) (gup G1 L (.dT (dL U.bl kvs)))) : dcK g yes3 tk te vs σ Q ⟨xs.map u, ok⟩ G1 := by
  intro L hL
  refine ⟨fun i G' => ∃ kvs, SetD kvs ((xs.take i).map key) ∧ G' = gup G1 L (.dT (dL U.bl kvs)), ⟨[], SetD.nil, rfl⟩, fun i G' _ e => ?_, fun i x G' hx e => ?_, fun G' e => ?_⟩
  · obtain ⟨kvs, h, rfl⟩ := e
    exact hok _ ((Sub.refl G1).new hL)
  · obtain ⟨kvs, h, rfl⟩ := e
    have hx : (xs.map u)[i]? = some x := hx
    rw [List.getElem?_map] at hx
    cases ex : xs[i]? with
    | none => rw [ex] at hx; cases hx
    | some x0 =>
      rw [ex] at hx
      cases hx
      have hi : i < xs.length := (List.getElem?_eq_some_iff.mp ex).1
      have et : xs.take (i + 1) = xs.take i ++ [x0] := by rw [List.take_succ, ex]; rfl
      have hln : kvs.length ≤ 99999 := by
        have := h.len
        rw [List.length_map] at this
        have := List.length_take_le i xs
        omega
      have := hs x0 (List.mem_of_getElem? ex) (gup G1 L (.dT (dL U.bl kvs))) (fun y z G5 => ∃ kvs k, tkey y = some k ∧ G5 L = some (.dT kvs) ∧ decide (kvs.length ≤ 99999) = true ∧ Wk1 (fun G' => ∃ kvs, SetD kvs ((xs.take (i + 1)).map key) ∧ G' = gup G1 L (.dT (dL U.bl kvs))) (gup G5 L (.dT (put kvs k z))))
        ⟨_, _, tkey_uL _, gup_same, decide_eq_true (by rw [dL_len]; exact hln), _, Sub.refl _, pt kvs (key x0) true, by rw [et, List.map_append]; exact h.add _, by rw [gup_gup, ← put_dL]⟩
      exact this
  · obtain ⟨kvs, h, rfl⟩ := e
    have e2 : xs.take (It3.mk (xs.map u) ok).items.length = xs := by
      show xs.take (xs.map u).length = xs
      rw [List.length_map, List.take_length]
    rw [e2] at h
    exact hq L kvs hL h
/-- two fors: the parts of the parts -/
def dc2K (g : TG3) (tt : TT3) (wi1 : TI3) (g1 : TG3) (tt1 : TT3) (tk te : TE3) (vs vs1 : List Nat) (σ : S3) (Q : K3) (it : It3) (G1 : G3) : Prop := ∀ L, G1 L = none → ∃ Pv : Nat → G3 → Prop, Pv 0 (gup G1 L (.dT [])) ∧ (∀ i G', i ≤ it.items.length → Pv i G' → it.ok G') ∧
  (∀ i x G', it.items[i]? = some x → Pv i G' → g x (wipe3 σ vs) G' fun σ2 G2 => tt σ2 G2 fun b Gb => if b = true then wi1 σ2 Gb fun it1 G4 => ∃ Pv1 : Nat → G3 → Prop, Pv1 0 G4 ∧ (∀ j G', j ≤ it1.items.length → Pv1 j G' → it1.ok G') ∧
    (∀ j x1 G', it1.items[j]? = some x1 → Pv1 j G' → g1 x1 (wipe3 σ2 vs1) G' fun σ3 G5 => tt1 σ3 G5 fun b1 G6 => if b1 = true then tk σ3 G6 fun y G7 => te σ3 G7 fun z G8 => ∃ kvs k, tkey y = some k ∧ G8 L = some (.dT kvs) ∧ decide (kvs.length ≤ 99999) = true ∧ Wk1 (Pv1 (j + 1)) (gup G8 L (.dT (put kvs k z))) else Wk1 (Pv1 (j + 1)) G6) ∧
    ∀ G', Pv1 it1.items.length G' → Wk1 (Pv (i + 1)) G' else Wk1 (Pv (i + 1)) Gb) ∧ ∀ G', Pv it.items.length G' → Q (.ref L) G'
theorem dc2_of {wi : TI3} {g : TG3} {tt : TT3} {wi1 : TI3} {g1 : TG3} {tt1 : TT3} {tk te : TE3} {vs vs1 : List Nat} {σ : S3} {G : G3} {Q : K3} (h : wi σ G (dc2K g tt wi1 g1 tt1 tk te vs vs1 σ Q)) : dc23 wi g tt wi1 g1 tt1 tk te vs vs1 σ G Q := h
end K39
end
section
set_option linter.all false
/-! plain words: rings, rows, what is due -/
namespace K39
/-- the one target of the moves from x, if it is one -/
def one? (ts : List Loc) : Option Loc := match ts with
  | [t] => some t
  | _ => none
def ringGo (f : Loc → Option Loc) (start : Loc) : Nat → List Loc → Loc → List Loc
  | 0, _, _ => []
  | n + 1, acc, at' => match f at' with
    | none => []
    | some t => if t = start then acc ++ [at'] else ringGo f start n (acc ++ [at']) t
def srcs (P : List Mv) : List Loc := P.map (·.1)
def goals (P : List Mv) : List Loc := P.map (·.2)
def tgs (P : List Mv) (x : Loc) : List Loc := (P.filter fun m => decide (m.1 = x)).map (·.2)
def nxt (P : List Mv) (x : Loc) : Option Loc := one? (tgs P x)
def ringOf (P : List Mv) (s : Loc) : List Loc := ringGo (nxt P) s P.length [] s
def prStep (P : List Mv) (s : List (List Loc) × List Loc) (m : Mv) : List (List Loc) × List Loc :=
  if m.1 ∈ s.2 then s else if ringOf P m.1 = [] then s else (s.1 ++ [ringOf P m.1], s.2 ++ ringOf P m.1)
def prAll (P : List Mv) : List (List Loc) × List Loc := P.foldl (prStep P) ([], [])
def at0 (r : List Loc) (i : Nat) : Loc := r.getD i (.p, 0)
def ringSwaps (r : List Loc) : List Row := (r.drop 1).map fun x => (true, at0 r 0, x)
def midRow (r : List Loc) (i : Nat) : Row := (false, at0 r (r.length - 1 - i), at0 r ((r.length - 1 - i + 1) % r.length))
def ringMoves (r : List Loc) (sp : Loc) : List Row :=
  [(false, at0 r 1, sp), (false, at0 r 0, at0 r 1)] ++ (List.range (r.length - 2)).map (midRow r) ++ [(false, sp, at0 r (2 % r.length))]
def unread (P : List Mv) : Option Nat := P.findIdx? fun m => decide (m.2 ∉ srcs P)
def unreadI (P : List Mv) : Int := match unread P with
  | some i => (i : Nat)
  | none => -1
def led (s t : Loc) (m : Mv) : Mv := (if m.1 = s then t else m.1, m.2)
def looseNext (W : List Mv) (k : Nat) (m : Mv) : List Mv := if m.1 ∈ goals (W.eraseIdx k) then (W.eraseIdx k).map (led m.1 m.2) else W.eraseIdx k
def looseGo : Nat → List Mv → List Row
  | 0, _ => []
  | n + 1, W => match unread W with
    | none => []
    | some k => match W[k]? with
      | none => []
      | some m => (false, m.1, m.2) :: looseGo n (looseNext W k m)
def looseOk : Nat → List Mv → Prop
  | 0, _ => True
  | n + 1, W => ∃ k m, unread W = some k ∧ W[k]? = some m ∧ looseOk n (looseNext W k m)
theorem findIdx_at {α : Type} (p : α → Bool) : ∀ (xs : List α) (i : Nat) (x : α), xs[i]? = some x → (∀ y ∈ xs.take i, p y = false) → p x = true → xs.findIdx? p = some i
  | [], i, x, h, _, _ => by simp at h
  | a :: as, 0, x, h, _, hp => by
    simp at h
    subst h
    simp [List.findIdx?_cons, hp]
  | a :: as, i + 1, x, h, hb, hp => by
    have ha : p a = false := hb a (by simp)
    rw [List.findIdx?_cons, ha]
    have := findIdx_at p as i x (by simpa using h) (fun y hy => hb y (by simp [hy])) hp
    rw [this]; rfl
theorem findIdx_none {α : Type} (p : α → Bool) (xs : List α) (h : ∀ y ∈ xs, p y = false) : xs.findIdx? p = none := by
  rw [List.findIdx?_eq_none_iff]; exact h
theorem unread_at {P : List Mv} {i : Nat} {m : Mv} (h : P[i]? = some m) (hb : ∀ y ∈ P.take i, y.2 ∈ srcs P) (hm : m.2 ∉ srcs P) : unread P = some i :=
  findIdx_at _ P i m h (fun y hy => by simp [hb y hy]) (by simp [hm])
theorem unread_non {P : List Mv} (hb : ∀ y ∈ P, y.2 ∈ srcs P) : unread P = none := findIdx_none _ P fun y hy => by simp [hb y hy]
end K39
end
section
set_option Elab.async false
set_option linter.all false
set_option maxRecDepth 100000
set_option maxHeartbeats 2000000
namespace K39
open PySem L2 L3
section
variable {P : Program} {w : World} {K : PySem.W.Frag} {mg : Str → Option Value} {base : Heap}
abbrev s_ring_from : Stmt := topS 6
abbrev ring_from_N : List Str := ["start", "leads", "ring", "at", "_"]
theorem sc_ring_from : FnScope ring_from_N ["start", "leads"] (defScope s_ring_from) := ⟨rfl, rfl, rfl, by decide +kernel, rfl, by decide +kernel, by decide +kernel⟩
abbrev s_ring_swaps : Stmt := topS 8
abbrev ring_swaps_N : List Str := ["ring", "location"]
theorem sc_ring_swaps : FnScope ring_swaps_N ["ring"] (defScope s_ring_swaps) := ⟨rfl, rfl, rfl, by decide +kernel, rfl, by decide +kernel, by decide +kernel⟩
abbrev s_ring_moves : Stmt := topS 9
abbrev ring_moves_N : List Str := ["ring", "spare", "count", "rows", "at"]
theorem sc_ring_moves : FnScope ring_moves_N ["ring", "spare"] (defScope s_ring_moves) := ⟨rfl, rfl, rfl, by decide +kernel, rfl, by decide +kernel, by decide +kernel⟩
def spRF : Sp3 := fun ws G Q _ => ∃ (start : Loc) (d : Addr) (leads : List (Loc × Addr)) (ts : Loc → List Loc), ws = [uL start, .ref d] ∧ G d = some (.dT (dL U.ref leads)) ∧ (∀ k a, lk leads k = some a → G a = some (.lst ((ts k).map uL))) ∧ (∀ k, lk leads k = none → ts k = []) ∧ leads.length ≤ 1000 ∧
  Q (.tup ((ringGo (fun x => one? (ts x)) start leads.length [] start).map uL)) G
theorem ok_rf {f : Addr} {fd : FuncData} (F : Fun K "ring_from" "ring_from" s_ring_from f fd) (T : Tg mg) : FnOk P w K mg base CX0 1 f fd ["start", "leads"] (lowSp K spRF) := by
  refine Fun_ok3 F sc_ring_from (fun ws G Q E h => by obtain ⟨_, _, _, _, rfl, _⟩ := h; rfl) (fun cdv A outer s H E ws G Q E3 hr h => ?_)
  have hu := hu_of hr
  have hu64 := hr.units
  obtain ⟨start, d, leads, ts, rfl, hd, hl, hl0, hn, hq⟩ := h
  refine ⟨_, (ss_cons (s_set (i := 2) sc_ring_from.nd (e3lst a3nil))
      (ss_cons (s_set (i := 3) sc_ring_from.nd (e3v 0))
      (ss_cons (s_for PassesOwn.never rfl (i_range1 T.range (e3B k_len T.len (a3cons (e3v 1) a3nil))) (pg_name (i := 4) sc_ring_from.nd rfl (by first | exact Or.inl rfl | exact Or.inr rfl)) gl_name
      (ss_cons (s_if (t3cmp (o_ne hu64) (e3B k_len T.len (a3cons (e3dget2 hu (e3v 1) (e3v 3) (e3tup a3nil) ⟨rfl, rfl, rfl, rfl⟩) a3nil)) e3int)
        (ss_one (s_ret (e3tup a3nil)))
        ss_nil)
        (ss_cons (s_expr (e3bmL PySem.F.slot_list_append PySem.F.type_list_append m_append (e3v 2) (a3cons (e3v 3) a3nil)))
        (ss_cons (s_set (i := 3) sc_ring_from.nd (e3ix (e3dget hu (e3v 1) (e3v 3)) e3int))
        (ss_one (s_if (t3cmp (o_eq hu64) (e3v 3) (e3v 0))
        (ss_one (s_ret (e3T k_tuple T.tuple (a3cons (e3v 2) a3nil))))
        ss_nil))))))
      (ss_one (s_ret (e3tup a3nil)))))), ?_⟩
  refine ⟨rfl, fun p hp => ?_⟩
  have npd : d ≠ p := gne_none hd hp
  have nl : ∀ k a, lk leads k = some a → a ≠ p := fun k a h => gne_none (hl k a h) hp
  dsimp only [seq3, asg3, n3, v3, drop3, ret3, next3, List.set_cons_zero, List.set_cons_succ, List.getElem?_cons_zero, List.getElem?_cons_succ, start3, List.map_cons, List.map_nil, List.length_cons, List.length_nil, List.replicate, List.cons_append, List.nil_append, Nat.reduceSub, Nat.reduceAdd]
  refine for_of ?_
  refine Or.inr ⟨dL U.ref leads, (by rw [gup_ne npd]; exact hd), decide_eq_true (by rw [dL_len]; omega), ?_⟩
  refine forK_of leads.length (by rw [rgU_len, dL_len]; rfl) (fun i σ G' => ∃ acc at' z, σ = [some (uL start), some (.ref d), some (.ref p), some (uL at'), z] ∧ G' = gup G p (.lst (acc.map uL)) ∧ acc.length = i ∧ ringGo (fun x => one? (ts x)) start (leads.length - i) acc at' = ringGo (fun x => one? (ts x)) start leads.length [] start) ⟨[], start, none, rfl, rfl, rfl, rfl⟩ (fun _ _ _ _ _ => trivial) ?_ ?_
  · rintro i x σ' G' hi' hx ⟨acc, at', z, rfl, rfl, hi, hr⟩
    have hd' : ∀ o, gup G p o d = some (.dT (dL U.ref leads)) := fun o => by rw [gup_ne npd]; exact hd
    have er : leads.length - i = leads.length - (i + 1) + 1 := by omega
    rw [er, ringGo] at hr
    refine ⟨.inl ⟨_, hd' _⟩, rfl, _, dlook_dL _ (hd' _) at', ?_⟩
    cases e : lk leads at' with
    | none =>
      refine ⟨dat_int _, dat_int _, ifT rfl ⟨rfl, Wk.sub ?_ (Sub.new (Sub.refl G) hp)⟩⟩
      have es : one? (ts at') = none := by rw [hl0 _ e]; rfl
      simp only [es] at hr
      rw [← hr] at hq
      exact hq
    | some a =>
      have ha := hl _ _ e
      have na := nl _ _ e
      refine .inl ⟨_, (by rw [gup_ne na]; exact ha), dat_int _, dat_int _, ?_⟩
      by_cases hone : (ts at').length = 1
      · obtain ⟨t, et⟩ := List.length_eq_one_iff.mp hone
        have es : one? (ts at') = some t := by rw [et]; rfl
        simp only [es] at hr
        refine ifF (by rw [eq3_int, List.length_map, hone]; rfl) ?_
        refine ⟨⟨_, gup_same⟩, _, gup_same, decide_eq_true (by rw [List.length_map]; omega), ?_⟩
        rw [gup_gup, show acc.map uL ++ [uL at'] = (acc ++ [at']).map uL by rw [List.map_append]; rfl]
        refine ⟨.ref a, (by have := dlook_dL U.ref (hd' (.lst ((acc ++ [at']).map uL))) at'; rw [e] at this; exact this), _, uL t, (by rw [gup_ne na]; exact ha), (by rw [et]; rfl), ?_⟩
        refine ⟨dat_uL t, dat_uL start, ?_⟩
        by_cases h : t = start
        · refine ifT ((eq3_uL t start).trans (decide_eq_true h)) ?_
          refine ⟨_, gup_same, Wk.sub ?_ (Sub.new (Sub.refl G) hp)⟩
          rw [if_pos h] at hr
          rw [hr]
          exact hq
        · refine ifF ((eq3_uL t start).trans (decide_eq_false h)) ?_
          rw [if_neg h] at hr
          exact Wk2.of ⟨acc ++ [at'], t, _, rfl, rfl, by rw [List.length_append, hi]; rfl, hr⟩
      · refine ifT ?_ ⟨rfl, Wk.sub ?_ (Sub.new (Sub.refl G) hp)⟩
        · rw [eq3_int, List.length_map]
          have : ¬ ((ts at').length : Int) = 1 := by omega
          simp [this]
        · have es : one? (ts at') = none := by
            unfold one?
            split
            · rename_i t ht; rw [ht] at hone; exact absurd rfl hone
            · rfl
          simp only [es] at hr
          rw [← hr] at hq
          exact hq
  · rintro σ' G' ⟨acc, at', z, rfl, rfl, hi, hr⟩
    rw [Nat.sub_self] at hr
    refine ⟨rfl, Wk.sub ?_ (Sub.new (Sub.refl G) hp)⟩
    rw [← hr] at hq
    exact hq
/-! ### rows of a ring -/
theorem atI_nat {α : Type} {xs : List α} {i : Nat} {x : α} (h : xs[i]? = some x) : L2.atI xs (i : Int) = some x := by
  have hi := (List.getElem?_eq_some_iff.mp h).1
  unfold L2.atI L2.ixN
  rw [if_pos (Int.natCast_nonneg i), if_pos (Int.ofNat_lt.mpr hi)]
  show xs[(i : Int).toNat]? = _
  rw [Int.toNat_natCast]; exact h
theorem at0_get {r : List Loc} {i : Nat} (h : i < r.length) : (r.map uL)[i]? = some (uL (at0 r i)) := by
  rw [List.getElem?_map, List.getElem?_eq_getElem h]
  unfold at0
  rw [List.getD_eq_getElem?_getD, List.getElem?_eq_getElem h]
  rfl
theorem at0I {r : List Loc} {i : Nat} (h : i < r.length) : L2.atI (r.map uL) (i : Int) = some (uL (at0 r i)) := atI_nat (at0_get h)
theorem at0J {r : List Loc} {j : Int} {i : Nat} (e : j = (i : Nat)) (h : i < r.length) : L2.atI (r.map uL) j = some (uL (at0 r i)) := by subst e; exact at0I h
theorem cut1 {α : Type} (xs : List α) (f : α → U) (h : xs ≠ []) : cut3 (xs.map f) (some 1) none = (xs.drop 1).map f := by
  have : 1 ≤ xs.length := by cases xs with
    | nil => exact absurd rfl h
    | cons a b => simp
  unfold cut3
  rw [List.length_map, show (some (1 : Int)) = some ((1 : Nat) : Int) from rfl, HT.sIx_nat, HT.sIx_none, Nat.min_eq_left this, ← List.map_drop, List.take_of_length_le (by rw [List.length_map, List.length_drop]; exact Nat.le_refl _)]
def spRS : Sp3 := fun ws G Q _ => ∃ r : List Loc, ws = [.tup (r.map uL)] ∧ r ≠ [] ∧ r.length ≤ 1000 ∧ ∀ L, G L = none → Q (.ref L) (gup G L (.lst ((ringSwaps r).map uR)))
theorem ok_rs {f : Addr} {fd : FuncData} (F : Fun K "ring_swaps" "ring_swaps" s_ring_swaps f fd) (T : Tg mg) : FnOk P w K mg base CX0 1 f fd ["ring"] (lowSp K spRS) := by
  refine Fun_ok3 F sc_ring_swaps (fun ws G Q E h => by obtain ⟨_, rfl, _⟩ := h; rfl) (fun cdv A outer s H E ws G Q E3 hr h => ?_)
  obtain ⟨r, rfl, hne, hlen, hq⟩ := h
  refine ⟨_, (ss_one (s_ret (e3lc (own := [("location", 1)]) rfl sc_ring_swaps.nd (i_tup (e3sl (e3v 0) (o3some e3int) o3none)) (blkOk_by (N := ring_swaps_N) (sc := defScope s_ring_swaps) (by decide +kernel)) (gl_own (by decide)) (fun _ _ _ _ _ => (pg_name (i := 1) sc_ring_swaps.nd rfl (by first | exact Or.inl rfl | exact Or.inr rfl))) (fun _ _ _ _ _ => ts3nil) (fun _ _ _ _ _ => (e3tup (a3cons e3str (a3cons (e3ix (e3v 0) e3int) (a3cons (e3v 1) a3nil)))))))), ?_⟩
  have h1 : 1 ≤ r.length := by cases r with
    | nil => exact absurd rfl hne
    | cons a b => simp
  dsimp only [seq3, asg3, n3, v3, drop3, ret3, next3, List.set_cons_zero, List.set_cons_succ, List.getElem?_cons_zero, List.getElem?_cons_succ, start3, List.map_cons, List.map_nil, List.length_cons, List.length_nil, List.replicate, List.cons_append, List.nil_append, Nat.reduceSub, Nat.reduceAdd]
  refine lc_of ?_
  refine ⟨?_, ?_⟩
  · rw [List.length_map, show (some (1 : Int)) = some ((1 : Nat) : Int) from rfl, HT.sIx_nat, Nat.min_eq_left h1]
    omega
  · rw [cut1 r uL hne]
    refine lcK_of (r.drop 1) uL (fun _ => true) (fun x => ((true, at0 r 0, x) : Row)) uR (fun _ _ => trivial) (by rw [List.length_drop]; omega) (fun x hx G' hs Y N hy hn => ?_) fun L hL => ?_
    · exact ⟨uL (at0 r 0), at0I h1, rfl, hy rfl _ (Sub.refl _)⟩
    · rw [List.filter_eq_self.mpr (fun _ _ => rfl)]
      exact Wk.of (hq L hL)
def spRM : Sp3 := fun ws G Q _ => ∃ (r : List Loc) (sp : Loc), ws = [.tup (r.map uL), uL sp] ∧ 2 ≤ r.length ∧ r.length ≤ 1000 ∧ ∀ L, G L = none → Q (.ref L) (gup G L (.lst ((ringMoves r sp).map uR)))
theorem ok_rm {f : Addr} {fd : FuncData} (F : Fun K "ring_moves" "ring_moves" s_ring_moves f fd) (T : Tg mg) : FnOk P w K mg base CX0 1 f fd ["ring", "spare"] (lowSp K spRM) := by
  refine Fun_ok3 F sc_ring_moves (fun ws G Q E h => by obtain ⟨_, _, rfl, _⟩ := h; rfl) (fun cdv A outer s H E ws G Q E3 hr h => ?_)
  obtain ⟨r, sp, rfl, h2, hlen, hq⟩ := h
  refine ⟨_, (ss_cons (s_set (i := 2) sc_ring_moves.nd (e3B k_len T.len (a3cons (e3v 0) a3nil)))
      (ss_cons (s_set (i := 3) sc_ring_moves.nd (e3lst (a3cons (e3tup (a3cons e3str (a3cons (e3ix (e3v 0) e3int) (a3cons (e3v 1) a3nil)))) (a3cons (e3tup (a3cons e3str (a3cons (e3ix (e3v 0) e3int) (a3cons (e3ix (e3v 0) e3int) a3nil)))) a3nil))))
      (ss_cons (s_for PassesOwn.never rfl (i_rangeD T.range (e3op o_sub (e3v 2) e3int) e3int (e3neg e3int) (fun _ h => pi_range3 rfl T.range h)) (pg_name (i := 4) sc_ring_moves.nd rfl (by first | exact Or.inl rfl | exact Or.inr rfl)) gl_name
      (ss_one (s_expr (e3bmL PySem.F.slot_list_append PySem.F.type_list_append m_append (e3v 3) (a3cons (e3tup (a3cons e3str (a3cons (e3ix (e3v 0) (e3v 4)) (a3cons (e3ix (e3v 0) (e3op o_mod (e3op o_add (e3v 4) e3int) (e3v 2))) a3nil)))) a3nil)))))
      (ss_cons (s_expr (e3bmL PySem.F.slot_list_append PySem.F.type_list_append m_append (e3v 3) (a3cons (e3tup (a3cons e3str (a3cons (e3v 1) (a3cons (e3ix (e3v 0) (e3op o_mod e3int (e3v 2))) a3nil)))) a3nil)))
      (ss_one (s_ret (e3v 3))))))), ?_⟩
  dsimp only [seq3, asg3, n3, v3, drop3, ret3, next3, List.set_cons_zero, List.set_cons_succ, List.getElem?_cons_zero, List.getElem?_cons_succ, start3, List.map_cons, List.map_nil, List.length_cons, List.length_nil, List.replicate, List.cons_append, List.nil_append, Nat.reduceSub, Nat.reduceAdd]
  refine ⟨_, at0I (i := 1) (by omega), rfl, _, at0I (i := 0) (by omega), _, at0I (i := 1) (by omega), rfl, rfl, fun L hL => ?_⟩
  refine for_of ?_
  refine ⟨rfl, decide_eq_true (by rw [List.length_map]; omega), ?_⟩
  refine forK_of (r.length - 2) (by rw [rgD_len, List.length_map]; omega) (fun i σ G' => ∃ z, σ = [some (.tup (r.map uL)), some (uL sp), some (.int r.length), some (.ref L), z] ∧
    G' = gup G L (.lst (([(false, at0 r 1, sp), (false, at0 r 0, at0 r 1)] ++ (List.range i).map (midRow r)).map uR))) ⟨none, by rw [List.length_map]; rfl, rfl⟩ (fun _ _ _ _ _ => trivial) ?_ ?_
  · rintro i x σ' G' hi hx ⟨z, rfl, rfl⟩
    have hx' : x = .int ((r.length - 1 - i : Nat) : Int) := by
      unfold rgD at hx
      rw [List.getElem?_map, List.length_map, List.getElem?_range (by omega)] at hx
      cases hx
      show U.int _ = U.int _
      congr 1
      omega
    subst hx'
    refine ⟨⟨_, gup_same⟩, uL (at0 r (r.length - 1 - i)), at0I (by omega), ?_⟩
    refine ⟨by omega, uL (at0 r ((r.length - 1 - i + 1) % r.length)), at0J ?_ (Nat.mod_lt _ (by omega)), rfl, _, gup_same, decide_eq_true (by simp; omega), ?_⟩
    · show Int.fmod _ _ = _
      rw [show ((r.length - 1 - i : Nat) : Int) + 1 = ((r.length - 1 - i + 1 : Nat) : Int) by omega]
      rfl
    · refine Wk2.of ⟨_, rfl, ?_⟩
      rw [gup_gup]
      simp only [List.range_succ, List.map_append, List.append_assoc]
      rfl
  · rintro σ' G' ⟨z, rfl, rfl⟩
    refine ⟨⟨_, gup_same⟩, by omega, uL (at0 r (2 % r.length)), at0J ?_ (Nat.mod_lt _ (by omega)), rfl, _, gup_same, decide_eq_true (by simp; omega), ?_⟩
    · rfl
    · refine Wk.of ?_
      have := hq L hL
      unfold ringMoves at this
      rw [List.map_append] at this
      rw [gup_gup]
      exact this
end
end K39
end
section
set_option Elab.async false
set_option linter.all false
set_option maxRecDepth 100000
set_option maxHeartbeats 2000000
namespace K39
open PySem L2 L3
theorem dat_kd (k : Kd) : dat (.str k.str) = true := by
  have h1 : (PyData.str k.str).canLay0 = true := by cases k <;> decide +kernel
  show (true && ((PyData.str k.str).canLay0 && decide ((PyData.str k.str).depth ≤ 64))) = true
  rw [h1]; rfl
theorem eq3_kd (a b : Kd) : eq3 (.str a.str) (.str b.str) = decide (a = b) := by
  show (a.str == b.str) = _
  cases a <;> cases b <;> decide +kernel
theorem enM {xs : List Mv} {i : Nat} {x : U} (h : (enU (xs.map uM))[i]? = some x) (hi : i < xs.length) : ∃ m, xs[i]? = some m ∧ x = .tup [.int (i : Nat), uM m] := by
  have e : (xs.map uM)[i]? = some (uM xs[i]) := by rw [List.getElem?_map, List.getElem?_eq_getElem hi]; rfl
  rw [enU_get e] at h
  cases h
  exact ⟨_, List.getElem?_eq_getElem hi, rfl⟩
theorem take_s {α : Type} {xs : List α} {i : Nat} {m : α} (h : xs[i]? = some m) : xs.take (i + 1) = xs.take i ++ [m] := by rw [List.take_succ, h]; rfl
theorem seqI {k n : Nat} (h : k < n) : seqIndex? ((k : Nat) : Int) n = some k := by
  unfold seqIndex?
  simp [show ¬ ((k : Int) < 0) by omega]
  omega
section
variable {P : Program} {w : World} {K : PySem.W.Frag} {mg : Str → Option Value} {base : Heap}
abbrev s_unread_index : Stmt := topS 10
abbrev unread_index_N : List Str := ["pending", "read", "at", "source", "target"]
theorem sc_unread_index : FnScope unread_index_N ["pending"] (defScope s_unread_index) := ⟨rfl, rfl, rfl, by decide +kernel, rfl, by decide +kernel, by decide +kernel⟩
abbrev s_check_targets : Stmt := topS 5
abbrev check_targets_N : List Str := ["moves", "met", "at", "source", "target"]
theorem sc_check_targets : FnScope check_targets_N ["moves"] (defScope s_check_targets) := ⟨rfl, rfl, rfl, by decide +kernel, rfl, by decide +kernel, by decide +kernel⟩
def spUI : Sp3 := fun ws G Q _ => ∃ (p : Addr) (W : List Mv), ws = [.ref p] ∧ G p = some (.lst (W.map uM)) ∧ W.length ≤ 1000 ∧ Q (.int (unreadI W)) G
theorem ok_ui {f : Addr} {fd : FuncData} (F : Fun K "unread_index" "unread_index" s_unread_index f fd) (T : Tg mg) : FnOk P w K mg base CX0 1 f fd ["pending"] (lowSp K spUI) := by
  refine Fun_ok3 F sc_unread_index (fun ws G Q E h => by obtain ⟨_, _, rfl, _⟩ := h; rfl) (fun cdv A outer s H E ws G Q E3 hr h => ?_)
  have hu := hu_of hr
  obtain ⟨p, W, rfl, hp, hlen, hq⟩ := h
  refine ⟨_, (ss_cons (s_setDc (i := 1) (own := [("source", 3), ("target", 4)]) hu rfl sc_unread_index.nd rfl (sw_trueD rfl rfl rfl (by decide +kernel)) (i_list (e3v 0)) (blkOk_by (N := unread_index_N) (sc := defScope s_unread_index) (by decide +kernel)) (gl_tup (gl_cons (gl_own (by decide)) (gl_cons (gl_own (by decide)) gl_nil))) (fun _ _ _ _ _ => (pg_tup (n := 2) rfl (pgs_cons (pg_name (i := 3) sc_unread_index.nd rfl (by first | exact Or.inl rfl | exact Or.inr rfl)) (pgs_cons (pg_name (i := 4) sc_unread_index.nd rfl (by first | exact Or.inl rfl | exact Or.inr rfl)) pgs_nil)))) (fun _ _ _ _ _ => ts3nil) (fun _ _ _ _ _ => (e3v 3)) (fun _ _ _ _ _ => e3bl))
      (ss_cons (s_for PassesOwn.never rfl (i_enum T.enumerate (e3v 0)) (pg_tup (n := 2) rfl (pgs_cons (pg_name (i := 2) sc_unread_index.nd rfl (by first | exact Or.inl rfl | exact Or.inr rfl)) (pgs_cons (pg_tup (n := 2) rfl (pgs_cons (pg_name (i := 3) sc_unread_index.nd rfl (by first | exact Or.inl rfl | exact Or.inr rfl)) (pgs_cons (pg_name (i := 4) sc_unread_index.nd rfl (by first | exact Or.inl rfl | exact Or.inr rfl)) pgs_nil))) pgs_nil))) (gl_tup (gl_cons gl_name (gl_cons (gl_tup (gl_cons gl_name (gl_cons gl_name gl_nil))) gl_nil)))
      (ss_one (s_if (t3dnotin hu (e3v 4) (e3v 1))
        (ss_one (s_ret (e3v 2)))
        ss_nil)))
      (ss_one (s_ret (e3neg e3int))))), ?_⟩
  dsimp only [seq3, asg3, n3, v3, drop3, ret3, next3, List.set_cons_zero, List.set_cons_succ, List.getElem?_cons_zero, List.getElem?_cons_succ, start3, List.map_cons, List.map_nil, List.length_cons, List.length_nil, List.replicate, List.cons_append, List.nil_append, Nat.reduceSub, Nat.reduceAdd]
  refine dc_of ?_
  refine ⟨_, hp, ?_⟩
  refine dcK_of W uM (·.1) (fun G' s => s _ _ hp) (by omega) (fun x hx G' Y hy => ⟨rfl, hy⟩) fun L kvs hL S => ?_
  have npL : p ≠ L := gne_none hp hL
  refine for_of ?_
  refine ⟨_, (by rw [gup_ne npL]; exact hp), ?_⟩
  refine forK_of W.length (by rw [enU_len, List.length_map]) (fun i σ G' => ∃ z1 z2 z3, σ = [some (.ref p), some (.ref L), z1, z2, z3] ∧ G' = gup G L (.dT (dL U.bl kvs)) ∧ ∀ y ∈ W.take i, y.2 ∈ srcs W) ⟨_, _, _, rfl, rfl, by simp⟩ (fun i σ' G' _ h => by obtain ⟨_, _, _, _, rfl, _⟩ := h; rw [gup_ne npL]; exact hp) ?_ ?_
  · rintro i x σ' G' hi hx ⟨z1, z2, z3, rfl, rfl, hb⟩
    obtain ⟨m, hm, rfl⟩ := enM hx hi
    refine ⟨rfl, rfl, _, dlook_dL _ gup_same m.2, ?_⟩
    by_cases h : m.2 ∈ srcs W
    · refine ifF (by rw [S.isSome]; simp [srcs] at h; simp [h]) ?_
      refine Wk2.of ⟨_, _, _, rfl, rfl, fun y hy => ?_⟩
      rw [take_s hm] at hy
      rcases List.mem_append.mp hy with hy | hy
      · exact hb y hy
      · rw [List.mem_singleton.mp hy]; exact h
    · refine ifT (by rw [S.isSome]; simp [srcs] at h; simp [h]) ?_
      refine Wk.sub ?_ (Sub.new (Sub.refl G) hL)
      have : unreadI W = (i : Nat) := by unfold unreadI; rw [unread_at hm hb h]
      rw [this] at hq
      exact hq
  · rintro σ' G' ⟨z1, z2, z3, rfl, rfl, hb⟩
    refine Wk.sub ?_ (Sub.new (Sub.refl G) hL)
    have : unreadI W = -1 := by unfold unreadI; rw [unread_non (by rwa [List.take_length] at hb)]
    rw [this] at hq
    exact hq
def spCT : Sp3 := fun ws G Q _ => ∃ (x : U) (W : List Mv), ws = [x] ∧ (x = .tup (W.map uM) ∨ ∃ a, x = .ref a ∧ G a = some (.lst (W.map uM))) ∧ W.length ≤ 1000 ∧ (goals W).Nodup ∧ (∀ m ∈ W, m.2.1 ≠ .out) ∧ Q .non G
theorem ok_ct {f : Addr} {fd : FuncData} (F : Fun K "check_targets" "check_targets" s_check_targets f fd) (T : Tg mg) : FnOk P w K mg base CX0 1 f fd ["moves"] (lowSp K spCT) := by
  refine Fun_ok3 F sc_check_targets (fun ws G Q E h => by obtain ⟨_, _, rfl, _⟩ := h; rfl) (fun cdv A outer s H E ws G Q E3 hr h => ?_)
  have hu := hu_of hr
  have hu64 := hr.units
  obtain ⟨X, W, rfl, hx, hlen, hnd, hout, hq⟩ := h
  rcases hx with rfl | ⟨a, rfl, ha⟩
  · refine ⟨_, (ss_cons (s_set (i := 1) sc_check_targets.nd e3dnewT)
        (ss_one (s_for PassesOwn.never rfl (i_enumT T.enumerate (e3v 0)) (pg_tup (n := 2) rfl (pgs_cons (pg_name (i := 2) sc_check_targets.nd rfl (by first | exact Or.inl rfl | exact Or.inr rfl)) (pgs_cons (pg_tup (n := 2) rfl (pgs_cons (pg_name (i := 3) sc_check_targets.nd rfl (by first | exact Or.inl rfl | exact Or.inr rfl)) (pgs_cons (pg_name (i := 4) sc_check_targets.nd rfl (by first | exact Or.inl rfl | exact Or.inr rfl)) pgs_nil))) pgs_nil))) (gl_tup (gl_cons gl_name (gl_cons (gl_tup (gl_cons gl_name (gl_cons gl_name gl_nil))) gl_nil)))
        (ss_cons (s_if (PW.pt (w3or (t3cmp (o_eq hu64) (e3ix (e3v 4) e3int) e3str) (w3or1 (t3din hu (e3v 4) (e3v 1)))))
          (ss_one s_never)
          ss_nil)
          (ss_one (s_dput hu (e3v 1) (e3v 4) e3bl)))))), ?_⟩
    intro d hd
    dsimp only [seq3, asg3, n3, v3, drop3, ret3, next3, List.set_cons_zero, List.set_cons_succ, List.getElem?_cons_zero, List.getElem?_cons_succ, start3, List.map_cons, List.map_nil, List.length_cons, List.length_nil, List.replicate, List.cons_append, List.nil_append, Nat.reduceSub, Nat.reduceAdd]
    refine for_of ?_
    have hok : ∀ o : GO, True := fun _ => trivial
    refine forK_of W.length (by rw [enU_len, List.length_map]) (fun i σ G' => ∃ kvs z1 z2 z3, σ = [some (.tup (W.map uM)), some (.ref d), z1, z2, z3] ∧ G' = gup G d (.dT (dL U.bl kvs)) ∧ SetD kvs (goals (W.take i))) ⟨[], _, _, _, rfl, rfl, SetD.nil⟩ (fun i σ' G' _ h => by obtain ⟨kvs, _, _, _, _, rfl, _⟩ := h; exact hok (.dT (dL U.bl kvs))) ?_ ?_
    · rintro i x σ' G' hi hx ⟨kvs, z1, z2, z3, rfl, rfl, S⟩
      obtain ⟨m, hm, rfl⟩ := enM hx hi
      have hmem : m ∈ W := List.mem_of_getElem? hm
      have hno : m.2 ∉ goals (W.take i) := by
        intro hh
        obtain ⟨y, hy, e⟩ := List.mem_map.mp hh
        obtain ⟨j, hj, ej⟩ := List.mem_iff_getElem.mp hy
        rw [List.length_take] at hj
        rw [List.getElem_take] at ej
        have h1 : (goals W)[j]? = some m.2 := by unfold goals; rw [List.getElem?_map, List.getElem?_eq_getElem (by omega), ej, ← e]; rfl
        have h2 : (goals W)[i]? = some m.2 := by unfold goals; rw [List.getElem?_map, hm]; rfl
        have := (List.getElem?_inj (by unfold goals; rw [List.length_map]; omega) hnd).mp (h1.trans h2.symm)
        omega
      refine ⟨rfl, rfl, .str m.2.1.str, rfl, dat_kd _, dat_kd .out, ifF ((eq3_kd _ .out).trans (decide_eq_false (hout m hmem))) ⟨_, dlook_dL _ gup_same m.2, ifF (by rw [S.isSome]; exact decide_eq_false hno) ?_⟩⟩
      refine ⟨_, _, gup_same, tkey_uL m.2, decide_eq_true (by rw [dL_len]; have h9 := S.len; have h8 : (goals (W.take i)).length ≤ i := (by unfold goals; rw [List.length_map]; exact List.length_take_le i W); omega), ?_⟩
      refine Wk2.of ⟨pt kvs m.2 true, _, _, _, rfl, by rw [gup_gup, ← put_dL], ?_⟩
      rw [take_s hm]
      unfold goals
      rw [List.map_append]
      exact S.add m.2
    · rintro σ' G' ⟨kvs, z1, z2, z3, rfl, rfl, S⟩
      exact Wk.sub hq (Sub.new (Sub.refl G) hd)
  · refine ⟨_, (ss_cons (s_set (i := 1) sc_check_targets.nd e3dnewT)
        (ss_one (s_for PassesOwn.never rfl (i_enum T.enumerate (e3v 0)) (pg_tup (n := 2) rfl (pgs_cons (pg_name (i := 2) sc_check_targets.nd rfl (by first | exact Or.inl rfl | exact Or.inr rfl)) (pgs_cons (pg_tup (n := 2) rfl (pgs_cons (pg_name (i := 3) sc_check_targets.nd rfl (by first | exact Or.inl rfl | exact Or.inr rfl)) (pgs_cons (pg_name (i := 4) sc_check_targets.nd rfl (by first | exact Or.inl rfl | exact Or.inr rfl)) pgs_nil))) pgs_nil))) (gl_tup (gl_cons gl_name (gl_cons (gl_tup (gl_cons gl_name (gl_cons gl_name gl_nil))) gl_nil)))
        (ss_cons (s_if (PW.pt (w3or (t3cmp (o_eq hu64) (e3ix (e3v 4) e3int) e3str) (w3or1 (t3din hu (e3v 4) (e3v 1)))))
          (ss_one s_never)
          ss_nil)
          (ss_one (s_dput hu (e3v 1) (e3v 4) e3bl)))))), ?_⟩
    intro d hd
    have nad : a ≠ d := gne_none ha hd
    have hok : ∀ o : GO, gup G d o a = some (.lst (W.map uM)) := fun o => by rw [gup_ne nad]; exact ha
    dsimp only [seq3, asg3, n3, v3, drop3, ret3, next3, List.set_cons_zero, List.set_cons_succ, List.getElem?_cons_zero, List.getElem?_cons_succ, start3, List.map_cons, List.map_nil, List.length_cons, List.length_nil, List.replicate, List.cons_append, List.nil_append, Nat.reduceSub, Nat.reduceAdd]
    refine for_of ?_
    refine ⟨_, hok _, ?_⟩
    refine forK_of W.length (by rw [enU_len, List.length_map]) (fun i σ G' => ∃ kvs z1 z2 z3, σ = [some (.ref a), some (.ref d), z1, z2, z3] ∧ G' = gup G d (.dT (dL U.bl kvs)) ∧ SetD kvs (goals (W.take i))) ⟨[], _, _, _, rfl, rfl, SetD.nil⟩ (fun i σ' G' _ h => by obtain ⟨kvs, _, _, _, _, rfl, _⟩ := h; exact hok (.dT (dL U.bl kvs))) ?_ ?_
    · rintro i x σ' G' hi hx ⟨kvs, z1, z2, z3, rfl, rfl, S⟩
      obtain ⟨m, hm, rfl⟩ := enM hx hi
      have hmem : m ∈ W := List.mem_of_getElem? hm
      have hno : m.2 ∉ goals (W.take i) := by
        intro hh
        obtain ⟨y, hy, e⟩ := List.mem_map.mp hh
        obtain ⟨j, hj, ej⟩ := List.mem_iff_getElem.mp hy
        rw [List.length_take] at hj
        rw [List.getElem_take] at ej
        have h1 : (goals W)[j]? = some m.2 := by unfold goals; rw [List.getElem?_map, List.getElem?_eq_getElem (by omega), ej, ← e]; rfl
        have h2 : (goals W)[i]? = some m.2 := by unfold goals; rw [List.getElem?_map, hm]; rfl
        have := (List.getElem?_inj (by unfold goals; rw [List.length_map]; omega) hnd).mp (h1.trans h2.symm)
        omega
      refine ⟨rfl, rfl, .str m.2.1.str, rfl, dat_kd _, dat_kd .out, ifF ((eq3_kd _ .out).trans (decide_eq_false (hout m hmem))) ⟨_, dlook_dL _ gup_same m.2, ifF (by rw [S.isSome]; exact decide_eq_false hno) ?_⟩⟩
      refine ⟨_, _, gup_same, tkey_uL m.2, decide_eq_true (by rw [dL_len]; have h9 := S.len; have h8 : (goals (W.take i)).length ≤ i := (by unfold goals; rw [List.length_map]; exact List.length_take_le i W); omega), ?_⟩
      refine Wk2.of ⟨pt kvs m.2 true, _, _, _, rfl, by rw [gup_gup, ← put_dL], ?_⟩
      rw [take_s hm]
      unfold goals
      rw [List.map_append]
      exact S.add m.2
    · rintro σ' G' ⟨kvs, z1, z2, z3, rfl, rfl, S⟩
      exact Wk.sub hq (Sub.new (Sub.refl G) hd)
end
end K39
end
section
set_option Elab.async false
set_option linter.all false
set_option maxRecDepth 100000
set_option maxHeartbeats 2000000
namespace L3
open PySem L2
theorem Sub.mut {G G' : G3} {L : Addr} {a b : GO} (h : Sub (gup G L a) G') : Sub (gup G L b) (gup G' L b) := fun x g e => by
  by_cases hx : x = L
  · subst hx; rw [gup_same] at e ⊢; exact e
  · rw [gup_ne hx] at e ⊢; exact h x g (by rw [gup_ne hx]; exact e)
theorem Sub.base {G G' : G3} {L : Addr} {a : GO} (h : Sub (gup G L a) G') (hL : G L = none) : Sub G G' := fun x g e => h x g (by rw [gup_ne (gne_none e hL)]; exact e)
theorem Sub.at {G G' : G3} {L : Addr} {a : GO} (h : Sub (gup G L a) G') : G' L = some a := h L a gup_same
theorem gup_none {G : G3} {L V : Addr} {a : GO} (hV : G V = none) (h : V ≠ L) : gup G L a V = none := by rw [gup_ne h]; exact hV
end L3
namespace K39
open PySem L2 L3
theorem erase_map {α β : Type} (f : α → β) : ∀ (xs : List α) (k : Nat), (xs.map f).eraseIdx k = (xs.eraseIdx k).map f
  | [], _ => rfl
  | _ :: _, 0 => rfl
  | x :: xs, k + 1 => by
    show f x :: (xs.map f).eraseIdx k = f x :: (xs.eraseIdx k).map f
    rw [erase_map f xs k]
theorem filt_all {α : Type} (xs : List α) : xs.filter (fun _ => true) = xs := List.filter_eq_self.mpr fun _ _ => rfl
section
variable {P : Program} {w : World} {K : PySem.W.Frag} {mg : Str → Option Value} {base : Heap}
abbrev s_loose_moves : Stmt := topS 11
abbrev loose_moves_N : List Str := ["pending", "rows", "waiting", "_", "source", "target", "start", "goal"]
theorem sc_loose_moves : FnScope loose_moves_N ["pending"] (defScope s_loose_moves) := ⟨rfl, rfl, rfl, by decide +kernel, rfl, by decide +kernel, by decide +kernel⟩
def spLM : Sp3 := fun ws G Q _ => ∃ (p : Addr) (W : List Mv), ws = [.ref p] ∧ G p = some (.lst (W.map uM)) ∧ W.length ≤ 1000 ∧ looseOk W.length W ∧ ∀ L, G L = none → Q (.ref L) (gup G L (.lst ((looseGo W.length W).map uR)))
theorem ok_lm {f fU : Addr} {fd fdU : FuncData} (F : Fun K "loose_moves" "loose_moves" s_loose_moves f fd) (T : Tg mg) (O_unread_index : Own P w K mg base 1 "unread_index" ["pending"] spUI fU fdU) : FnOk P w K mg base CX0 2 f fd ["pending"] (lowSp K spLM) := by
  refine Fun_ok3 F sc_loose_moves (fun ws G Q E h => by obtain ⟨_, _, rfl, _⟩ := h; rfl) (fun cdv A outer s H E ws G Q E3 hr h => ?_)
  have hu64 := hr.units
  have hu65 : (A.deeper (PyProof.Rows.envOfC "loose_moves" (defScope s_loose_moves) s.heap.objs.size f cdv)).units + 65 < cLine := by have := hr.un; omega
  have hr_unread_index : Room 1 _ := hr
  obtain ⟨p, W, rfl, hp, hlen, hok, hq⟩ := h
  refine ⟨_, (ss_cons (s_set (i := 1) sc_loose_moves.nd (e3lst a3nil))
      (ss_cons (s_set (i := 2) sc_loose_moves.nd (e3T k_list T.list (a3cons (e3v 0) a3nil)))
      (ss_cons (s_for PassesOwn.never rfl (i_range1 T.range (e3B k_len T.len (a3cons (e3v 0) a3nil))) (pg_name (i := 3) sc_loose_moves.nd rfl (by first | exact Or.inl rfl | exact Or.inr rfl)) gl_name
      (ss_cons (s_asg (e3bmL PySem.F.slot_list_pop PySem.F.type_list_pop m_popAt (e3v 2) (a3cons (e3call O_unread_index.G hr_unread_index O_unread_index.g O_unread_index.kp O_unread_index.b pass0 (a3cons (e3v 2) a3nil)) a3nil)) (pg_tup (n := 2) rfl (pgs_cons (pg_name (i := 4) sc_loose_moves.nd rfl (by first | exact Or.inl rfl | exact Or.inr rfl)) (pgs_cons (pg_name (i := 5) sc_loose_moves.nd rfl (by first | exact Or.inl rfl | exact Or.inr rfl)) pgs_nil))) (gl_tup (gl_cons gl_name (gl_cons gl_name gl_nil))))
        (ss_cons (s_expr (e3bmL PySem.F.slot_list_append PySem.F.type_list_append m_append (e3v 1) (a3cons (e3tup (a3cons e3str (a3cons (e3v 4) (a3cons (e3v 5) a3nil)))) a3nil)))
        (ss_one (s_if (t3cmp (o_in hu65) (e3v 4) (e3lc (own := [("start", 6), ("goal", 7)]) rfl sc_loose_moves.nd (i_list (e3v 2)) (blkOk_by (N := loose_moves_N) (sc := defScope s_loose_moves) (by decide +kernel)) (gl_tup (gl_cons (gl_own (by decide)) (gl_cons (gl_own (by decide)) gl_nil))) (fun _ _ _ _ _ => (pg_tup (n := 2) rfl (pgs_cons (pg_name (i := 6) sc_loose_moves.nd rfl (by first | exact Or.inl rfl | exact Or.inr rfl)) (pgs_cons (pg_name (i := 7) sc_loose_moves.nd rfl (by first | exact Or.inl rfl | exact Or.inr rfl)) pgs_nil)))) (fun _ _ _ _ _ => ts3nil) (fun _ _ _ _ _ => (e3v 7))) rfl)
        (ss_one (s_setLc (i := 2) (own := [("start", 6), ("goal", 7)]) rfl sc_loose_moves.nd rfl (sw_true rfl rfl rfl (by decide +kernel)) (i_list (e3v 2)) (blkOk_by (N := loose_moves_N) (sc := defScope s_loose_moves) (by decide +kernel)) (gl_tup (gl_cons (gl_own (by decide)) (gl_cons (gl_own (by decide)) gl_nil))) (fun _ _ _ _ _ => (pg_tup (n := 2) rfl (pgs_cons (pg_name (i := 6) sc_loose_moves.nd rfl (by first | exact Or.inl rfl | exact Or.inr rfl)) (pgs_cons (pg_name (i := 7) sc_loose_moves.nd rfl (by first | exact Or.inl rfl | exact Or.inr rfl)) pgs_nil)))) (fun _ _ _ _ _ => ts3nil) (fun _ _ _ _ _ => (e3tup (a3cons (e3if (t3cmp (o_eq hu64) (e3v 6) (e3v 4)) (e3v 5) (e3v 6)) (a3cons (e3v 7) a3nil))))))
        ss_nil)))))
      (ss_one (s_ret (e3v 1)))))), ?_⟩
  refine ⟨rfl, fun L hL => ?_⟩
  have npL : p ≠ L := gne_none hp hL
  refine ⟨_, (by rw [gup_ne npL]; exact hp), fun V hV => ?_⟩
  have nVL : V ≠ L := fun e => by subst e; rw [gup_same] at hV; cases hV
  have hGV : G V = none := by rw [gup_ne nVL] at hV; exact hV
  have npV : p ≠ V := gne_none hp hGV
  dsimp only [seq3, asg3, n3, v3, drop3, ret3, next3, List.set_cons_zero, List.set_cons_succ, List.getElem?_cons_zero, List.getElem?_cons_succ, start3, List.map_cons, List.map_nil, List.length_cons, List.length_nil, List.replicate, List.cons_append, List.nil_append, Nat.reduceSub, Nat.reduceAdd]
  refine for_of ?_
  refine Or.inl ⟨_, (by rw [gup_ne npV, gup_ne npL]; exact hp), decide_eq_true (by rw [List.length_map]; omega), ?_⟩
  refine forK_of W.length (by rw [rgU_len, List.length_map]; rfl) (fun i σ G' => ∃ (rows : List Row) (W' : List Mv) (V : Addr) (z1 z2 z3 z4 z5 : Option U), σ = [some (.ref p), some (.ref L), some (.ref V), z1, z2, z3, z4, z5] ∧ L3.Sub (gup G L (.lst (rows.map uR))) G' ∧ G' V = some (.lst (W'.map uM)) ∧ G V = none ∧ V ≠ L ∧
    rows ++ looseGo (W.length - i) W' = looseGo W.length W ∧ looseOk (W.length - i) W' ∧ W'.length ≤ 1000 ∧ rows.length = i) ⟨[], W, V, _, _, _, _, _, rfl, Sub.new (Sub.refl _) hV, gup_same, hGV, nVL, rfl, hok, hlen, rfl⟩ (fun _ _ _ _ _ => trivial) ?_ ?_
  · rintro i x σ' G' hi hx ⟨rows, W', V, z1, z2, z3, z4, z5, rfl, hs, hV', hgV, nV, hrows, hok', hl', hri⟩
    have er : W.length - i = W.length - (i + 1) + 1 := by omega
    rw [er] at hrows hok'
    obtain ⟨k, m, hk, hkm, hok''⟩ := hok'
    have hkl : k < W'.length := (List.getElem?_eq_some_iff.mp hkm).1
    rw [looseGo, hk] at hrows
    dsimp only at hrows
    rw [hkm] at hrows
    dsimp only at hrows
    have hui : unreadI W' = (k : Nat) := by unfold unreadI; rw [hk]
    have hsV : gup G L (.lst (rows.map uR)) V = none := gup_none hgV nV
    refine ⟨⟨_, hV'⟩, V, W', rfl, hV', hl', ?_⟩
    refine ⟨_, k, uM m, hV', (by rw [hui]; exact decide_eq_true (by omega)), (by rw [hui, List.length_map]; exact seqI hkl), (by rw [List.getElem?_map, hkm]; rfl), rfl, ?_⟩
    rw [erase_map]
    have hs1 : L3.Sub (gup G L (.lst (rows.map uR))) (gup G' V (.lst ((W'.eraseIdx k).map uM))) := Sub.new hs hsV
    refine ⟨⟨_, hs1.at⟩, rfl, _, hs1.at, decide_eq_true (by rw [List.length_map]; omega), ?_⟩
    rw [show rows.map uR ++ [U.tup [.str "move", uL m.1, uL m.2]] = (rows ++ [((false, m.1, m.2) : Row)]).map uR by rw [List.map_append]; rfl]
    have hs2 := hs1.mut (b := .lst ((rows ++ [((false, m.1, m.2) : Row)]).map uR))
    have hV2 : gup (gup G' V (.lst ((W'.eraseIdx k).map uM))) L (.lst ((rows ++ [((false, m.1, m.2) : Row)]).map uR)) V = some (.lst ((W'.eraseIdx k).map uM)) := by rw [gup_ne nV, gup_same]
    generalize gup (gup G' V (.lst ((W'.eraseIdx k).map uM))) L (.lst ((rows ++ [((false, m.1, m.2) : Row)]).map uR)) = G2 at hs2 hV2 ⊢
    have hl1 : (W'.eraseIdx k).length ≤ 1000 := Nat.le_trans (List.length_eraseIdx_le _ _) hl'
    dsimp only [seq3, asg3, n3, v3, c3, drop3, ret3, next3, te3, op3, ifS3, cb3, cons3, nil3, call3, List.set_cons_zero, List.set_cons_succ, List.getElem?_cons_zero, List.getElem?_cons_succ, start3, List.map_cons, List.map_nil, List.length_cons, List.length_nil, List.replicate, List.cons_append, List.nil_append, Nat.reduceSub, Nat.reduceAdd]
    refine lc_of ?_
    refine ⟨_, hV2, ?_⟩
    refine lcK_of (W'.eraseIdx k) uM (fun _ => true) (·.2) uL (fun G' s => s _ _ hV2) (by omega) (fun x hx G' hs Y N hy hn => ⟨rfl, hy rfl _ (Sub.refl _)⟩) fun L2 hL2 => ?_
    rw [filt_all]
    refine ⟨_, gup_same, dat_uL _, dat_Ls _, ?_⟩
    have hs3 := Sub.new (o := .lst (((W'.eraseIdx k).map (·.2)).map uL)) hs2 (hs2.free hL2)
    have hV3 : gup G2 L2 (.lst (((W'.eraseIdx k).map (·.2)).map uL)) V = some (.lst ((W'.eraseIdx k).map uM)) := by rw [gup_ne (gne_none hV2 hL2)]; exact hV2
    generalize gup G2 L2 (.lst (((W'.eraseIdx k).map (·.2)).map uL)) = G3 at hs3 hV3 ⊢
    by_cases hin : m.1 ∈ goals (W'.eraseIdx k)
    · refine ifT (by rw [if_neg Bool.false_ne_true, any_uL]; exact decide_eq_true hin) ?_
      refine lc_of ?_
      refine ⟨_, hV3, ?_⟩
      refine lcK_of (W'.eraseIdx k) uM (fun _ => true) (led m.1 m.2) uM (fun G' s => s _ _ hV3) (by omega) (fun x hx G' hs Y N hy hn => ?_) fun L3 hL3 => ?_
      · refine ⟨rfl, dat_uL _, dat_uL _, ?_⟩
        have hy := hy rfl _ (Sub.refl _)
        by_cases hxm : x.1 = m.1
        · refine ifT ((eq3_uL _ _).trans (decide_eq_true hxm)) ⟨rfl, ?_⟩
          unfold led at hy
          rw [if_pos hxm] at hy
          exact hy
        · refine ifF ((eq3_uL _ _).trans (decide_eq_false hxm)) ⟨rfl, ?_⟩
          unfold led at hy
          rw [if_neg hxm] at hy
          exact hy
      · rw [filt_all]
        have e : looseNext W' k m = (W'.eraseIdx k).map (led m.1 m.2) := if_pos hin
        rw [e] at hrows hok''
        have hf3 := hs3.free hL3
        have n3 : L3 ≠ L := fun z => by subst z; rw [gup_same] at hf3; cases hf3
        rw [gup_ne n3] at hf3
        exact Wk2.of ⟨rows ++ [(false, m.1, m.2)], _, L3, _, _, _, _, _, rfl, Sub.new hs3 (hs3.free hL3), gup_same, hf3, n3, by rw [List.append_assoc]; exact hrows, hok'', by rw [List.length_map]; exact hl1, by rw [List.length_append, hri]; rfl⟩
    · refine ifF (by rw [if_neg Bool.false_ne_true, any_uL]; exact decide_eq_false hin) ?_
      have e : looseNext W' k m = W'.eraseIdx k := if_neg hin
      rw [e] at hrows hok''
      exact Wk2.of ⟨rows ++ [(false, m.1, m.2)], _, V, _, _, _, _, _, rfl, hs3, hV3, hgV, nV, by rw [List.append_assoc]; exact hrows, hok'', hl1, by rw [List.length_append, hri]; rfl⟩
  · rintro σ' G' ⟨rows, W', V, z1, z2, z3, z4, z5, rfl, hs, hV', hgV, nV, hrows, hok', hl', hri⟩
    rw [Nat.sub_self, looseGo, List.append_nil] at hrows
    refine Wk.sub ?_ hs
    rw [hrows]
    exact hq L hL
end
end K39
end
section
set_option Elab.async false
set_option linter.all false
set_option maxRecDepth 100000
set_option maxHeartbeats 2000000
namespace K39
open PySem L2 L3
theorem atI_eq {α : Type} {xs : List α} {j : Int} {i : Nat} {x : α} (e : j = (i : Nat)) (h : xs[i]? = some x) : L2.atI xs j = some x := by subst e; exact atI_nat h
def fAt (p : Mv → Bool) (W : List Mv) (j : Nat) : Bool := match W[j]? with
  | some m => p m
  | none => false
theorem filt_head (p : Mv → Bool) (W : List Mv) (k : Nat) (h : W.findIdx? p = some k) : ∃ rest, (List.range W.length).filter (fAt p W) = k :: rest := by
  rw [List.findIdx?_eq_some_iff_getElem] at h
  obtain ⟨hk, hp, hb⟩ := h
  have e : W.length = k + (W.length - k - 1 + 1) := by omega
  have h1 : (List.range k).filter (fAt p W) = [] := by
    rw [List.filter_eq_nil_iff]
    intro j hj
    have hj := List.mem_range.mp hj
    unfold fAt
    rw [List.getElem?_eq_getElem (by omega)]
    exact hb j hj
  have h2 : fAt p W k = true := by
    unfold fAt
    rw [List.getElem?_eq_getElem hk]
    exact hp
  rw [e, List.range_add, List.filter_append, h1, List.nil_append, List.range_succ_eq_map, List.map_cons, Nat.add_zero, List.filter_cons, if_pos h2]
  exact ⟨_, rfl⟩
theorem cut_to {α : Type} (f : α → U) (xs : List α) (k : Nat) (h : k ≤ xs.length) : cut3 (xs.map f) none (some (k : Int)) = (xs.take k).map f := by
  unfold cut3
  rw [HT.sIx_none, List.length_map, HT.sIx_nat, Nat.min_eq_left h, List.drop_zero, Nat.sub_zero, List.map_take]
theorem cut_from {α : Type} (f : α → U) (xs : List α) (k : Nat) (j : Int) (e : j = (k : Nat)) (h : k ≤ xs.length) : cut3 (xs.map f) (some j) none = (xs.drop k).map f := by
  subst e
  unfold cut3
  rw [List.length_map, HT.sIx_nat, HT.sIx_none, Nat.min_eq_left h, ← List.map_drop, List.take_of_length_le (by rw [List.length_map, List.length_drop]; exact Nat.le_refl _)]
section
variable {P : Program} {w : World} {K : PySem.W.Frag} {mg : Str → Option Value} {base : Heap}
end
end K39
end
section
set_option linter.all false
/-! plain facts on the rings that ring_from finds -/
namespace K39
theorem nodup_len {α : Type} [DecidableEq α] : ∀ (l k : List α), l.Nodup → (∀ x ∈ l, x ∈ k) → l.length ≤ k.length
  | [], _, _, _ => Nat.zero_le _
  | a :: l, k, hn, hs => by
    have ha : a ∈ k := hs a List.mem_cons_self
    have hn := List.nodup_cons.mp hn
    have h := nodup_len l (k.erase a) hn.2 fun x hx => (List.mem_erase_of_ne (fun e : x = a => hn.1 (by rw [← e]; exact hx))).mpr (hs x (List.mem_cons_of_mem _ hx))
    rw [List.length_erase_of_mem ha] at h
    have : 0 < k.length := List.length_pos_of_mem ha
    simp only [List.length_cons]
    omega
theorem tgs_snoc (xs : List Mv) (m : Mv) (k : Loc) : tgs (xs ++ [m]) k = if m.1 = k then tgs xs k ++ [m.2] else tgs xs k := by
  unfold tgs
  rw [List.filter_append, List.map_append]
  by_cases h : m.1 = k <;> simp [h]
theorem one_eq {ts : List Loc} {t : Loc} : one? ts = some t ↔ ts = [t] := by
  unfold one?
  split
  · rename_i u
    constructor
    · intro h; cases h; rfl
    · intro h; cases h; rfl
  · rename_i h0
    constructor
    · intro h; cases h
    · intro h; exact absurd h (h0 t)
theorem nxt_mem {P : List Mv} {x t : Loc} (h : nxt P x = some t) : (x, t) ∈ P := by
  have h := one_eq.mp h
  have : t ∈ tgs P x := by rw [h]; exact List.mem_singleton.mpr rfl
  unfold tgs at this
  obtain ⟨m, hm, e⟩ := List.mem_map.mp this
  have hm2 := List.mem_filter.mp hm
  have e2 := of_decide_eq_true hm2.2
  have : m = (x, t) := by obtain ⟨a, b⟩ := m; cases e; cases e2; rfl
  rw [← this]; exact hm2.1
theorem goals_inj {P : List Mv} (hn : (goals P).Nodup) {a b : Mv} (ha : a ∈ P) (hb : b ∈ P) (h : a.2 = b.2) : a = b := by
  induction P with
  | nil => cases ha
  | cons m r ih =>
    have hn := List.nodup_cons.mp hn
    rcases List.mem_cons.mp ha with ha | ha <;> rcases List.mem_cons.mp hb with hb | hb
    · rw [ha, hb]
    · exact absurd (List.mem_map.mpr ⟨b, hb, by rw [← h, ha]⟩) hn.1
    · exact absurd (List.mem_map.mpr ⟨a, ha, by rw [h, hb]⟩) hn.1
    · exact ih hn.2 ha hb
theorem nxt_inj {P : List Mv} (hn : (goals P).Nodup) {u v t : Loc} (hu : nxt P u = some t) (hv : nxt P v = some t) : u = v := by
  have := goals_inj hn (nxt_mem hu) (nxt_mem hv) rfl
  cases this; rfl
/-- how far one has walked from s -/
structure Walk (f : Loc → Option Loc) (s : Loc) (acc : List Loc) (x : Loc) : Prop where
  nd : (acc ++ [x]).Nodup
  ne : ∀ y ∈ acc, f y ≠ none
  pre : ∀ y ∈ acc ++ [x], y = s ∨ ∃ u ∈ acc, f u = some y
theorem Walk.start (f : Loc → Option Loc) (s : Loc) : Walk f s [] s := ⟨by simp, (fun y hy => by cases hy), fun y hy => .inl (by simpa using hy)⟩
theorem Walk.step {f : Loc → Option Loc} (hf : ∀ u v t, f u = some t → f v = some t → u = v) {s : Loc} {acc : List Loc} {x t : Loc} (w : Walk f s acc x) (h : f x = some t) (hs : t ≠ s) : Walk f s (acc ++ [x]) t := by
  have hx : x ∉ acc := fun hx => by
    have := w.nd
    rw [List.nodup_append] at this
    exact this.2.2 x hx x (List.mem_singleton.mpr rfl) rfl
  refine ⟨?_, fun y hy => ?_, fun y hy => ?_⟩
  · rw [List.nodup_append]
    refine ⟨w.nd, by simp, fun a ha b hb e => ?_⟩
    have hb := List.mem_singleton.mp hb
    subst hb
    subst e
    rcases w.pre a ha with e | ⟨u, hu, e⟩
    · exact hs e
    · exact hx (hf u x a e h ▸ hu)
  · rcases List.mem_append.mp hy with hy | hy
    · exact w.ne y hy
    · rw [List.mem_singleton.mp hy, h]; exact fun e => by cases e
  · rcases List.mem_append.mp hy with hy | hy
    · rcases w.pre y hy with e | ⟨u, hu, e⟩
      · exact .inl e
      · exact .inr ⟨u, List.mem_append_left _ hu, e⟩
    · exact .inr ⟨x, by simp, by rw [List.mem_singleton.mp hy]; exact h⟩
theorem ring_fuel {f : Loc → Option Loc} (hf : ∀ u v t, f u = some t → f v = some t → u = v) {s : Loc} {D : Nat} (hD : ∀ l : List Loc, l.Nodup → (∀ x ∈ l, f x ≠ none) → l.length ≤ D) :
    ∀ (d e : Nat) (acc : List Loc) (x : Loc), Walk f s acc x → acc.length + d = D → ringGo f s d acc x = ringGo f s (d + e) acc x
  | 0, 0, _, _, _, _ => rfl
  | 0, e + 1, acc, x, w, hl => by
    rw [show 0 + (e + 1) = e + 1 by omega, ringGo, ringGo]
    cases h : f x with
    | none => rfl
    | some t =>
      have := hD (acc ++ [x]) w.nd fun y hy => by
        rcases List.mem_append.mp hy with hy | hy
        · exact w.ne y hy
        · rw [List.mem_singleton.mp hy, h]; exact fun e => by cases e
      rw [List.length_append] at this
      have : acc.length + 1 ≤ D := this
      omega
  | d + 1, e, acc, x, w, hl => by
    rw [show d + 1 + e = (d + e) + 1 by omega, ringGo, ringGo]
    cases h : f x with
    | none => rfl
    | some t =>
      dsimp only
      by_cases hs : t = s
      · rw [if_pos hs, if_pos hs]
      · rw [if_neg hs, if_neg hs]
        exact ring_fuel hf hD d e _ t (w.step hf h hs) (by rw [List.length_append]; show acc.length + 1 + d = D; omega)
theorem ring_same {P : List Mv} (hn : (goals P).Nodup) {s : Loc} {D : Nat} (hD : ∀ l : List Loc, l.Nodup → (∀ x ∈ l, nxt P x ≠ none) → l.length ≤ D) (hl : D ≤ P.length) : ringGo (nxt P) s D [] s = ringOf P s := by
  unfold ringOf
  rw [ring_fuel (fun u v t => nxt_inj hn) hD D (P.length - D) [] s (Walk.start _ _) (by simp), show D + (P.length - D) = P.length by omega]
theorem ringGo_len (f : Loc → Option Loc) (s : Loc) : ∀ (n : Nat) (acc : List Loc) (x : Loc), (ringGo f s n acc x).length ≤ acc.length + n
  | 0, acc, x => by simp [ringGo]
  | n + 1, acc, x => by
    rw [ringGo]
    split
    · simp
    · split
      · rw [List.length_append]; show _ + 1 ≤ _; omega
      · have := ringGo_len f s n (acc ++ [x]) ‹_›
        rw [List.length_append] at this
        have : _ ≤ acc.length + 1 + n := this
        omega
theorem ringOf_len (P : List Mv) (s : Loc) : (ringOf P s).length ≤ P.length := by
  have := ringGo_len (nxt P) s P.length [] s
  rw [List.length_nil, Nat.zero_add] at this
  exact this
theorem lk_mem {α : Type} {kvs : List (Loc × α)} {k : Loc} {a : α} (h : lk kvs k = some a) : k ∈ kvs.map (·.1) := by
  unfold lk at h
  cases e : kvs.find? (fun kv => decide (kv.1 = k)) with
  | none => rw [e] at h; cases h
  | some p =>
    have h1 := List.mem_of_find?_eq_some e
    have h2 := List.find?_some e
    exact List.mem_map.mpr ⟨p, h1, of_decide_eq_true h2⟩
def prTo (P : List Mv) (i : Nat) : List (List Loc) × List Loc := (P.take i).foldl (prStep P) ([], [])
theorem prTo_succ {P : List Mv} {i : Nat} {m : Mv} (h : P[i]? = some m) : prTo P (i + 1) = prStep P (prTo P i) m := by
  unfold prTo
  rw [List.take_succ, h]
  simp
theorem prTo_len (P : List Mv) : ∀ i, i ≤ P.length → (prTo P i).1.length ≤ i ∧ (prTo P i).2.length ≤ i * P.length
  | 0, _ => by simp [prTo]
  | i + 1, h => by
    have ih := prTo_len P i (by omega)
    rw [prTo_succ (List.getElem?_eq_getElem (show i < P.length by omega))]
    unfold prStep
    have := ringOf_len P (P[i]'(by omega)).1
    rw [Nat.succ_mul]
    split
    · omega
    · split
      · omega
      · simp only [List.length_append, List.length_singleton]; omega
end K39
end
section
set_option Elab.async false
set_option linter.all false
set_option maxRecDepth 100000
set_option maxHeartbeats 2000000
namespace K39
open PySem L2 L3
def uG (r : List Loc) : U := .tup (r.map uL)
/-- the leads as the first loop makes them -/
structure LeadsAt (G G' : G3) (d : Addr) (leads : List (Loc × Addr)) (W : List Mv) : Prop where
  sub : L3.Sub G G'
  at' : G' d = some (.dT (dL U.ref leads))
  dn : G d = none
  get : ∀ k a, lk leads k = some a → G' a = some (.lst ((tgs W k).map uL)) ∧ a ≠ d ∧ G a = none
  inj : ∀ k k' a, lk leads k = some a → lk leads k' = some a → k = k'
  none' : ∀ k, lk leads k = none → tgs W k = []
  len : leads.length ≤ W.length
theorem pt_new {α : Type} {kvs : List (Loc × α)} {k : Loc} (v : α) (h : lk kvs k = none) : pt kvs k v = kvs ++ [(k, v)] := by
  unfold pt; rw [h]; rfl
theorem tgs_len (W : List Mv) (k : Loc) : (tgs W k).length ≤ W.length := by
  unfold tgs; rw [List.length_map]; exact List.length_filter_le _ _
section
variable {P : Program} {w : World} {K : PySem.W.Frag} {mg : Str → Option Value} {base : Heap}
abbrev s_pure_rings : Stmt := topS 7
abbrev pure_rings_N : List Str := ["pending", "leads", "source", "target", "rings", "met", "ring", "location"]
theorem sc_pure_rings : FnScope pure_rings_N ["pending"] (defScope s_pure_rings) := ⟨rfl, rfl, rfl, by decide +kernel, rfl, by decide +kernel, by decide +kernel⟩
def spPR : Sp3 := fun ws G Q _ => ∃ (p : Addr) (W : List Mv), ws = [.ref p] ∧ G p = some (.lst (W.map uM)) ∧ W.length ≤ 100 ∧ (goals W).Nodup ∧ ∀ L, G L = none → Q (.ref L) (gup G L (.lst ((prAll W).1.map uG)))
theorem ok_pr {f fU : Addr} {fd fdU : FuncData} (F : Fun K "pure_rings" "pure_rings" s_pure_rings f fd) (T : Tg mg) (O_ring_from : Own P w K mg base 1 "ring_from" ["start", "leads"] spRF fU fdU) : FnOk P w K mg base CX0 2 f fd ["pending"] (lowSp K spPR) := by
  refine Fun_ok3 F sc_pure_rings (fun ws G Q E h => by obtain ⟨_, _, rfl, _⟩ := h; rfl) (fun cdv A outer s H E ws G Q E3 hr h => ?_)
  have hu := hu_of hr
  have hr_ring_from : Room 1 _ := hr
  obtain ⟨p, W, rfl, hp, hlen, hnd, hq⟩ := h
  refine ⟨_, (ss_cons (s_set (i := 1) sc_pure_rings.nd e3dnewT)
      (ss_cons (s_for PassesOwn.never rfl (i_list (e3v 0)) (pg_tup (n := 2) rfl (pgs_cons (pg_name (i := 2) sc_pure_rings.nd rfl (by first | exact Or.inl rfl | exact Or.inr rfl)) (pgs_cons (pg_name (i := 3) sc_pure_rings.nd rfl (by first | exact Or.inl rfl | exact Or.inr rfl)) pgs_nil))) (gl_tup (gl_cons gl_name (gl_cons gl_name gl_nil)))
      (ss_one (s_expr (e3bmL PySem.F.slot_list_append PySem.F.type_list_append m_append (e3setd hu (e3v 1) (e3v 2) (e3lst a3nil) ⟨rfl, rfl, rfl, rfl⟩) (a3cons (e3v 3) a3nil)))))
      (ss_cons (s_set (i := 4) sc_pure_rings.nd (e3lst a3nil))
      (ss_cons (s_set (i := 5) sc_pure_rings.nd e3dnewT)
      (ss_cons (s_for PassesOwn.never rfl (i_list (e3v 0)) (pg_tup (n := 2) rfl (pgs_cons (pg_name (i := 2) sc_pure_rings.nd rfl (by first | exact Or.inl rfl | exact Or.inr rfl)) (pgs_cons (pg_name (i := 3) sc_pure_rings.nd rfl (by first | exact Or.inl rfl | exact Or.inr rfl)) pgs_nil))) (gl_tup (gl_cons gl_name (gl_cons gl_name gl_nil)))
      (ss_one (s_if (t3dnotin hu (e3v 2) (e3v 5))
        (ss_cons (s_set (i := 6) sc_pure_rings.nd (e3call O_ring_from.G hr_ring_from O_ring_from.g O_ring_from.kp O_ring_from.b pass0 (a3cons (e3v 2) (a3cons (e3v 1) a3nil))))
          (ss_cons (s_if (t3tru (e3v 6))
          (ss_one (s_expr (e3bmL PySem.F.slot_list_append PySem.F.type_list_append m_append (e3v 4) (a3cons (e3v 6) a3nil))))
          ss_nil)
          (ss_one (s_for PassesOwn.never rfl (i_tup (e3v 6)) (pg_name (i := 7) sc_pure_rings.nd rfl (by first | exact Or.inl rfl | exact Or.inr rfl)) gl_name
          (ss_one (s_dput hu (e3v 5) (e3v 7) e3bl))))))
        ss_nil)))
      (ss_one (s_ret (e3v 4)))))))), ?_⟩
  refine fun d hd => ?_
  have npd : p ≠ d := gne_none hp hd
  dsimp only [seq3, asg3, n3, v3, drop3, ret3, next3, List.set_cons_zero, List.set_cons_succ, List.getElem?_cons_zero, List.getElem?_cons_succ, start3, List.map_cons, List.map_nil, List.length_cons, List.length_nil, List.replicate, List.cons_append, List.nil_append, Nat.reduceSub, Nat.reduceAdd]
  refine for_of ?_
  refine ⟨_, (by rw [gup_ne npd]; exact hp), ?_⟩
  refine forK_of W.length (by rw [List.length_map]) (fun i σ G' => ∃ (leads : List (Loc × Addr)) (z1 z2 : Option U), σ = [some (.ref p), some (.ref d), z1, z2, none, none, none, none] ∧ LeadsAt G G' d leads (W.take i)) ⟨[], _, _, rfl, ⟨Sub.new (Sub.refl _) hd, gup_same, hd, (fun k a h => by cases h), (fun k k' a h => by cases h), fun k h => rfl, Nat.zero_le _⟩⟩ (fun i σ' G' _ h => by obtain ⟨_, _, _, _, h⟩ := h; exact h.sub _ _ hp) ?_ ?_
  · rintro i x σ' G' hi hx ⟨leads, z1, z2, rfl, A1⟩
    have hm : W[i]? = some W[i] := List.getElem?_eq_getElem hi
    generalize W[i] = m at hm
    rw [List.getElem?_map, hm] at hx
    cases hx
    have etk := take_s hm
    have eil : (W.take i).length ≤ 100 := Nat.le_trans (List.length_take_le' i W) hlen
    refine ⟨rfl, ⟨_, A1.at'⟩, rfl, fun a0 ha0 => ?_⟩
    have nda : d ≠ a0 := gne_none A1.at' ha0
    refine ⟨_, kL m.1, (by rw [gup_ne nda]; exact A1.at'), tkey_uL _, decide_eq_true (by rw [dL_len]; have := A1.len; omega), ?_⟩
    rw [look_dL]
    cases e : lk leads m.1 with
    | some a =>
      obtain ⟨g1, g2, g3⟩ := A1.get _ _ e
      have na0 : a ≠ a0 := gne_none g1 ha0
      refine ⟨⟨_, (by rw [gup_ne na0]; exact g1)⟩, _, (by rw [gup_ne na0]; exact g1), decide_eq_true (by rw [List.length_map]; have := tgs_len (W.take i) m.1; omega), ?_⟩
      refine Wk2.of ⟨leads, _, _, rfl, ⟨Sub.new (Sub.new A1.sub (A1.sub.free ha0)) g3, by rw [gup_ne g2.symm, gup_ne nda]; exact A1.at', A1.dn, fun k a' h => ?_, A1.inj, fun k h => ?_, by rw [etk, List.length_append]; have := A1.len; omega⟩⟩
      · obtain ⟨q1, q2, q3⟩ := A1.get _ _ h
        refine ⟨?_, q2, q3⟩
        rw [etk, tgs_snoc]
        by_cases hk : m.1 = k
        · subst hk
          rw [e] at h; cases h
          rw [if_pos rfl, List.map_append]
          exact gup_same
        · rw [if_neg hk]
          have : a' ≠ a := fun z => hk (by subst z; exact A1.inj _ _ _ e h)
          rw [gup_ne this, gup_ne (gne_none q1 ha0)]
          exact q1
      · rw [etk, tgs_snoc]
        have hk : ¬ m.1 = k := fun z => by subst z; rw [e] at h; cases h
        rw [if_neg hk]
        exact A1.none' _ h
    | none =>
      refine ⟨⟨_, (by rw [gup_ne nda.symm]; exact gup_same)⟩, _, (by rw [gup_ne nda.symm]; exact gup_same), rfl, ?_⟩
      have ep : dL U.ref leads ++ [(kL m.1, U.ref a0)] = dL U.ref (pt leads m.1 a0) := by rw [pt_new _ e]; unfold dL; rw [List.map_append]; rfl
      rw [ep]
      have ga0 := A1.sub.free ha0
      refine Wk2.of ⟨pt leads m.1 a0, _, _, rfl, ⟨Sub.new (Sub.new (Sub.new A1.sub ga0) A1.dn) ga0, by rw [gup_ne nda, gup_same], A1.dn, fun k a' h => ?_, fun k k' a' h h' => ?_, fun k h => ?_, by rw [etk, List.length_append]; have := A1.len; have := pt_len leads m.1 a0; show _ ≤ (W.take i).length + 1; omega⟩⟩
      · rw [lk_pt] at h
        by_cases hk : k = m.1
        · subst hk
          rw [if_pos rfl] at h; cases h
          refine ⟨?_, nda.symm, ga0⟩
          rw [gup_same, etk, tgs_snoc, if_pos rfl, A1.none' _ e]
          rfl
        · rw [if_neg hk] at h
          obtain ⟨q1, q2, q3⟩ := A1.get _ _ h
          refine ⟨?_, q2, q3⟩
          rw [etk, tgs_snoc, if_neg (fun z => hk z.symm), gup_ne (gne_none q1 ha0), gup_ne q2, gup_ne (gne_none q1 ha0)]
          exact q1
      · rw [lk_pt] at h h'
        by_cases hk : k = m.1 <;> by_cases hk' : k' = m.1
        · rw [hk, hk']
        · rw [if_pos hk] at h; rw [if_neg hk'] at h'
          cases h
          exact absurd rfl (gne_none (A1.get _ _ h').1 ha0)
        · rw [if_neg hk] at h; rw [if_pos hk'] at h'
          cases h'
          exact absurd rfl (gne_none (A1.get _ _ h).1 ha0)
        · rw [if_neg hk] at h; rw [if_neg hk'] at h'
          exact A1.inj _ _ _ h h'
      · rw [lk_pt] at h
        by_cases hk : k = m.1
        · rw [if_pos hk] at h; cases h
        · rw [if_neg hk] at h
          rw [etk, tgs_snoc, if_neg (fun z => hk z.symm)]
          exact A1.none' _ h
  · rintro σ' G1 ⟨leads, z1, z2, rfl, A1⟩
    rw [List.take_length] at A1
    have hp1 := A1.sub _ _ hp
    refine ⟨rfl, fun RL hRL => fun MD hMD => ?_⟩
    have nRM : RL ≠ MD := gne_none gup_same hMD
    have hM1 : G1 MD = none := by rw [gup_ne nRM.symm] at hMD; exact hMD
    have nd1 : d ≠ RL := gne_none A1.at' hRL
    have nd2 : d ≠ MD := gne_none A1.at' hM1
    have hd2 : ∀ o u, gup (gup G1 RL o) MD u d = some (.dT (dL U.ref leads)) := fun o u => by rw [gup_ne nd2, gup_ne nd1]; exact A1.at'
    have hget : ∀ o u k a, lk leads k = some a → gup (gup G1 RL o) MD u a = some (.lst ((tgs W k).map uL)) := fun o u k a h => by
      have q := (A1.get k a h).1
      rw [gup_ne (gne_none q hM1), gup_ne (gne_none q hRL)]; exact q
    have hp2 : ∀ o u, gup (gup G1 RL o) MD u p = some (.lst (W.map uM)) := fun o u => by rw [gup_ne (gne_none hp1 hM1), gup_ne (gne_none hp1 hRL)]; exact hp1
    have hbd : ∀ l : List Loc, l.Nodup → (∀ x ∈ l, nxt W x ≠ none) → l.length ≤ leads.length := fun l hl hx => by
      have := nodup_len l (leads.map (·.1)) hl fun x hx' => by
        cases e : lk leads x with
        | some a => exact lk_mem e
        | none =>
          have := A1.none' _ e
          exact absurd (show nxt W x = none by unfold nxt; rw [this]; rfl) (hx x hx')
      rwa [List.length_map] at this
    dsimp only [seq3, asg3, n3, v3, drop3, ret3, next3, List.set_cons_zero, List.set_cons_succ, List.getElem?_cons_zero, List.getElem?_cons_succ, start3, List.map_cons, List.map_nil, List.length_cons, List.length_nil, List.replicate, List.cons_append, List.nil_append, Nat.reduceSub, Nat.reduceAdd]
    refine for_of ?_
    refine ⟨_, hp2 _ _, ?_⟩
    refine forK_of W.length (by rw [List.length_map]) (fun i σ G' => ∃ (kvs : List (Loc × Bool)) (y1 y2 y3 y4 : Option U), σ = [some (.ref p), some (.ref d), y1, y2, some (.ref RL), some (.ref MD), y3, y4] ∧ G' = gup (gup G1 RL (.lst ((prTo W i).1.map uG))) MD (.dT (dL U.bl kvs)) ∧ SetD kvs (prTo W i).2) ⟨[], _, _, _, _, rfl, rfl, SetD.nil⟩ (fun i σ' G' _ h => by obtain ⟨_, _, _, _, _, _, rfl, _⟩ := h; exact hp2 _ _) ?_ ?_
    · rintro i x σ' G' hi hx ⟨kvs, y1, y2, y3, y4, rfl, rfl, S⟩
      have hm : W[i]? = some W[i] := List.getElem?_eq_getElem hi
      generalize W[i] = m at hm
      rw [List.getElem?_map, hm] at hx
      cases hx
      have epr := prTo_succ hm
      obtain ⟨l1, l2⟩ := prTo_len W i (by omega)
      have l3 : (prTo W i).2.length ≤ 10000 := Nat.le_trans l2 (Nat.mul_le_mul (Nat.le_trans (Nat.le_of_lt hi) hlen) hlen)
      refine ⟨rfl, _, dlook_dL _ gup_same m.1, ?_⟩
      by_cases hin : m.1 ∈ (prTo W i).2
      · refine ifF (by rw [S.isSome, decide_eq_true hin]; rfl) ?_
        have e : prTo W (i + 1) = prTo W i := by rw [epr]; unfold prStep; rw [if_pos hin]
        exact Wk2.of ⟨kvs, _, _, _, _, rfl, by rw [e], by rw [e]; exact S⟩
      · refine ifT (by rw [S.isSome, decide_eq_false hin]; rfl) ?_
        refine ⟨m.1, d, leads, tgs W, rfl, hd2 _ _, hget _ _, A1.none', (by have := A1.len; omega), ?_⟩
        rw [show (fun x => one? (tgs W x)) = nxt W from rfl, ring_same hnd hbd A1.len]
        have hrl := ringOf_len W m.1
        by_cases hr0 : ringOf W m.1 = []
        · have e : prTo W (i + 1) = prTo W i := by rw [epr]; unfold prStep; rw [if_neg hin, if_pos hr0]
          generalize ringOf W m.1 = r at hr0
          refine ifF (by rw [hr0]; rfl) ?_
          dsimp only [seq3, asg3, n3, v3, drop3, ret3, next3, List.set_cons_zero, List.set_cons_succ, List.getElem?_cons_zero, List.getElem?_cons_succ, start3, List.map_cons, List.map_nil, List.length_cons, List.length_nil, List.replicate, List.cons_append, List.nil_append, Nat.reduceSub, Nat.reduceAdd]
          refine for_of ?_
          refine forK_of 0 (by rw [hr0]; rfl) (fun _ σ G' => σ = [some (.ref p), some (.ref d), some (uL m.1), some (uL m.2), some (.ref RL), some (.ref MD), some (.tup (r.map uL)), y4] ∧ G' = gup (gup G1 RL (.lst ((prTo W i).1.map uG))) MD (.dT (dL U.bl kvs))) ⟨rfl, rfl⟩ (fun _ _ _ _ _ => trivial) (fun i' x' σ' G' h => absurd h (Nat.not_lt_zero _)) ?_
          rintro σ' G' ⟨rfl, rfl⟩
          exact Wk2.of ⟨kvs, _, _, _, _, rfl, by rw [e], by rw [e]; exact S⟩
        · have e : prTo W (i + 1) = ((prTo W i).1 ++ [ringOf W m.1], (prTo W i).2 ++ ringOf W m.1) := by rw [epr]; unfold prStep; rw [if_neg hin, if_neg hr0]
          generalize ringOf W m.1 = r at e hrl hr0
          refine ifT (by cases r with
            | nil => exact absurd rfl hr0
            | cons a b => rfl) ?_
          refine ⟨⟨_, (by rw [gup_ne nRM]; exact gup_same)⟩, _, (by rw [gup_ne nRM]; exact gup_same), decide_eq_true (by rw [List.length_map]; omega), ?_⟩
          rw [show (prTo W i).1.map uG ++ [U.tup (r.map uL)] = (prTo W (i + 1)).1.map uG by rw [e, List.map_append]; rfl]
          dsimp only [seq3, asg3, n3, v3, drop3, ret3, next3, List.set_cons_zero, List.set_cons_succ, List.getElem?_cons_zero, List.getElem?_cons_succ, start3, List.map_cons, List.map_nil, List.length_cons, List.length_nil, List.replicate, List.cons_append, List.nil_append, Nat.reduceSub, Nat.reduceAdd]
          refine for_of ?_
          refine forK_of r.length (by rw [List.length_map]) (fun j σ G' => ∃ kvs y5, σ = [some (.ref p), some (.ref d), some (uL m.1), some (uL m.2), some (.ref RL), some (.ref MD), some (.tup (r.map uL)), y5] ∧ L3.Sub (gup (gup G1 RL (.lst ((prTo W (i + 1)).1.map uG))) MD (.dT (dL U.bl kvs))) G' ∧ SetD kvs ((prTo W i).2 ++ r.take j)) ⟨kvs, y4, rfl, ?_, by rw [List.take_zero, List.append_nil]; exact S⟩ (fun _ _ _ _ _ => trivial) ?_ ?_
          · intro b g hb
            by_cases hbM : b = MD
            · subst hbM; rw [gup_same] at hb; rw [gup_ne nRM.symm, gup_same]; exact hb
            · rw [gup_ne hbM] at hb
              by_cases hbR : b = RL
              · subst hbR; rw [gup_same] at hb ⊢; exact hb
              · rw [gup_ne hbR] at hb ⊢; rw [gup_ne hbM, gup_ne hbR]; exact hb
          · rintro j x σ' G' hj hx ⟨kvs, y5, rfl, hs, S'⟩
            have hxj : r[j]? = some r[j] := List.getElem?_eq_getElem hj
            generalize r[j] = x0 at hxj
            rw [List.getElem?_map, hxj] at hx
            cases hx
            refine ⟨_, _, hs.at, tkey_uL x0, decide_eq_true (by rw [dL_len]; have := S'.len; rw [List.length_append] at this; have := List.length_take_le j r; omega), ?_⟩
            rw [show put (dL U.bl kvs) (kL x0) (U.bl true) = dL U.bl (pt kvs x0 true) from put_dL _ _ _ _]
            exact Wk2.of ⟨pt kvs x0 true, _, rfl, hs.mut, by rw [take_s hxj, ← List.append_assoc]; exact S'.add x0⟩
          · rintro σ' G' ⟨kvs, y5, rfl, hs, S'⟩
            rw [List.take_length] at S'
            refine Wk2.sub ⟨kvs, _, _, _, _, rfl, rfl, by rw [e]; exact S'⟩ hs
    · rintro σ' G' ⟨kvs, y1, y2, y3, y4, rfl, rfl, S⟩
      have : prTo W W.length = prAll W := by unfold prTo prAll; rw [List.take_length]
      rw [this]
      refine Wk.sub (hq RL (A1.sub.free hRL)) (Sub.new ?_ ?_)
      · intro b g hb
        by_cases hbR : b = RL
        · subst hbR; rw [gup_same] at hb ⊢; exact hb
        · rw [gup_ne hbR] at hb ⊢; exact A1.sub b g hb
      · rw [gup_ne nRM.symm]; exact A1.sub.free hM1
end
end K39
end
section
set_option linter.all false
/-! what is due, in plain words -/
namespace K39
theorem ringGo_pre (f : Loc → Option Loc) (s : Loc) : ∀ (n : Nat) (acc : List Loc) (x : Loc), ringGo f s n acc x ≠ [] → ∃ tl, ringGo f s n acc x = acc ++ x :: tl
  | 0, acc, x, h => absurd rfl h
  | n + 1, acc, x, h => by
    rw [ringGo] at h ⊢
    cases e : f x with
    | none => rw [e] at h; exact absurd rfl h
    | some t =>
      rw [e] at h
      dsimp only at h ⊢
      by_cases ht : t = s
      · rw [if_pos ht]; exact ⟨[], rfl⟩
      · rw [if_neg ht] at h ⊢
        obtain ⟨tl, e2⟩ := ringGo_pre f s n _ _ h
        rw [e2]
        exact ⟨t :: tl, by simp⟩
theorem ring_two {P : List Mv} (hp : ∀ m ∈ P, m.1 ≠ m.2) {s : Loc} (h : ringOf P s ≠ []) : ∃ t tl, ringOf P s = s :: t :: tl := by
  unfold ringOf at h ⊢
  cases hn : P.length with
  | zero => rw [hn] at h; exact absurd rfl h
  | succ n =>
    rw [hn] at h
    rw [ringGo] at h ⊢
    cases e : nxt P s with
    | none => rw [e] at h; exact absurd rfl h
    | some t =>
      rw [e] at h
      dsimp only at h ⊢
      have ht : t ≠ s := fun z => hp _ (nxt_mem e) z.symm
      rw [if_neg ht] at h ⊢
      obtain ⟨tl, e2⟩ := ringGo_pre _ _ _ _ _ h
      exact ⟨t, tl, e2⟩
def rowsOf (e : Int) (sp : Loc) (r : List Loc) : List Row := if e = 1 then ringSwaps r else ringMoves r sp
theorem rowsOf_len (e : Int) (sp : Loc) (r : List Loc) : (rowsOf e sp r).length ≤ r.length + 3 := by
  unfold rowsOf
  split
  · unfold ringSwaps; rw [List.length_map, List.length_drop]; omega
  · unfold ringMoves; simp
    try omega
def pend (M : List Mv) : List Mv := M.filter fun m => decide (m.1 ≠ m.2)
def frees (P : List Mv) : List Loc := (P.filter fun m => decide (m.2 ∉ srcs P)).map (·.2)
def dueSp (P : List Mv) (sp : Option Loc) : Option Loc := match sp with
  | some x => some x
  | none => (frees P).head?
def spD (x : Option Loc) : Loc := x.getD (.p, 0)
def leftOf (P : List Mv) : List Mv := P.filter fun m => decide (m.1 ∉ (prAll P).2)
def looseRows (W : List Mv) : List Row := looseGo W.length W
def rowsTo (P : List Mv) (e : Int) (x : Loc) (i : Nat) : List Row := (prTo P i).1.flatMap (rowsOf e x)
def dueRows (P : List Mv) (e : Int) (sp : Option Loc) : List Row := (prAll P).1.flatMap (rowsOf e (spD (dueSp P sp))) ++ looseRows (leftOf P)
/-- no spare where one is needed -/
def needs (P : List Mv) (e : Int) (sp : Option Loc) : Bool := decide (e = 0) && (sp.isNone && (decide (0 < (P.length : Int)) && ((frees P).length : Int) == 0))
theorem rowsTo_len (P : List Mv) (e : Int) (x : Loc) : ∀ i, i ≤ P.length → (rowsTo P e x i).length ≤ i * (P.length + 3)
  | 0, _ => by simp [rowsTo, prTo]
  | i + 1, h => by
    have ih := rowsTo_len P e x i (by omega)
    unfold rowsTo at ih ⊢
    rw [prTo_succ (List.getElem?_eq_getElem (show i < P.length by omega)), Nat.succ_mul]
    unfold prStep
    have h1 := ringOf_len P (P[i]'(by omega)).1
    have h2 := rowsOf_len e x (ringOf P (P[i]'(by omega)).1)
    split
    · omega
    · split
      · omega
      · rw [List.flatMap_append, List.length_append]
        simp only [List.flatMap_cons, List.flatMap_nil, List.append_nil]
        omega
theorem looseGo_len : ∀ n W, (looseGo n W).length ≤ n
  | 0, W => by simp [looseGo]
  | n + 1, W => by
    rw [looseGo]
    split
    · simp
    · split
      · simp
      · have := looseGo_len n (looseNext W ‹Nat› ‹Mv›)
        simp only [List.length_cons]
        omega
end K39
end
section
set_option Elab.async false
set_option linter.all false
set_option maxRecDepth 100000
set_option maxHeartbeats 2000000
namespace K39
open PySem L2 L3
theorem atI_last {α : Type} (xs : List α) (x : α) : L2.atI (xs ++ [x]) (-1) = some x := by
  unfold L2.atI L2.ixN
  rw [if_neg (by omega), if_pos (by rw [List.length_append]; show -((xs.length + 1 : Nat) : Int) ≤ -1; omega)]
  show (xs ++ [x])[(-1 + ((xs ++ [x]).length : Int)).toNat]? = _
  have : (-1 + ((xs ++ [x]).length : Int)).toNat = xs.length := by rw [List.length_append]; show (-1 + ((xs.length + 1 : Nat) : Int)).toNat = _; omega
  rw [this, List.getElem?_append_right (Nat.le_refl _), Nat.sub_self]; rfl
section
variable {P : Program} {w : World} {K : PySem.W.Frag} {mg : Str → Option Value} {base : Heap}
abbrev s_law_ring : Stmt := topS 21
abbrev law_ring_N : List Str := ["pending", "first", "ring", "k", "goals", "move"]
theorem sc_law_ring : FnScope law_ring_N ["pending", "first"] (defScope s_law_ring) := ⟨rfl, rfl, rfl, by decide +kernel, rfl, by decide +kernel, by decide +kernel⟩
def spLR : Sp3 := fun ws G Q _ => ∃ (p : Addr) (W : List Mv) (k : Nat) (m : Mv), ws = [.ref p, .int (k : Nat)] ∧ G p = some (.lst (W.map uM)) ∧ W.length ≤ 100 ∧ W[k]? = some m ∧ ∀ L, G L = none → Q (.ref L) (gup G L (.lst ((ringOf W m.1).map uL)))
theorem ok_lr {f : Addr} {fd : FuncData} (F : Fun K "_law_ring" "_law_ring" s_law_ring f fd) (T : Tg mg) : FnOk P w K mg base CX0 1 f fd ["pending", "first"] (lowSp K spLR) := by
  refine Fun_ok3 F sc_law_ring (fun ws G Q E h => by obtain ⟨_, _, _, _, rfl, _⟩ := h; rfl) (fun cdv A outer s H E ws G Q E3 hr h => ?_)
  have hu64 := hr.units
  obtain ⟨p, W, k, m, rfl, hp, hlen, hkm, hq⟩ := h
  refine ⟨_, (ss_cons (s_set (i := 2) sc_law_ring.nd (e3lst (a3cons (e3ix (e3ix (e3v 0) (e3v 1)) e3int) a3nil)))
      (ss_cons (s_for PassesOwn.never rfl (i_range1 T.range (e3B k_len T.len (a3cons (e3v 0) a3nil))) (pg_name (i := 3) sc_law_ring.nd rfl (by first | exact Or.inl rfl | exact Or.inr rfl)) gl_name
      (ss_cons (s_setLc (i := 4) (own := [("move", 5)]) rfl sc_law_ring.nd rfl (sw_true rfl rfl rfl (by decide +kernel)) (i_list (e3v 0)) (blkOk_by (N := law_ring_N) (sc := defScope s_law_ring) (by decide +kernel)) (gl_own (by decide)) (fun _ _ _ _ _ => (pg_name (i := 5) sc_law_ring.nd rfl (by first | exact Or.inl rfl | exact Or.inr rfl))) (fun _ _ _ _ _ => (ts3one (t3cmp (o_eq hu64) (e3ix (e3v 5) e3int) (e3ix (e3v 2) (e3neg e3int))))) (fun _ _ _ _ _ => (e3ix (e3v 5) e3int)))
        (ss_cons (s_if (t3cmp (o_ne hu64) (e3B k_len T.len (a3cons (e3v 4) a3nil)) e3int)
        (ss_one (s_ret (e3lst a3nil)))
        ss_nil)
        (ss_cons (s_if (t3cmp (o_eq hu64) (e3ix (e3v 4) e3int) (e3ix (e3v 2) e3int))
        (ss_one (s_ret (e3v 2)))
        ss_nil)
        (ss_one (s_expr (e3bmL PySem.F.slot_list_append PySem.F.type_list_append m_append (e3v 2) (a3cons (e3ix (e3v 4) e3int) a3nil))))))))
      (ss_one (s_ret (e3lst a3nil))))), ?_⟩
  refine ⟨_, uM m, hp, atI_nat (by rw [List.getElem?_map, hkm]; rfl), uL m.1, rfl, rfl, fun RL hRL => ?_⟩
  have npR : p ≠ RL := gne_none hp hRL
  have hp1 : ∀ o, gup G RL o p = some (.lst (W.map uM)) := fun o => by rw [gup_ne npR]; exact hp
  dsimp only [seq3, asg3, n3, v3, drop3, ret3, next3, List.set_cons_zero, List.set_cons_succ, List.getElem?_cons_zero, List.getElem?_cons_succ, start3, List.map_cons, List.map_nil, List.length_cons, List.length_nil, List.replicate, List.cons_append, List.nil_append, Nat.reduceSub, Nat.reduceAdd]
  refine for_of ?_
  refine Or.inl ⟨_, hp1 _, decide_eq_true (by rw [List.length_map]; omega), ?_⟩
  refine forK_of W.length (by rw [rgU_len, List.length_map]; rfl) (fun i σ G' => ∃ (acc : List Loc) (x : Loc) (z1 z2 z3 : Option U), σ = [some (.ref p), some (.int (k : Nat)), some (.ref RL), z1, z2, z3] ∧ L3.Sub (gup G RL (.lst ((acc ++ [x]).map uL))) G' ∧ acc.length = i ∧ (acc ++ [x])[0]? = some m.1 ∧ ringGo (nxt W) m.1 (W.length - i) acc x = ringOf W m.1)
    ⟨[], m.1, _, _, _, rfl, Sub.refl _, rfl, rfl, rfl⟩ (fun _ _ _ _ _ => trivial) ?_ ?_
  · rintro i x0 σ' G' hi hx ⟨acc, x, z1, z2, z3, rfl, hs, hl, h0, hg⟩
    have er : W.length - i = W.length - (i + 1) + 1 := by omega
    rw [er, ringGo] at hg
    have hpG := hs p _ (hp1 _)
    have e0 : ∀ acc : List Loc, (acc ++ [x])[0]? = some m.1 → L2.atI ((acc ++ [x]).map uL) 0 = some (uL m.1) := fun acc h => atI_eq (i := 0) rfl (by rw [List.getElem?_map, h]; rfl)
    have el : L2.atI ((acc ++ [x]).map uL) (-1) = some (uL x) := by rw [List.map_append]; exact atI_last _ _
    dsimp only [seq3, asg3, n3, v3, c3, drop3, ret3, next3, te3, op3, ifS3, cb3, cons3, nil3, call3, lst3, tup3, un3, List.set_cons_zero, List.set_cons_succ, List.getElem?_cons_zero, List.getElem?_cons_succ, start3, List.map_cons, List.map_nil, List.length_cons, List.length_nil, List.replicate, List.cons_append, List.nil_append, Nat.reduceSub, Nat.reduceAdd]
    refine lc_of ?_
    refine ⟨_, hpG, ?_⟩
    refine lcK_of W uM (fun y => decide (y.1 = x)) (·.2) uL (fun G' s => s _ _ hpG) (by omega) (fun y hy G2 hs2 Y N hy hn => ?_) fun L1 hL1 => ?_
    · refine ⟨uL y.1, rfl, _, uL x, hs2 _ _ hs.at, el, dat_uL _, dat_uL _, ?_⟩
      by_cases h : y.1 = x
      · exact ifT ((eq3_uL _ _).trans (decide_eq_true h)) ⟨uL y.2, rfl, hy (decide_eq_true h) _ (Sub.refl _)⟩
      · exact ifF ((eq3_uL _ _).trans (decide_eq_false h)) (hn (decide_eq_false h) _ (Sub.refl _))
    · rw [show (W.filter fun y => decide (y.1 = x)).map (·.2) = tgs W x from rfl]
      have hs1 := Sub.new (o := .lst ((tgs W x).map uL)) hs (hs.free hL1)
      have g1 : gup G' L1 (.lst ((tgs W x).map uL)) L1 = some (.lst ((tgs W x).map uL)) := gup_same
      generalize gup G' L1 (.lst ((tgs W x).map uL)) = G1 at hs1 g1 ⊢
      refine .inl ⟨_, g1, dat_int _, dat_int _, ?_⟩
      by_cases hone : (tgs W x).length = 1
      · obtain ⟨t, et⟩ := List.length_eq_one_iff.mp hone
        have es : nxt W x = some t := by unfold nxt; rw [et]; rfl
        simp only [es] at hg
        refine ifF (by rw [eq3_int, List.length_map, hone]; rfl) ?_
        refine ⟨_, uL t, g1, (by rw [et]; rfl), _, uL m.1, hs1.at, e0 _ h0, dat_uL _, dat_uL _, ?_⟩
        by_cases h : t = m.1
        · refine ifT ((eq3_uL _ _).trans (decide_eq_true h)) (Wk.sub ?_ hs1)
          rw [if_pos h] at hg
          rw [hg]
          exact hq RL hRL
        · refine ifF ((eq3_uL _ _).trans (decide_eq_false h)) ?_
          rw [if_neg h] at hg
          refine ⟨⟨_, hs1.at⟩, _, uL t, g1, (by rw [et]; rfl), _, hs1.at, decide_eq_true (by rw [List.length_map, List.length_append]; show _ + 1 ≤ _; omega), ?_⟩
          rw [show (acc ++ [x]).map uL ++ [uL t] = ((acc ++ [x]) ++ [t]).map uL by rw [List.map_append (l₂ := [t])]; rfl]
          refine Wk2.of ⟨acc ++ [x], t, _, _, _, rfl, hs1.mut, by rw [List.length_append, hl]; rfl, ?_, hg⟩
          rw [List.getElem?_append_left (by rw [List.length_append]; exact Nat.succ_pos _)]
          exact h0
      · refine ifT ?_ ⟨rfl, fun L2 hL2 => ?_⟩
        · rw [eq3_int, List.length_map]
          have : ¬ ((tgs W x).length : Int) = 1 := by omega
          simp [this]
        · have es : nxt W x = none := by
            unfold nxt one?
            split
            · rename_i t ht; rw [ht] at hone; exact absurd rfl hone
            · rfl
          simp only [es] at hg
          have sg := Sub.base hs1 hRL
          refine Wk.sub (hq L2 (sg.free hL2)) ?_
          rw [← hg]
          exact Sub.up sg
  · rintro σ' G' ⟨acc, x, z1, z2, z3, rfl, hs, hl, h0, hg⟩
    rw [Nat.sub_self, ringGo] at hg
    refine ⟨rfl, fun L2 hL2 => ?_⟩
    have sg := Sub.base hs hRL
    refine Wk.sub (hq L2 (sg.free hL2)) ?_
    rw [← hg]
    exact Sub.up sg
end
end K39
end
section
set_option Elab.async false
set_option linter.all false
set_option maxRecDepth 100000
set_option maxHeartbeats 2000000
namespace K39
open PySem L2 L3
/-- the law's own state -/
def Law (s c : Addr) (G : G3) : Prop := s ≠ c ∧ ∃ (cells : List Int) (at' z : Int), G s = some (.lst [.ref c, .int at', .int z]) ∧ G c = some (.lst (cells.map U.int)) ∧ 0 ≤ at'
def Fr (s c : Addr) (G G' : G3) : Prop := ∀ b o, b ≠ s → b ≠ c → G b = some o → G' b = some o
theorem Fr.refl {s c : Addr} (G : G3) : Fr s c G G := fun _ _ _ _ h => h
theorem Fr.trans {s c : Addr} {G G1 G2 : G3} (a : Fr s c G G1) (b : Fr s c G1 G2) : Fr s c G G2 := fun x o h1 h2 h => b x o h1 h2 (a x o h1 h2 h)
theorem Law.ns {s c p : Addr} {G : G3} (h : Law s c G) (hp : G p = none) : p ≠ s := by
  obtain ⟨_, _, _, _, h1, _⟩ := h
  exact (gne_none h1 hp).symm
theorem Law.nc {s c p : Addr} {G : G3} (h : Law s c G) (hp : G p = none) : p ≠ c := by
  obtain ⟨_, _, _, _, _, h1, _⟩ := h
  exact (gne_none h1 hp).symm
theorem Fr.free {s c p : Addr} {G G' : G3} (f : Fr s c G G') (h : Law s c G') (hp : G' p = none) : G p = none := by
  cases e : G p with
  | none => rfl
  | some o => rw [f p o (h.ns hp) (h.nc hp) e] at hp; cases hp
theorem Fr.mut {s c p : Addr} {G G' : G3} {o : GO} (f : Fr s c G G') (hp : G p = none) : Fr s c G (gup G' p o) := fun b u h1 h2 h => by
  rw [gup_ne (gne_none h hp)]; exact f b u h1 h2 h
theorem Law.mut {s c p : Addr} {G : G3} {o : GO} (h : Law s c G) (h1 : p ≠ s) (h2 : p ≠ c) : Law s c (gup G p o) := by
  obtain ⟨n, cells, at', z, a, b, e⟩ := h
  exact ⟨n, cells, at', z, by rw [gup_ne h1.symm]; exact a, by rw [gup_ne h2.symm]; exact b, e⟩
theorem mul_c {i j : Int} (h1 : -(2 ^ 64) < j) (h2 : j < 2 ^ 64) : CMul i j := .inr ⟨h1, h2⟩
theorem nz : (2147483647 : Int) ≠ 0 := by decide
section
variable {P : Program} {w : World} {K : PySem.W.Frag} {mg : Str → Option Value} {base : Heap}
abbrev s_law_take : Stmt := topS 14
abbrev law_take_N : List Str := ["state", "m", "cells", "at", "c"]
theorem sc_law_take : FnScope law_take_N ["state", "m"] (defScope s_law_take) := ⟨rfl, rfl, rfl, by decide +kernel, rfl, by decide +kernel, by decide +kernel⟩
abbrev s_law_state : Stmt := topS 15
abbrev law_state_N : List Str := ["script", "cells", "c"]
theorem sc_law_state : FnScope law_state_N ["script"] (defScope s_law_state) := ⟨rfl, rfl, rfl, by decide +kernel, rfl, by decide +kernel, by decide +kernel⟩
def spTake : Sp3 := fun ws G Q _ => ∃ (s c : Addr) (m : Int), ws = [.ref s, .int m] ∧ Law s c G ∧ 0 < m ∧ m ≤ 1000 ∧ ∀ (v : Int) (G' : G3), 0 ≤ v → v < m → Law s c G' → Fr s c G G' → Q (.int v) G'
theorem ok_take {f : Addr} {fd : FuncData} (F : Fun K "_law_take" "_law_take" s_law_take f fd) (T : Tg mg) : FnOk P w K mg base CX0 1 f fd ["state", "m"] (lowSp K spTake) := by
  refine Fun_ok3 F sc_law_take (fun ws G Q E h => by obtain ⟨_, _, _, rfl, _⟩ := h; rfl) (fun cdv A outer s H E ws G Q E3 hr h => ?_)
  obtain ⟨s, c, m, rfl, ⟨nsc, cells, at', z, hs, hc, h0⟩, hm, hm2, hq⟩ := h
  refine ⟨_, (ss_cons (s_set (i := 2) sc_law_take.nd (e3ix (e3v 0) e3int))
      (ss_cons (s_set (i := 3) sc_law_take.nd (e3ix (e3v 0) e3int))
      (ss_cons (s_if (t3cmp o_lt (e3v 3) (e3B k_len T.len (a3cons (e3v 2) a3nil)))
      (ss_cons (s_set (i := 4) sc_law_take.nd (e3ix (e3v 2) (e3v 3)))
        (ss_cons (s_if (t3cmp o_ge (e3v 4) (e3op o_pow e3int e3int))
        (ss_cons (s_setL (e3v 2) (e3v 3) (e3op o_fdiv (e3v 4) (e3v 1)))
          (ss_one (s_ret (e3op o_mod (e3T k_int T.int (a3cons (e3v 4) a3nil)) (e3v 1)))))
        ss_nil)
        (ss_cons (s_setL (e3v 0) e3int (e3op o_add (e3v 3) e3int))
        (ss_cons (s_set (i := 4) sc_law_take.nd (e3op o_mod (e3T k_int T.int (a3cons (e3op o_add (e3op o_mul (e3v 4) e3int) e3int) a3nil)) e3int))
        (ss_one (s_ret (e3op o_mod (e3T k_int T.int (a3cons (e3op o_fdiv (e3op o_mod (e3T k_int T.int (a3cons (e3op o_add (e3op o_mul (e3v 4) e3int) (e3v 3)) a3nil)) e3int) e3int) a3nil)) (e3v 1))))))))
      ss_nil)
      (ss_cons (s_setL (e3v 0) e3int (e3op o_mod (e3T k_int T.int (a3cons (e3op o_add (e3op o_mul (e3ix (e3v 0) e3int) e3int) e3int) a3nil)) e3int))
      (ss_one (s_ret (e3op o_mod (e3T k_int T.int (a3cons (e3op o_fdiv (e3ix (e3v 0) e3int) e3int) a3nil)) (e3v 1)))))))), ?_⟩
  have hm0 : m ≠ 0 := by omega
  have hdv : CDivN z m ∧ True := ⟨⟨hm0, by omega⟩, trivial⟩
  have fin : ∀ (x : Int) (G' : G3), Law s c G' → Fr s c G G' → Wk Q (.int (x.fmod m)) G' := fun x G' hl hf => Wk.of (hq _ _ (Int.fmod_nonneg_of_pos x hm) (Int.fmod_lt_of_pos x hm) hl hf)
  refine ⟨_, .ref c, hs, rfl, _, .int at', hs, rfl, .inl ⟨_, hc, ?_⟩⟩
  by_cases hat : at' < (cells.length : Int)
  · have hx : cells[at'.toNat]? = some cells[at'.toNat] := List.getElem?_eq_getElem (by omega)
    generalize cells[at'.toNat] = x at hx
    have hix : L2.atI (cells.map U.int) at' = some (.int x) := atI_eq (i := at'.toNat) (by omega) (by rw [List.getElem?_map, hx]; rfl)
    have hixN : L2.ixN (cells.map U.int).length at' = some at'.toNat := by
      unfold L2.ixN; rw [if_pos h0, if_pos (by rw [List.length_map]; exact hat)]
    refine ifT (decide_eq_true (by rw [List.length_map]; exact hat)) ⟨_, .int x, hc, hix, ⟨by decide, by decide, by decide⟩, ?_⟩
    by_cases hbig : (10 : Int) ^ (18 : Int).toNat ≤ x
    · refine ifT (decide_eq_true hbig) ⟨⟨hm0, by omega⟩, _, _, hc, hixN, hm0, ?_⟩
      refine fin _ _ ⟨nsc, cells.set at'.toNat (x.fdiv m), at', z, by rw [gup_ne nsc]; exact hs, by rw [gup_same, List.map_set], h0⟩ fun b o h1 h2 h => by rw [gup_ne h2]; exact h
    · refine ifF (decide_eq_false hbig) ⟨_, 1, hs, rfl, mul_c (by decide) (by decide), nz, mul_c (by decide) (by decide), nz, ⟨by decide, by decide⟩, hm0, ?_⟩
      refine fin _ _ ⟨nsc, cells, at' + 1, z, gup_same, by rw [gup_ne nsc.symm]; exact hc, by omega⟩ fun b o h1 h2 h => by rw [gup_ne h1]; exact h
  · refine ifF (decide_eq_false (by rw [List.length_map]; exact hat)) ⟨_, .int z, hs, rfl, mul_c (by decide) (by decide), nz, _, 2, hs, rfl, ?_⟩
    refine ⟨_, .int ((z * 48271 + 7).fmod 2147483647), gup_same, rfl, ⟨by decide, by decide⟩, hm0, ?_⟩
    refine fin _ _ ⟨nsc, cells, at', _, gup_same, by rw [gup_ne nsc.symm]; exact hc, h0⟩ fun b o h1 h2 h => by rw [gup_ne h1]; exact h
def spState : Sp3 := fun ws G Q _ => ∃ (x : U) (ns : List Int), ws = [x] ∧ (x = .lit (ns.map U.int) ∨ ∃ a, x = .ref a ∧ G a = some (.lst (ns.map U.int))) ∧ ns.length ≤ 63 ∧
  ∀ (s c : Addr) (cells : List Int) (z : Int), s ≠ c → G s = none → G c = none → Q (.ref s) (gup (gup G c (.lst (cells.map U.int))) s (.lst [.ref c, .int 0, .int z]))
theorem cut_n (ns : List Int) (n : Nat) : cut3 (ns.map U.int) none (some (n : Int)) = (ns.take n).map U.int := by
  unfold cut3
  rw [HT.sIx_none, HT.sIx_nat, List.drop_zero, Nat.sub_zero, ← List.map_take, List.length_map]
  by_cases h : n ≤ ns.length
  · rw [Nat.min_eq_left h]
  · rw [Nat.min_eq_right (by omega), List.take_of_length_le (Nat.le_refl _), List.take_of_length_le (by omega)]
theorem ok_state {f : Addr} {fd : FuncData} (F : Fun K "_law_state" "_law_state" s_law_state f fd) (T : Tg mg) : FnOk P w K mg base CX0 1 f fd ["script"] (lowSp K spState) := by
  refine Fun_ok3 F sc_law_state (fun ws G Q E h => by obtain ⟨_, _, rfl, _⟩ := h; rfl) (fun cdv A outer s H E ws G Q E3 hr h => ?_)
  obtain ⟨x, ns, rfl, hx, hlen, hq⟩ := h
  rcases hx with rfl | ⟨a, rfl, ha⟩
  · refine ⟨_, (ss_cons (s_setLc (i := 1) (own := [("c", 2)]) rfl sc_law_state.nd rfl (sw_true rfl rfl rfl (by decide +kernel)) (i_list (e3sl (e3v 0) o3none (o3some e3int))) (blkOk_by (N := law_state_N) (sc := defScope s_law_state) (by decide +kernel)) (gl_own (by decide)) (fun _ _ _ _ _ => (pg_name (i := 2) sc_law_state.nd rfl (by first | exact Or.inl rfl | exact Or.inr rfl))) (fun _ _ _ _ _ => ts3nil) (fun _ _ _ _ _ => (e3B k_abs T.abs (a3cons (e3T k_int T.int (a3cons (e3v 2) a3nil)) a3nil))))
        (ss_one (s_ret (e3lst (a3cons (e3v 1) (a3cons e3int (a3cons (e3op o_mod (e3T k_int T.int (a3cons (e3B (k_sum rfl) T.sum (a3cons (e3lc (own := [("c", 2)]) rfl sc_law_state.nd (i_list (e3v 1)) (blkOk_by (N := law_state_N) (sc := defScope s_law_state) (by decide +kernel)) (gl_own (by decide)) (fun _ _ _ _ _ => (pg_name (i := 2) sc_law_state.nd rfl (by first | exact Or.inl rfl | exact Or.inr rfl))) (fun _ _ _ _ _ => ts3nil) (fun _ _ _ _ _ => (e3op o_mod (e3T k_int T.int (a3cons (e3v 2) a3nil)) e3int))) a3nil)) a3nil)) e3int) a3nil))))))), ?_⟩
    dsimp only [seq3, asg3, n3, v3, c3, drop3, ret3, next3, te3, op3, ifS3, cb3, cons3, nil3, call3, lst3, tup3, un3, List.set_cons_zero, List.set_cons_succ, List.getElem?_cons_zero, List.getElem?_cons_succ, start3, List.map_cons, List.map_nil, List.length_cons, List.length_nil, List.replicate, List.cons_append, List.nil_append, Nat.reduceSub, Nat.reduceAdd]
    refine lc_of ?_
    refine fun p hp => ?_
    rw [show (some (63 : Int)) = some ((63 : Nat) : Int) from rfl, cut_n]
    refine ⟨_, gup_same, ?_⟩
    refine lcK_of (ns.take 63) U.int (fun _ => true) (fun i => if i < 0 then -i else i) U.int (fun G' s => s _ _ gup_same) (by rw [List.length_take]; omega) (fun y hy G' hs Y N hy hn => hy rfl _ (Sub.refl _)) fun c hc => ?_
    have hcl : (((ns.take 63).filter fun _ => true).map (fun i : Int => if i < 0 then -i else i)).length ≤ 63 := by rw [List.length_map, filt_all, List.length_take]; omega
    generalize ((ns.take 63).filter fun _ => true).map (fun i : Int => if i < 0 then -i else i) = cells at hcl ⊢
    have hcp : c ≠ p := (gne_none gup_same hc).symm
    have hGc : G c = none := by rw [gup_ne hcp] at hc; exact hc
    refine lc_of ?_
    refine ⟨_, gup_same, ?_⟩
    refine lcK_of cells U.int (fun _ => true) (fun i => i.fmod 2147483647) U.int (fun G' s => s _ _ gup_same) (by omega) (fun y hy G' hs Y N hy hn => ⟨nz, hy rfl _ (Sub.refl _)⟩) fun L hL => ?_
    refine ⟨_, gup_same, nz, rfl, fun s hs => ?_⟩
    have nsc : s ≠ c := fun e => by
      subst e
      rw [gup_ne (gne_none gup_same hL), gup_same] at hs
      cases hs
    have nsL : s ≠ L := fun e => by subst e; rw [gup_same] at hs; cases hs
    have nsp : s ≠ p := fun e => by
      subst e
      rw [gup_ne nsL, gup_ne nsc, gup_same] at hs
      cases hs
    have hGs : G s = none := by rw [gup_ne nsL, gup_ne nsc, gup_ne nsp] at hs; exact hs
    refine Wk.sub (hq s c cells _ nsc hGs hGc) (Sub.up (Sub.new (Sub.up (Sub.new (Sub.refl G) hp)) ?_))
    have ncL : c ≠ L := gne_none gup_same hL
    have : gup (gup G p (.lst ((ns.take 63).map U.int))) c (.lst (cells.map U.int)) L = none := hL
    rw [gup_ne ncL.symm] at this ⊢
    by_cases hLp : L = p
    · subst hLp; exact hp
    · rw [gup_ne hLp] at this; exact this
  · refine ⟨_, (ss_cons (s_setLc (i := 1) (own := [("c", 2)]) rfl sc_law_state.nd rfl (sw_true rfl rfl rfl (by decide +kernel)) (i_list (e3sl (e3v 0) o3none (o3some e3int))) (blkOk_by (N := law_state_N) (sc := defScope s_law_state) (by decide +kernel)) (gl_own (by decide)) (fun _ _ _ _ _ => (pg_name (i := 2) sc_law_state.nd rfl (by first | exact Or.inl rfl | exact Or.inr rfl))) (fun _ _ _ _ _ => ts3nil) (fun _ _ _ _ _ => (e3B k_abs T.abs (a3cons (e3T k_int T.int (a3cons (e3v 2) a3nil)) a3nil))))
        (ss_one (s_ret (e3lst (a3cons (e3v 1) (a3cons e3int (a3cons (e3op o_mod (e3T k_int T.int (a3cons (e3B (k_sum rfl) T.sum (a3cons (e3lc (own := [("c", 2)]) rfl sc_law_state.nd (i_list (e3v 1)) (blkOk_by (N := law_state_N) (sc := defScope s_law_state) (by decide +kernel)) (gl_own (by decide)) (fun _ _ _ _ _ => (pg_name (i := 2) sc_law_state.nd rfl (by first | exact Or.inl rfl | exact Or.inr rfl))) (fun _ _ _ _ _ => ts3nil) (fun _ _ _ _ _ => (e3op o_mod (e3T k_int T.int (a3cons (e3v 2) a3nil)) e3int))) a3nil)) a3nil)) e3int) a3nil))))))), ?_⟩
    dsimp only [seq3, asg3, n3, v3, c3, drop3, ret3, next3, te3, op3, ifS3, cb3, cons3, nil3, call3, lst3, tup3, un3, List.set_cons_zero, List.set_cons_succ, List.getElem?_cons_zero, List.getElem?_cons_succ, start3, List.map_cons, List.map_nil, List.length_cons, List.length_nil, List.replicate, List.cons_append, List.nil_append, Nat.reduceSub, Nat.reduceAdd]
    refine lc_of ?_
    refine ⟨_, ha, fun p hp => ?_⟩
    rw [show (some (63 : Int)) = some ((63 : Nat) : Int) from rfl, cut_n]
    refine ⟨_, gup_same, ?_⟩
    refine lcK_of (ns.take 63) U.int (fun _ => true) (fun i => if i < 0 then -i else i) U.int (fun G' s => s _ _ gup_same) (by rw [List.length_take]; omega) (fun y hy G' hs Y N hy hn => hy rfl _ (Sub.refl _)) fun c hc => ?_
    have hcl : (((ns.take 63).filter fun _ => true).map (fun i : Int => if i < 0 then -i else i)).length ≤ 63 := by rw [List.length_map, filt_all, List.length_take]; omega
    generalize ((ns.take 63).filter fun _ => true).map (fun i : Int => if i < 0 then -i else i) = cells at hcl ⊢
    have hcp : c ≠ p := (gne_none gup_same hc).symm
    have hGc : G c = none := by rw [gup_ne hcp] at hc; exact hc
    refine lc_of ?_
    refine ⟨_, gup_same, ?_⟩
    refine lcK_of cells U.int (fun _ => true) (fun i => i.fmod 2147483647) U.int (fun G' s => s _ _ gup_same) (by omega) (fun y hy G' hs Y N hy hn => ⟨nz, hy rfl _ (Sub.refl _)⟩) fun L hL => ?_
    refine ⟨_, gup_same, nz, rfl, fun s hs => ?_⟩
    have nsc : s ≠ c := fun e => by
      subst e
      rw [gup_ne (gne_none gup_same hL), gup_same] at hs
      cases hs
    have nsL : s ≠ L := fun e => by subst e; rw [gup_same] at hs; cases hs
    have nsp : s ≠ p := fun e => by
      subst e
      rw [gup_ne nsL, gup_ne nsc, gup_same] at hs
      cases hs
    have hGs : G s = none := by rw [gup_ne nsL, gup_ne nsc, gup_ne nsp] at hs; exact hs
    refine Wk.sub (hq s c cells _ nsc hGs hGc) (Sub.up (Sub.new (Sub.up (Sub.new (Sub.refl G) hp)) ?_))
    have ncL : c ≠ L := gne_none gup_same hL
    have : gup (gup G p (.lst ((ns.take 63).map U.int))) c (.lst (cells.map U.int)) L = none := hL
    rw [gup_ne ncL.symm] at this ⊢
    by_cases hLp : L = p
    · subst hLp; exact hp
    · rw [gup_ne hLp] at this; exact this
end
end K39
end
section
set_option Elab.async false
set_option linter.all false
set_option maxRecDepth 100000
set_option maxHeartbeats 2000000
namespace K39
open PySem L2 L3
def spotsTo (b st : Int) (n : Nat) : List Loc := (List.range n).flatMap fun k => [(.p, b + st * (k : Nat)), (.s, b + st * (k : Nat))]
theorem spotsTo_succ (b st : Int) (n : Nat) : spotsTo b st (n + 1) = spotsTo b st n ++ [(.p, b + st * (n : Nat)), (.s, b + st * (n : Nat))] := by
  unfold spotsTo
  rw [List.range_succ, List.flatMap_append]
  rfl
theorem spotsTo_len (b st : Int) : ∀ n, (spotsTo b st n).length = 2 * n
  | 0 => rfl
  | n + 1 => by rw [spotsTo_succ, List.length_append, spotsTo_len b st n]; show 2 * n + 2 = _; omega
section
variable {P : Program} {w : World} {K : PySem.W.Frag} {mg : Str → Option Value} {base : Heap}
def out0 : Loc := (.out, 0)
theorem perm_erase {α : Type} : ∀ (l : List α) (k : Nat) (h : k < l.length), List.Perm (l[k] :: l.eraseIdx k) l
  | [], k, h => absurd h (Nat.not_lt_zero _)
  | a :: l, 0, h => List.Perm.refl _
  | a :: l, k + 1, h => (List.Perm.swap a _ _).trans (List.Perm.cons a (perm_erase l k (by simpa using h)))
theorem perm_pick {α : Type} {gs pool xs : List α} {k : Nat} {x : α} (h : List.Perm (gs ++ pool) xs) (hx : pool[k]? = some x) : List.Perm ((gs ++ [x]) ++ pool.eraseIdx k) xs := by
  obtain ⟨hk, e⟩ := List.getElem?_eq_some_iff.mp hx
  subst e
  rw [List.append_assoc]
  exact (List.Perm.append_left gs (perm_erase _ _ hk)).trans h
theorem ixN_nat {n k : Nat} (h : k < n) : L2.ixN n ((k : Nat) : Int) = some k := by
  unfold L2.ixN
  rw [if_pos (Int.natCast_nonneg k), if_pos (Int.ofNat_lt.mpr h), Int.toNat_natCast]
theorem set_mem {α : Type} {p : α → Prop} {xs : List α} {k : Nat} {x : α} (h : ∀ y ∈ xs, p y) (hx : p x) : ∀ y ∈ xs.set k x, p y := fun y hy => by
  rcases List.mem_or_eq_of_mem_set hy with h1 | h1
  · exact h y h1
  · rw [h1]; exact hx
def pick (hs gs : List Loc) (j : Nat) : Mv := (at0 hs j, at0 gs j)
theorem at0_mem {p : Loc → Prop} {r : List Loc} {i : Nat} (h : ∀ x ∈ r, p x) (hi : i < r.length) : p (at0 r i) := by
  unfold at0
  rw [List.getD_eq_getElem?_getD, List.getElem?_eq_getElem hi]
  exact h _ (List.getElem_mem hi)
end
end K39
end
section
set_option Elab.async false
set_option linter.all false
set_option maxRecDepth 100000
set_option maxHeartbeats 4000000
/-! an own exception over ValueError whose __init__ says super().__init__(x), then self.f = f -/
namespace PySem
namespace LowNS
open PySem.W PySem.Calls PyProof.Rows PySem.HandSPX
/-- the words of the text -/
structure Pl where
  (p1 p2 q1 q2 q3 q4 q5 q6 r1 r2 r3 r4 : Pos)
def iA (f : Str) (P : Pl) : Arguments := { posonlyargs := [], args := [{ arg := "self", annotation := none, pos := P.p1 }, { arg := f, annotation := none, pos := P.p2 }], vararg := none, kwonlyargs := [], kw_defaults := [], kwarg := none, defaults := [] }
def iB (f : Str) (a : Expr) (P : Pl) : List Stmt := [.Expr (.Call (.Attribute (.Call (.Name "super" P.q1) [] [] P.q2) "__init__" P.q3) [a] [] P.q5) P.q6, .Assign [.Attribute (.Name "self" P.r1) f P.r2] (.Name f P.r3) P.r4]
def iS (f : Str) : Scope := { kind := .function, names := [(PySem.Str.ofString "self", .local), (f, .local), (PySem.Str.ofString "__class__", .free), (PySem.Str.ofString "super", .globalImplicit)], isGenerator := false, isCoroutine := false, more := [] }
/-- NeedsSpare.__init__ in the text -/
abbrev nsP : Pl := ⟨⟨11, 17, 11, 21⟩, ⟨11, 23, 11, 27⟩, ⟨12, 8, 12, 13⟩, ⟨12, 8, 12, 15⟩, ⟨12, 8, 12, 24⟩, ⟨12, 25, 12, 53⟩, ⟨12, 8, 12, 54⟩, ⟨12, 8, 12, 54⟩, ⟨13, 8, 13, 12⟩, ⟨13, 8, 13, 17⟩, ⟨13, 20, 13, 24⟩, ⟨13, 8, 13, 24⟩⟩
abbrev nsE : Expr := .Constant (.str "a spare location is needed") 0 ⟨12, 25, 12, 53⟩
abbrev nsEnv (qual : Str) (f : Str) (L fI : Addr) (cda : Value) (cc : Addr) : Env := ksEnv qual (iS f) L fI cda cc
/-- what the written part says of the class, at C, and of its __init__, at fI -/
structure Txt (P : Pl) (prog : Program) (K : Frag) (mg : Str → Option Value) (qual f : Str) (a : Expr) (C fI : Addr) : Prop where
  cls : ∃ nm q N bs bm sn sub ab col dd k0 k1 k2 k3 k5, K.lookup C = some (excClassObj nm q C N bs bm true sn sub ab col dd k0 k1 k2 k3 k5 "ValueError.__new__") ∧ refsVE bm = true
  sa : findIn K (.ref C) "__setattr__" = some (some (.builtin "object.__setattr__"))
  noN : findIn K (.ref C) f = some none
  iC : findIn K (.ref C) "__init__" = some (some (.ref fI))
  tC : typeIn K (.ref fI) = some (.type "function")
  kC : keepIn K (.ref C) = true
  exC : subIn K (.ref C) (.type "BaseException") = some true
  tyC : typeIn K (.ref C) = some (.type "type")
  veC : subIn K (.ref C) (.type "ValueError") = some true
  sub : mroIn K C (.ref C) = some true
  sup : ks_superIn K C C "__init__" = some (some (.builtin "ValueError.__init__"))
  opq : nsIn K cStatics "thirdparty.any" = some none
  gS : mg "super" = none
  htop : (prog.main.scope.names.lookup ("super" : Str)).isSome = false
  fn : ∃ (oc : Value) (od : Option Addr) (kV doc pm : Value) (an : Option Addr) (cda : Addr) (ct : Value) (osl : Array (Option Value)) (cc : Addr) (ccl : Value) (cdd : Option Addr) (vs : Array Value) (ccs : Array (Option Value)) (file : Str) (tf : Tok) (cl : Value) (cld : Option Addr) (csl : Array (Option Value)),
    K.lookup fI = some ⟨oc, od, .func (ksFn "__init__" qual (iA f P) (iB f a P) (iS f) .none kV doc pm an (.ref cda) ct cc), osl⟩ ∧ codeIn K (.ref cda) qual = true ∧ K.lookup cda = some ⟨ccl, cdd, .fields vs, ccs⟩ ∧ vs[2]? = some (.str file tf) ∧ ((prog.main.file : Str) == file) = true ∧ K.lookup cc = some ⟨cl, cld, .cell (some (.ref C)), csl⟩
section
variable {prog : Program} {w : World} {A : Around} {E : Value → Shared → Prop} {h : Heap} {g : Array GenState} {d : Drawn} {t : Nat} {os : OsState}
variable {nm q : Str} {C N : Addr} {bs bm : List Value} {hdct : Bool} {sn : List Str} {sub : List Value} {ab : Bool} {col : Option Bool} {dd : Option Addr} {k0 k1 k2 k3 k5 : Option Value}
theorem call_mw {u e t0 : Addr} {rest : List Value} {Q : Value → Shared → Prop}
    (hC : h.get? C = some (excClassObj nm q C N bs bm hdct sn sub ab col dd k0 k1 k2 k3 k5 "ValueError.__new__")) (he : h.get? e = some (excO C t0)) (hu : h.get? u = some (kxs_mw "ValueError.__init__" e)) (hrest : rest.length ≤ sizeLine)
    (hq : ∀ h' t1, (∀ b o, b ≠ e → h.get? b = some o → h'.get? b = some o) → h'.get? e = some (excO C t1) → h.objs.size ≤ h'.objs.size → Q .none ⟨h', g, d, t, os⟩) :
    wpAny (model prog w) A (call (.ref u) rest) Q E ⟨h, g, d, t, os⟩ := by
  refine wpAny_call (codeAny_of_tree ?_)
  show wpAny _ A.in1 (callAny (.ref u) ⟨rest, []⟩) _ _ _
  simp only [callAny]
  refine wpAny_bind (wpAny_load hu ?_)
  simp only [kxs_mw, show (Value.type "method-wrapper" == Value.type "method" || Value.type "method-wrapper" == Value.type "builtin_function_or_method" || Value.type "method-wrapper" == Value.type "method-wrapper") = true by decide, if_true]
  refine W.KFB.if_so (by decide) ?_
  refine wpAny_bind (ESX.check_bound F.excBase_ValueError hC he rfl ?_)
  refine wpAny_bind (wpAny_pure (wpAny_pure ?_))
  refine ⟨Code.quiet_builtin _ (by decide +kernel), codeAny_builtin F.excBase_ValueError.initEntry ?_⟩
  rw [Around.under_plainId F.excBase_ValueError.init.plain _]
  wp_walk
  refine hq _ h.objs.size (fun b o hb ho => ?_) ?_ ?_
  · rw [Heap.get?_update_other _ _ (Ne.symm hb)]
    exact Heap.get?_push_of_some _ ho
  · rw [Heap.get?_update_self _ (Heap.get?_push_of_some _ he) rfl]
    rfl
  · first
      | (simp only [Heap.size_update, Heap.size_push]; exact Nat.le_succ _)
      | exact Nat.le_of_lt (by have := Heap.size_push; omega)
end
/-- what __init__ leaves of a fresh exception at x -/
structure InitEnd (h h' : Heap) (f : Str) (x C dx t1 : Addr) (v : Value) : Prop where
  keep : ∀ b o, b ≠ x → h.get? b = some o → h'.get? b = some o
  obj : h'.get? x = some { cls := .ref C, dict := some dx, data := .fields #[.ref t1, .none, .none, .none, .bool false, .none] }
  dbig : h.objs.size ≤ dx
  dne : dx ≠ x
  ns : h'.Ns1 dx (fun y => if y = f then some v else none)
theorem ldC {M : Model} {s : Shared} {env : Env} {m : Str → Option Value} {x : Str} {pos : Pos} {v : Value} {Q : Value → Shared → Prop} {A : Around} {E : Value → Shared → Prop} (hn : s.heap.Ns env.locals m) (hv : m x = some v) (h : Q v s)
    (hk : env.scope.kind = .function := by rfl) (hl : env.kindOf x = some .local := by rfl) (hd : (x == ("__debug__" : Str)) = false := by decide) :
    wpAny M A (eval (.Name x pos) env) Q E s := wpAny_Name (wpAny_loadName_local hk hl hn hv h) hd
section
variable {prog : Program} {w : World} {A : Around} {R : Result → Shared → Prop} {s : Shared} {K : Frag} {mg : Str → Option Value} {C fI : Addr} {qual : Str}
theorem ns_init (T : Txt nsP prog K mg qual "ring" nsE C fI) {x t0 : Addr} {v : Value} (X : K.In s.heap) (hlim : s.heap.NoLimit) (hgl : s.heap.Ns mainGlobals mg) (hbl : ∃ mb, s.heap.Ns builtinsNs mb ∧ ∀ x : Str, x ≠ "__name__" → mb x = bootBuiltins x)
    (hx : s.heap.get? x = some (excO C t0)) (hnx : K.lookup x = none) (hroom : A.depth < recursionLimit)
    (hq : ∀ h' tk dx t1, InitEnd s.heap h' "ring" x C dx t1 v → R (.ok (.ret .none)) { s with heap := h', toks := tk }) :
    codeAny (model prog w) A (.call (.ref fI) ⟨[.ref x, v], []⟩) R s := by
  obtain ⟨oc, od, kV, doc, pm, an, cda, ct, osl, cc, ccl, cdd, vs, ccs, file, tf, cl, cld, csl, ho, hcd, hcode, hvs, hfile, hcell⟩ := T.fn
  obtain ⟨nm, q, N, bs, bm, sn, sub, ab, col, dd, k0, k1, k2, k3, k5, hC, hbm⟩ := T.cls
  have hcl : clsIn K C = some { name := nm, bases := bs, mro := .ref C :: bm, ns := N, qualname := q, hasDict := true, slotNames := sn, subclasses := sub, abstract := ab, collection := col, hasDel := false } := by unfold clsIn; rw [hC] <;> rfl
  refine ks_codeAny_call_defAt (fd := ksFn "__init__" qual (iA "ring" nsP) (iB "ring" nsE nsP) (iS "ring") .none kV doc pm an (.ref cda) ct cc) (binds := [("self", .ref x), ("ring", v)]) hroom (X _ _ ho) rfl hlim (codeRec_of X hcd) rfl (BindsTo.of_eq (by first | rfl | with_unfolding_all rfl)) (show ∀ x ∈ (iS "ring").names, x.2 ≠ .cell by decide) (fun y hy => by
    rcases List.mem_cons.mp hy with rfl | hy
    · rfl
    · rw [List.mem_singleton.mp hy]; rfl) (fun h₁ hns k => ?_)
  have X₁ : K.In h₁ := X.keeps k
  have hx₁ := k _ _ hx
  have hxL : x ≠ s.heap.objs.size := Nat.ne_of_lt (Heap.lt_size hx)
  have hxC : x ≠ C := fun e => by
    have := X _ _ hC
    rw [← e, hx] at this
    cases this
  obtain ⟨mb, hb1, hb2⟩ := hbl
  obtain ⟨hp, g, d, tk, os⟩ := s
  refine ks_wpAt_execs_cons (ks_wpAt_Expr_any (ks_wpAt_MethodCall ?_))
  refine ks_wpAt_super_base (f := fI) (cc := cda) rfl rfl (by decide) rfl (X₁ _ _ ho) rfl rfl rfl (X₁ _ _ hcode) rfl hvs hfile T.htop ?_
  refine ks_loadName_global rfl rfl (Calls.loadGlobal_builtin (hgl.keeps k) T.gS (hb1.keeps k) ((hb2 _ (by decide)).trans (by decide +kernel)) ⟨rfl, ?_⟩)
  refine wpAny_loadName_free rfl rfl rfl ⟨_, X₁ _ _ hcell, rfl⟩ ?_
  refine wpAny_loadName_local rfl rfl hns (by first | rfl | with_unfolding_all rfl | kernel_rfl) ?_
  obtain ⟨oD, hD1, hD2⟩ : ∃ oD, h₁.get? C = some oD ∧ ∃ cd, oD.data = .cls cd := ⟨_, X₁ _ _ hC, _, rfl⟩
  obtain ⟨cdD, hD2⟩ := hD2
  refine ks_wpAny_isType_cls hD1 hD2 ⟨rfl, ?_⟩
  refine ks_wpAny_call_super hD1 hD2 hx₁ rfl (fun c e => by cases e) (looks_mroIn X₁ T.sub) (fun h₂ hso k₂ => ?_)
  have X₂ : K.In h₂ := X₁.keeps k₂
  have hx₂ := k₂ _ _ hx₁
  have hz₂ : h₁.objs.size < h₂.objs.size := Heap.lt_size hso
  have I₂ : InstAt h₂ x (excO C t0) C none := ⟨hx₂, rfl, rfl, trivial⟩
  have hsup := T.sup
  unfold ks_superIn at hsup
  rw [hcl] at hsup
  have hI : Looks (model prog w) h₂ (isInstance (.ref x) (.type "ValueError")) true := I₂.type.andThen (looks_subIn X₂ T.veC)
  refine kxs_getMethod kxs_ValueError hso (looks_opaque X₂ T.opq) ((looks_clsIn X₂ hcl).andThen .now) rfl X₂ hsup hI hxC (by decide) ?_
  have hu : (h₂.push (kxs_mw "ValueError.__init__" x)).get? h₂.objs.size = some (kxs_mw "ValueError.__init__" x) := Heap.get?_push_at rfl rfl
  have k₃ : ∀ b o, h₂.get? b = some o → (h₂.push (kxs_mw "ValueError.__init__" x)).get? b = some o := fun b o e => Heap.get?_push_of_some _ e
  refine kxs_callWith (i := "ValueError.__init__") (x := x) (by rfl) (evalArgs_plain ?_)
  refine Calls.spliced_cons (wpAny_Constant_str (k := 0) (pos := ⟨12, 25, 12, 53⟩) (Calls.spliced_nil ⟨hu, ?_⟩))
  refine call_mw (k₃ _ _ (k₂ _ _ (X₁ _ _ hC))) (k₃ _ _ hx₂) hu (by rw [sizeLine_eq]; exact (by decide : 1 ≤ 16777216)) fun h₄ t1 k₄ hx₄ hz₄ => ?_
  have kA : ∀ b o, b ≠ x → h₁.get? b = some o → h₄.get? b = some o := fun b o hb e => k₄ b o hb (k₃ _ _ (k₂ _ _ e))
  have X₄ : K.In h₄ := fun a o e => kA a o (fun z => by rw [z, hnx] at e; cases e) (X₁ a o e)
  have hns₄ := hns.at (h' := h₄) fun o e => kA _ o hxL.symm e
  have z1 : hp.objs.size < h₁.objs.size := hns.lt
  have z3 : h₂.objs.size ≤ (h₂.push (kxs_mw "ValueError.__init__" x)).objs.size := by rw [Heap.size_push]; exact Nat.le_succ _
  show wpAt _ _ _ (execs _ _) _ _ _
  refine wpAt_of_wpAny (wpAny_execs_cons (plainObj_wpAny_Assign_Attribute ?_))
  refine ldC (v := v) hns₄ (by first | rfl | with_unfolding_all rfl | kernel_rfl) (ldC (v := .ref x) hns₄ (by first | rfl | with_unfolding_all rfl | kernel_rfl) ?_)
  refine set_plain X₄ (ox := excO C t1) (od := none) ⟨hx₄, rfl, rfl, trivial⟩ T.sa ?_
  refine exc_osa X₄ hx₄ hcl (show refsVE (.ref C :: bm) = true from hbm) rfl T.noN (fun h₅ tk₅ dx k₅ dn dne hx₅ hn₅ => ?_)
  show wpAny _ _ (execs _ _) _ _ _
  exact wpAny_execs_nil (hq h₅ tk₅ dx t1 ⟨fun b o hb e => k₅ b o hb (kA b o hb (k b o e)), hx₅, Nat.le_trans (Nat.le_of_lt z1) (Nat.le_trans (Nat.le_of_lt hz₂) (Nat.le_trans z3 (Nat.le_trans hz₄ dn))), dne, hn₅⟩)
/-- a made one -/
structure OwnMade (h h' : Heap) (f : Str) (e C d : Addr) (v : Value) : Prop where
  keep : ∀ b o, h.get? b = some o → h'.get? b = some o
  new : h.objs.size ≤ e
  obj : ∃ oe vs, h'.get? e = some oe ∧ oe.cls = .ref C ∧ oe.dict = some d ∧ oe.data = .fields vs ∧ vs[1]? = some .none
  dbig : h.objs.size ≤ d
  dne : d ≠ e
  ns : h'.Ns1 d (fun y => if y = f then some v else none)
theorem one_size (v : Value) : [v].length ≤ sizeLine := by
  rw [sizeLine_eq]
  exact (by decide : 1 ≤ 16777216)
theorem ns_madeN (T : Txt nsP prog K mg qual "ring" nsE C fI) {v : Value} (X : K.In s.heap) (hlim : s.heap.NoLimit) (hgl : s.heap.Ns mainGlobals mg) (hbl : ∃ mb, s.heap.Ns builtinsNs mb ∧ ∀ x : Str, x ≠ "__name__" → mb x = bootBuiltins x) (hroom : A.depth + 1 < recursionLimit)
    (hq : ∀ h' tk e d, OwnMade s.heap h' "ring" e C d v → (∀ oe vs, h'.get? e = some oe → oe.data = .fields vs → vs[2]? = some .none) → R (.ok (.ret (.ref e))) { s with heap := h', toks := tk }) :
    codeAny (model prog w) A (.call (.ref C) ⟨[v], []⟩) R s := by
  obtain ⟨nm, q, N, bs, bm, sn, sub, ab, col, dd, k0, k1, k2, k3, k5, hC, hbm⟩ := T.cls
  obtain ⟨hp, g, dr, tk, os⟩ := s
  have k : ∀ b o, hp.get? b = some o → ((hp.push (kdv_tup [v])).push (excO C hp.objs.size)).get? b = some o := fun b o e => Heap.get?_push_of_some _ (Heap.get?_push_of_some _ e)
  have hget : ((hp.push (kdv_tup [v])).push (excO C hp.objs.size)).get? (hp.objs.size + 1) = some (excO C hp.objs.size) := by heap_get
  have hnx : K.lookup (hp.objs.size + 1) = none := by
    cases e : K.lookup (hp.objs.size + 1) with
    | none => rfl
    | some o =>
      have z : hp.get? (hp.objs.size + 1) = some o := X _ _ e
      exact absurd (Nat.lt_of_succ_lt (Heap.lt_size z)) (Nat.lt_irrefl _)
  obtain ⟨mb, hb1, hb2⟩ := hbl
  refine call_own F.excBase_ValueError (fun X => refsVE_contains X bm hbm) (X _ _ hC) (looks_findIn X T.iC) (fun self => bind_fn X self T.tC) (one_size v) ?_
  refine ns_init (s := ⟨(hp.push (kdv_tup [v])).push (excO C hp.objs.size), g, dr, tk, os⟩) T (X.keeps k) (hlim.keeps k) (hgl.keeps k) ⟨mb, hb1.keeps k, hb2⟩ hget hnx ?_ fun h' tk' dx t1 ⟨k', hx, dn, dne, hns⟩ => ?_
  · show A.depth + 1 < recursionLimit
    exact hroom
  · have old : ∀ b o, hp.get? b = some o → h'.get? b = some o := fun b o e => k' b o (Nat.ne_of_lt (Nat.lt_succ_of_lt (Heap.lt_size e))) (k b o e)
    have z : hp.objs.size + 1 + 1 ≤ dx := by
      first
        | (simpa only [Heap.size_push] using dn)
        | exact dn
        | (have q := dn; rw [Heap.size_push, Heap.size_push] at q; exact q)
    exact ⟨rfl, hq h' tk' (hp.objs.size + 1) dx ⟨old, Nat.le_succ _, ⟨_, _, hx, rfl, rfl, rfl, rfl⟩, Nat.le_trans (Nat.le_trans (Nat.le_succ _) (Nat.le_succ _)) z, dne, hns⟩ fun oe vs he ev => by
      have q := he.symm.trans hx
      cases q
      cases ev
      rfl⟩
end
end LowNS
end PySem
namespace L2
open PySem PySem.Spec PyProof.Rows
theorem relO_one {f : Str} {v : V} {v' : Value} (r : RelV v v') (y : Str) : RelO (List.lookup y [(f, v)]) (if y = f then some v' else none) := by
  by_cases hw : y = f
  · subst hw
    rw [if_pos rfl]
    have q : List.lookup y [(y, v)] = some v := by simp [List.lookup]
    rw [q]
    exact r
  · rw [if_neg hw]
    have qw : (y == f) = false := by simpa using hw
    have q2 : List.lookup y [(f, v)] = none := by simp [List.lookup, qw]
    rw [q2]
    trivial
section
variable {X : Cx} {C fI : Addr} {qual : Str}
/-- NeedsSpare(e) -/
def tMk1 (C : Addr) (f : Str) (ta : TA) : St → Hp → XK → Prop := fun σ H Q => ta σ H fun vs H1 => ∃ v, vs = [v] ∧ ∀ d, H1 d = none → Q (.ref C) (some d) (upd H1 d (.xd [(f, v)]))
end
end L2
end
section
set_option Elab.async false
set_option linter.all false
set_option maxRecDepth 100000
set_option maxHeartbeats 4000000
/-! where an exception is handled: the end of a list, all(..), a comprehension over a range -/
namespace L2H
open PySem PySem.Spec PyProof.Rows L2 HotX
section
variable {prog : Program} {w : World} {A : Around} {E : Value → Shared → Prop} {s : Shared}
theorem pyNext_list_end_hot {it l x1 : Addr} {i : Nat} {items : Array Value} {Q : Option Value → Shared → Prop} (hot : HotAt A x1 s.heap) (hxi : x1 ≠ it)
    (hit : s.heap.IsListIter it l i) (hl : s.heap.IsList l items) (hx : items[i]? = none)
    (hQ : ∀ h', Heap.ExtBut it s.heap h' → Q none { s with heap := h' }) : wpAny (model prog w) A (pyNext (.ref it)) Q E s := by
  obtain ⟨o, ho, hc, hd⟩ := id hit
  obtain ⟨ol, hol, _, nl, hdl⟩ := hl
  obtain ⟨hh, o1, vs1, h1, d1, c1⟩ := hot
  unfold pyNext
  refine wpAny_bind (wpAny_attempt (wpAny_callSpecial?_slot (name := Str.ofString "__next__") hit.typeIs slot_listiter_next
    (wpAny_call_entry slot_listiter_next hit.typeIs entry_listiter_next ?_ (args_listiter_next _))))
  show wpAny _ _ (field (.ref it) 0 >>= _) _ _ s
  refine wpAny_bind (wpAny_field ho hd (x := .ref l) rfl ?_)
  show wpAny _ _ (if (Value.ref l == Value.none) = true then _ else _) _ _ s
  rw [if_neg (show ¬ ((Value.ref l == Value.none) = true) from Bool.false_ne_true)]
  show wpAny _ _ (field (.ref it) 1 >>= _) _ _ s
  refine wpAny_bind (wpAny_field ho hd (x := .int i 0) rfl ?_)
  show wpAny _ _ (seqItems? (.ref l) >>= _) _ _ s
  refine wpAny_bind (wpAny_seqItems hol hdl ?_)
  simp only [Int.toNat_natCast, hx]
  refine wpAny_bind (wpAny_rule (wpAny_bind (wpAny_setField ho hd (by simp) ?_)))
  show wpAny _ _ (newExc (.type "StopIteration") [] >>= _) _ _ _
  refine wpAny_bind ?_
  simp only [newExc, newTuple]
  refine wpAny_bind (wpAny_newObj_type ?_ (by size_fits))
  refine wpAny_bind (m := firstArgMember _ _) (wpAny_of_eq (a := Value.none) (by first | rfl | (simp only [firstArgMember]; rfl)) ?_)
  refine wpAny_newObj_type ?_ (by size_fits)
  have hk : ∀ {b : Addr} {u : Obj}, b ≠ it → s.heap.get? b = some u → (s.heap.update it (Obj.mapFields (·.setIfInBounds 0 Value.none))).get? b = some u := fun hb e => by rw [Heap.get?_update_other _ _ (Ne.symm hb)]; exact e
  refine raiseNew_hot ⟨hh, o1, vs1, Heap.get?_push_of_some _ (Heap.get?_push_of_some _ (hk hxi h1)), d1, c1⟩ (Nat.ne_of_lt (Heap.lt_size (Heap.get?_push_of_some _ (hk hxi h1)))) (Heap.get?_push_size _ rfl) rfl (by first | (simp; done) | (simp; omega) | (simp only [Array.size_append]; simp; omega)) ?_
  refine wpAny_bind (wpAny_isInstance (T := "StopIteration") (b := true) ⟨_, Heap.get?_update_self _ (Heap.get?_push_size _ rfl) rfl, rfl⟩ isSubtype_stop ?_)
  refine wpAny_pure (hQ _ fun b u hb e => ?_)
  rw [Heap.get?_update_other _ _ (Nat.ne_of_gt (Heap.lt_size (Heap.get?_push_of_some _ (hk hb e))))]
  exact Heap.get?_push_of_some _ (Heap.get?_push_of_some _ (hk hb e))
theorem hot_in1 {x1 : Addr} {h : Heap} (c : HotAt A x1 h) : HotAt A.in1 x1 h := ⟨c.1, c.2⟩
/-- a list's walk while the exception at x1 is handled -/
theorem walks_listH (I ax x1 : Addr) (hne : ax ≠ I) (hxi : x1 ≠ I) (items : Array Value) :
    Walks prog w A I [I, ax, x1] [I] items.size (fun i v => items[i]? = some v) (fun i h => (h.IsListIter I ax i ∧ h.IsList ax items) ∧ HotAt A x1 h) where
  sub := fun b hb => by simp at hb; simp [hb]
  frame := fun _ _ _ st hk => ⟨⟨st.1.1.at fun o e => hk I (by simp) o e, st.1.2.at fun o e => hk ax (by simp) o e⟩, by
    obtain ⟨hh, o1, vs1, h1, d1, c1⟩ := st.2
    exact ⟨hh, o1, vs1, hk x1 (by simp) _ h1, d1, c1⟩⟩
  item := fun i s Q E hi st hQ => by
    refine wpAny_pyNext_list_item st.1.1 st.1.2 (x := items[i]) (by simp [hi]) fun h' hit' hs' => ?_
    obtain ⟨hh, o1, vs1, h1, d1, c1⟩ := st.2
    exact hQ _ h' s.toks (by simp [hi]) ⟨⟨hit', st.1.2.extBut hs'.extBut hne⟩, hh, o1, vs1, hs'.extBut x1 o1 hxi h1, d1, c1⟩ fun b o hb e => hs'.extBut b o (fun h => hb (by simp [h])) e
  done := fun s Q E st hQ => pyNext_list_end_hot st.2 hxi st.1.1 st.1.2 (by simp) fun h' he' => hQ h' s.toks fun b o hb e => he' b o (fun h => hb (by simp [h])) e
  self := fun _ _ _ _ st hQ => wpAny_pyIter_listiter st.1.1 hQ
end
section
variable {X : Cx}
theorem cr_allH (hc : HotC X) : CallR X (.builtin "all") (rAll X.K) := by
  intro pins s σ H vs us Q I r h
  obtain ⟨a, bs, rfl, hs, q⟩ := h
  obtain ⟨its, rv, hl, _⟩ := I.list hs
  rw [Vals.ref1 r]
  have hb := rv.bls
  obtain ⟨x1, hot⟩ := hc.at I
  have hot0 := hot
  obtain ⟨hh, o1, vs1, h1, d1, c1⟩ := hot
  refine call_all_walk (iter_any hl.isList fun s₂ e2 st hne => ?_)
  subst e2
  refine ⟨_, _, _, _, _, _, _, rfl, walks_listH (A := X.A.in1) _ a x1 hne (Nat.ne_of_lt (Heap.lt_size h1)) its.toArray, ⟨st, hh, o1, vs1, Heap.get?_push_of_some _ h1, d1, c1⟩, truth_bools hb, fun h' tk hk => ?_⟩
  refine ⟨.bl _, H, I.kept fun b o eo => hk b o (fun hmem => ?_) (Heap.get?_push_of_some _ eo), ?_, q⟩
  · rcases List.mem_cons.mp hmem with e1 | hmem
    · exact absurd (e1 ▸ Heap.lt_size eo) (Nat.lt_irrefl _)
    · cases hmem
  · show Value.bool _ = Value.bool _
    rw [← L2.all_range, hb, List.size_toArray, List.length_map]
/-- a comprehension's block that bears the handled exception -/
abbrev _root_.L2.Cx.blkH (X : Cx) (s : Shared) (H : Hp) (scope : Scope) (cenv : Env) (fp : List Addr) : Cx := { X.blk s H scope cenv fp with pn := X.pn }
theorem blockH {pins : List (Addr × Obj)} {σ σ' : L2.St} {H : Hp} {s : Shared} {g : Array GenState} {d : Drawn} {t : Nat} {os : OsState} {h' : Heap} {scope : Scope} {cenv : Env} {fp : List Addr} (I : Inv X pins σ H s) (J : Inv (X.blk s H scope cenv fp) [] σ' H ⟨h', g, d, t, os⟩)
    (k : ∀ b o, s.heap.get? b = some o → h'.get? b = some o) (hL : cenv.locals = s.heap.objs.size) : Inv (X.blkH s H scope cenv fp) [] σ' H ⟨h', g, d, t, os⟩ := by
  have ok := J.ok
  refine ⟨⟨ok.mod, ok.kind, ok.glob, ok.blt, ok.above, ok.inj, ok.has, ok.cab, ok.hd, ok.frames, ok.stk, ok.exf, ok.bs, ok.bsz, ok.noex, ok.exfs, ok.funs, ok.frf⟩, J.os, J.bare, J.base, J.loc, J.cell, J.free, J.freeC, fun p hp => ?_, J.hok, J.len⟩
  have hp : p ∈ X.pn := by
    have hp : p ∈ X.pn ++ ([] : List (Addr × Obj)) := hp
    rwa [List.append_nil] at hp
  obtain ⟨p1, p2, p3, p4, p5⟩ := I.pin p (List.mem_append_left _ hp)
  refine ⟨k _ _ p1, p2, ?_, fun hm => ?_, p5⟩
  · show p.1 ≠ cenv.locals
    rw [hL]
    exact Nat.ne_of_lt (Heap.lt_size p1)
  · have hm : p.1 ∈ frs X.stack := hm
    exact (List.mem_cons.mp (I.stkSub p.1 hm)).elim p3 p4
end

section
variable {X : Cx}
theorem lc_coreH {pins : List (Addr × Obj)} {s : Shared} {σ : St} {H : Hp} {Q : VK} {elt tg iter : Expr} {ifs : List Expr} {scope : Scope} {own : List (Str × Nat)} {pos pos' : Pos} {wi : TI} {g : TG} {tt : TT} {te : TE} {use : Option (Value → Sem Unit)} {Qf : Value → Shared → Prop}
    (hc : HotC X) (hN : X.N.Nodup) (I : Inv X pins σ H s) (hi : PIH X tg iter wi) (ok : BlkOk X.N X.env.scope scope own)
    (hg : ∀ (s : Shared) (H : Hp) (C : Addr) (cl : List (Str × Addr)) (fp : List Addr), PG (X.blkH s H scope (compEnvC scope cl C X.env) fp) tg g) (ht : ∀ (s : Shared) (H : Hp) (C : Addr) (cl : List (Str × Addr)) (fp : List Addr), PTs (X.blkH s H scope (compEnvC scope cl C X.env) fp) ifs tt)
    (he : ∀ (s : Shared) (H : Hp) (C : Addr) (cl : List (Str × Addr)) (fp : List Addr), PE (X.blkH s H scope (compEnvC scope cl C X.env) fp) elt te) (hs : ∀ x, foldedSetIterable iter X.env x = pure x)
    (h : tLc wi g tt te (own.map (·.2)) σ H Q)
    (hRR : ∀ D C s' m H', Inv X pins σ H' s' → Q (.ref D) H' → s'.heap.Ns C m → FpOk X pins H' C → compPost (model X.prog X.w) X.A X.xe use Qf (.ref D) C (.ok .next) s') :
    wpAny (model X.prog X.w) X.A (comprehension (.ListComp elt [⟨tg, iter, ifs, 0⟩] scope pos) scope X.env pos' (newList []) false (eval iter X.env) use) Qf X.xe s := by
  have hfree : ∀ y ∈ scope.names, y.2 = .free → ∃ c, X.env.cells.lookup y.1 = some c := fun y hy e => by
    rcases ok.free y hy e with k | k
    · exact I.ok.has _ (.inl k)
    · exact I.ok.has _ (.inr k)
  refine wpAny_comprehension_free (use := use) rfl hs (closure_ok hfree) ok.kind (fun y hy e => by rw [ok.uniq y hy, e])
    (thn (hi.run pins s σ H _ I h) fun xv s1 hx => thn hx fun itv s2 h2 => ?_)
  obtain ⟨it, fp, tn, J, H2, e, I2, T, st2, f2, q⟩ := h2
  subst e
  refine wpAny_newObj_type (newEnv_comp ?_) (by show 0 ≤ sizeLine; decide)
  generalize hD : s2.heap.objs.size = D
  have hDn : H2 D = none := I2.hok.fresh (Nat.le_of_eq hD)
  obtain ⟨W, ⟨m0, w0⟩, turn⟩ := q D hDn
  -- the new list
  generalize hs3 : ({ s2 with heap := s2.heap.push { cls := .type "list", data := .seq ([] : List Value).toArray } } : Shared) = s3
  have I3 : Inv X pins σ (upd H2 D (.lst [])) s3 := by
    rw [← hs3]
    refine I2.laid (t' := s2.toks) (fun b o e => Heap.get?_push_of_some _ e) (Nat.le_of_eq hD) ⟨Nat.zero_le _, [], 0, .nil, ?_⟩
    rw [← hD]
    exact Heap.get?_push_size _ rfl
  have h3 : s3.heap = s2.heap.push { cls := .type "list", data := .seq ([] : List Value).toArray } := by rw [← hs3]
  have sz : ∀ b ∈ fp, b < s2.heap.objs.size := fun b hb => by
    obtain ⟨o, e, _⟩ := T.obj _ _ st2 b hb
    exact Heap.lt_size e
  have f3 : ∀ b ∈ fp, FpOk X pins (upd H2 D (.lst [])) b ∧ b < s3.heap.objs.size := fun b hb => by
    have hlt := sz b hb
    refine ⟨⟨?_, (f2 b hb).2⟩, by rw [h3, Heap.size_push]; exact Nat.lt_succ_of_lt hlt⟩
    rw [upd_ne (by rw [← hD]; exact Nat.ne_of_lt hlt)]
    exact (f2 b hb).1
  have st3 : tn 0 s3.heap := T.keep _ _ _ st2 fun b _ o e => by rw [h3]; exact Heap.get?_push_of_some _ e
  have I4 := blockH I3 (block_start I3 ok hN f3) (fun b o e => pushCells_keeps _ _ _ _ (Heap.get?_push_of_some _ e)) rfl
  have pg := hg s3 (upd H2 D (.lst [])) s3.heap.objs.size (cellsFrom (s3.heap.objs.size + 1) scope.names (cloFrom X.env.cells scope.names [])) fp
  have pt := ht s3 (upd H2 D (.lst [])) s3.heap.objs.size (cellsFrom (s3.heap.objs.size + 1) scope.names (cloFrom X.env.cells scope.names [])) fp
  have pe := he s3 (upd H2 D (.lst [])) s3.heap.objs.size (cellsFrom (s3.heap.objs.size + 1) scope.names (cloFrom X.env.cells scope.names [])) fp
  show codeAny _ _ (.compStart (.ListComp elt [⟨tg, iter, ifs, 0⟩] scope pos) 0 (.ref it) (.ref D) (compEnvC scope (cellsFrom (s3.heap.objs.size + 1) scope.names (cloFrom X.env.cells scope.names [])) s3.heap.objs.size X.env)) (compPost (model X.prog X.w) X.A X.xe use Qf (.ref D) s3.heap.objs.size) { s3 with heap := pushCells (s3.heap.push { cls := .type "dict", data := .dict #[] }) scope.names }
  have nfp : ∀ b ∈ fp, (upd H2 D (.lst [])) b = none := fun b hb => (f3 b hb).1.1
  generalize hce : compEnvC scope (cellsFrom (s3.heap.objs.size + 1) scope.names (cloFrom X.env.cells scope.names [])) s3.heap.objs.size X.env = ce at I4 pg pt pe ⊢
  have cL : ce.locals = s3.heap.objs.size := by subst hce; rfl
  generalize hH3 : upd H2 D (.lst []) = H3 at I3 I4 pg pt pe w0 nfp f3
  generalize hs4 : ({ s3 with heap := pushCells (s3.heap.push { cls := .type "dict", data := .dict #[] }) scope.names } : Shared) = s4 at I4 ⊢
  have st4 : tn 0 s4.heap := T.keep _ _ _ st3 fun b _ o e => by rw [← hs4]; exact pushCells_keeps _ _ _ _ (Heap.get?_push_of_some _ e)
  have stat : ∀ {σ' : St} {H' : Hp} {s' : Shared}, Inv (X.blkH s3 H3 scope ce fp) [] σ' H' s' → (∀ b ∈ fp, H' b = none) → ∀ b ∈ fp, FpOk (X.blkH s3 H3 scope ce fp) [] H' b := fun {σ' H' s'} I' hn b hb =>
    ⟨hn b hb, (I'.ok.exf b hb).1, I'.ok.exfs b hb, .inl hb, fun x c e => (I'.ok.exf b hb).2 x c e, fun p hp => (f3 b hb).1.2.2.2.2.2 p (by have hp : p ∈ X.pn ++ ([] : List (Addr × Obj)) := hp; rw [List.append_nil] at hp; exact List.mem_append_left _ hp)⟩
  have hcB : HotC (X.blkH s3 H3 scope ce fp) := hc
  have loop : codeAny (model X.prog X.w) X.A (.compLoop (.ListComp elt [⟨tg, iter, ifs, 0⟩] scope pos) 0 (.ref it) (.ref D) ce) (compPost (model X.prog X.w) X.A X.xe use Qf (.ref D) s3.heap.objs.size) s4 := by
    refine compLoop_any (fun n s' => ∃ i H', Inv (X.blkH s3 H3 scope ce fp) [] (wipe σ (own.map (·.2))) H' s' ∧ tn i s'.heap ∧ (∀ b ∈ fp, H' b = none) ∧ W i n H') ?_ m0 ⟨0, H3, I4, st4, nfp, w0⟩
    rintro n s5 ⟨i, H5, I5, st5, n5, w5⟩
    rcases turn i n H5 w5 with ⟨stop, qq⟩ | ⟨go, Nx, hNx, step⟩
    · have td := T.done (X.blkH s3 H3 scope ce fp) rfl rfl rfl hcB i [] s5 _ H5 (fun _ _ => False) I5 (stat I5 n5) st5 stop
      refine thnF td fun r s6 ⟨hr, I6⟩ => ?_
      subst hr
      -- back in the def's context
      have I7 : Inv X pins σ H5 s6 := I3.call' (ch := fp) I6.os I6.base I6.hok I6.bare fun b hb => ⟨(f3 b hb).1.2.2.2.1, (f3 b hb).1.2.1, (f3 b hb).1.2.2.2.2.1, (f3 b hb).1.2.2.2.2.2⟩
      have nC : H5 s3.heap.objs.size = none := by
        have z : H5 ce.locals = none := I6.free
        rw [cL] at z
        exact z
      obtain ⟨m, hn, _⟩ := I6.loc
      have hn : s6.heap.Ns ce.locals m := hn
      rw [cL] at hn
      exact hRR D s3.heap.objs.size s6 m H5 I7 qq hn (I3.fpOk (Nat.le_refl _) nC)
    · have ti := T.item (X.blkH s3 H3 scope ce fp) rfl rfl rfl hcB i [] s5 _ H5 (fun _ _ => False) I5 (stat I5 n5) st5 go
      refine thnF ti fun r s6 ⟨u, hr, h6⟩ => ?_
      subst hr
      refine thnF h6 fun _ s7 ⟨x, H7, I7, r7, y7, st7, n7⟩ => ?_
      have I7' := I7.pinned (stat I7 n7) (T.obj _ _ st7)
      refine thnF (pg.run _ s7 _ H7 x u _ I7' r7 (step x H7 y7)) fun _ s8 ⟨σ8, H8, I8, hw8, q8⟩ => ?_
      refine thnF (pt.run _ s8 σ8 H8 _ I8 q8) fun b s9 ⟨H9, I9, q9⟩ => ?_
      -- the turn's end
      have fin : ∀ {s' : Shared} {H' : Hp}, Inv (X.blkH s3 H3 scope ce fp) ([] ++ pinsAt fp s7.heap) σ8 H' s' → Nx H' → ∃ m, m < n ∧ ∃ i H', Inv (X.blkH s3 H3 scope ce fp) [] (wipe σ (own.map (·.2))) H' s' ∧ tn i s'.heap ∧ (∀ b ∈ fp, H' b = none) ∧ W i m H' := fun {s' H'} I' nx => by
        obtain ⟨m', hm, w'⟩ := hNx H' nx
        have pin' : ∀ b ∈ fp, ∀ o, s7.heap.get? b = some o → s'.heap.get? b = some o ∧ H' b = none := fun b hb o e =>
          let z := I'.pin (b, o) (List.mem_append_right _ (List.mem_append_right _ (mem_pinsAt hb e)))
          ⟨z.1, z.2.1⟩
        have hl : (wipe σ (own.map (·.2))).length = σ8.length := by rw [← hw8, wipe_length]
        refine ⟨m', hm, i + 1, H', (I'.unpinned (pins := [])).weak hl (fun j v e => ?_), T.keep _ _ _ st7 fun b hb o e => (pin' b hb o e).1, fun b hb => ?_, w'⟩
        · rw [← hw8] at e
          exact (wipe_some e).1
        · obtain ⟨o, e, _⟩ := T.obj _ _ st7 b hb
          exact (pin' b hb o e).2
      cases b with
      | false =>
        simp only [Bool.false_eq_true, if_false] at q9 ⊢
        exact fin I9 q9
      | true =>
        simp only [if_true] at q9 ⊢
        refine thnF (pe.run _ s9 σ8 H9 _ I9 q9) fun z s10 ⟨yv, H10, I10, r10, acc, hD10, hz10, nx⟩ => ?_
        exact app_ok (X := X.blkH s3 H3 scope ce fp) I10 hD10 hz10 r10 fun s11 I11 => fin I11 nx
  exact codeAny_compStart_list loop (T.self X.A 0 _ _ _ st4 loop)
/-- as a value -/
theorem pe_lcH {elt tg iter : Expr} {ifs : List Expr} {scope : Scope} {own : List (Str × Nat)} {pos : Pos} {wi : TI} {g : TG} {tt : TT} {te : TE} (hc : HotC X) (hN : X.N.Nodup) (hi : PIH X tg iter wi) (ok : BlkOk X.N X.env.scope scope own)
    (hg : ∀ (s : Shared) (H : Hp) (C : Addr) (cl : List (Str × Addr)) (fp : List Addr), PG (X.blkH s H scope (compEnvC scope cl C X.env) fp) tg g) (ht : ∀ (s : Shared) (H : Hp) (C : Addr) (cl : List (Str × Addr)) (fp : List Addr), PTs (X.blkH s H scope (compEnvC scope cl C X.env) fp) ifs tt)
    (he : ∀ (s : Shared) (H : Hp) (C : Addr) (cl : List (Str × Addr)) (fp : List Addr), PE (X.blkH s H scope (compEnvC scope cl C X.env) fp) elt te) (hs : ∀ x, foldedSetIterable iter X.env x = pure x := by intro _; rfl) :
    PE X (.ListComp elt [⟨tg, iter, ifs, 0⟩] scope pos) (tLc wi g tt te (own.map (·.2))) := by
  refine ⟨fun pins s σ H Q I h => ?_⟩
  rw [eval_ListComp]
  refine lc_coreH hc hN I hi ok hg ht he hs h fun D C s' m H' I' q hn f => ⟨m, hn, fun h'' sb => ?_⟩
  obtain ⟨f0, f1, f2, f3, f4, f5⟩ := f
  exact ⟨.ref D, H', I'.turned (t' := s'.toks) (fun b o hb e => (sb.2 b hb).trans e) f0 f1 f3 f4 f5, rfl, q⟩
end
end L2H
end
section
set_option Elab.async false
set_option linter.all false
set_option maxRecDepth 100000
set_option maxHeartbeats 4000000
/-! L3: raising defs, try .. except .. as e, where an exception is handled -/
namespace L2N
open PySem PySem.Spec PyProof.Rows L2
theorem takes0 {X : Cx} : L2N.Takes X (fun _ _ _ _ => False) := fun _ _ x => by
  obtain ⟨_, _, _, _, _, _, _, _, _, _, _, _, _, _, _, _, z⟩ := x
  exact z.elim
section
variable {X : Cx} {C fI : Addr} {qual : Str}
theorem pmk_ns {a : Expr} {ta : TA} {p pos : Pos} {k : Nat} (T : PySem.LowNS.Txt PySem.LowNS.nsP X.prog X.K X.mg qual "ring" PySem.LowNS.nsE C fI) (gC : X.mg "NeedsSpare" = some (.ref C)) (hr : Room k X.A) (ha : PA X [a] ta) (hg : Gl X "NeedsSpare" := by rfl)
    (he : starEach (a :: []) X.env = (false, eval a X.env) :: starEach [] X.env := by rfl) (hpl : (backTo pos (starEach [] X.env)).any (·.1) = false := by rfl) :
    L2N.PMk X (.Call (.Name "NeedsSpare" p) [a] [] pos) (tMk1 C "ring" ta) := by
  intro pins s σ H Q I h
  refine wpAny_Call_Name_kw (ld_glob I hg gC ?_)
  refine PySem.W.callWith_K (h₀ := X.base) I.ok.mod.kin T.kC (thn (ha.run pos pins s σ H _ I h) fun us s1 hh => ?_) he hpl
  obtain ⟨vs, H1, I1, r1, v, ev, q1⟩ := hh
  subst ev
  refine ⟨I1.kIn, ?_⟩
  cases r1 with
  | cons rv rn =>
    rename_i v' us'
    cases rn
    show wpAny _ _ (call (.ref C) [v']) _ _ _
    have hlim := I1.nolimit
    have hgl := I1.mod.glob.keeps I1.bk
    obtain ⟨mb, hb1, hb2⟩ := I1.mod.blt
    have hbl : ∃ mb, s1.heap.Ns builtinsNs mb ∧ ∀ x : Str, x ≠ "__name__" → mb x = bootBuiltins x := ⟨mb, hb1.keeps I1.bk, hb2⟩
    obtain ⟨hp, g, dr, tk, os⟩ := s1
    refine wpAny_call (PySem.LowNS.ns_madeN T I1.kIn hlim hgl hbl (by have := hr.dp; omega) fun h' tk' e d M ctx => ?_)
    show L2N.MkP X pins σ Q (.ref e) ⟨h', g, dr, tk', os⟩
    obtain ⟨oe, fv, hoe, hc, hd, hdat, h1⟩ := M.obj
    have hns := M.ns
    obtain ⟨G', g1, g2⟩ := restrict h' fun b => decide (b ≠ e)
    have gk : ∀ b, b ≠ e → G'.get? b = h'.get? b := fun b hb => g1 b (decide_eq_true hb)
    have ge : G'.get? e = none := g2 e (by simp)
    have old : ∀ b o, hp.get? b = some o → G'.get? b = some o := fun b o q => (gk b (Nat.ne_of_lt (Nat.lt_of_lt_of_le (Heap.lt_size q) M.new))).trans (M.keep b o q)
    have ob : ObjOk X.prog X.w (upd H1 d (.xd [(("ring" : Str), v)])) G' d (.xd [(("ring" : Str), v)]) :=
      ⟨_, hns.at (fun o q => (gk d M.dne).trans q), fun f => relO_one rv f⟩
    have J : Inv X pins σ (upd H1 d (.xd [(("ring" : Str), v)])) ⟨G', g, dr, tk', os⟩ := I1.laid (t' := tk') old M.dbig ob
    refine ⟨e, oe, fv, ⟨G', g, dr, tk', os⟩, _, .ref C, some d, rfl, J, fun b o q => ?_, ge, hoe, ⟨hc, hd, fun vs ev => ctx oe vs hoe ev⟩, hdat, h1, ?_, rfl, I1.bare, raises_own T.exC T.tyC, q1 d (I1.hok.fresh M.dbig)⟩
    · by_cases hb : b = e
      · have q' : G'.get? b = some o := q
        rw [hb, ge] at q'; cases q'
      · exact (gk b hb).symm.trans q
    · rw [upd_ne (Ne.symm M.dne)]
      exact I1.hok.fresh M.new
end
end L2N
namespace L2
open PySem PySem.Spec PyProof.Rows
/-- isinstance(e, c), e the caught exception with a dict of its own -/
def rIsX (K : PySem.W.Frag) (a : Addr) (cls : Value) (d : Option Addr) : List V → Hp → VK → Prop := fun xs H Q => ∃ (D dd : Addr) (fs : List (Str × V)) (c : V) (cv : Value) (b : Bool), cls = .ref D ∧ d = some dd ∧ ExcC K D ∧ xs = [.ref a, c] ∧ (∀ u, RelV c u → u = cv) ∧ PySem.W.kitOne K (.ref D) cv = some b ∧ H dd = some (.xd fs) ∧ Q (.bl b) H
theorem call_isX {X : Cx} {a : Addr} {cls : Value} {d : Option Addr} {oe : Obj} {pn : List (Addr × Obj)} (hz : Zc cls d oe) (hf : ∃ vs, oe.data = .fields vs) : CallR (X.suite a ((a, oe) :: pn)) (.builtin "isinstance") (rIsX X.K a cls d) := by
  intro pins s σ H xs us Q I r h
  obtain ⟨D, dd, fs, c, cv, b, rfl, rfl, C, rfl, hcv, e, ea, q⟩ := h
  cases r with
  | cons rx rr =>
    cases rr with
    | cons rt rr =>
      cases rr
      cases rx
      have ec := hcv _ rt
      subst ec
      obtain ⟨hget, _⟩ := I.pin (a, oe) (List.mem_append.mpr (.inl List.mem_cons_self))
      obtain ⟨vs, hv⟩ := hf
      have hx : ObjOk X.prog X.w H s.heap dd (.xd fs) := I.hok dd _ ea
      obtain ⟨mA, hns, hr⟩ := hx
      obtain ⟨od, ho, hl⟩ := lookIn_ns hns
      have J : PySem.W.InstAt s.heap a oe D (some od) := ⟨hget, hz.1, by unfold PySem.W.notCls; rw [hv] <;> rfl, by rw [hz.2]; exact ho⟩
      have hcl : (PySem.W.clsIn X.K D).isSome = true := by
        obtain ⟨cd, hc, _⟩ := PySem.W.any_some C.hd
        rw [hc]; rfl
      exact PySem.W.kia_one (PySem.W.kitx_exc hcl C.hg C.hk C.hs C.ha C.hn C.ht C.hm) I.kIn J e (fun z => nomatch z) fun tk => ⟨.bl b, H, I.kept (t' := tk) fun _ _ z => z, rfl, q⟩
end L2
namespace L3
open PySem L2
section
variable {X : Cx} {W : WX}
/-! ### raise -/
def raise3 (C : Addr) (f : Str) (ta : TA3) : TS3 := fun D σ G => ta σ G fun ws G1 => ∃ u, ws = [u] ∧ ∀ d, G1 d = none → D.ex (.ref C) (some d) σ (gup G1 d (.xd [(f, u)]))
theorem s_raiseNS {C fI : Addr} {qual : Str} {a : Expr} {ta : TA3} {p pos pos2 : Pos} {k : Nat} (hc : X.calm = true) (T : PySem.LowNS.Txt PySem.LowNS.nsP X.prog X.K X.mg qual "ring" PySem.LowNS.nsE C fI) (gC : X.mg "NeedsSpare" = some (.ref C)) (hr : Room k X.A) (tk : L2N.Takes X W) (ha : PA X [a] (lowA X.K ta)) (hg : Gl X "NeedsSpare" := by rfl)
    (he : starEach (a :: []) X.env = (false, eval a X.env) :: starEach [] X.env := by rfl) (hpl : (backTo pos (starEach [] X.env)).any (·.1) = false := by rfl) :
    PS X (.Raise (some (.Call (.Name "NeedsSpare" p) [a] [] pos)) none pos2) (lowS X.K W (raise3 C "ring" ta)) := (L2N.ps_raise hc tk (L2N.pmk_ns T gC hr ha hg he hpl)).imp fun D σ H h => by
  obtain ⟨σ3, G, D3, hs, hh, ht, hle⟩ := h
  refine ⟨σ3, G, _, hs, hh, ht, fun vs H1 ws G1 k1 hh1 r q1 => ?_⟩
  obtain ⟨u, rfl, q1⟩ := q1
  cases r with
  | cons r1 r2 =>
    cases r2
    rename_i v
    refine ⟨v, rfl, fun d hd => ?_⟩
    have kd : Keep H1 (upd H1 d (.xd [(("ring" : Str), v)])) := Keep.new hd
    exact hle.ex _ _ _ _ _ _ (k1.trans kd) (hs.keep (k1.trans kd)) (hh1.new hd (g := .xd [("ring", u)]) ⟨_, upd_same, .cons ⟨rfl, r1.keep kd⟩ .nil⟩) (q1 d (hh1.free hd))
/-! ### x = f(..), f may raise -/
def setX3 (i : Nat) (sp : Sp3) (t : TA3) : TS3 := fun D σ G => t σ G fun ws G1 => sp ws G1 (fun v G2 => D.nx (σ.set i (some v)) G2) fun c d G2 => D.ex c d σ G2
theorem s_setX {i : Nat} {y : Str} {py : Pos} {k : Nat} {f : Addr} {fd : FuncData} {ps : List Str} {sp : Sp3} {x : Str} {p pos spos : Pos} {e : Expr} {es : List Expr} {t : TA3} (hN : X.N.Nodup) (F : FnOk X.prog X.w X.K X.mg X.base (L2N.CX X.prog X.w) k f fd ps (lowSp X.K sp)) (hr : Room k X.A) (hm : X.mg x = some (.ref f)) (hk : PySem.W.keepIn X.K (.ref f) = true) (hb : Binds X.K fd ps []) (tk : L2N.Takes X W)
    (ha : PA X (e :: es) (lowA X.K t)) (hg : Gl X x := by rfl) (hdb : (x == ("__debug__" : Str)) = false := by decide) (he : starEach (e :: es) X.env = (false, eval e X.env) :: starEach es X.env := by rfl) (hpl : (backTo pos (starEach es X.env)).any (·.1) = false := by rfl)
    (hi : X.N[i]? = some y := by rfl) (hx : Loc X.env.scope y := by first | exact Or.inl rfl | exact Or.inr rfl) (hs : swapsWith (.Call (.Name x p) (e :: es) [] pos) (some (.Name y py)) spos.line X.env = pure false := by rfl) (hf : X.fn y = true ∨ X.env.scope.names.lookup y = some .local := by first | exact .inl rfl | exact .inr rfl) :
    PS X (.Assign [.Name y py] (.Call (.Name x p) (e :: es) [] pos) spos) (lowS X.K W (setX3 i sp t)) :=
  (ps_set hN hi hx (pe_callS F hr hg hm hk hb (fun σ => L2N.passAt tk σ) ha hdb he hpl) hs hf).imp fun D σ H h => by
  obtain ⟨σ3, G, D3, hs, hh, ht, hle⟩ := h
  refine ⟨σ3, G, _, hs, hh, ht, fun vs H1 ws G1 k1 hh1 r q1 => ?_⟩
  exact ⟨ws, G1, _, _, r, hh1, q1, fun v H' w G' k hh' rv q => hle.nx _ _ _ _ (k1.trans k) ((hs.keep (k1.trans k)).set i rv) hh' q, fun c d H' G' k hh' q => hle.ex _ _ _ _ _ _ (k1.trans k) (hs.keep (k1.trans k)) hh' q⟩
/-! ### try: body, except x as n: suite (every exception of the body is the clause's) -/
theorem RepS.setN {K : PySem.W.Frag} {H : Hp} {σ3 : S3} {σ : L2.St} (r : RepS K H σ3 σ) (i : Nat) : RepS K H (σ3.set i none) (σ.set i none) := by
  refine ⟨by rw [List.length_set, List.length_set]; exact r.1, fun j u e => ?_⟩
  by_cases h : i = j
  · subst h
    have hl : i < σ3.length := by
      have := (List.getElem?_eq_some_iff.mp e).1
      rwa [List.length_set] at this
    rw [List.getElem?_set_self hl] at e
    cases e
  · rw [List.getElem?_set_ne h] at e
    obtain ⟨x, h1, h2⟩ := r.2 j u e
    exact ⟨x, by rw [List.getElem?_set_ne h]; exact h1, h2⟩
def try3 (K : PySem.W.Frag) (c : Value) (i : Nat) (tb : TS3) (ts : Addr → Value → Option Addr → TS3) : TS3 := fun D σ G => tb { D with ex := fun cls d σ' G' => PySem.W.exmOne K cls c = some true ∧ ∀ a, G' a = none → ts a cls d { nx := fun σ2 G2 => D.nx (σ2.set i none) G2, rt := D.rt, bk := fun σ2 G2 => D.bk (σ2.set i none) G2, ct := fun σ2 G2 => D.ct (σ2.set i none) G2 } (σ'.set i (some (.ref a))) G' } σ G
theorem s_try {x n : Str} {c : Value} {i : Nat} {body suite : List Stmt} {b₀ : Stmt} {np pos pos' : Pos} {tb : TS3} {ts : Addr → Value → Option Addr → TS3} (hs : X.stack = X.env :: X.outer) (hf : X.env.frame = some X.env.locals) (hN : X.N.Nodup) (hc : Names X x c)
    (hb : ∀ (W : WX) (pn : List (Addr × Obj)) (xe : Value → Shared → Prop), L2N.Takes (X.tr pn xe) W → PassesOwn (model X.prog X.w) X.A X.env xe → PSs (X.tr pn xe) body (lowS X.K W tb))
    (hsu : ∀ (a : Addr) (oe : Obj) (cls : Value) (d : Option Addr) (pn : List (Addr × Obj)), L2N.Zn cls d oe → (∃ vs, oe.data = .fields vs) → PSs (X.suite a ((a, oe) :: pn)) (b₀ :: suite) (lowS X.K W0 (ts a cls d)))
    (hi : X.N[i]? = some n := by rfl) (hln : X.env.kindOf n = some .local := by rfl) :
    PS X (.Try body [.ExceptHandler (some (.Name x np)) (some n) (b₀ :: suite) pos'] [] [] pos) (lowS X.K W (try3 X.K c i tb ts)) :=
  (L2N.ps_try_as (i := i) (tb := fun W => lowS X.K W tb) (ts := fun a cls d => lowS X.K W0 (ts a cls d)) (Wout := fun _ _ _ _ => False) hs hf hN hi hln hc L2N.takes0 hb hsu).imp fun D σ H h => by
  obtain ⟨σ3, G, D3, hs, hh, ht, hle⟩ := h
  refine ⟨σ3, G, _, hs, hh, ht, ⟨hle.nx, hle.rt, hle.bk, hle.ct, fun cls d σ' H' σ3' G' k hs' hh' q => ?_⟩⟩
  obtain ⟨hx, q⟩ := q
  refine ⟨true, hx, fun _ a na => ?_, fun z => by cases z⟩
  refine ⟨σ3'.set i (some (.ref a)), G', _, hs'.set i (.ref a), hh', q a (hh'.free na), ⟨fun σ2 H2 σ32 G2 k2 hs2 hh2 q2 => hle.nx _ _ _ _ (k.trans k2) (hs2.setN i) hh2 q2, hle.rt.from k, fun σ2 H2 σ32 G2 k2 hs2 hh2 q2 => hle.bk _ _ _ _ (k.trans k2) (hs2.setN i) hh2 q2, fun σ2 H2 σ32 G2 k2 hs2 hh2 q2 => hle.ct _ _ _ _ (k.trans k2) (hs2.setN i) hh2 q2, fun _ _ _ _ _ _ _ _ _ z => z.elim⟩⟩
/-! ### of the caught exception -/
def kIsX (K : PySem.W.Frag) (a : Addr) (cls : Value) (d : Option Addr) : C3 := fun ws G Q => ∃ (D dd : Addr) (fs : List (Str × U)) (c : U) (cv : Value) (b : Bool), cls = .ref D ∧ d = some dd ∧ ExcC K D ∧ ws = [.ref a, c] ∧ ((∃ C, c = .ref C ∧ cv = .ref C) ∨ ∃ n, c = .ty n ∧ cv = .type n) ∧ PySem.W.kitOne K (.ref D) cv = some b ∧ G dd = some (.xd fs) ∧ Q (.bl b) G
theorem k_isX {a : Addr} {cls : Value} {d : Option Addr} {oe : Obj} {pn : List (Addr × Obj)} (hz : Zc cls d oe) (hf : ∃ vs, oe.data = .fields vs) : CallR (X.suite a ((a, oe) :: pn)) (.builtin "isinstance") (lowC X.K (kIsX X.K a cls d)) := CallR.imp (call_isX hz hf) fun vs H Q h => by
  obtain ⟨ws, G, Q3, r, hh, ⟨D, dd, fs, c, cv, b, e1, e2, C, e3, ec, ek, eg, q⟩, p⟩ := h
  subst e3
  obtain ⟨us, eh, rk⟩ := hh _ _ eg
  cases r with
  | cons r1 r2 =>
    cases r1
    cases r2 with
    | cons r3 r4 =>
      cases r4
      refine ⟨D, dd, us, _, cv, b, e1, e2, C, rfl, ?_, ek, eh, p.here hh (.bl b) q⟩
      rcases ec with ⟨C', rfl, rfl⟩ | ⟨n, rfl, rfl⟩
      · cases r3; exact fun u hu => hu
      · cases r3; exact fun u hu => hu
def xf3 (a : Addr) (cls : Value) (d : Option Addr) (C : Addr) (f : Str) (te : TE3) : TE3 := fun σ G Q => te σ G fun x G1 => x = .ref a ∧ cls = .ref C ∧ ∃ dd w, d = some dd ∧ G1 dd = some (.xd [(f, w)]) ∧ Q w G1
theorem e3xf {a C : Addr} {oe : Obj} {cls : Value} {d : Option Addr} {pn : List (Addr × Obj)} {e : Expr} {te : TE3} {pos : Pos} {n : Str} (T : XfC X.K C) (hno : PySem.W.findIn X.K (.ref C) n = some none) (hz : Zc cls d oe) (hf : ∃ vs, oe.data = .fields vs) (he : PE (X.suite a ((a, oe) :: pn)) e (lowE X.K te)) (hb : attributeBase e n X.env (eval e X.env) = eval e X.env := by rfl) :
    PE (X.suite a ((a, oe) :: pn)) (.Attribute e n pos) (lowE X.K (xf3 a cls d C n te)) := (pe_xf T hno hz hf he hb).imp fun σ H Q h => by
  obtain ⟨σ3, G, Q3, hs, hh, ht, hq⟩ := h
  refine ⟨σ3, G, _, hs, hh, ht, fun x H1 w G1 k1 hh1 r q1 => ?_⟩
  obtain ⟨rfl, e1, dd, w, e2, eg, q⟩ := q1
  cases r
  obtain ⟨us, eh, rk⟩ := hh1 _ _ eg
  cases rk with
  | cons r1 r2 =>
    cases r2
    rename_i p
    obtain ⟨f', v⟩ := p
    obtain ⟨e3, rv⟩ := r1
    dsimp only at e3 rv
    subst e3
    exact ⟨rfl, e1, dd, _, v, e2, eh, by simp [List.lookup], hq _ _ _ _ k1 hh1 rv q⟩
/-! ### where an exception is handled -/
theorem _root_.L2H.PIH.imp {tg iter : Expr} {w w' : TI} (h : L2H.PIH X tg iter w) (i : ∀ σ H R, w' σ H R → w σ H R) : L2H.PIH X tg iter w' := ⟨fun pins s σ H R I q => h.run pins s σ H R I (i σ H R q)⟩
theorem i_range1H {tg a : Expr} {ta : TE3} {p pos : Pos} (hm : X.mg "range" = none) (ha : PE X a (lowE X.K ta)) (hg : Gl X "range" := by rfl) (hs : starEach [a] X.env = [(false, eval a X.env)] := by rfl) (hs2 : starEach [a] X.env = (false, eval a X.env) :: starEach [] X.env := by rfl) : L2H.PIH X tg (.Call (.Name "range" p) [a] [] pos) (lowI X.K (ir1 ta)) :=
  (L2H.pi_range1H hg hm (pa_cons ha pa_nil hs2) hs).imp fun σ H R h => by
  obtain ⟨σ3, G, Q3, hs, hh, ht, hq⟩ := h
  refine ⟨σ3, G, _, hs, hh, ht, fun v H1 w G1 k1 hh1 r q1 => ?_⟩
  split at q1
  · cases r
    obtain ⟨hd, q⟩ := q1
    have hd := of_decide_eq_true hd
    exact ⟨_, rfl, by omega, by omega, hq _ _ _ _ k1 hh1 (rg_low _ _) q⟩
  · exact q1.elim
theorem k_allH (hc : L2H.HotC X) : CallR X (.builtin "all") (lowC X.K kAll) := CallR.imp (L2H.cr_allH hc) fun vs H Q h => by
  obtain ⟨ws, G, Q3, r, hh, q, p⟩ := h
  unfold kAll at q
  split at q
  · obtain ⟨ns, hg, q⟩ := q
    obtain ⟨us, eh, rl⟩ := hh _ _ hg
    cases r with
    | cons r1 r2 =>
      cases r1
      cases r2
      rw [RepL.of_bls rl] at eh
      exact ⟨_, ns, rfl, SqL.of eh, p.here hh (.bl _) q⟩
  · exact q.elim
theorem e3lcH {elt tg iter : Expr} {ifs : List Expr} {scope : Scope} {own : List (Str × Nat)} {wi : TI3} {g : TG} {g3 : TG3} {tt : TT3} {te : TE3} {pos : Pos} (hc : L2H.HotC X) (hN : X.N.Nodup) (hi : L2H.PIH X tg iter (lowI X.K wi)) (ok : BlkOk X.N X.env.scope scope own) (hl : GLow X.K (some (own.map (·.2))) g g3)
    (hg : ∀ (s : Shared) (H : Hp) (C : Addr) (cl : List (Str × Addr)) (fp : List Addr), PG (X.blkH s H scope (compEnvC scope cl C X.env) fp) tg g) (ht : ∀ (s : Shared) (H : Hp) (C : Addr) (cl : List (Str × Addr)) (fp : List Addr), PTs (X.blkH s H scope (compEnvC scope cl C X.env) fp) ifs (lowT X.K tt))
    (he : ∀ (s : Shared) (H : Hp) (C : Addr) (cl : List (Str × Addr)) (fp : List Addr), PE (X.blkH s H scope (compEnvC scope cl C X.env) fp) elt (lowE X.K te)) (hs : ∀ x, foldedSetIterable iter X.env x = pure x := by intro _; rfl) :
    PE X (.ListComp elt [⟨tg, iter, ifs, 0⟩] scope pos) (lowE X.K (lc3 wi g3 tt te (own.map (·.2)))) := (L2H.pe_lcH hc hN hi ok hg ht he hs).imp (lc3_low hl)
theorem e3callH {k : Nat} {f : Addr} {fd : FuncData} {ps : List Str} {sp : Sp3} {x : Str} {p pos : Pos} {e : Expr} {es : List Expr} {t : TA3} (F : L2H.FnH X.prog X.w X.K X.mg X.base CX0 k f fd ps (lowSp X.K sp)) (hr : L2H.RoomH k X.A) (hc : L2H.HotC X) (hm : X.mg x = some (.ref f)) (hk : PySem.W.keepIn X.K (.ref f) = true) (hb : Binds X.K fd ps [])
    (ha : PA X (e :: es) (lowA X.K t)) (hg : Gl X x := by rfl) (hdb : (x == ("__debug__" : Str)) = false := by decide) (he : starEach (e :: es) X.env = (false, eval e X.env) :: starEach es X.env := by rfl) (hpl : (backTo pos (starEach es X.env)).any (·.1) = false := by rfl) :
    PE X (.Call (.Name x p) (e :: es) [] pos) (lowE X.K (call3 sp t)) := (L2H.pe_callH (E := fun _ => E0) F hr hc hg hm hk hb (fun σ _ _ _ _ _ _ h => h.elim) ha hdb he hpl).imp fun σ H Q h => by
  obtain ⟨σ3, G, Q3, hs, hh, ht, hq⟩ := h
  refine ⟨σ3, G, _, hs, hh, ht, fun vs H1 ws G1 k1 hh1 r q1 => ?_⟩
  exact ⟨ws, G1, Q3, no3, r, hh1, q1, hq.from k1, fun c d H' G' _ _ z => z.elim⟩
end
section
variable {P : Program} {w : World} {K : PySem.W.Frag} {mg : Str → Option Value} {base : Heap}
/-- a def that may raise -/
theorem Fun_okX3 {x qual : Str} {st : Stmt} {f : Addr} {fd : FuncData} {N ps : List Str} {k : Nat} {sp : Sp3} (F : Fun K x qual st f fd) (S : FnScope N ps (defScope st)) (len : ∀ ws G Q E, sp ws G Q E → ws.length = ps.length)
    (hbody : ∀ (cdv : Value) (A : Around) (outer : List Env) (s : Shared) (H : Hp) (E : XK) (ws : List U) (G : G3) (Q : K3) (E3 : X3), Room k (A.deeper (PyProof.Rows.envOfC qual (defScope st) s.heap.objs.size f cdv)) → sp ws G Q E3 →
      ∃ t, PSs (cxOf (L2N.CX P w) P w K mg base N qual (defScope st) f cdv A outer s H E) (defBody st) (lowS K (fun cls d _ H => E cls d H) t) ∧ t { nx := fun _ G' => Wk Q .non G', rt := Wk Q, ex := fun c d _ G' => Wk1 (E3 c d) G' } (start3 N ws) G) : FnOk P w K mg base (L2N.CX P w) (k + 1) f fd ps (lowSp K sp) := by
  obtain ⟨oc, od, kV, doc, pm, an, cdv, ct, osl, rfl, lk, hcd⟩ := F.ex
  refine fn_of lk hcd S (fun vs H Q E h => ?_) fun A outer s H vs Q E hr h => ?_
  · obtain ⟨ws, G, Q3, E3, r, _, h, _⟩ := h
    rw [← r.length]
    exact len _ _ _ _ h
  · obtain ⟨ws, G, Q3, E3, r, hh, h, hq, hE⟩ := h
    obtain ⟨t, ht, q⟩ := hbody cdv A outer s H E ws G Q3 E3 hr h
    refine ⟨_, ht, start3 N ws, G, _, rep_start r, hh, q, ⟨fun σ' H' σ3' G' k1 hs' hh' ⟨G0, z, q'⟩ => hq _ _ _ _ k1 (hh'.less z) .non q', fun v H' w G' k hh' rv ⟨G0, z, q'⟩ => hq _ _ _ _ k (hh'.less z) rv q', fun _ _ _ _ _ _ _ z => z.elim, fun _ _ _ _ _ _ _ z => z.elim, fun c d σ' H' σ3' G' k1 _ hh' ⟨G0, z, q'⟩ => hE _ _ _ _ k1 (hh'.less z) q'⟩⟩
/-- a def that is called where an exception is handled -/
theorem Fun_okH3 {x qual : Str} {st : Stmt} {f : Addr} {fd : FuncData} {N ps : List Str} {k : Nat} {sp : Sp3} (F : Fun K x qual st f fd) (S : FnScope N ps (defScope st)) (len : ∀ ws G Q E, sp ws G Q E → ws.length = ps.length)
    (hbody : ∀ (cdv : Value) (A : Around) (outer : List Env) (s : Shared) (H : Hp) (E : XK) (p : Addr × Obj) (ws : List U) (G : G3) (Q : K3) (E3 : X3), L2H.Hot1 A p → L2H.RoomH k (A.deeper (PyProof.Rows.envOfC qual (defScope st) s.heap.objs.size f cdv)) → sp ws G Q E3 →
      ∃ t, PSs (L2H.cxH CX0 P w K mg base N qual (defScope st) f cdv A outer s H E p) (defBody st) (lowS K W0 t) ∧ t { nx := fun _ G' => Wk Q .non G', rt := Wk Q } (start3 N ws) G) : L2H.FnH P w K mg base CX0 (k + 1) f fd ps (lowSp K sp) := by
  obtain ⟨oc, od, kV, doc, pm, an, cdv, ct, osl, rfl, lk, hcd⟩ := F.ex
  refine L2H.fn_ofH lk hcd S (fun vs H Q E h => ?_) fun A outer s H vs Q E p hot hr h => ?_
  · obtain ⟨ws, G, Q3, E3, r, _, h, _⟩ := h
    rw [← r.length]
    exact len _ _ _ _ h
  · obtain ⟨ws, G, Q3, E3, r, hh, h, hq, _⟩ := h
    obtain ⟨t, ht, q⟩ := hbody cdv A outer s H E p ws G Q3 E3 hot hr h
    refine ⟨_, ht, start3 N ws, G, _, rep_start r, hh, q, ⟨fun σ' H' σ3' G' k1 hs' hh' ⟨G0, z, q'⟩ => hq _ _ _ _ k1 (hh'.less z) .non q', fun v H' w G' k hh' rv ⟨G0, z, q'⟩ => hq _ _ _ _ k (hh'.less z) rv q', fun _ _ _ _ _ _ _ z => z.elim, fun _ _ _ _ _ _ _ z => z.elim, fun _ _ _ _ _ _ _ _ _ z => z.elim⟩⟩
end
end L3
end
section
set_option Elab.async false
set_option linter.all false
set_option maxRecDepth 100000
set_option maxHeartbeats 4000000
set_option pp.maxSteps 300
set_option pp.deepTerms false
/-! the same for an __init__ that gives super().__init__ an f-string of its int -/
namespace PySem
namespace LowNS
open PySem.W PySem.Calls PyProof.Rows PySem.HandSPX
/-- BadMoves.__init__ in the text -/
abbrev fbP : Pl := ⟨⟨6, 17, 6, 21⟩, ⟨6, 23, 6, 25⟩, ⟨7, 8, 7, 13⟩, ⟨7, 8, 7, 15⟩, ⟨7, 8, 7, 24⟩, ⟨7, 25, 7, 60⟩, ⟨7, 8, 7, 61⟩, ⟨7, 8, 7, 61⟩, ⟨8, 8, 8, 12⟩, ⟨8, 8, 8, 15⟩, ⟨8, 18, 8, 20⟩, ⟨8, 8, 8, 20⟩⟩
abbrev fbE : Expr := .JoinedStr [.Constant (.str "the target of move ") 0 ⟨7, 27, 7, 46⟩, .FormattedValue (.Name "at" ⟨7, 47, 7, 49⟩) (-1) none ⟨7, 46, 7, 50⟩, .Constant (.str " is wrong") 0 ⟨7, 50, 7, 59⟩] ⟨7, 25, 7, 60⟩
/-- the text that it gives on -/
structure Fits (i : Int) : Prop where
  lg : i.natAbs.log2 < 1920
  f1 : (Str.empty ++ ("the target of move " : Str)).length ≤ sizeLine
  f2 : (Str.empty ++ ("the target of move " : Str) ++ (Str.ofString (toString i))).length ≤ sizeLine
  f3 : (Str.empty ++ ("the target of move " : Str) ++ (Str.ofString (toString i)) ++ (" is wrong" : Str)).length ≤ sizeLine
theorem fits_nat (n : Nat) (h : n < 100) : Fits (n : Int) := by
  have e := int_text_length_le10 (a := (n : Int)) (k := 2) (by decide) (by show n < 10 ^ 2; omega)
  have z1 : (Str.empty ++ ("the target of move " : Str)).length = 19 := by decide +kernel
  have z2 : (" is wrong" : Str).length = 9 := by decide +kernel
  have l2 : (Str.empty ++ ("the target of move " : Str) ++ (Str.ofString (toString (n : Int)))).length ≤ 100 := by
    rw [strLen_append, z1, ofString_length]; omega
  have l3 : (Str.empty ++ ("the target of move " : Str) ++ (Str.ofString (toString (n : Int))) ++ (" is wrong" : Str)).length ≤ 200 := by
    rw [strLen_append, z2]; omega
  refine ⟨?_, ?_, ?_, ?_⟩
  · have : (n : Int).natAbs = n := rfl
    rw [this]
    exact Nat.lt_of_le_of_lt (Nat.log2_le_self n) (by omega)
  · rw [z1, sizeLine_eq]; decide
  · rw [sizeLine_eq]; exact Nat.le_trans l2 (by decide)
  · rw [sizeLine_eq]; exact Nat.le_trans l3 (by decide)
section
variable {prog : Program} {w : World} {A : Around} {R : Result → Shared → Prop} {s : Shared} {K : Frag} {mg : Str → Option Value} {C fI : Addr} {qual : Str}
theorem fb_init (T : Txt fbP prog K mg qual "at" fbE C fI) {x t0 : Addr} {i : Int} {ti : Tok} (fit : Fits i) (X : K.In s.heap) (hlim : s.heap.NoLimit) (hgl : s.heap.Ns mainGlobals mg) (hbl : ∃ mb, s.heap.Ns builtinsNs mb ∧ ∀ x : Str, x ≠ "__name__" → mb x = bootBuiltins x)
    (hx : s.heap.get? x = some (excO C t0)) (hnx : K.lookup x = none) (hroom : A.depth < recursionLimit)
    (hq : ∀ h' tk dx t1, InitEnd s.heap h' "at" x C dx t1 (.int i ti) → R (.ok (.ret .none)) { s with heap := h', toks := tk }) :
    codeAny (model prog w) A (.call (.ref fI) ⟨[.ref x, .int i ti], []⟩) R s := by
  obtain ⟨oc, od, kV, doc, pm, an, cda, ct, osl, cc, ccl, cdd, vs, ccs, file, tf, cl, cld, csl, ho, hcd, hcode, hvs, hfile, hcell⟩ := T.fn
  obtain ⟨nm, q, N, bs, bm, sn, sub, ab, col, dd, k0, k1, k2, k3, k5, hC, hbm⟩ := T.cls
  have hcl : clsIn K C = some { name := nm, bases := bs, mro := .ref C :: bm, ns := N, qualname := q, hasDict := true, slotNames := sn, subclasses := sub, abstract := ab, collection := col, hasDel := false } := by unfold clsIn; rw [hC] <;> rfl
  refine ks_codeAny_call_defAt (fd := ksFn "__init__" qual (iA "at" fbP) (iB "at" fbE fbP) (iS "at") .none kV doc pm an (.ref cda) ct cc) (binds := [("self", .ref x), ("at", .int i ti)]) hroom (X _ _ ho) rfl hlim (codeRec_of X hcd) rfl (BindsTo.of_eq (by first | rfl | with_unfolding_all rfl)) (show ∀ x ∈ (iS "at").names, x.2 ≠ .cell by decide) (fun y hy => by
    rcases List.mem_cons.mp hy with rfl | hy
    · rfl
    · rw [List.mem_singleton.mp hy]; rfl) (fun h₁ hns k => ?_)
  have X₁ : K.In h₁ := X.keeps k
  have hx₁ := k _ _ hx
  have hxL : x ≠ s.heap.objs.size := Nat.ne_of_lt (Heap.lt_size hx)
  have hxC : x ≠ C := fun e => by
    have := X _ _ hC
    rw [← e, hx] at this
    cases this
  obtain ⟨mb, hb1, hb2⟩ := hbl
  obtain ⟨hp, g, d, tk, os⟩ := s
  refine ks_wpAt_execs_cons (ks_wpAt_Expr_any (ks_wpAt_MethodCall ?_))
  refine ks_wpAt_super_base (f := fI) (cc := cda) rfl rfl (by decide) rfl (X₁ _ _ ho) rfl rfl rfl (X₁ _ _ hcode) rfl hvs hfile T.htop ?_
  refine ks_loadName_global rfl rfl (Calls.loadGlobal_builtin (hgl.keeps k) T.gS (hb1.keeps k) ((hb2 _ (by decide)).trans (by decide +kernel)) ⟨rfl, ?_⟩)
  refine wpAny_loadName_free rfl rfl rfl ⟨_, X₁ _ _ hcell, rfl⟩ ?_
  refine wpAny_loadName_local rfl rfl hns (by first | rfl | with_unfolding_all rfl | kernel_rfl) ?_
  obtain ⟨oD, hD1, hD2⟩ : ∃ oD, h₁.get? C = some oD ∧ ∃ cd, oD.data = .cls cd := ⟨_, X₁ _ _ hC, _, rfl⟩
  obtain ⟨cdD, hD2⟩ := hD2
  refine ks_wpAny_isType_cls hD1 hD2 ⟨rfl, ?_⟩
  refine ks_wpAny_call_super hD1 hD2 hx₁ rfl (fun c e => by cases e) (looks_mroIn X₁ T.sub) (fun h₂ hso k₂ => ?_)
  have X₂ : K.In h₂ := X₁.keeps k₂
  have hx₂ := k₂ _ _ hx₁
  have hz₂ : h₁.objs.size < h₂.objs.size := Heap.lt_size hso
  have I₂ : InstAt h₂ x (excO C t0) C none := ⟨hx₂, rfl, rfl, trivial⟩
  have hsup := T.sup
  unfold ks_superIn at hsup
  rw [hcl] at hsup
  have hI : Looks (model prog w) h₂ (isInstance (.ref x) (.type "ValueError")) true := I₂.type.andThen (looks_subIn X₂ T.veC)
  refine kxs_getMethod kxs_ValueError hso (looks_opaque X₂ T.opq) ((looks_clsIn X₂ hcl).andThen .now) rfl X₂ hsup hI hxC (by decide) ?_
  have hu : (h₂.push (kxs_mw "ValueError.__init__" x)).get? h₂.objs.size = some (kxs_mw "ValueError.__init__" x) := Heap.get?_push_at rfl rfl
  have k₃ : ∀ b o, h₂.get? b = some o → (h₂.push (kxs_mw "ValueError.__init__" x)).get? b = some o := fun b o e => Heap.get?_push_of_some _ e
  refine kxs_callWith (i := "ValueError.__init__") (x := x) (by rfl) (evalArgs_plain ?_)
  have k23 : ∀ b o, h₁.get? b = some o → (h₂.push (kxs_mw "ValueError.__init__" x)).get? b = some o := fun b o e => k₃ _ _ (k₂ _ _ e)
  have hns₃ := hns.at (h' := h₂.push (kxs_mw "ValueError.__init__" x)) fun o e => k23 _ o e
  refine Calls.spliced_cons (wpAny_JoinedStr (v₁ := .Constant (.str "the target of move ") 0 ⟨7, 27, 7, 46⟩) (v₂ := .FormattedValue (.Name "at" ⟨7, 47, 7, 49⟩) (-1) none ⟨7, 46, 7, 50⟩) (rest := [.Constant (.str " is wrong") 0 ⟨7, 50, 7, 59⟩]) (pos := ⟨7, 25, 7, 60⟩) ?_)
  refine wpAny_Constant_str (k := 0) (pos := ⟨7, 27, 7, 46⟩) ⟨_, _, rfl, fit.f1, ?_⟩
  refine wpAny_FormattedValue_plain (ldC (v := .int i ti) hns₃ (by first | rfl | with_unfolding_all rfl | kernel_rfl) (wpAny_formatField_int fit.lg ⟨_, _, rfl, fit.f2, ?_⟩))
  refine wpAny_Constant_str (k := 0) (pos := ⟨7, 50, 7, 59⟩) ⟨_, _, rfl, fit.f3, ?_⟩
  refine ⟨fit.f3, Calls.spliced_nil ⟨hu, ?_⟩⟩
  refine call_mw (k₃ _ _ (k₂ _ _ (X₁ _ _ hC))) (k₃ _ _ hx₂) hu (by rw [sizeLine_eq]; exact (by decide : 1 ≤ 16777216)) fun h₄ t1 k₄ hx₄ hz₄ => ?_
  have kA : ∀ b o, b ≠ x → h₁.get? b = some o → h₄.get? b = some o := fun b o hb e => k₄ b o hb (k₃ _ _ (k₂ _ _ e))
  have X₄ : K.In h₄ := fun a o e => kA a o (fun z => by rw [z, hnx] at e; cases e) (X₁ a o e)
  have hns₄ := hns.at (h' := h₄) fun o e => kA _ o hxL.symm e
  have z1 : hp.objs.size < h₁.objs.size := hns.lt
  have z3 : h₂.objs.size ≤ (h₂.push (kxs_mw "ValueError.__init__" x)).objs.size := by rw [Heap.size_push]; exact Nat.le_succ _
  show wpAt _ _ _ (execs _ _) _ _ _
  refine wpAt_of_wpAny (wpAny_execs_cons (plainObj_wpAny_Assign_Attribute ?_))
  refine ldC (v := .int i ti) hns₄ (by first | rfl | with_unfolding_all rfl | kernel_rfl) (ldC (v := .ref x) hns₄ (by first | rfl | with_unfolding_all rfl | kernel_rfl) ?_)
  refine set_plain X₄ (ox := excO C t1) (od := none) ⟨hx₄, rfl, rfl, trivial⟩ T.sa ?_
  refine exc_osa X₄ hx₄ hcl (show refsVE (.ref C :: bm) = true from hbm) rfl T.noN (fun h₅ tk₅ dx k₅ dn dne hx₅ hn₅ => ?_)
  show wpAny _ _ (execs _ _) _ _ _
  exact wpAny_execs_nil (hq h₅ tk₅ dx t1 ⟨fun b o hb e => k₅ b o hb (kA b o hb (k b o e)), hx₅, Nat.le_trans (Nat.le_of_lt z1) (Nat.le_trans (Nat.le_of_lt hz₂) (Nat.le_trans z3 (Nat.le_trans hz₄ dn))), dne, hn₅⟩)
theorem fb_madeN (T : Txt fbP prog K mg qual "at" fbE C fI) {i : Int} {ti : Tok} (fit : Fits i) (X : K.In s.heap) (hlim : s.heap.NoLimit) (hgl : s.heap.Ns mainGlobals mg) (hbl : ∃ mb, s.heap.Ns builtinsNs mb ∧ ∀ x : Str, x ≠ "__name__" → mb x = bootBuiltins x) (hroom : A.depth + 1 < recursionLimit)
    (hq : ∀ h' tk e d, OwnMade s.heap h' "at" e C d (.int i ti) → (∀ oe vs, h'.get? e = some oe → oe.data = .fields vs → vs[2]? = some .none) → R (.ok (.ret (.ref e))) { s with heap := h', toks := tk }) :
    codeAny (model prog w) A (.call (.ref C) ⟨[.int i ti], []⟩) R s := by
  obtain ⟨nm, q, N, bs, bm, sn, sub, ab, col, dd, k0, k1, k2, k3, k5, hC, hbm⟩ := T.cls
  obtain ⟨hp, g, dr, tk, os⟩ := s
  have k : ∀ b o, hp.get? b = some o → ((hp.push (kdv_tup [.int i ti])).push (excO C hp.objs.size)).get? b = some o := fun b o e => Heap.get?_push_of_some _ (Heap.get?_push_of_some _ e)
  have hget : ((hp.push (kdv_tup [.int i ti])).push (excO C hp.objs.size)).get? (hp.objs.size + 1) = some (excO C hp.objs.size) := by heap_get
  have hnx : K.lookup (hp.objs.size + 1) = none := by
    cases e : K.lookup (hp.objs.size + 1) with
    | none => rfl
    | some o =>
      have z : hp.get? (hp.objs.size + 1) = some o := X _ _ e
      exact absurd (Nat.lt_of_succ_lt (Heap.lt_size z)) (Nat.lt_irrefl _)
  obtain ⟨mb, hb1, hb2⟩ := hbl
  refine call_own F.excBase_ValueError (fun X => refsVE_contains X bm hbm) (X _ _ hC) (looks_findIn X T.iC) (fun self => bind_fn X self T.tC) (one_size (.int i ti)) ?_
  refine fb_init (fit := fit) (s := ⟨(hp.push (kdv_tup [.int i ti])).push (excO C hp.objs.size), g, dr, tk, os⟩) T (X.keeps k) (hlim.keeps k) (hgl.keeps k) ⟨mb, hb1.keeps k, hb2⟩ hget hnx ?_ fun h' tk' dx t1 ⟨k', hx, dn, dne, hns⟩ => ?_
  · show A.depth + 1 < recursionLimit
    exact hroom
  · have old : ∀ b o, hp.get? b = some o → h'.get? b = some o := fun b o e => k' b o (Nat.ne_of_lt (Nat.lt_succ_of_lt (Heap.lt_size e))) (k b o e)
    have z : hp.objs.size + 1 + 1 ≤ dx := by
      first
        | (simpa only [Heap.size_push] using dn)
        | exact dn
        | (have q := dn; rw [Heap.size_push, Heap.size_push] at q; exact q)
    exact ⟨rfl, hq h' tk' (hp.objs.size + 1) dx ⟨old, Nat.le_succ _, ⟨_, _, hx, rfl, rfl, rfl, rfl⟩, Nat.le_trans (Nat.le_trans (Nat.le_succ _) (Nat.le_succ _)) z, dne, hns⟩ fun oe vs he ev => by
      have q := he.symm.trans hx
      cases q
      cases ev
      rfl⟩
end
end LowNS
end PySem
end
section
set_option Elab.async false
set_option linter.all false
set_option maxRecDepth 100000
set_option maxHeartbeats 4000000
/-! raise BadMoves(i); f(..) that may raise, as a statement -/
namespace L2
open PySem PySem.Spec PyProof.Rows
def tMkI (C : Addr) (f : Str) (ta : TA) : St → Hp → XK → Prop := fun σ H Q => ta σ H fun vs H1 => ∃ i : Int, PySem.LowNS.Fits i ∧ vs = [.int i] ∧ ∀ d, H1 d = none → Q (.ref C) (some d) (upd H1 d (.xd [(f, .int i)]))
end L2
namespace L2N
open PySem PySem.Spec PyProof.Rows L2
section
variable {X : Cx} {C fI : Addr} {qual : Str}
theorem pmk_fb {a : Expr} {ta : TA} {p pos : Pos} {k : Nat} (T : PySem.LowNS.Txt PySem.LowNS.fbP X.prog X.K X.mg qual "at" PySem.LowNS.fbE C fI) (gC : X.mg "BadMoves" = some (.ref C)) (hr : Room k X.A) (ha : PA X [a] ta) (hg : Gl X "BadMoves" := by rfl)
    (he : starEach (a :: []) X.env = (false, eval a X.env) :: starEach [] X.env := by rfl) (hpl : (backTo pos (starEach [] X.env)).any (·.1) = false := by rfl) :
    L2N.PMk X (.Call (.Name "BadMoves" p) [a] [] pos) (tMkI C "at" ta) := by
  intro pins s σ H Q I h
  refine wpAny_Call_Name_kw (ld_glob I hg gC ?_)
  refine PySem.W.callWith_K (h₀ := X.base) I.ok.mod.kin T.kC (thn (ha.run pos pins s σ H _ I h) fun us s1 hh => ?_) he hpl
  obtain ⟨vs, H1, I1, r1, i, fit, ev, q1⟩ := hh
  subst ev
  refine ⟨I1.kIn, ?_⟩
  cases r1 with
  | cons rv rn =>
    rename_i v' us'
    cases rn
    obtain ⟨ti, rfl⟩ := id rv
    show wpAny _ _ (call (.ref C) [.int i ti]) _ _ _
    have hlim := I1.nolimit
    have hgl := I1.mod.glob.keeps I1.bk
    obtain ⟨mb, hb1, hb2⟩ := I1.mod.blt
    have hbl : ∃ mb, s1.heap.Ns builtinsNs mb ∧ ∀ x : Str, x ≠ "__name__" → mb x = bootBuiltins x := ⟨mb, hb1.keeps I1.bk, hb2⟩
    obtain ⟨hp, g, dr, tk, os⟩ := s1
    refine wpAny_call (PySem.LowNS.fb_madeN T fit I1.kIn hlim hgl hbl (by have := hr.dp; omega) fun h' tk' e d M ctx => ?_)
    show L2N.MkP X pins σ Q (.ref e) ⟨h', g, dr, tk', os⟩
    obtain ⟨oe, fv, hoe, hc, hd, hdat, h1⟩ := M.obj
    have hns := M.ns
    obtain ⟨G', g1, g2⟩ := restrict h' fun b => decide (b ≠ e)
    have gk : ∀ b, b ≠ e → G'.get? b = h'.get? b := fun b hb => g1 b (decide_eq_true hb)
    have ge : G'.get? e = none := g2 e (by simp)
    have old : ∀ b o, hp.get? b = some o → G'.get? b = some o := fun b o q => (gk b (Nat.ne_of_lt (Nat.lt_of_lt_of_le (Heap.lt_size q) M.new))).trans (M.keep b o q)
    have ob : ObjOk X.prog X.w (upd H1 d (.xd [(("at" : Str), V.int i)])) G' d (.xd [(("at" : Str), V.int i)]) :=
      ⟨_, hns.at (fun o q => (gk d M.dne).trans q), fun f => relO_one rv f⟩
    have J : Inv X pins σ (upd H1 d (.xd [(("at" : Str), V.int i)])) ⟨G', g, dr, tk', os⟩ := I1.laid (t' := tk') old M.dbig ob
    refine ⟨e, oe, fv, ⟨G', g, dr, tk', os⟩, _, .ref C, some d, rfl, J, fun b o q => ?_, ge, hoe, ⟨hc, hd, fun vs ev => ctx oe vs hoe ev⟩, hdat, h1, ?_, rfl, I1.bare, raises_own T.exC T.tyC, q1 d (I1.hok.fresh M.dbig)⟩
    · by_cases hb : b = e
      · have q' : G'.get? b = some o := q
        rw [hb, ge] at q'; cases q'
      · exact (gk b hb).symm.trans q
    · rw [upd_ne (Ne.symm M.dne)]
      exact I1.hok.fresh M.new
end
end L2N
namespace L3
open PySem L2
section
variable {X : Cx} {W : WX}
def raiseI3 (C : Addr) (f : Str) (ta : TA3) : TS3 := fun D σ G => ta σ G fun ws G1 => ∃ i : Int, PySem.LowNS.Fits i ∧ ws = [.int i] ∧ ∀ d, G1 d = none → D.ex (.ref C) (some d) σ (gup G1 d (.xd [(f, .int i)]))
theorem s_raiseFB {C fI : Addr} {qual : Str} {a : Expr} {ta : TA3} {p pos pos2 : Pos} {k : Nat} (hc : X.calm = true) (T : PySem.LowNS.Txt PySem.LowNS.fbP X.prog X.K X.mg qual "at" PySem.LowNS.fbE C fI) (gC : X.mg "BadMoves" = some (.ref C)) (hr : Room k X.A) (tk : L2N.Takes X W) (ha : PA X [a] (lowA X.K ta)) (hg : Gl X "BadMoves" := by rfl)
    (he : starEach (a :: []) X.env = (false, eval a X.env) :: starEach [] X.env := by rfl) (hpl : (backTo pos (starEach [] X.env)).any (·.1) = false := by rfl) :
    PS X (.Raise (some (.Call (.Name "BadMoves" p) [a] [] pos)) none pos2) (lowS X.K W (raiseI3 C "at" ta)) := (L2N.ps_raise hc tk (L2N.pmk_fb T gC hr ha hg he hpl)).imp fun D σ H h => by
  obtain ⟨σ3, G, D3, hs, hh, ht, hle⟩ := h
  refine ⟨σ3, G, _, hs, hh, ht, fun vs H1 ws G1 k1 hh1 r q1 => ?_⟩
  obtain ⟨i, fit, rfl, q1⟩ := q1
  cases r with
  | cons r1 r2 =>
    cases r2
    cases r1
    refine ⟨i, fit, rfl, fun d hd => ?_⟩
    have kd : Keep H1 (upd H1 d (.xd [(("at" : Str), V.int i)])) := Keep.new hd
    exact hle.ex _ _ _ _ _ _ (k1.trans kd) (hs.keep (k1.trans kd)) (hh1.new hd (g := .xd [("at", .int i)]) ⟨_, upd_same, .cons ⟨rfl, .int i⟩ .nil⟩) (q1 d (hh1.free hd))
/-- f(..) as a statement, f may raise -/
def exprX3 (sp : Sp3) (t : TA3) : TS3 := fun D σ G => t σ G fun ws G1 => sp ws G1 (fun _ G2 => D.nx σ G2) fun c d G2 => D.ex c d σ G2
theorem s_exprX {k : Nat} {f : Addr} {fd : FuncData} {ps : List Str} {sp : Sp3} {x : Str} {p pos spos : Pos} {e : Expr} {es : List Expr} {t : TA3} (F : FnOk X.prog X.w X.K X.mg X.base (L2N.CX X.prog X.w) k f fd ps (lowSp X.K sp)) (hr : Room k X.A) (hm : X.mg x = some (.ref f)) (hk : PySem.W.keepIn X.K (.ref f) = true) (hb : Binds X.K fd ps []) (tk : L2N.Takes X W)
    (ha : PA X (e :: es) (lowA X.K t)) (hg : Gl X x := by rfl) (hdb : (x == ("__debug__" : Str)) = false := by decide) (he : starEach (e :: es) X.env = (false, eval e X.env) :: starEach es X.env := by rfl) (hpl : (backTo pos (starEach es X.env)).any (·.1) = false := by rfl)
    (hs : swapsWith (.Call (.Name x p) (e :: es) [] pos) none spos.line X.env = pure false := by rfl) :
    PS X (.Expr (.Call (.Name x p) (e :: es) [] pos) spos) (lowS X.K W (exprX3 sp t)) :=
  (ps_expr (pe_callS F hr hg hm hk hb (fun σ => L2N.passAt tk σ) ha hdb he hpl) hs).imp fun D σ H h => by
  obtain ⟨σ3, G, D3, hs, hh, ht, hle⟩ := h
  refine ⟨σ3, G, _, hs, hh, ht, fun vs H1 ws G1 k1 hh1 r q1 => ?_⟩
  exact ⟨ws, G1, _, _, r, hh1, q1, fun v H' w G' k hh' rv q => hle.nx _ _ _ _ (k1.trans k) (hs.keep (k1.trans k)) hh' q, fun c d H' G' k hh' q => hle.ex _ _ _ _ _ _ (k1.trans k) (hs.keep (k1.trans k)) hh' q⟩
/-- statements that are not reached -/
def no3s : TS3 := fun _ _ _ => False
theorem ss_never {b : List Stmt} : PSs X b (lowS X.K W no3s) := ⟨fun pins s σ H D I h => by
  obtain ⟨_, _, _, _, _, z, _⟩ := h
  exact z.elim⟩
end
end L3
end
section
set_option Elab.async false
set_option linter.all false
set_option maxRecDepth 100000
set_option maxHeartbeats 2000000
/-! check_targets at a list with a bad pair -/
namespace K39
open PySem L2 L3
/-- the class of the bad pair as the text has it -/
structure BmT (P : Program) (K : PySem.W.Frag) (mg : Str → Option Value) (C fI : Addr) : Prop where
  bad : PySem.LowNS.Txt PySem.LowNS.fbP P K mg "BadMoves.__init__" "at" PySem.LowNS.fbE C fI
  gB : mg "BadMoves" = some (.ref C)
/-- is pair k bad? -/
def badAt (W : List Mv) (k : Nat) : Bool := match W[k]? with
  | some m => decide (m.2.1 = .out) || decide (m.2 ∈ goals (W.take k))
  | none => false
structure BadIx (W : List Mv) (k : Nat) : Prop where
  lt : k < W.length
  bad : badAt W k = true
  ok : ∀ i, i < k → badAt W i = false
theorem badAt_of {W : List Mv} {i : Nat} {m : Mv} (h : W[i]? = some m) : badAt W i = (decide (m.2.1 = .out) || decide (m.2 ∈ goals (W.take i))) := by unfold badAt; rw [h]
section
variable {P : Program} {w : World} {K : PySem.W.Frag} {mg : Str → Option Value} {base : Heap}
def spCTb (C : Addr) : Sp3 := fun ws G _ E => ∃ (a : Addr) (W : List Mv) (k : Nat), ws = [.ref a] ∧ G a = some (.lst (W.map uM)) ∧ W.length ≤ 90 ∧ BadIx W k ∧ ∀ d, G d = none → E (.ref C) (some d) (gup G d (.xd [("at", .int (k : Nat))]))
theorem ok_ctB {C fI : Addr} (NB : BmT P K mg C fI) {f : Addr} {fd : FuncData} (F : Fun K "check_targets" "check_targets" s_check_targets f fd) (T : Tg mg) : FnOk P w K mg base (L2N.CX P w) 1 f fd ["moves"] (lowSp K (spCTb C)) := by
  refine Fun_okX3 F sc_check_targets (fun ws G Q E h => by obtain ⟨_, _, _, rfl, _⟩ := h; rfl) (fun cdv A outer s H E ws G Q E3 hr h => ?_)
  have hu := hu_of hr
  have hu64 := hr.units
  obtain ⟨a, W, kb, rfl, ha, hlen, B, hE⟩ := h
  refine ⟨_, (ss_cons (s_set (i := 1) sc_check_targets.nd e3dnewT)
      (ss_one (s_for (passes_of rfl) rfl (i_enum T.enumerate (e3v 0)) (pg_tup (n := 2) rfl (pgs_cons (pg_name (i := 2) sc_check_targets.nd rfl (by first | exact Or.inl rfl | exact Or.inr rfl)) (pgs_cons (pg_tup (n := 2) rfl (pgs_cons (pg_name (i := 3) sc_check_targets.nd rfl (by first | exact Or.inl rfl | exact Or.inr rfl)) (pgs_cons (pg_name (i := 4) sc_check_targets.nd rfl (by first | exact Or.inl rfl | exact Or.inr rfl)) pgs_nil))) pgs_nil))) (gl_tup (gl_cons gl_name (gl_cons (gl_tup (gl_cons gl_name (gl_cons gl_name gl_nil))) gl_nil)))
      (ss_cons (s_if (PW.pt (w3or (t3cmp (o_eq hu64) (e3ix (e3v 4) e3int) e3str) (w3or1 (t3din hu (e3v 4) (e3v 1)))))
        (ss_one (s_raiseFB rfl NB.bad NB.gB hr (L2N.takes_of rfl rfl rfl rfl) (a3cons (e3v 2) a3nil)))
        ss_nil)
        (ss_one (s_dput hu (e3v 1) (e3v 4) e3bl)))))), ?_⟩
  intro d hd
  have nad : a ≠ d := gne_none ha hd
  have hok : ∀ o : GO, gup G d o a = some (.lst (W.map uM)) := fun o => by rw [gup_ne nad]; exact ha
  try dsimp only [seq3, asg3, n3, v3, drop3, ret3, next3, List.set_cons_zero, List.set_cons_succ, List.getElem?_cons_zero, List.getElem?_cons_succ, start3, List.map_cons, List.map_nil, List.length_cons, List.length_nil, List.replicate, List.cons_append, List.nil_append, Nat.reduceSub, Nat.reduceAdd]
  refine for_of ?_
  refine ⟨_, hok _, ?_⟩
  refine forK_of W.length (by rw [enU_len, List.length_map]) (fun i σ G' => ∃ kvs z1 z2 z3, σ = [some (.ref a), some (.ref d), z1, z2, z3] ∧ G' = gup G d (.dT (dL U.bl kvs)) ∧ SetD kvs (goals (W.take i)) ∧ i ≤ kb) ⟨[], _, _, _, rfl, rfl, SetD.nil, Nat.zero_le _⟩ (fun i σ' G' _ h => by obtain ⟨kvs, _, _, _, _, rfl, _⟩ := h; exact hok (.dT (dL U.bl kvs))) ?_ ?_
  · rintro i x σ' G' hi hx ⟨kvs, z1, z2, z3, rfl, rfl, S, hk⟩
    obtain ⟨m, hm, rfl⟩ := enM hx hi
    have raise : ∀ d', gup G d (.dT (dL U.bl kvs)) d' = none → i = kb → Wk1 (E3 (.ref C) (some d')) (gup (gup G d (.dT (dL U.bl kvs))) d' (.xd [("at", .int (i : Nat))])) := by
      rintro d' hd' rfl
      have nd : d' ≠ d := fun e => by rw [e, gup_same] at hd'; cases hd'
      have hG : G d' = none := by rw [gup_ne nd] at hd'; exact hd'
      refine ⟨_, ?_, hE d' hG⟩
      intro b o e
      by_cases hb : b = d'
      · subst hb
        rw [gup_same] at e ⊢
        exact e
      · rw [gup_ne hb] at e
        rw [gup_ne hb, gup_ne (gne_none e hd)]
        exact e
    refine ⟨rfl, rfl, .str m.2.1.str, rfl, dat_kd _, dat_kd .out, ?_⟩
    by_cases ho : m.2.1 = .out
    · have hb : i = kb := by
        rcases Nat.lt_or_eq_of_le hk with h | h
        · have := B.ok i h
          rw [badAt_of hm, decide_eq_true ho] at this
          cases this
        · exact h
      refine ifT ((eq3_kd _ .out).trans (decide_eq_true ho)) ?_
      exact ⟨_, PySem.LowNS.fits_nat i (by omega), rfl, fun d' hd' => raise d' hd' hb⟩
    · refine ifF ((eq3_kd _ .out).trans (decide_eq_false ho)) ⟨_, dlook_dL _ gup_same m.2, ?_⟩
      by_cases hn : m.2 ∈ goals (W.take i)
      · have hb : i = kb := by
          rcases Nat.lt_or_eq_of_le hk with h | h
          · have := B.ok i h
            rw [badAt_of hm, decide_eq_true hn, Bool.or_true] at this
            cases this
          · exact h
        refine ifT (by rw [S.isSome]; exact decide_eq_true hn) ?_
        exact ⟨_, PySem.LowNS.fits_nat i (by omega), rfl, fun d' hd' => raise d' hd' hb⟩
      · refine ifF (by rw [S.isSome]; exact decide_eq_false hn) ?_
        have hlt : i < kb := by
          rcases Nat.lt_or_eq_of_le hk with h | h
          · exact h
          · have := B.bad
            rw [← h, badAt_of hm, decide_eq_false ho, decide_eq_false hn] at this
            cases this
        refine ⟨_, _, gup_same, tkey_uL m.2, decide_eq_true (by rw [dL_len]; have h9 := S.len; have h8 : (goals (W.take i)).length ≤ i := (by unfold goals; rw [List.length_map]; exact List.length_take_le i W); omega), ?_⟩
        refine Wk2.of ⟨pt kvs m.2 true, _, _, _, rfl, by rw [gup_gup, ← put_dL], ?_, hlt⟩
        rw [take_s hm]
        unfold goals
        rw [List.map_append]
        exact S.add m.2
  · rintro σ' G' ⟨kvs, z1, z2, z3, rfl, rfl, S, hk⟩
    have := B.lt
    omega
end
end K39
end
section
set_option Elab.async false
set_option linter.all false
set_option maxRecDepth 100000
set_option maxHeartbeats 2000000
namespace L3
open PySem L2
theorem ifS_of {c : TT3} {t u : TS3} {D : En3} {σ : S3} {G : G3} (b : Bool) (h : ∀ Q : Bool → G3 → Prop, Q b G → c σ G Q) (ht : b = true → t D σ G) (hf : b = false → u D σ G) : ifS3 c t u D σ G := by
  refine h _ ?_
  cases b with
  | true => exact ht rfl
  | false => exact hf rfl
end L3
namespace K39
open PySem L2 L3
def uO : Option Loc → U
  | some l => uL l
  | none => .non
theorem isN_uO (x : Option Loc) : isN (uO x) = x.isNone := by cases x <;> rfl
section
variable {P : Program} {w : World} {K : PySem.W.Frag} {mg : Str → Option Value} {base : Heap}
def dueU (M : List Mv) (e : Int) (sp : Option Loc) : U := if needs (pend M) e sp then .tup [.str "ring", .tup ((ringOf (pend M) (at0 (srcs (pend M)) 0)).map uL)] else .tup [.str "rows", .tup ((dueRows (pend M) e sp).map uR)]
end
end K39
end
section
set_option Elab.async false
set_option linter.all false
set_option maxRecDepth 100000
set_option maxHeartbeats 2000000
namespace K39
open PySem L2 L3
def stepH (h : Loc → Loc) (r : Row) : Loc → Loc := fun z => if r.1 = true ∧ z = r.2.1 then h r.2.2 else if z = r.2.2 then h r.2.1 else h z
def runH (rows : List Row) : Loc → Loc := rows.foldl stepH id
def domS (M : List Mv) : List Loc := M.flatMap fun m => [m.1, m.2]
def domSp (M : List Mv) (sp : Option Loc) : List Loc := domS M ++ sp.toList
/-- the rows do what was asked -/
structure Right (M : List Mv) (sp : Option Loc) (rows : List Row) : Prop where
  dom : ∀ r ∈ rows, r.2.1 ∈ domSp M sp ∧ r.2.2 ∈ domSp M sp
  goal : ∀ m ∈ M, runH rows m.2 = m.1
  rest : ∀ z ∈ domSp M sp, z ∉ goals M → some z ≠ sp → runH rows z = z
structure Held (kvs : List (Loc × Loc)) (S : List Loc) (h : Loc → Loc) : Prop where
  look : ∀ z, lk kvs z = if z ∈ S then some (h z) else none
  len : kvs.length ≤ S.length
theorem Held.add {kvs : List (Loc × Loc)} {S : List Loc} {h : Loc → Loc} (H : Held kvs S h) (hid : h = id) (k : Loc) : Held (pt kvs k k) (S ++ [k]) h := by
  subst hid
  refine ⟨fun x => ?_, ?_⟩
  · rw [lk_pt, H.look]
    by_cases hx : x = k
    · subst hx; simp
    · simp [hx]
  · have := pt_len kvs k k
    have := H.len
    rw [List.length_append]
    show _ ≤ S.length + 1
    omega
theorem pt_len_old {α : Type} {kvs : List (Loc × α)} {k : Loc} {v x : α} (h : lk kvs k = some x) : (pt kvs k v).length = kvs.length := by
  unfold pt; rw [h]; simp
theorem Held.put {kvs : List (Loc × Loc)} {S : List Loc} {h : Loc → Loc} (H : Held kvs S h) {k : Loc} (hk : k ∈ S) (v : Loc) : Held (pt kvs k v) S (fun z => if z = k then v else h z) := by
  refine ⟨fun x => ?_, ?_⟩
  · rw [lk_pt, H.look]
    by_cases hx : x = k
    · subst hx; simp [hk]
    · simp [hx]
  · rw [pt_len_old (x := h k) (by rw [H.look, if_pos hk])]; exact H.len
theorem lk_of_mem {α : Type} : ∀ {kvs : List (Loc × α)} {p : Loc × α}, p ∈ kvs → lk kvs p.1 ≠ none
  | q :: r, p, h => by
    unfold lk
    rw [List.find?_cons]
    by_cases hq : q.1 = p.1
    · rw [decide_eq_true hq]; exact fun e => by cases e
    · rw [decide_eq_false hq]
      rcases List.mem_cons.mp h with h | h
      · rw [h] at hq; exact absurd rfl hq
      · exact lk_of_mem h
theorem dat_row (b : Bool) : dat (.str (rowS b)) = true := by
  have h1 : (PyData.str (rowS b)).canLay0 = true := by cases b <;> decide +kernel
  show (true && ((PyData.str (rowS b)).canLay0 && decide ((PyData.str (rowS b)).depth ≤ 64))) = true
  rw [h1]; rfl
theorem eq3_row (a b : Bool) : eq3 (.str (rowS a)) (.str (rowS b)) = decide (a = b) := by
  show (rowS a == rowS b) = _
  cases a <;> cases b <;> decide +kernel
theorem dat_uO (x : Option Loc) : dat (uO x) = true := by
  cases x with
  | none => exact dat_non
  | some l => exact dat_uL l
theorem eq3_uO (k : Loc) (x : Option Loc) : eq3 (uL k) (uO x) = decide (some k = x) := by
  cases x with
  | none => rfl
  | some l => rw [show uO (some l) = uL l from rfl, eq3_uL]; simp
section
variable {P : Program} {w : World} {K : PySem.W.Frag} {mg : Str → Option Value} {base : Heap}
end
end K39
end
section
set_option Elab.async false
set_option linter.all false
set_option maxRecDepth 100000
set_option maxHeartbeats 2000000
namespace K39
open PySem L2 L3
def PlainU : Nat → U → Prop
  | _, .int _ => True
  | _, .str x => dat (.str x) = true
  | n + 1, .tup xs => xs.length ≤ 90000 ∧ ∀ x ∈ xs, PlainU n x
  | _, _ => False
theorem kit_ii : kitB "int" "int" = some true := by decide
theorem kit_ib : kitB "int" "bool" = some false := by decide
theorem kit_si : kitB "str" "int" = some false := by decide
theorem kit_ss : kitB "str" "str" = some true := by decide
theorem kit_ti : kitB "tuple" "int" = some false := by decide
theorem kit_ts : kitB "tuple" "str" = some false := by decide
theorem kit_tt : kitB "tuple" "tuple" = some true := by decide
theorem all_true (n : Nat) : ((List.range n).map fun _ => true).all id = true := by
  rw [List.all_map]
  exact List.all_eq_true.mpr fun _ _ => rfl
section
variable {P : Program} {w : World} {K : PySem.W.Frag} {mg : Str → Option Value} {base : Heap}
abbrev s_law_alike : Stmt := topS 16
abbrev law_alike_N : List Str := ["told", "due", "k"]
theorem sc_law_alike : FnScope law_alike_N ["told", "due"] (defScope s_law_alike) := ⟨rfl, rfl, rfl, by decide +kernel, rfl, by decide +kernel, by decide +kernel⟩
def spAlike : Nat → Sp3
  | 0 => fun _ _ _ _ => False
  | n + 1 => fun ws G Q _ => ∃ x, ws = [x, x] ∧ PlainU n x ∧ Q (.bl true) G
theorem ok_alike {f : Addr} {fd : FuncData} (F : Fun K "_law_alike" "_law_alike" s_law_alike f fd) (T : Tg mg) (g : mg "_law_alike" = some (.ref f)) (kp : PySem.W.keepIn K (.ref f) = true) (b : Binds K fd ["told", "due"] []) : ∀ n, FnOk P w K mg base CX0 (n + 1) f fd ["told", "due"] (lowSp K (spAlike n))
  | 0 => Fun_ok3 F sc_law_alike (fun ws G Q E h => h.elim) (fun cdv A outer s H E ws G Q E3 hr h => h.elim)
  | n + 1 => by
    have O_law_alike : Own P w K mg base (n + 1) "_law_alike" ["told", "due"] (spAlike n) f fd := ⟨ok_alike F T g kp b n, g, kp, b⟩
    refine Fun_ok3 F sc_law_alike (fun ws G Q E h => by obtain ⟨_, rfl, _⟩ := h; rfl) (fun cdv A outer s H E ws G Q E3 hr h => ?_)
    have hr_law_alike : Room (n + 1) _ := hr
    have hu64 := hr.units
    obtain ⟨x, rfl, hx, hq⟩ := h
    refine ⟨_, (ss_cons (s_if (t3cmp o_isN (e3v 1) e3non)
        (ss_one (s_ret (e3cmp o_isN (e3v 0) e3non)))
        ss_nil)
        (ss_cons (s_if (PW.pt (w3or (t3cmp (o_isB true) (e3v 1) e3bl) (w3or1 (t3cmp (o_isB false) (e3v 1) e3bl))))
        (ss_one (s_ret (e3and (e3B k_isi T.isinstance (a3cons (e3v 0) (a3cons (e3ty (n := "bool") rfl T.bool (by decide +kernel)) a3nil))) (e3one (e3cmp (o_eq hu64) (e3v 0) (e3v 1))))))
        ss_nil)
        (ss_cons (s_if (t3val (e3B k_isi T.isinstance (a3cons (e3v 1) (a3cons (e3ty (n := "int") rfl T.int (by decide +kernel)) a3nil))))
        (ss_one (s_ret (e3and (e3B k_isi T.isinstance (a3cons (e3v 0) (a3cons (e3ty (n := "int") rfl T.int (by decide +kernel)) a3nil))) (e3and (e3not (e3B k_isi T.isinstance (a3cons (e3v 0) (a3cons (e3ty (n := "bool") rfl T.bool (by decide +kernel)) a3nil)))) (e3one (e3cmp (o_eq hu64) (e3v 0) (e3v 1)))))))
        ss_nil)
        (ss_cons (s_if (t3val (e3B k_isi T.isinstance (a3cons (e3v 1) (a3cons (e3ty (n := "str") rfl T.str (by decide +kernel)) a3nil))))
        (ss_one (s_ret (e3and (e3B k_isi T.isinstance (a3cons (e3v 0) (a3cons (e3ty (n := "str") rfl T.str (by decide +kernel)) a3nil))) (e3one (e3cmp (o_eq hu64) (e3v 0) (e3v 1))))))
        ss_nil)
        (ss_cons (s_if (PW.pt (w3or (t3not (t3val (e3B k_isi T.isinstance (a3cons (e3v 0) (a3cons (e3ty (n := "tuple") rfl T.tuple (by decide +kernel)) a3nil))))) (w3or1 (t3cmp (o_ne hu64) (e3B k_len T.len (a3cons (e3v 0) a3nil)) (e3B k_len T.len (a3cons (e3v 1) a3nil))))))
        (ss_one (s_ret e3bl))
        ss_nil)
        (ss_one (s_ret (e3B (k_all rfl) T.all (a3cons (e3lc (own := [("k", 2)]) rfl sc_law_alike.nd (i_range1 T.range (e3B k_len T.len (a3cons (e3v 1) a3nil))) (blkOk_by (N := law_alike_N) (sc := defScope s_law_alike) (by decide +kernel)) (gl_own (by decide)) (fun _ _ _ _ _ => (pg_name (i := 2) sc_law_alike.nd rfl (by first | exact Or.inl rfl | exact Or.inr rfl))) (fun _ _ _ _ _ => ts3nil) (fun _ _ _ _ _ => (e3call O_law_alike.G hr_law_alike O_law_alike.g O_law_alike.kp O_law_alike.b pass0 (a3cons (e3ix (e3v 0) (e3v 2)) (a3cons (e3ix (e3v 1) (e3v 2)) a3nil))))) a3nil))))))))), ?_⟩
    cases x with
    | int i =>
      refine ⟨rfl, rfl, "int", true, rfl, kit_ii, "int", true, rfl, kit_ii, "int", false, rfl, kit_ib, dat_int _, dat_int _, ?_⟩
      rw [show (if false = true then !eq3 (.int i) (.int i) else eq3 (.int i) (.int i)) = true by rw [if_neg Bool.false_ne_true, eq3_int]; simp]
      exact Wk.of hq
    | str t =>
      refine ⟨rfl, rfl, "str", false, rfl, kit_si, "str", true, rfl, kit_ss, "str", true, rfl, kit_ss, ?_⟩
      have hd : dat (.str t) = true := by cases n <;> exact hx
      refine ⟨hd, hd, ?_⟩
      rw [show (if false = true then !eq3 (.str t) (.str t) else eq3 (.str t) (.str t)) = true by rw [if_neg Bool.false_ne_true]; show (t == t) = true; simp]
      exact Wk.of hq
    | tup xs =>
      cases n with
      | zero => exact hx.elim
      | succ n =>
        obtain ⟨hl, hx⟩ := hx
        refine ⟨rfl, rfl, "tuple", false, rfl, kit_ti, "tuple", false, rfl, kit_ts, "tuple", true, rfl, kit_tt, dat_int _, dat_int _, ?_⟩
        refine ifF (by rw [if_pos rfl, eq3_int]; simp) ?_
        try dsimp only [retN3, ret3, next3, seq3, asg3, n3, v3, c3, drop3, ret3, next3, te3, op3, ifS3, cb3, cons3, nil3, call3, lst3, tup3, un3, List.set_cons_zero, List.set_cons_succ, List.getElem?_cons_zero, List.getElem?_cons_succ, start3, List.map_cons, List.map_nil, List.length_cons, List.length_nil, List.replicate, List.cons_append, List.nil_append, Nat.reduceSub, Nat.reduceAdd]
        refine lc_of ?_
        refine ⟨decide_eq_true (by omega), ?_⟩
        refine lcK_of (List.range xs.length) (fun j => U.int (0 + (j : Nat))) (fun _ => true) (fun _ => true) U.bl (fun _ _ => trivial) (by rw [List.length_range]; omega) (fun j hj G2 hs2 Y N hy hn => ?_) fun L hL => ?_
        · have hj := List.mem_range.mp hj
          have e : xs[j]? = some xs[j] := List.getElem?_eq_getElem hj
          exact ⟨xs[j], atI_eq (i := j) (by omega) e, xs[j], atI_eq (i := j) (by omega) e, xs[j], rfl, hx _ (List.getElem_mem hj), hy rfl _ (Sub.refl _)⟩
        · rw [filt_all]
          refine ⟨_, gup_same, Wk.sub ?_ (Sub.new (Sub.refl G) hL)⟩
          rw [all_true]
          exact hq
    | non => cases n <;> exact hx.elim
    | bl _ => cases n <;> exact hx.elim
    | ty _ => cases n <;> exact hx.elim
    | ref _ => cases n <;> exact hx.elim
    | wtup _ => cases n <;> exact hx.elim
    | lit _ => cases n <;> exact hx.elim
end
end K39
end
section
set_option linter.all false
/-! plain facts on what in_step computes -/
namespace K39
theorem prTo_inv (P : List Mv) : ∀ i, i ≤ P.length → (∀ r ∈ (prTo P i).1, r ≠ [] ∧ ∃ m ∈ P, r = ringOf P m.1) ∧ (prTo P i).2 = (prTo P i).1.flatten
  | 0, _ => ⟨(fun r hr => by cases hr), rfl⟩
  | i + 1, h => by
    have hi : i < P.length := by omega
    obtain ⟨h1, h2⟩ := prTo_inv P i (by omega)
    rw [prTo_succ (List.getElem?_eq_getElem hi)]
    unfold prStep
    split
    · exact ⟨h1, h2⟩
    · split
      · exact ⟨h1, h2⟩
      · rename_i hne
        refine ⟨fun r hr => ?_, by show _ ++ _ = (_ ++ [_]).flatten; rw [h2, List.flatten_append]; simp⟩
        rcases List.mem_append.mp hr with hr | hr
        · exact h1 r hr
        · rw [List.mem_singleton.mp hr]
          exact ⟨hne, _, List.getElem_mem hi, rfl⟩
theorem prTo_all (P : List Mv) : prTo P P.length = prAll P := by unfold prTo prAll; rw [List.take_length]
theorem prAll_ring {P : List Mv} {r : List Loc} (h : r ∈ (prAll P).1) : r ≠ [] ∧ ∃ m ∈ P, r = ringOf P m.1 := by
  rw [← prTo_all] at h
  exact (prTo_inv P P.length (Nat.le_refl _)).1 r h
theorem prAll_flat (P : List Mv) : (prAll P).2 = (prAll P).1.flatten := by
  rw [← prTo_all]; exact (prTo_inv P P.length (Nat.le_refl _)).2
theorem prAll_len (P : List Mv) : (prAll P).1.length ≤ P.length ∧ (prAll P).2.length ≤ P.length * P.length := by
  rw [← prTo_all]; exact prTo_len P P.length (Nat.le_refl _)
theorem findIdx_filter {α : Type} (p : α → Bool) : ∀ (xs : List α), (xs.findIdx? p = none ∧ xs.filter p = []) ∨ ∃ k x r, xs.findIdx? p = some k ∧ xs[k]? = some x ∧ xs.filter p = x :: r
  | [] => .inl ⟨rfl, rfl⟩
  | a :: as => by
    rw [List.findIdx?_cons, List.filter_cons]
    cases h : p a with
    | true => exact .inr ⟨0, a, as.filter p, rfl, rfl, rfl⟩
    | false =>
      rcases findIdx_filter p as with ⟨h1, h2⟩ | ⟨k, x, r, h1, h2, h3⟩
      · left; rw [h1, h2]; exact ⟨rfl, rfl⟩
      · right; rw [h1, h3]; exact ⟨k + 1, x, r, rfl, h2, rfl⟩
/-- the first unread target is the first free one -/
theorem unread_frees (P : List Mv) : (unread P = none ∧ frees P = []) ∨ ∃ k m r, unread P = some k ∧ P[k]? = some m ∧ frees P = m.2 :: r := by
  rcases findIdx_filter (fun m : Mv => decide (m.2 ∉ srcs P)) P with ⟨h1, h2⟩ | ⟨k, x, r, h1, h2, h3⟩
  · left; exact ⟨h1, by unfold frees; rw [h2]; rfl⟩
  · right; exact ⟨k, x, r.map (·.2), h1, h2, by unfold frees; rw [h3]; rfl⟩
end K39
end
section
set_option Elab.async false
set_option linter.all false
set_option maxRecDepth 100000
set_option maxHeartbeats 2000000
namespace K39
open PySem L2 L3
/-- the exception class as the text has it -/
structure NsT (P : Program) (K : PySem.W.Frag) (mg : Str → Option Value) (C fI : Addr) : Prop where
  ns : PySem.LowNS.Txt PySem.LowNS.nsP P K mg "NeedsSpare.__init__" "ring" PySem.LowNS.nsE C fI
  gC : mg "NeedsSpare" = some (.ref C)
/-- two fors: the parts of the parts as a set -/
theorem dc2K_of {g1 : TG3} {tk te : TE3} {vs vs1 : List Nat} {wi1 : TI3} {g : TG3} {σ : S3} {Q : K3} {ok : G3 → Prop} {G1 : G3} (xs : List (List Loc)) (S2 : S3 → Prop) (hok : ∀ G', L3.Sub G1 G' → ok G') (hz : xs.flatten.length ≤ 99999)
    (hs : ∀ (r : List Loc), r ∈ xs → ∀ (G : G3), ∀ (Z : List U → (G3 → Prop) → S3 → G3 → Prop), (∀ σ2, S2 σ2 → Z (r.map uL) (fun _ => True) σ2 G) → g (uG r) (wipe3 σ vs) G fun σ2 G2 => yes3 σ2 G2 fun b Gb => if b = true then wi1 σ2 Gb fun it G4 => Z it.items it.ok σ2 G4 else False)
    (hs1 : ∀ (l : Loc) (σ2 : S3) (G : G3) (Y : U → U → G3 → Prop), S2 σ2 → Y (uL l) (.bl true) G → g1 (uL l) (wipe3 σ2 vs1) G fun σ3 G5 => yes3 σ3 G5 fun b1 G6 => if b1 = true then tk σ3 G6 fun y G7 => te σ3 G7 fun z G8 => Y y z G8 else False)
    (hq : ∀ L kvs, G1 L = none → SetD kvs xs.flatten → Q (.ref L) (gup G1 L (.dT (dL U.bl kvs)))) : dc2K g yes3 wi1 g1 yes3 tk te vs vs1 σ Q ⟨xs.map uG, ok⟩ G1 := by
  intro L hL
  refine ⟨fun i G' => ∃ kvs, SetD kvs (xs.take i).flatten ∧ G' = gup G1 L (.dT (dL U.bl kvs)), ⟨[], SetD.nil, rfl⟩, fun i G' _ e => ?_, fun i x G' hx e => ?_, fun G' e => ?_⟩
  · obtain ⟨kvs, h, rfl⟩ := e
    exact hok _ ((Sub.refl G1).new hL)
  · obtain ⟨kvs, h, rfl⟩ := e
    have hx : (xs.map uG)[i]? = some x := hx
    rw [List.getElem?_map] at hx
    cases ex : xs[i]? with
    | none => rw [ex] at hx; cases hx
    | some r =>
      rw [ex] at hx
      cases hx
      have hi : i < xs.length := (List.getElem?_eq_some_iff.mp ex).1
      have et : (xs.take (i + 1)).flatten = (xs.take i).flatten ++ r := by rw [take_s ex, List.flatten_append]; simp
      have hfl : (xs.take (i + 1)).flatten.length ≤ 99999 := by
        have : xs.flatten = (xs.take (i + 1)).flatten ++ (xs.drop (i + 1)).flatten := by rw [← List.flatten_append, List.take_append_drop]
        rw [this, List.length_append] at hz
        omega
      have := hs r (List.mem_of_getElem? ex) (gup G1 L (.dT (dL U.bl kvs))) (fun items ok σ2 G4 => ∃ Pv1 : Nat → G3 → Prop, Pv1 0 G4 ∧ (∀ j G', j ≤ items.length → Pv1 j G' → ok G') ∧
        (∀ j x1 G', items[j]? = some x1 → Pv1 j G' → g1 x1 (wipe3 σ2 vs1) G' fun σ3 G5 => yes3 σ3 G5 fun b1 G6 => if b1 = true then tk σ3 G6 fun y G7 => te σ3 G7 fun z G8 => ∃ kvs k, tkey y = some k ∧ G8 L = some (.dT kvs) ∧ decide (kvs.length ≤ 99999) = true ∧ Wk1 (Pv1 (j + 1)) (gup G8 L (.dT (put kvs k z))) else Wk1 (Pv1 (j + 1)) G6) ∧
        ∀ G', Pv1 items.length G' → Wk1 (fun G' => ∃ kvs, SetD kvs (xs.take (i + 1)).flatten ∧ G' = gup G1 L (.dT (dL U.bl kvs))) G') fun σ2 hS2 => ?_
      · exact this
      · refine ⟨fun j G' => ∃ kvs, SetD kvs ((xs.take i).flatten ++ r.take j) ∧ G' = gup G1 L (.dT (dL U.bl kvs)), ⟨kvs, by rw [List.take_zero, List.append_nil]; exact h, rfl⟩, fun _ _ _ _ => trivial, fun j x1 G' hx1 e => ?_, fun G' e => ?_⟩
        · obtain ⟨kvs, h, rfl⟩ := e
          rw [List.getElem?_map] at hx1
          cases ej : r[j]? with
          | none => rw [ej] at hx1; cases hx1
          | some l =>
            rw [ej] at hx1
            cases hx1
            have hj := (List.getElem?_eq_some_iff.mp ej).1
            have hln : kvs.length ≤ 99999 := by
              have := h.len
              rw [et, List.length_append] at hfl
              rw [List.length_append] at this
              have := List.length_take_le j r
              have : (r.take j).length ≤ r.length := by rw [List.length_take]; omega
              omega
            have := hs1 l σ2 (gup G1 L (.dT (dL U.bl kvs))) (fun y z G8 => ∃ kvs k, tkey y = some k ∧ G8 L = some (.dT kvs) ∧ decide (kvs.length ≤ 99999) = true ∧ Wk1 (fun G' => ∃ kvs, SetD kvs ((xs.take i).flatten ++ r.take (j + 1)) ∧ G' = gup G1 L (.dT (dL U.bl kvs))) (gup G8 L (.dT (put kvs k z)))) hS2
              ⟨_, _, tkey_uL _, gup_same, decide_eq_true (by rw [dL_len]; exact hln), _, Sub.refl _, pt kvs l true, by rw [take_s ej, ← List.append_assoc]; exact h.add l, by rw [gup_gup, ← put_dL]⟩
            exact this
        · obtain ⟨kvs, h, rfl⟩ := e
          rw [List.length_map, List.take_length, ← et] at h
          exact ⟨_, Sub.refl _, kvs, h, rfl⟩
  · obtain ⟨kvs, h, rfl⟩ := e
    have e2 : xs.take (It3.mk (xs.map uG) ok).items.length = xs := by
      show xs.take (xs.map uG).length = xs
      rw [List.length_map, List.take_length]
    rw [e2] at h
    exact hq L kvs hL h
theorem v3_of {i : Nat} {σ : S3} {w : U} {G : G3} {Q : K3} (h : σ[i]? = some (some w)) (q : Q w G) : v3 i σ G Q := by unfold v3; rw [h]; exact q
theorem it_tup {i : Nat} {σ : S3} {xs : List U} {G : G3} {R : It3 → G3 → Prop} (h : σ[i]? = some (some (.tup xs))) (q : R ⟨xs, fun _ => True⟩ G) : it3 (v3 i) σ G R := v3_of h q
theorem flat_len {α β : Type} (f : α → List β) (B : Nat) : ∀ xs : List α, (∀ x ∈ xs, (f x).length ≤ B) → (xs.flatMap f).length ≤ xs.length * B
  | [], _ => by simp
  | x :: xs, h => by
    rw [List.flatMap_cons, List.length_append, List.length_cons, Nat.succ_mul]
    have := h x List.mem_cons_self
    have := flat_len f B xs fun y hy => h y (List.mem_cons_of_mem _ hy)
    omega
section
variable {P : Program} {w : World} {K : PySem.W.Frag} {mg : Str → Option Value} {base : Heap}
abbrev s_in_step : Stmt := topS 12
abbrev in_step_N : List Str := ["moves", "exchange", "spare", "pending", "rings", "first", "rows", "ring", "ringed", "source", "target", "location", "move"]
theorem sc_in_step : FnScope in_step_N ["moves", "exchange", "spare"] (defScope s_in_step) := ⟨rfl, rfl, rfl, by decide +kernel, rfl, by decide +kernel, by decide +kernel⟩
def spIS (C : Addr) : Sp3 := fun ws G Q E => ∃ (x : U) (M : List Mv) (e : Int) (sp : Option Loc), ws = [x, .int e, uO sp] ∧ (x = .tup (M.map uM) ∨ ∃ a, x = .ref a ∧ G a = some (.lst (M.map uM))) ∧ M.length ≤ 100 ∧ (goals M).Nodup ∧ (∀ m ∈ M, m.2.1 ≠ .out) ∧ (e = 0 ∨ e = 1) ∧
  looseOk (leftOf (pend M)).length (leftOf (pend M)) ∧ (needs (pend M) e sp = true → ∃ r rest, (prAll (pend M)).1 = r :: rest ∧ ∀ d, G d = none → E (.ref C) (some d) (gup G d (.xd [("ring", uG r)]))) ∧
  (needs (pend M) e sp = false → Q (.tup ((dueRows (pend M) e sp).map uR)) G)
theorem goals_pend {M : List Mv} (h : (goals M).Nodup) : (goals (pend M)).Nodup := h.sublist ((List.filter_sublist).map _)
theorem ok_is {C fI : Addr} (N : NsT P K mg C fI) {f f1 f2 f3 f4 f5 f6 : Addr} {fd fd1 fd2 fd3 fd4 fd5 fd6 : FuncData} (F : Fun K "in_step" "in_step" s_in_step f fd) (T : Tg mg) (O_check_targets : Own P w K mg base 1 "check_targets" ["moves"] spCT f1 fd1) (O_pure_rings : Own P w K mg base 2 "pure_rings" ["pending"] spPR f2 fd2)
    (O_unread_index : Own P w K mg base 1 "unread_index" ["pending"] spUI f3 fd3) (O_ring_swaps : Own P w K mg base 1 "ring_swaps" ["ring"] spRS f4 fd4) (O_ring_moves : Own P w K mg base 1 "ring_moves" ["ring", "spare"] spRM f5 fd5) (O_loose_moves : Own P w K mg base 2 "loose_moves" ["pending"] spLM f6 fd6) :
    FnOk P w K mg base (L2N.CX P w) 3 f fd ["moves", "exchange", "spare"] (lowSp K (spIS C)) := by
  refine Fun_okX3 F sc_in_step (fun ws G Q E h => by obtain ⟨_, _, _, _, rfl, _⟩ := h; rfl) (fun cdv A outer s H E ws G Q E3 hr h => ?_)
  have hr_check_targets : Room 1 _ := hr.mono (by decide)
  have hr_pure_rings : Room 2 _ := hr
  have hr_unread_index : Room 1 _ := hr.mono (by decide)
  have hr_ring_swaps : Room 1 _ := hr.mono (by decide)
  have hr_ring_moves : Room 1 _ := hr.mono (by decide)
  have hr_loose_moves : Room 2 _ := hr
  have hu := hu_of hr
  have hu64 := hr.units
  obtain ⟨x, M, e, sp, rfl, hx, hlen, hnd, hout, he, hok, hE, hQ⟩ := h
  rcases hx with rfl | ⟨a, rfl, ha⟩
  · refine ⟨_, (ss_cons (s_expr (e3call O_check_targets.G hr_check_targets O_check_targets.g O_check_targets.kp O_check_targets.b pass0 (a3cons (e3v 0) a3nil)))
        (ss_cut (s_setLc (i := 3) (own := [("source", 9), ("target", 10)]) rfl sc_in_step.nd rfl (sw_true rfl rfl rfl (by decide +kernel)) (i_tup (e3v 0)) (blkOk_by (N := in_step_N) (sc := defScope s_in_step) (by decide +kernel)) (gl_tup (gl_cons (gl_own (by decide)) (gl_cons (gl_own (by decide)) gl_nil))) (fun _ _ _ _ _ => (pg_tup (n := 2) rfl (pgs_cons (pg_name (i := 9) sc_in_step.nd rfl (by first | exact Or.inl rfl | exact Or.inr rfl)) (pgs_cons (pg_name (i := 10) sc_in_step.nd rfl (by first | exact Or.inl rfl | exact Or.inr rfl)) pgs_nil)))) (fun _ _ _ _ _ => (ts3one (t3cmp (o_ne hu64) (e3v 9) (e3v 10)))) (fun _ _ _ _ _ => (e3tup (a3cons (e3v 9) (a3cons (e3v 10) a3nil)))))
        (ss_cons (s_set (i := 4) sc_in_step.nd (e3call O_pure_rings.G hr_pure_rings O_pure_rings.g O_pure_rings.kp O_pure_rings.b pass0 (a3cons (e3v 3) a3nil)))
        (ss_cons (s_set (i := 5) sc_in_step.nd (e3call O_unread_index.G hr_unread_index O_unread_index.g O_unread_index.kp O_unread_index.b pass0 (a3cons (e3v 3) a3nil)))
        (ss_cons (s_if (PW.pt (w3and (t3cmp (o_eq hu64) (e3v 1) e3int) (w3and (t3cmp o_isN (e3v 2) e3non) (w3and (t3tru (e3v 3)) (w3and1 (t3cmp o_lt (e3v 5) e3int))))))
        (ss_one (s_raiseNS rfl N.ns N.gC hr (L2N.takes_of rfl rfl rfl rfl) (a3cons (e3ix (e3v 4) e3int) a3nil)))
        ss_nil)
        (ss_cons (s_set (i := 6) sc_in_step.nd (e3lst a3nil))
        (ss_cons (s_for (passes_of rfl) rfl (i_list (e3v 4)) (pg_name (i := 7) sc_in_step.nd rfl (by first | exact Or.inl rfl | exact Or.inr rfl)) gl_name
        (ss_one (s_if (t3cmp (o_eq hu64) (e3v 1) e3int)
          (ss_one (s_expr (e3bmL PySem.F.slot_list_extend PySem.F.type_list_extend m_extend (e3v 6) (a3cons (e3call O_ring_swaps.G hr_ring_swaps O_ring_swaps.g O_ring_swaps.kp O_ring_swaps.b pass0 (a3cons (e3v 7) a3nil)) a3nil))))
          (ss_one (s_if (t3cmp o_isN (e3v 2) e3non)
            (ss_one (s_expr (e3bmL PySem.F.slot_list_extend PySem.F.type_list_extend m_extend (e3v 6) (a3cons (e3call O_ring_moves.G hr_ring_moves O_ring_moves.g O_ring_moves.kp O_ring_moves.b pass0 (a3cons (e3v 7) (a3cons (e3ix (e3ix (e3v 3) (e3v 5)) e3int) a3nil))) a3nil))))
            (ss_one (s_expr (e3bmL PySem.F.slot_list_extend PySem.F.type_list_extend m_extend (e3v 6) (a3cons (e3call O_ring_moves.G hr_ring_moves O_ring_moves.g O_ring_moves.kp O_ring_moves.b pass0 (a3cons (e3v 7) (a3cons (e3v 2) a3nil))) a3nil)))))))))
        (ss_cons (s_set (i := 8) sc_in_step.nd (e3dc2 (own := [("ring", 7), ("location", 11)]) (vs1 := [11]) hu rfl sc_in_step.nd (i_list (e3v 4)) (blkOk_by (N := in_step_N) (sc := defScope s_in_step) (by decide +kernel)) (by decide) (gl_own (by decide)) (gl_own (by decide)) (fun _ _ _ _ _ => (pg_name (i := 7) sc_in_step.nd rfl (by first | exact Or.inl rfl | exact Or.inr rfl))) (fun _ _ _ _ _ => ts3nil) (fun _ _ _ _ _ => (i_tup (e3v 7))) (fun _ _ _ _ _ => (pg_name (i := 11) sc_in_step.nd rfl (by first | exact Or.inl rfl | exact Or.inr rfl))) (fun _ _ _ _ _ => ts3nil) (fun _ _ _ _ _ => (e3v 11)) (fun _ _ _ _ _ => e3bl)))
        (ss_cons (s_expr (e3bmL PySem.F.slot_list_extend PySem.F.type_list_extend m_extend (e3v 6) (a3cons (e3call O_loose_moves.G hr_loose_moves O_loose_moves.g O_loose_moves.kp O_loose_moves.b pass0 (a3cons (e3lc (own := [("move", 12)]) rfl sc_in_step.nd (i_list (e3v 3)) (blkOk_by (N := in_step_N) (sc := defScope s_in_step) (by decide +kernel)) (gl_own (by decide)) (fun _ _ _ _ _ => (pg_name (i := 12) sc_in_step.nd rfl (by first | exact Or.inl rfl | exact Or.inr rfl))) (fun _ _ _ _ _ => (ts3one (t3dnotin hu (e3ix (e3v 12) e3int) (e3v 8)))) (fun _ _ _ _ _ => (e3v 12))) a3nil)) a3nil)))
        (ss_one (s_ret (e3T k_tuple T.tuple (a3cons (e3v 6) a3nil))))))))))))), ?_⟩
    refine ⟨_, M, rfl, .inl rfl, by omega, hnd, hout, ?_⟩
    refine ⟨fun σ' G' => ∃ PL, G PL = none ∧ σ' = [some (.tup (M.map uM)), some (.int e), some (uO sp), some (.ref PL), none, none, none, none, none, none, none, none, none] ∧ G' = gup G PL (.lst ((pend M).map uM)), ?_, ?_⟩
    · refine lc_of ?_
      refine it_tup rfl ?_
      refine lcK_of M uM (fun m => decide (m.1 ≠ m.2)) (fun m => m) uM (fun G' s => trivial) (by omega) (fun y hy G' hs Y N hy hn => ?_) fun PL hPL => ?_
      · refine ⟨rfl, dat_uL y.1, dat_uL y.2, ?_⟩
        by_cases h : y.1 = y.2
        · exact ifF (by rw [if_pos rfl, eq3_uL, decide_eq_true h]; rfl) (hn (by simp [h]) _ (Sub.refl _))
        · exact ifT (by rw [if_pos rfl, eq3_uL, decide_eq_false h]; rfl) ⟨rfl, hy (by simp [h]) _ (Sub.refl _)⟩
      · rw [List.map_id']
        rw [show (M.filter fun m => decide (m.1 ≠ m.2)) = pend M from rfl]
        exact Wk2.of ⟨PL, hPL, rfl, rfl⟩
    · skip
      rintro σ' G' ⟨PL, hPL, rfl, rfl⟩
      have hp1 : gup G PL (.lst ((pend M).map uM)) PL = some (.lst ((pend M).map uM)) := gup_same
      have s1 : L3.Sub G (gup G PL (.lst ((pend M).map uM))) := Sub.new (Sub.refl G) hPL
      have hpl : (pend M).length ≤ 100 := Nat.le_trans (List.length_filter_le _ _) hlen
      have hnp := goals_pend hnd
      have hpp : ∀ m ∈ pend M, m.1 ≠ m.2 := fun m hm => of_decide_eq_true (List.mem_filter.mp hm).2
      generalize pend M = W at *
      generalize gup G PL (.lst (W.map uM)) = G1 at s1 hp1 ⊢
      refine ⟨PL, W, rfl, hp1, hpl, hnp, fun RL hRL => ?_⟩
      have s2 := Sub.new (o := .lst ((prAll W).1.map uG)) s1 (s1.free hRL)
      have hp2 : gup G1 RL (.lst ((prAll W).1.map uG)) PL = some (.lst (W.map uM)) := by rw [gup_ne (gne_none hp1 hRL)]; exact hp1
      have hr2 : gup G1 RL (.lst ((prAll W).1.map uG)) RL = some (.lst ((prAll W).1.map uG)) := gup_same
      generalize gup G1 RL (.lst ((prAll W).1.map uG)) = G2 at s2 hp2 hr2 ⊢
      refine ⟨PL, W, rfl, hp2, by omega, ?_⟩
      try dsimp only [seq3, asg3, n3, v3, drop3, ret3, next3, List.set_cons_zero, List.set_cons_succ, List.getElem?_cons_zero, List.getElem?_cons_succ, start3, List.map_cons, List.map_nil, List.length_cons, List.length_nil, List.replicate, List.cons_append, List.nil_append, Nat.reduceSub, Nat.reduceAdd]
      refine ifS_of (needs W e sp) (fun Q2 hQ => ?_) (fun hb => ?_) (fun hb => ?_)
      · unfold needs at hQ
        refine ⟨dat_int _, dat_int _, ?_⟩
        by_cases h1 : e = 0
        · rw [decide_eq_true h1, Bool.true_and] at hQ
          refine ifT (by rw [eq3_int, h1]; rfl) ?_
          cases sp with
          | some x => exact hQ
          | none =>
            rw [show (Option.isNone (none : Option Loc)) = true from rfl, Bool.true_and] at hQ
            refine ⟨_, hp2, ?_⟩
            by_cases h2 : 0 < (W.length : Int)
            · rw [decide_eq_true h2, Bool.true_and] at hQ
              refine ifT (by cases hW : W with
                | nil => rw [hW] at h2; exact absurd h2 (by decide)
                | cons a b => rfl) ?_
              have : decide (unreadI W < 0) = (((frees W).length : Int) == 0) := by
                unfold unreadI
                rcases unread_frees W with ⟨e1, e2⟩ | ⟨k, m, r, e1, _, e3⟩
                · rw [e1, e2]; rfl
                · rw [e1, e3]
                  have h3 : ¬ ((k : Int) < 0) := by omega
                  have h4 : ¬ (((m.2 :: r).length : Int) = 0) := by rw [List.length_cons]; omega
                  simp only [decide_eq_false h3]
                  simp
                  omega
              rw [← this] at hQ
              exact hQ
            · rw [decide_eq_false h2, Bool.false_and] at hQ
              refine ifF (by cases hW : W with
                | nil => rfl
                | cons a b => rw [hW, List.length_cons] at h2; exact absurd h2 (by omega)) hQ
        · rw [decide_eq_false h1, Bool.false_and] at hQ
          exact ifF (by rw [eq3_int]; simp [h1]) hQ
      · obtain ⟨r, rest, er, hE⟩ := hE hb
        refine ⟨_, uG r, hr2, atI_eq (i := 0) rfl (by rw [er]; rfl), uG r, rfl, fun d hd => ?_⟩
        exact ⟨_, Sub.up s2, hE d (s2.free hd)⟩
      · have hQ := hQ hb
        unfold dueRows at hQ
        have hsp : ∀ m ∈ W, e ≠ 1 → (sp = none → ∃ k m', unread W = some k ∧ W[k]? = some m' ∧ spD (dueSp W sp) = m'.2) ∧ (∀ x, sp = some x → spD (dueSp W sp) = x) := fun m hm h1 => by
          have e0 : e = 0 := he.resolve_right h1
          refine ⟨fun es => ?_, fun x es => by rw [es]; rfl⟩
          subst es
          rcases unread_frees W with ⟨e1, e2⟩ | ⟨k, m', r, e1, e2, e3⟩
          · unfold needs at hb
            rw [decide_eq_true e0, e2, decide_eq_true (by have := List.length_pos_of_mem hm; omega)] at hb
            cases hb
          · exact ⟨k, m', e1, e2, by unfold dueSp; rw [e3]; rfl⟩
        generalize hdS : spD (dueSp W sp) = dS at *
        obtain ⟨hrl1, hrl2⟩ := prAll_len W
        have hrow : ∀ r ∈ (prAll W).1, (rowsOf e dS r).length ≤ 103 ∧ 2 ≤ r.length ∧ r.length ≤ 100 := fun r hr => by
          obtain ⟨h1, m, hm, h2⟩ := prAll_ring hr
          subst h2
          obtain ⟨t, tl, et⟩ := ring_two hpp h1
          have := rowsOf_len e dS (ringOf W m.1)
          have := ringOf_len W m.1
          exact ⟨by omega, by rw [et]; simp, by omega⟩
        refine ⟨rfl, fun XL hXL => ?_⟩
        have hr3 : ∀ o, gup G2 XL o RL = some (.lst ((prAll W).1.map uG)) := fun o => by rw [gup_ne (gne_none hr2 hXL)]; exact hr2
        have hp3 : ∀ o, gup G2 XL o PL = some (.lst (W.map uM)) := fun o => by rw [gup_ne (gne_none hp2 hXL)]; exact hp2
        have gX := s2.free hXL
        try dsimp only [seq3, asg3, n3, v3, drop3, ret3, next3, List.set_cons_zero, List.set_cons_succ, List.getElem?_cons_zero, List.getElem?_cons_succ, start3, List.map_cons, List.map_nil, List.length_cons, List.length_nil, List.replicate, List.cons_append, List.nil_append, Nat.reduceSub, Nat.reduceAdd]
        refine for_of ?_
        refine ⟨_, hr3 _, ?_⟩
        refine forK_of (prAll W).1.length (by rw [List.length_map]) (fun i σ G' => ∃ z1, σ = [some (.tup (M.map uM)), some (.int e), some (uO sp), some (.ref PL), some (.ref RL), some (.int (unreadI W)), some (.ref XL), z1, none, none, none, none, none] ∧ L3.Sub (gup G2 XL (.lst ((((prAll W).1.take i).flatMap (rowsOf e dS)).map uR))) G')
          ⟨_, rfl, Sub.refl _⟩ (fun i σ' G' _ h => by obtain ⟨_, _, h⟩ := h; exact h _ _ (hr3 _)) ?_ ?_
        · rintro i x σ' G' hi hx ⟨z1, rfl, hs⟩
          have hm : (prAll W).1[i]? = some (prAll W).1[i] := List.getElem?_eq_getElem hi
          generalize (prAll W).1[i] = r at hm
          rw [List.getElem?_map, hm] at hx
          cases hx
          have hrm := List.mem_of_getElem? hm
          obtain ⟨b1, b2, b3⟩ := hrow r hrm
          have hfl := flat_len (rowsOf e dS) 103 ((prAll W).1.take i) fun y hy => (hrow y (List.mem_of_mem_take hy)).1
          have hti : ((prAll W).1.take i).length ≤ 100 := by rw [List.length_take]; omega
          have hfl2 : ((prAll W).1.take i).length * 103 ≤ 100 * 103 := Nat.mul_le_mul hti (Nat.le_refl _)
          have enx : ((prAll W).1.take (i + 1)).flatMap (rowsOf e dS) = ((prAll W).1.take i).flatMap (rowsOf e dS) ++ rowsOf e dS r := by rw [take_s hm, List.flatMap_append]; simp
          have fin : ∀ L, G' L = none → ∀ rs, rs = rowsOf e dS r → ∃ xs ys, gup G' L (.lst (rs.map uR)) XL = some (.lst xs) ∧ gup G' L (.lst (rs.map uR)) L = some (.lst ys) ∧ decide (xs.length + ys.length ≤ 100000) = true ∧ Wk2 (fun σ G' => ∃ z1, σ = [some (.tup (M.map uM)), some (.int e), some (uO sp), some (.ref PL), some (.ref RL), some (.int (unreadI W)), some (.ref XL), z1, none, none, none, none, none] ∧ L3.Sub (gup G2 XL (.lst ((((prAll W).1.take (i + 1)).flatMap (rowsOf e dS)).map uR))) G') [some (.tup (M.map uM)), some (.int e), some (uO sp), some (.ref PL), some (.ref RL), some (.int (unreadI W)), some (.ref XL), some (uG r), none, none, none, none, none] (gup (gup G' L (.lst (rs.map uR))) XL (.lst (xs ++ ys))) := fun L hL rs ers => by
            subst ers
            have hs1 := Sub.new (o := .lst ((rowsOf e dS r).map uR)) hs (hs.free hL)
            refine ⟨_, _, hs1.at, gup_same, decide_eq_true (by rw [List.length_map, List.length_map]; omega), ?_⟩
            refine Wk2.of ⟨_, rfl, ?_⟩
            rw [enx, List.map_append]
            exact hs1.mut
          refine ⟨dat_int _, dat_int _, ?_⟩
          by_cases h1 : e = 1
          · refine ifT (by rw [eq3_int, h1]; rfl) ?_
            refine ⟨⟨_, hs.at⟩, r, rfl, (by intro z; rw [z] at b2; cases b2), by omega, fun L hL => ?_⟩
            exact fin L hL (ringSwaps r) (by unfold rowsOf; rw [if_pos h1])
          · refine ifF (by rw [eq3_int]; simp [h1]) ?_
            have hWm : ∃ m, m ∈ W := by obtain ⟨_, m, hm, _⟩ := prAll_ring hrm; exact ⟨m, hm⟩
            obtain ⟨m0, hm0⟩ := hWm
            obtain ⟨q1, q2⟩ := hsp m0 hm0 h1
            have erw : rowsOf e dS r = ringMoves r dS := if_neg h1
            cases sp with
            | none =>
              obtain ⟨k, m', e1, e2, e3⟩ := q1 rfl
              have hui : unreadI W = (k : Nat) := by unfold unreadI; rw [e1]
              refine ⟨⟨_, hs.at⟩, _, uM m', hs _ _ (hp3 _), atI_eq (i := k) hui (by rw [List.getElem?_map, e2]; rfl), uL m'.2, rfl, r, m'.2, rfl, b2, by omega, fun L hL => ?_⟩
              exact fin L hL (ringMoves r m'.2) (by rw [erw, e3])
            | some x =>
              refine ⟨⟨_, hs.at⟩, r, x, rfl, b2, by omega, fun L hL => ?_⟩
              exact fin L hL (ringMoves r x) (by rw [erw, q2 x rfl])
        · rintro σ' G3 ⟨z1, rfl, hs⟩
          rw [List.take_length] at hs
          have hrG := hs _ _ (hr3 _)
          have hpG := hs _ _ (hp3 _)
          have hfl := flat_len (rowsOf e dS) 103 (prAll W).1 fun y hy => (hrow y hy).1
          have hfl2 : (prAll W).1.length * 103 ≤ 100 * 103 := Nat.mul_le_mul (by omega) (Nat.le_refl _)
          have hfl3 : (prAll W).1.flatten.length ≤ 10000 := by rw [← prAll_flat]; exact Nat.le_trans hrl2 (Nat.mul_le_mul hpl hpl)
          try dsimp only [seq3, asg3, n3, v3, drop3, ret3, next3, List.set_cons_zero, List.set_cons_succ, List.getElem?_cons_zero, List.getElem?_cons_succ, start3, List.map_cons, List.map_nil, List.length_cons, List.length_nil, List.replicate, List.cons_append, List.nil_append, Nat.reduceSub, Nat.reduceAdd]
          refine dc2_of ?_
          refine ⟨_, hrG, ?_⟩
          refine dc2K_of (prAll W).1 (fun σ => σ.length = 13) (fun G' s => s _ _ hrG) (by omega) (fun r hr G' Z hZ => hZ _ rfl) (fun l σ2 G' Y h2 hy => v3_of (w := uL l) ?_ hy) fun DD kvs hDD S => ?_
          · exact List.getElem?_set_self (by show 11 < (σ2.set 11 none).length; rw [List.length_set, h2]; decide)
          have hs1 := Sub.new (o := .dT (dL U.bl kvs)) hs (hs.free hDD)
          have hd1 : gup G3 DD (.dT (dL U.bl kvs)) DD = some (.dT (dL U.bl kvs)) := gup_same
          have hp1 : gup G3 DD (.dT (dL U.bl kvs)) PL = some (.lst (W.map uM)) := by rw [gup_ne (gne_none hpG hDD)]; exact hpG
          generalize gup G3 DD (.dT (dL U.bl kvs)) = G4 at hs1 hd1 hp1 ⊢
          refine ⟨⟨_, hs1.at⟩, ?_⟩
          try dsimp only [retN3, ret3, next3, seq3, asg3, n3, v3, c3, drop3, ret3, next3, te3, op3, ifS3, cb3, cons3, nil3, call3, lst3, tup3, un3, List.set_cons_zero, List.set_cons_succ, List.getElem?_cons_zero, List.getElem?_cons_succ, start3, List.map_cons, List.map_nil, List.length_cons, List.length_nil, List.replicate, List.cons_append, List.nil_append, Nat.reduceSub, Nat.reduceAdd]
          refine lc_of ?_
          refine ⟨_, hp1, ?_⟩
          refine lcK_of W uM (fun m => decide (m.1 ∉ (prAll W).2)) (fun m => m) uM (fun G' s => s _ _ hp1) (by omega) (fun y hy G' hs Y N hy hn => ?_) fun LL hLL => ?_
          · refine ⟨uL y.1, rfl, _, dlook_dL _ (hs _ _ hd1) y.1, ?_⟩
            rw [prAll_flat] at hy hn
            by_cases h : y.1 ∈ (prAll W).1.flatten
            · exact ifF (by rw [S.isSome, decide_eq_true h]; rfl) (hn (by simp only [h]; rfl) _ (Sub.refl _))
            · exact ifT (by rw [S.isSome, decide_eq_false h]; rfl) (hy (by simp only [h]; rfl) _ (Sub.refl _))
          rw [List.map_id']
          rw [show (W.filter fun m => decide (m.1 ∉ (prAll W).2)) = leftOf W from rfl]
          have hll : (leftOf W).length ≤ 100 := Nat.le_trans (List.length_filter_le _ _) hpl
          have hgl := looseGo_len (leftOf W).length (leftOf W)
          have hs2 := Sub.new (o := .lst ((leftOf W).map uM)) hs1 (hs1.free hLL)
          refine ⟨LL, leftOf W, rfl, gup_same, by omega, hok, fun L2 hL2 => ?_⟩
          have hs3 := Sub.new (o := .lst ((looseGo (leftOf W).length (leftOf W)).map uR)) hs2 (hs2.free hL2)
          refine ⟨_, _, hs3.at, gup_same, decide_eq_true (by rw [List.length_map, List.length_map]; omega), ?_⟩
          refine ⟨_, gup_same, ?_⟩
          refine Wk.sub ?_ (s2.trans ((Sub.new (Sub.refl G2) hXL).trans hs3.mut))
          rw [← List.map_append]
          exact hQ
  · refine ⟨_, (ss_cons (s_expr (e3call O_check_targets.G hr_check_targets O_check_targets.g O_check_targets.kp O_check_targets.b pass0 (a3cons (e3v 0) a3nil)))
        (ss_cut (s_setLc (i := 3) (own := [("source", 9), ("target", 10)]) rfl sc_in_step.nd rfl (sw_true rfl rfl rfl (by decide +kernel)) (i_list (e3v 0)) (blkOk_by (N := in_step_N) (sc := defScope s_in_step) (by decide +kernel)) (gl_tup (gl_cons (gl_own (by decide)) (gl_cons (gl_own (by decide)) gl_nil))) (fun _ _ _ _ _ => (pg_tup (n := 2) rfl (pgs_cons (pg_name (i := 9) sc_in_step.nd rfl (by first | exact Or.inl rfl | exact Or.inr rfl)) (pgs_cons (pg_name (i := 10) sc_in_step.nd rfl (by first | exact Or.inl rfl | exact Or.inr rfl)) pgs_nil)))) (fun _ _ _ _ _ => (ts3one (t3cmp (o_ne hu64) (e3v 9) (e3v 10)))) (fun _ _ _ _ _ => (e3tup (a3cons (e3v 9) (a3cons (e3v 10) a3nil)))))
        (ss_cons (s_set (i := 4) sc_in_step.nd (e3call O_pure_rings.G hr_pure_rings O_pure_rings.g O_pure_rings.kp O_pure_rings.b pass0 (a3cons (e3v 3) a3nil)))
        (ss_cons (s_set (i := 5) sc_in_step.nd (e3call O_unread_index.G hr_unread_index O_unread_index.g O_unread_index.kp O_unread_index.b pass0 (a3cons (e3v 3) a3nil)))
        (ss_cons (s_if (PW.pt (w3and (t3cmp (o_eq hu64) (e3v 1) e3int) (w3and (t3cmp o_isN (e3v 2) e3non) (w3and (t3tru (e3v 3)) (w3and1 (t3cmp o_lt (e3v 5) e3int))))))
        (ss_one (s_raiseNS rfl N.ns N.gC hr (L2N.takes_of rfl rfl rfl rfl) (a3cons (e3ix (e3v 4) e3int) a3nil)))
        ss_nil)
        (ss_cons (s_set (i := 6) sc_in_step.nd (e3lst a3nil))
        (ss_cons (s_for (passes_of rfl) rfl (i_list (e3v 4)) (pg_name (i := 7) sc_in_step.nd rfl (by first | exact Or.inl rfl | exact Or.inr rfl)) gl_name
        (ss_one (s_if (t3cmp (o_eq hu64) (e3v 1) e3int)
          (ss_one (s_expr (e3bmL PySem.F.slot_list_extend PySem.F.type_list_extend m_extend (e3v 6) (a3cons (e3call O_ring_swaps.G hr_ring_swaps O_ring_swaps.g O_ring_swaps.kp O_ring_swaps.b pass0 (a3cons (e3v 7) a3nil)) a3nil))))
          (ss_one (s_if (t3cmp o_isN (e3v 2) e3non)
            (ss_one (s_expr (e3bmL PySem.F.slot_list_extend PySem.F.type_list_extend m_extend (e3v 6) (a3cons (e3call O_ring_moves.G hr_ring_moves O_ring_moves.g O_ring_moves.kp O_ring_moves.b pass0 (a3cons (e3v 7) (a3cons (e3ix (e3ix (e3v 3) (e3v 5)) e3int) a3nil))) a3nil))))
            (ss_one (s_expr (e3bmL PySem.F.slot_list_extend PySem.F.type_list_extend m_extend (e3v 6) (a3cons (e3call O_ring_moves.G hr_ring_moves O_ring_moves.g O_ring_moves.kp O_ring_moves.b pass0 (a3cons (e3v 7) (a3cons (e3v 2) a3nil))) a3nil)))))))))
        (ss_cons (s_set (i := 8) sc_in_step.nd (e3dc2 (own := [("ring", 7), ("location", 11)]) (vs1 := [11]) hu rfl sc_in_step.nd (i_list (e3v 4)) (blkOk_by (N := in_step_N) (sc := defScope s_in_step) (by decide +kernel)) (by decide) (gl_own (by decide)) (gl_own (by decide)) (fun _ _ _ _ _ => (pg_name (i := 7) sc_in_step.nd rfl (by first | exact Or.inl rfl | exact Or.inr rfl))) (fun _ _ _ _ _ => ts3nil) (fun _ _ _ _ _ => (i_tup (e3v 7))) (fun _ _ _ _ _ => (pg_name (i := 11) sc_in_step.nd rfl (by first | exact Or.inl rfl | exact Or.inr rfl))) (fun _ _ _ _ _ => ts3nil) (fun _ _ _ _ _ => (e3v 11)) (fun _ _ _ _ _ => e3bl)))
        (ss_cons (s_expr (e3bmL PySem.F.slot_list_extend PySem.F.type_list_extend m_extend (e3v 6) (a3cons (e3call O_loose_moves.G hr_loose_moves O_loose_moves.g O_loose_moves.kp O_loose_moves.b pass0 (a3cons (e3lc (own := [("move", 12)]) rfl sc_in_step.nd (i_list (e3v 3)) (blkOk_by (N := in_step_N) (sc := defScope s_in_step) (by decide +kernel)) (gl_own (by decide)) (fun _ _ _ _ _ => (pg_name (i := 12) sc_in_step.nd rfl (by first | exact Or.inl rfl | exact Or.inr rfl))) (fun _ _ _ _ _ => (ts3one (t3dnotin hu (e3ix (e3v 12) e3int) (e3v 8)))) (fun _ _ _ _ _ => (e3v 12))) a3nil)) a3nil)))
        (ss_one (s_ret (e3T k_tuple T.tuple (a3cons (e3v 6) a3nil))))))))))))), ?_⟩
    refine ⟨_, M, rfl, .inr ⟨a, rfl, ha⟩, by omega, hnd, hout, ?_⟩
    refine ⟨fun σ' G' => ∃ PL, G PL = none ∧ σ' = [some (.ref a), some (.int e), some (uO sp), some (.ref PL), none, none, none, none, none, none, none, none, none] ∧ G' = gup G PL (.lst ((pend M).map uM)), ?_, ?_⟩
    · refine lc_of ?_
      refine ⟨_, ha, ?_⟩
      refine lcK_of M uM (fun m => decide (m.1 ≠ m.2)) (fun m => m) uM (fun G' s => (s _ _ ha)) (by omega) (fun y hy G' hs Y N hy hn => ?_) fun PL hPL => ?_
      · refine ⟨rfl, dat_uL y.1, dat_uL y.2, ?_⟩
        by_cases h : y.1 = y.2
        · exact ifF (by rw [if_pos rfl, eq3_uL, decide_eq_true h]; rfl) (hn (by simp [h]) _ (Sub.refl _))
        · exact ifT (by rw [if_pos rfl, eq3_uL, decide_eq_false h]; rfl) ⟨rfl, hy (by simp [h]) _ (Sub.refl _)⟩
      · rw [List.map_id']
        rw [show (M.filter fun m => decide (m.1 ≠ m.2)) = pend M from rfl]
        exact Wk2.of ⟨PL, hPL, rfl, rfl⟩
    · skip
      rintro σ' G' ⟨PL, hPL, rfl, rfl⟩
      have hp1 : gup G PL (.lst ((pend M).map uM)) PL = some (.lst ((pend M).map uM)) := gup_same
      have s1 : L3.Sub G (gup G PL (.lst ((pend M).map uM))) := Sub.new (Sub.refl G) hPL
      have hpl : (pend M).length ≤ 100 := Nat.le_trans (List.length_filter_le _ _) hlen
      have hnp := goals_pend hnd
      have hpp : ∀ m ∈ pend M, m.1 ≠ m.2 := fun m hm => of_decide_eq_true (List.mem_filter.mp hm).2
      generalize pend M = W at *
      generalize gup G PL (.lst (W.map uM)) = G1 at s1 hp1 ⊢
      refine ⟨PL, W, rfl, hp1, hpl, hnp, fun RL hRL => ?_⟩
      have s2 := Sub.new (o := .lst ((prAll W).1.map uG)) s1 (s1.free hRL)
      have hp2 : gup G1 RL (.lst ((prAll W).1.map uG)) PL = some (.lst (W.map uM)) := by rw [gup_ne (gne_none hp1 hRL)]; exact hp1
      have hr2 : gup G1 RL (.lst ((prAll W).1.map uG)) RL = some (.lst ((prAll W).1.map uG)) := gup_same
      generalize gup G1 RL (.lst ((prAll W).1.map uG)) = G2 at s2 hp2 hr2 ⊢
      refine ⟨PL, W, rfl, hp2, by omega, ?_⟩
      try dsimp only [seq3, asg3, n3, v3, drop3, ret3, next3, List.set_cons_zero, List.set_cons_succ, List.getElem?_cons_zero, List.getElem?_cons_succ, start3, List.map_cons, List.map_nil, List.length_cons, List.length_nil, List.replicate, List.cons_append, List.nil_append, Nat.reduceSub, Nat.reduceAdd]
      refine ifS_of (needs W e sp) (fun Q2 hQ => ?_) (fun hb => ?_) (fun hb => ?_)
      · unfold needs at hQ
        refine ⟨dat_int _, dat_int _, ?_⟩
        by_cases h1 : e = 0
        · rw [decide_eq_true h1, Bool.true_and] at hQ
          refine ifT (by rw [eq3_int, h1]; rfl) ?_
          cases sp with
          | some x => exact hQ
          | none =>
            rw [show (Option.isNone (none : Option Loc)) = true from rfl, Bool.true_and] at hQ
            refine ⟨_, hp2, ?_⟩
            by_cases h2 : 0 < (W.length : Int)
            · rw [decide_eq_true h2, Bool.true_and] at hQ
              refine ifT (by cases hW : W with
                | nil => rw [hW] at h2; exact absurd h2 (by decide)
                | cons a b => rfl) ?_
              have : decide (unreadI W < 0) = (((frees W).length : Int) == 0) := by
                unfold unreadI
                rcases unread_frees W with ⟨e1, e2⟩ | ⟨k, m, r, e1, _, e3⟩
                · rw [e1, e2]; rfl
                · rw [e1, e3]
                  have h3 : ¬ ((k : Int) < 0) := by omega
                  have h4 : ¬ (((m.2 :: r).length : Int) = 0) := by rw [List.length_cons]; omega
                  simp only [decide_eq_false h3]
                  simp
                  omega
              rw [← this] at hQ
              exact hQ
            · rw [decide_eq_false h2, Bool.false_and] at hQ
              refine ifF (by cases hW : W with
                | nil => rfl
                | cons a b => rw [hW, List.length_cons] at h2; exact absurd h2 (by omega)) hQ
        · rw [decide_eq_false h1, Bool.false_and] at hQ
          exact ifF (by rw [eq3_int]; simp [h1]) hQ
      · obtain ⟨r, rest, er, hE⟩ := hE hb
        refine ⟨_, uG r, hr2, atI_eq (i := 0) rfl (by rw [er]; rfl), uG r, rfl, fun d hd => ?_⟩
        exact ⟨_, Sub.up s2, hE d (s2.free hd)⟩
      · have hQ := hQ hb
        unfold dueRows at hQ
        have hsp : ∀ m ∈ W, e ≠ 1 → (sp = none → ∃ k m', unread W = some k ∧ W[k]? = some m' ∧ spD (dueSp W sp) = m'.2) ∧ (∀ x, sp = some x → spD (dueSp W sp) = x) := fun m hm h1 => by
          have e0 : e = 0 := he.resolve_right h1
          refine ⟨fun es => ?_, fun x es => by rw [es]; rfl⟩
          subst es
          rcases unread_frees W with ⟨e1, e2⟩ | ⟨k, m', r, e1, e2, e3⟩
          · unfold needs at hb
            rw [decide_eq_true e0, e2, decide_eq_true (by have := List.length_pos_of_mem hm; omega)] at hb
            cases hb
          · exact ⟨k, m', e1, e2, by unfold dueSp; rw [e3]; rfl⟩
        generalize hdS : spD (dueSp W sp) = dS at *
        obtain ⟨hrl1, hrl2⟩ := prAll_len W
        have hrow : ∀ r ∈ (prAll W).1, (rowsOf e dS r).length ≤ 103 ∧ 2 ≤ r.length ∧ r.length ≤ 100 := fun r hr => by
          obtain ⟨h1, m, hm, h2⟩ := prAll_ring hr
          subst h2
          obtain ⟨t, tl, et⟩ := ring_two hpp h1
          have := rowsOf_len e dS (ringOf W m.1)
          have := ringOf_len W m.1
          exact ⟨by omega, by rw [et]; simp, by omega⟩
        refine ⟨rfl, fun XL hXL => ?_⟩
        have hr3 : ∀ o, gup G2 XL o RL = some (.lst ((prAll W).1.map uG)) := fun o => by rw [gup_ne (gne_none hr2 hXL)]; exact hr2
        have hp3 : ∀ o, gup G2 XL o PL = some (.lst (W.map uM)) := fun o => by rw [gup_ne (gne_none hp2 hXL)]; exact hp2
        have gX := s2.free hXL
        try dsimp only [seq3, asg3, n3, v3, drop3, ret3, next3, List.set_cons_zero, List.set_cons_succ, List.getElem?_cons_zero, List.getElem?_cons_succ, start3, List.map_cons, List.map_nil, List.length_cons, List.length_nil, List.replicate, List.cons_append, List.nil_append, Nat.reduceSub, Nat.reduceAdd]
        refine for_of ?_
        refine ⟨_, hr3 _, ?_⟩
        refine forK_of (prAll W).1.length (by rw [List.length_map]) (fun i σ G' => ∃ z1, σ = [some (.ref a), some (.int e), some (uO sp), some (.ref PL), some (.ref RL), some (.int (unreadI W)), some (.ref XL), z1, none, none, none, none, none] ∧ L3.Sub (gup G2 XL (.lst ((((prAll W).1.take i).flatMap (rowsOf e dS)).map uR))) G')
          ⟨_, rfl, Sub.refl _⟩ (fun i σ' G' _ h => by obtain ⟨_, _, h⟩ := h; exact h _ _ (hr3 _)) ?_ ?_
        · rintro i x σ' G' hi hx ⟨z1, rfl, hs⟩
          have hm : (prAll W).1[i]? = some (prAll W).1[i] := List.getElem?_eq_getElem hi
          generalize (prAll W).1[i] = r at hm
          rw [List.getElem?_map, hm] at hx
          cases hx
          have hrm := List.mem_of_getElem? hm
          obtain ⟨b1, b2, b3⟩ := hrow r hrm
          have hfl := flat_len (rowsOf e dS) 103 ((prAll W).1.take i) fun y hy => (hrow y (List.mem_of_mem_take hy)).1
          have hti : ((prAll W).1.take i).length ≤ 100 := by rw [List.length_take]; omega
          have hfl2 : ((prAll W).1.take i).length * 103 ≤ 100 * 103 := Nat.mul_le_mul hti (Nat.le_refl _)
          have enx : ((prAll W).1.take (i + 1)).flatMap (rowsOf e dS) = ((prAll W).1.take i).flatMap (rowsOf e dS) ++ rowsOf e dS r := by rw [take_s hm, List.flatMap_append]; simp
          have fin : ∀ L, G' L = none → ∀ rs, rs = rowsOf e dS r → ∃ xs ys, gup G' L (.lst (rs.map uR)) XL = some (.lst xs) ∧ gup G' L (.lst (rs.map uR)) L = some (.lst ys) ∧ decide (xs.length + ys.length ≤ 100000) = true ∧ Wk2 (fun σ G' => ∃ z1, σ = [some (.ref a), some (.int e), some (uO sp), some (.ref PL), some (.ref RL), some (.int (unreadI W)), some (.ref XL), z1, none, none, none, none, none] ∧ L3.Sub (gup G2 XL (.lst ((((prAll W).1.take (i + 1)).flatMap (rowsOf e dS)).map uR))) G') [some (.ref a), some (.int e), some (uO sp), some (.ref PL), some (.ref RL), some (.int (unreadI W)), some (.ref XL), some (uG r), none, none, none, none, none] (gup (gup G' L (.lst (rs.map uR))) XL (.lst (xs ++ ys))) := fun L hL rs ers => by
            subst ers
            have hs1 := Sub.new (o := .lst ((rowsOf e dS r).map uR)) hs (hs.free hL)
            refine ⟨_, _, hs1.at, gup_same, decide_eq_true (by rw [List.length_map, List.length_map]; omega), ?_⟩
            refine Wk2.of ⟨_, rfl, ?_⟩
            rw [enx, List.map_append]
            exact hs1.mut
          refine ⟨dat_int _, dat_int _, ?_⟩
          by_cases h1 : e = 1
          · refine ifT (by rw [eq3_int, h1]; rfl) ?_
            refine ⟨⟨_, hs.at⟩, r, rfl, (by intro z; rw [z] at b2; cases b2), by omega, fun L hL => ?_⟩
            exact fin L hL (ringSwaps r) (by unfold rowsOf; rw [if_pos h1])
          · refine ifF (by rw [eq3_int]; simp [h1]) ?_
            have hWm : ∃ m, m ∈ W := by obtain ⟨_, m, hm, _⟩ := prAll_ring hrm; exact ⟨m, hm⟩
            obtain ⟨m0, hm0⟩ := hWm
            obtain ⟨q1, q2⟩ := hsp m0 hm0 h1
            have erw : rowsOf e dS r = ringMoves r dS := if_neg h1
            cases sp with
            | none =>
              obtain ⟨k, m', e1, e2, e3⟩ := q1 rfl
              have hui : unreadI W = (k : Nat) := by unfold unreadI; rw [e1]
              refine ⟨⟨_, hs.at⟩, _, uM m', hs _ _ (hp3 _), atI_eq (i := k) hui (by rw [List.getElem?_map, e2]; rfl), uL m'.2, rfl, r, m'.2, rfl, b2, by omega, fun L hL => ?_⟩
              exact fin L hL (ringMoves r m'.2) (by rw [erw, e3])
            | some x =>
              refine ⟨⟨_, hs.at⟩, r, x, rfl, b2, by omega, fun L hL => ?_⟩
              exact fin L hL (ringMoves r x) (by rw [erw, q2 x rfl])
        · rintro σ' G3 ⟨z1, rfl, hs⟩
          rw [List.take_length] at hs
          have hrG := hs _ _ (hr3 _)
          have hpG := hs _ _ (hp3 _)
          have hfl := flat_len (rowsOf e dS) 103 (prAll W).1 fun y hy => (hrow y hy).1
          have hfl2 : (prAll W).1.length * 103 ≤ 100 * 103 := Nat.mul_le_mul (by omega) (Nat.le_refl _)
          have hfl3 : (prAll W).1.flatten.length ≤ 10000 := by rw [← prAll_flat]; exact Nat.le_trans hrl2 (Nat.mul_le_mul hpl hpl)
          try dsimp only [seq3, asg3, n3, v3, drop3, ret3, next3, List.set_cons_zero, List.set_cons_succ, List.getElem?_cons_zero, List.getElem?_cons_succ, start3, List.map_cons, List.map_nil, List.length_cons, List.length_nil, List.replicate, List.cons_append, List.nil_append, Nat.reduceSub, Nat.reduceAdd]
          refine dc2_of ?_
          refine ⟨_, hrG, ?_⟩
          refine dc2K_of (prAll W).1 (fun σ => σ.length = 13) (fun G' s => s _ _ hrG) (by omega) (fun r hr G' Z hZ => hZ _ rfl) (fun l σ2 G' Y h2 hy => v3_of (w := uL l) ?_ hy) fun DD kvs hDD S => ?_
          · exact List.getElem?_set_self (by show 11 < (σ2.set 11 none).length; rw [List.length_set, h2]; decide)
          have hs1 := Sub.new (o := .dT (dL U.bl kvs)) hs (hs.free hDD)
          have hd1 : gup G3 DD (.dT (dL U.bl kvs)) DD = some (.dT (dL U.bl kvs)) := gup_same
          have hp1 : gup G3 DD (.dT (dL U.bl kvs)) PL = some (.lst (W.map uM)) := by rw [gup_ne (gne_none hpG hDD)]; exact hpG
          generalize gup G3 DD (.dT (dL U.bl kvs)) = G4 at hs1 hd1 hp1 ⊢
          refine ⟨⟨_, hs1.at⟩, ?_⟩
          try dsimp only [retN3, ret3, next3, seq3, asg3, n3, v3, c3, drop3, ret3, next3, te3, op3, ifS3, cb3, cons3, nil3, call3, lst3, tup3, un3, List.set_cons_zero, List.set_cons_succ, List.getElem?_cons_zero, List.getElem?_cons_succ, start3, List.map_cons, List.map_nil, List.length_cons, List.length_nil, List.replicate, List.cons_append, List.nil_append, Nat.reduceSub, Nat.reduceAdd]
          refine lc_of ?_
          refine ⟨_, hp1, ?_⟩
          refine lcK_of W uM (fun m => decide (m.1 ∉ (prAll W).2)) (fun m => m) uM (fun G' s => s _ _ hp1) (by omega) (fun y hy G' hs Y N hy hn => ?_) fun LL hLL => ?_
          · refine ⟨uL y.1, rfl, _, dlook_dL _ (hs _ _ hd1) y.1, ?_⟩
            rw [prAll_flat] at hy hn
            by_cases h : y.1 ∈ (prAll W).1.flatten
            · exact ifF (by rw [S.isSome, decide_eq_true h]; rfl) (hn (by simp only [h]; rfl) _ (Sub.refl _))
            · exact ifT (by rw [S.isSome, decide_eq_false h]; rfl) (hy (by simp only [h]; rfl) _ (Sub.refl _))
          rw [List.map_id']
          rw [show (W.filter fun m => decide (m.1 ∉ (prAll W).2)) = leftOf W from rfl]
          have hll : (leftOf W).length ≤ 100 := Nat.le_trans (List.length_filter_le _ _) hpl
          have hgl := looseGo_len (leftOf W).length (leftOf W)
          have hs2 := Sub.new (o := .lst ((leftOf W).map uM)) hs1 (hs1.free hLL)
          refine ⟨LL, leftOf W, rfl, gup_same, by omega, hok, fun L2 hL2 => ?_⟩
          have hs3 := Sub.new (o := .lst ((looseGo (leftOf W).length (leftOf W)).map uR)) hs2 (hs2.free hL2)
          refine ⟨_, _, hs3.at, gup_same, decide_eq_true (by rw [List.length_map, List.length_map]; omega), ?_⟩
          refine ⟨_, gup_same, ?_⟩
          refine Wk.sub ?_ (s2.trans ((Sub.new (Sub.refl G2) hXL).trans hs3.mut))
          rw [← List.map_append]
          exact hQ
end
end K39
end
section
set_option Elab.async false
set_option linter.all false
set_option maxRecDepth 100000
set_option maxHeartbeats 2000000
/-! in_step at a list with a bad pair -/
namespace K39
open PySem L2 L3
section
variable {P : Program} {w : World} {K : PySem.W.Frag} {mg : Str → Option Value} {base : Heap}
def spISb (C : Addr) : Sp3 := fun ws G _ E => ∃ (a : Addr) (W : List Mv) (k : Nat) (e : Int) (sp : Option Loc), ws = [.ref a, .int e, uO sp] ∧ G a = some (.lst (W.map uM)) ∧ W.length ≤ 90 ∧ BadIx W k ∧ ∀ d, G d = none → E (.ref C) (some d) (gup G d (.xd [("at", .int (k : Nat))]))
theorem ok_isB {C : Addr} {f f1 : Addr} {fd fd1 : FuncData} (F : Fun K "in_step" "in_step" s_in_step f fd) (T : Tg mg) (G1 : FnOk P w K mg base (L2N.CX P w) 1 f1 fd1 ["moves"] (lowSp K (spCTb C))) (g1 : mg "check_targets" = some (.ref f1)) (k1 : PySem.W.keepIn K (.ref f1) = true) (b1 : Binds K fd1 ["moves"] []) :
    FnOk P w K mg base (L2N.CX P w) 3 f fd ["moves", "exchange", "spare"] (lowSp K (spISb C)) := by
  refine Fun_okX3 F sc_in_step (fun ws G Q E h => by obtain ⟨_, _, _, _, _, rfl, _⟩ := h; rfl) (fun cdv A outer s H E ws G Q E3 hr h => ?_)
  have hr1 : Room 1 _ := hr.mono (by decide)
  obtain ⟨a, W, k, e, sp, rfl, ha, hlen, B, hE⟩ := h
  refine ⟨_, (ss_cons (s_exprX G1 hr1 g1 k1 b1 (L2N.takes_of rfl rfl rfl rfl) (a3cons (e3v 0) a3nil)) ss_never), ?_⟩
  exact ⟨a, W, k, rfl, ha, hlen, B, fun d hd => ⟨_, Sub.refl _, hE d hd⟩⟩
end
end K39
end
section
set_option Elab.async false
set_option linter.all false
set_option maxRecDepth 100000
set_option maxHeartbeats 2000000
namespace K39
open PySem L2 L3
theorem ps_at {v : Int} (h0 : 0 ≤ v) (h1 : v < 2) : ∃ k : Kd, k ≠ .out ∧ L2.atI [U.str "p", U.str "s"] v = some (.str k.str) := by
  by_cases h : v = 0
  · subst h
    exact ⟨.p, by decide, rfl⟩
  · have : v = 1 := by omega
    subst this
    exact ⟨.s, by decide, rfl⟩
theorem step_c {st : Int} {i : Nat} (h0 : 1 ≤ st) (h1 : st ≤ 9) (hi : i < 6) : CMul st (i : Int) := mul_c (by omega) (by omega)
/-- the places as far as they are drawn -/
structure Spt (st : Int) (xs : List Loc) : Prop where
  at' : ∀ (j : Nat) (x : Loc), xs[j]? = some x → x.2 = st * (j : Nat) ∧ x.1 ≠ .out
theorem Spt.snoc {st : Int} {xs : List Loc} (h : Spt st xs) {k : Kd} (hk : k ≠ .out) : Spt st (xs ++ [(k, st * (xs.length : Nat))]) := ⟨fun j x e => by
  by_cases hj : j < xs.length
  · rw [List.getElem?_append_left hj] at e
    exact h.at' j x e
  · rw [List.getElem?_append_right (by omega)] at e
    have hj0 : j - xs.length = 0 := by
      have := (List.getElem?_eq_some_iff.mp e).1
      simp at this
      omega
    rw [hj0] at e
    cases e
    have : j = xs.length := by omega
    rw [this]
    exact ⟨rfl, hk⟩⟩
theorem Spt.nodup {st : Int} (h1 : 1 ≤ st) {xs : List Loc} (h : Spt st xs) : xs.Nodup := by
  unfold List.Nodup
  rw [List.pairwise_iff_getElem]
  intro i j hi hj hij e
  have a := (h.at' i _ (List.getElem?_eq_getElem hi)).1
  have b := (h.at' j _ (List.getElem?_eq_getElem hj)).1
  rw [← e, a] at b
  have h2 : (i : Int) < j := by omega
  have := Int.mul_lt_mul_of_pos_left h2 (by omega : 0 < st)
  omega
theorem Spt.bd {st : Int} (h1 : 1 ≤ st) (h9 : st ≤ 9) {xs : List Loc} (h : Spt st xs) (hl : xs.length ≤ 6) : ∀ x ∈ xs, x.1 ≠ .out ∧ 0 ≤ x.2 ∧ x.2 ≤ 54 := fun x hx => by
  obtain ⟨j, hj, e⟩ := List.mem_iff_getElem.mp hx
  obtain ⟨a, b⟩ := h.at' j x (by rw [List.getElem?_eq_getElem hj, e])
  have h3 : (j : Int) ≤ 6 := by omega
  have h4 : st * (j : Int) ≤ 9 * 6 := Int.mul_le_mul h9 h3 (by omega) (by omega)
  have h5 : 0 ≤ st * (j : Int) := Int.mul_nonneg (by omega) (by omega)
  exact ⟨b, by omega, by omega⟩
section
variable {P : Program} {w : World} {K : PySem.W.Frag} {mg : Str → Option Value} {base : Heap}
abbrev s_law_spots : Stmt := topS 17
abbrev law_spots_N : List Str := ["state", "step", "spots", "k"]
theorem sc_law_spots : FnScope law_spots_N ["state"] (defScope s_law_spots) := ⟨rfl, rfl, rfl, by decide +kernel, rfl, by decide +kernel, by decide +kernel⟩
abbrev s_law_moves : Stmt := topS 18
abbrev law_moves_N : List Str := ["state", "spots", "pool", "goals", "k", "heads", "first", "wild", "menu", "order", "moves", "at"]
theorem sc_law_moves : FnScope law_moves_N ["state", "spots"] (defScope s_law_moves) := ⟨rfl, rfl, rfl, by decide +kernel, rfl, by decide +kernel, by decide +kernel⟩
def spSpots : Sp3 := fun ws G Q _ => ∃ (s c : Addr), ws = [.ref s] ∧ Law s c G ∧ ∀ (spots : List Loc) (L : Addr) (G' : G3), 3 ≤ spots.length → spots.length ≤ 6 → spots.Nodup → (∀ x ∈ spots, x.1 ≠ .out ∧ 0 ≤ x.2 ∧ x.2 ≤ 54) → Law s c G' → Fr s c G G' → G L = none → L ≠ s → L ≠ c → G' L = some (.lst (spots.map uL)) → Q (.ref L) G'
theorem ok_spots {f fT : Addr} {fd fdT : FuncData} (F : Fun K "_law_spots" "_law_spots" s_law_spots f fd) (T : Tg mg) (O_law_take : Own P w K mg base 1 "_law_take" ["state", "m"] spTake fT fdT) : FnOk P w K mg base CX0 2 f fd ["state"] (lowSp K spSpots) := by
  refine Fun_ok3 F sc_law_spots (fun ws G Q E h => by obtain ⟨_, _, rfl, _⟩ := h; rfl) (fun cdv A outer s H E ws G Q E3 hr h => ?_)
  have hr_law_take : Room 1 _ := hr
  obtain ⟨s, c, rfl, hl, hq⟩ := h
  refine ⟨_, (ss_cons (s_set (i := 1) sc_law_spots.nd (e3op o_add e3int (e3call O_law_take.G hr_law_take O_law_take.g O_law_take.kp O_law_take.b pass0 (a3cons (e3v 0) (a3cons e3int a3nil)))))
      (ss_cons (s_set (i := 2) sc_law_spots.nd (e3lst a3nil))
      (ss_cons (s_for PassesOwn.never rfl (i_range1 T.range e3int) (pg_name (i := 3) sc_law_spots.nd rfl (by first | exact Or.inl rfl | exact Or.inr rfl)) gl_name
      (ss_one (s_expr (e3bmL PySem.F.slot_list_append PySem.F.type_list_append m_append (e3v 2) (a3cons (e3tup (a3cons (e3ix (e3lst (a3cons e3str (a3cons e3str a3nil))) (e3call O_law_take.G hr_law_take O_law_take.g O_law_take.kp O_law_take.b pass0 (a3cons (e3v 0) (a3cons e3int a3nil)))) (a3cons (e3op o_mul (e3v 1) (e3v 3)) a3nil))) a3nil)))))
      (ss_one (s_ret (e3sl (e3v 2) o3none (o3some (e3op o_add e3int (e3call O_law_take.G hr_law_take O_law_take.g O_law_take.kp O_law_take.b pass0 (a3cons (e3v 0) (a3cons e3int a3nil))))))))))), ?_⟩
  refine ⟨s, c, 9, rfl, hl, by decide, by decide, fun st G2 hs0 hs1 hl2 f12 => ?_⟩
  refine ⟨rfl, fun V hV => ?_⟩
  have nVs := hl2.ns hV
  have nVc := hl2.nc hV
  have hGV := f12.free hl2 hV
  try dsimp only [seq3, asg3, n3, v3, drop3, ret3, next3, List.set_cons_zero, List.set_cons_succ, List.getElem?_cons_zero, List.getElem?_cons_succ, start3, List.map_cons, List.map_nil, List.length_cons, List.length_nil, List.replicate, List.cons_append, List.nil_append, Nat.reduceSub, Nat.reduceAdd]
  refine for_of ?_
  refine ⟨rfl, ?_⟩
  refine forK_of 6 (by rw [rgU_len]; rfl) (fun i σ G' => ∃ (xs : List Loc) (z1 : Option U), σ = [some (.ref s), some (.int (1 + st)), some (.ref V), z1] ∧ Law s c G' ∧ Fr s c G G' ∧ G' V = some (.lst (xs.map uL)) ∧ xs.length = i ∧ Spt (1 + st) xs)
    ⟨[], _, rfl, hl2.mut nVs nVc, f12.mut hGV, gup_same, rfl, ⟨fun j x e => by simp at e⟩⟩ (fun _ _ _ _ _ => trivial) ?_ ?_
  · rintro i x σ' G' hi hx ⟨xs, z1, rfl, hl', f', hV, hxl, hsp⟩
    have hx' : x = .int ((i : Nat) : Int) := by
      rw [rgU_get (by exact hi)] at hx
      cases hx
      rw [Int.zero_add]
    subst hx'
    refine ⟨⟨_, hV⟩, rfl, fun p1 h1 => ?_⟩
    have nV1 := gne_none hV h1
    have n1s := hl'.ns h1
    have n1c := hl'.nc h1
    refine ⟨s, c, 2, rfl, hl'.mut n1s n1c, by decide, by decide, fun v G4 hv0 hv1 hl4 f4 => ?_⟩
    obtain ⟨k, hk, hat⟩ := ps_at hv0 hv1
    have h14 := f4 _ _ n1s n1c gup_same
    have f' := (f'.mut (f'.free hl' h1)).trans f4
    have hV := f4 _ _ nVs nVc (by rw [gup_ne nV1]; exact hV)
    refine ⟨_, .str k.str, h14, hat, step_c (by omega) (by omega) hi, rfl, _, hV, decide_eq_true (by rw [List.length_map]; omega), ?_⟩
    refine Wk2.of ⟨xs ++ [(k, (1 + st) * (i : Nat))], _, rfl, hl4.mut nVs nVc, f'.mut hGV, by rw [gup_same, List.map_append]; rfl, by rw [List.length_append, hxl]; rfl, by rw [← hxl]; exact hsp.snoc hk⟩
  · rintro σ' G' ⟨xs, z1, rfl, hl', f', hV, hxl, hsp⟩
    refine ⟨s, c, 4, rfl, hl', by decide, by decide, fun v G5 hv0 hv1 hl5 f5 => ?_⟩
    have hV5 := f5 _ _ nVs nVc hV
    obtain ⟨n, rfl⟩ : ∃ n : Nat, v = (n : Int) := ⟨v.toNat, by omega⟩
    refine ⟨_, hV5, fun p hp => ?_⟩
    have e3 : (3 : Int) + (n : Int) = ((3 + n : Nat) : Int) := by omega
    rw [e3, cut_to uL xs (3 + n) (by omega)]
    have gp := (f'.trans f5).free hl5 hp
    exact Wk.of (hq (xs.take (3 + n)) p _ (by rw [List.length_take]; omega) (by rw [List.length_take]; omega) ((List.take_sublist _ _).nodup (hsp.nodup (by omega))) (fun x hx => hsp.bd (by omega) (by omega) (by omega) x (List.mem_of_mem_take hx)) (hl5.mut (hl5.ns hp) (hl5.nc hp)) ((f'.trans f5).mut gp) gp (hl5.ns hp) (hl5.nc hp) gup_same)
end
end K39
end
section
set_option Elab.async false
set_option linter.all false
set_option maxRecDepth 100000
set_option maxHeartbeats 2000000
namespace K39
open PySem L2 L3
/-- no built-in name is written over, k40 -/
structure Tg2 (mg : Str → Option Value) : Prop extends Tg mg where
  min : mg "min" = none
  any : mg "any" = none
section
variable {P : Program} {w : World} {K : PySem.W.Frag} {mg : Str → Option Value} {base : Heap}
def spMoves : Sp3 := fun ws G Q _ => ∃ (s c S : Addr) (spots : List Loc), ws = [.ref s, .ref S] ∧ Law s c G ∧ G S = some (.lst (spots.map uL)) ∧ S ≠ s ∧ S ≠ c ∧ 3 ≤ spots.length ∧ spots.length ≤ 6 ∧ spots.Nodup ∧
  ∀ (moves : List Mv) (L : Addr) (G' : G3), Law s c G' → Fr s c G G' → G L = none → L ≠ s → L ≠ c → G' L = some (.lst (moves.map uM)) → moves.length ≤ 5 → (goals moves).Nodup → (∀ m ∈ moves, m.2 ∈ spots) → (∀ m ∈ moves, m.1 ∈ spots ∨ m.1 = out0) → Q (.ref L) G'
theorem ok_moves {f fT : Addr} {fd fdT : FuncData} (F : Fun K "_law_moves" "_law_moves" s_law_moves f fd) (T : Tg2 mg) (O_law_take : Own P w K mg base 1 "_law_take" ["state", "m"] spTake fT fdT) : FnOk P w K mg base CX0 2 f fd ["state", "spots"] (lowSp K spMoves) := by
  refine Fun_ok3 F sc_law_moves (fun ws G Q E h => by obtain ⟨_, _, _, _, rfl, _⟩ := h; rfl) (fun cdv A outer s H E ws G Q E3 hr h => ?_)
  have hr_law_take : Room 1 _ := hr
  have hu64 := hr.units
  obtain ⟨s, c, S, spots, rfl, hl, hS, nSs, nSc, hs3, hs6, hsn, hq⟩ := h
  refine ⟨_, (ss_cons (s_set (i := 2) sc_law_moves.nd (e3T k_list T.list (a3cons (e3v 1) a3nil)))
      (ss_cons (s_set (i := 3) sc_law_moves.nd (e3lst a3nil))
      (ss_cons (s_for PassesOwn.never rfl (i_range1 T.range (e3call O_law_take.G hr_law_take O_law_take.g O_law_take.kp O_law_take.b pass0 (a3cons (e3v 0) (a3cons (e3op o_add (e3B (k_min rfl) T.min (a3cons e3int (a3cons (e3B k_len T.len (a3cons (e3v 1) a3nil)) a3nil))) e3int) a3nil)))) (pg_name (i := 4) sc_law_moves.nd rfl (by first | exact Or.inl rfl | exact Or.inr rfl)) gl_name
      (ss_one (s_expr (e3bmL PySem.F.slot_list_append PySem.F.type_list_append m_append (e3v 3) (a3cons (e3bmL PySem.F.slot_list_pop PySem.F.type_list_pop m_popAt (e3v 2) (a3cons (e3call O_law_take.G hr_law_take O_law_take.g O_law_take.kp O_law_take.b pass0 (a3cons (e3v 0) (a3cons (e3B k_len T.len (a3cons (e3v 2) a3nil)) a3nil))) a3nil)) a3nil)))))
      (ss_cons (s_set (i := 5) sc_law_moves.nd (e3T k_list T.list (a3cons (e3v 3) a3nil)))
      (ss_cons (s_set (i := 6) sc_law_moves.nd e3int)
      (ss_cons (s_for PassesOwn.never rfl (i_range1 T.range (e3B k_len T.len (a3cons (e3v 3) a3nil))) (pg_name (i := 4) sc_law_moves.nd rfl (by first | exact Or.inl rfl | exact Or.inr rfl)) gl_name
      (ss_cons (s_if (t3cmp o_gt (e3v 4) (e3v 6))
        (ss_one (s_setL (e3v 5) (e3v 4) (e3ix (e3v 3) (e3op o_sub (e3v 4) e3int))))
        ss_nil)
        (ss_one (s_if (PW.pt (w3or (t3cmp (o_eq hu64) (e3op o_add (e3v 4) e3int) (e3B k_len T.len (a3cons (e3v 3) a3nil))) (w3or1 (t3cmp (o_eq hu64) (e3call O_law_take.G hr_law_take O_law_take.g O_law_take.kp O_law_take.b pass0 (a3cons (e3v 0) (a3cons e3int a3nil))) e3int))))
        (ss_cons (s_setL (e3v 5) (e3v 6) (e3ix (e3v 3) (e3v 4)))
          (ss_one (s_set (i := 6) sc_law_moves.nd (e3op o_add (e3v 4) e3int))))
        ss_nil))))
      (ss_cons (s_set (i := 7) sc_law_moves.nd (e3call O_law_take.G hr_law_take O_law_take.g O_law_take.kp O_law_take.b pass0 (a3cons (e3v 0) (a3cons e3int a3nil))))
      (ss_cons (s_set (i := 8) sc_law_moves.nd (e3op o_cat (e3v 1) (e3lst (a3cons (e3tup (a3cons e3str (a3cons e3int a3nil))) a3nil))))
      (ss_cons (s_for PassesOwn.never rfl (i_range1 T.range (e3B k_len T.len (a3cons (e3v 3) a3nil))) (pg_name (i := 4) sc_law_moves.nd rfl (by first | exact Or.inl rfl | exact Or.inr rfl)) gl_name
      (ss_one (s_if (t3cmp o_lt (e3call O_law_take.G hr_law_take O_law_take.g O_law_take.kp O_law_take.b pass0 (a3cons (e3v 0) (a3cons e3int a3nil))) (e3op o_mul (e3v 7) e3int))
        (ss_one (s_setL (e3v 5) (e3v 4) (e3ix (e3v 8) (e3call O_law_take.G hr_law_take O_law_take.g O_law_take.kp O_law_take.b pass0 (a3cons (e3v 0) (a3cons (e3B k_len T.len (a3cons (e3v 8) a3nil)) a3nil))))))
        ss_nil)))
      (ss_cons (s_set (i := 9) sc_law_moves.nd (e3listRg rfl T.list T.range (e3B k_len T.len (a3cons (e3v 3) a3nil))))
      (ss_cons (s_set (i := 10) sc_law_moves.nd (e3lst a3nil))
      (ss_cons (s_for PassesOwn.never rfl (i_range1 T.range (e3B k_len T.len (a3cons (e3v 3) a3nil))) (pg_name (i := 4) sc_law_moves.nd rfl (by first | exact Or.inl rfl | exact Or.inr rfl)) gl_name
      (ss_cons (s_set (i := 11) sc_law_moves.nd (e3bmL PySem.F.slot_list_pop PySem.F.type_list_pop m_popAt (e3v 9) (a3cons (e3call O_law_take.G hr_law_take O_law_take.g O_law_take.kp O_law_take.b pass0 (a3cons (e3v 0) (a3cons (e3B k_len T.len (a3cons (e3v 9) a3nil)) a3nil))) a3nil)))
        (ss_one (s_expr (e3bmL PySem.F.slot_list_append PySem.F.type_list_append m_append (e3v 10) (a3cons (e3tup (a3cons (e3ix (e3v 5) (e3v 11)) (a3cons (e3ix (e3v 3) (e3v 11)) a3nil))) a3nil))))))
      (ss_one (s_ret (e3v 10))))))))))))))), ?_⟩
  refine ⟨_, hS, fun PL hPL => ⟨rfl, fun GL hGL => ?_⟩⟩
  have nPs := hl.ns hPL
  have nPc := hl.nc hPL
  have nPG : PL ≠ GL := gne_none gup_same hGL
  have gG : G GL = none := by rw [gup_ne nPG.symm] at hGL; exact hGL
  have nGs := hl.ns gG
  have nGc := hl.nc gG
  try dsimp only [seq3, asg3, n3, v3, drop3, ret3, next3, List.set_cons_zero, List.set_cons_succ, List.getElem?_cons_zero, List.getElem?_cons_succ, start3, List.map_cons, List.map_nil, List.length_cons, List.length_nil, List.replicate, List.cons_append, List.nil_append, Nat.reduceSub, Nat.reduceAdd]
  refine for_of ?_
  have hS1 : gup G PL (.lst (spots.map uL)) S = some (.lst (spots.map uL)) := by rw [gup_ne (gne_none hS hPL)]; exact hS
  have hS2 : gup (gup G PL (.lst (spots.map uL))) GL (.lst []) S = some (.lst (spots.map uL)) := by rw [gup_ne (gne_none hS1 hGL)]; exact hS1
  have hmin : ∃ m : Int, m = (if ((spots.map uL).length : Int) < 5 then ((spots.map uL).length : Int) else 5) ∧ 3 ≤ m ∧ m ≤ 5 ∧ m ≤ spots.length := by
    refine ⟨_, rfl, ?_⟩
    rw [List.length_map]
    split <;> omega
  refine .inl ⟨_, hS2, ?_⟩
  refine ⟨s, c, _, rfl, (hl.mut nPs nPc).mut nGs nGc, ?_, ?_, fun v G2 hv0 hv1 hl2 f2 => ⟨decide_eq_true ?_, ?_⟩⟩
  · split <;> omega
  · split <;> omega
  · have := hv1
    split at this <;> omega
  obtain ⟨n, rfl⟩ : ∃ n : Nat, v = (n : Int) := ⟨v.toNat, by omega⟩
  have fG : Fr s c G (gup (gup G PL (.lst (spots.map uL))) GL (.lst [])) := (Fr.mut (Fr.refl G) hPL).mut gG
  refine forK_of n (by rw [rgU_len, Int.toNat_natCast]) (fun i σ G' => ∃ (pool gs : List Loc) (z1 : Option U), σ = [some (.ref s), some (.ref S), some (.ref PL), some (.ref GL), z1, none, none, none, none, none, none, none] ∧ Law s c G' ∧ Fr s c G G' ∧ G' PL = some (.lst (pool.map uL)) ∧ G' GL = some (.lst (gs.map uL)) ∧ List.Perm (gs ++ pool) spots ∧ gs.length = i)
    ⟨spots, [], _, rfl, hl2, fG.trans f2, f2 _ _ nPs nPc (by rw [gup_ne nPG]; exact gup_same), f2 _ _ nGs nGc gup_same, List.Perm.refl _, rfl⟩ (fun _ _ _ _ _ => trivial) ?_ ?_
  · rintro i x σ' G' hi hx ⟨pool, gs, z1, rfl, hl, f, hP, hG, hpm, hgl⟩
    have hpl := hpm.length_eq
    rw [List.length_append] at hpl
    refine ⟨⟨_, hG⟩, ⟨_, hP⟩, .inl ⟨_, hP, s, c, _, rfl, hl, by rw [List.length_map]; omega, by rw [List.length_map]; omega, fun v G3 hv0 hv1 hl3 f3 => ?_⟩⟩
    rw [List.length_map] at hv1
    obtain ⟨k, rfl⟩ : ∃ k : Nat, v = (k : Int) := ⟨v.toNat, by omega⟩
    have hk : k < pool.length := by omega
    have hx0 : pool[k]? = some pool[k] := List.getElem?_eq_getElem hk
    generalize pool[k] = x0 at hx0
    have hP3 := f3 _ _ nPs nPc hP
    have hG3 := f3 _ _ nGs nGc hG
    refine ⟨_, k, uL x0, hP3, decide_eq_true (by omega), (by rw [List.length_map]; exact seqI hk), (by rw [List.getElem?_map, hx0]; rfl), _, (by rw [gup_ne nPG.symm]; exact hG3), decide_eq_true (by rw [List.length_map]; omega), ?_⟩
    rw [erase_map]
    refine Wk2.of ⟨pool.eraseIdx k, gs ++ [x0], _, rfl, (hl3.mut nPs nPc).mut nGs nGc, ((f.trans f3).mut hPL).mut gG, by rw [gup_ne nPG]; exact gup_same, by rw [gup_same, List.map_append]; rfl, perm_pick hpm hx0, by rw [List.length_append, hgl]; rfl⟩
  · rintro σ' G1 ⟨pool, gs, z1, rfl, hl, f, hP, hG, hpm, hgl⟩
    have hpl := hpm.length_eq
    have hgm : ∀ x ∈ gs, x ∈ spots := fun x hx => hpm.subset (List.mem_append_left _ hx)
    have hgn : gs.Nodup := (List.nodup_append.mp (hpm.nodup_iff.mpr hsn)).1
    refine ⟨_, hG, fun HL hHL => ?_⟩
    have gH := f.free hl hHL
    have nHs := hl.ns hHL
    have nHc := hl.nc hHL
    have nHG : HL ≠ GL := (gne_none hG hHL).symm
    try dsimp only [seq3, asg3, n3, v3, drop3, ret3, next3, List.set_cons_zero, List.set_cons_succ, List.getElem?_cons_zero, List.getElem?_cons_succ, start3, List.map_cons, List.map_nil, List.length_cons, List.length_nil, List.replicate, List.cons_append, List.nil_append, Nat.reduceSub, Nat.reduceAdd]
    refine for_of ?_
    refine .inl ⟨_, (by rw [gup_ne nHG.symm]; exact hG), decide_eq_true (by rw [List.length_map]; omega), ?_⟩
    refine forK_of n (by rw [rgU_len, List.length_map, hgl]; rfl) (fun i σ G' => ∃ (heads : List Loc) (first : Nat) (z1 : Option U), σ = [some (.ref s), some (.ref S), some (.ref PL), some (.ref GL), z1, some (.ref HL), some (.int first), none, none, none, none, none] ∧ Law s c G' ∧ Fr s c G G' ∧ G' GL = some (.lst (gs.map uL)) ∧ G' HL = some (.lst (heads.map uL)) ∧ heads.length = n ∧ (∀ x ∈ heads, x ∈ spots) ∧ first ≤ i)
      ⟨gs, 0, _, rfl, hl.mut nHs nHc, f.mut gH, by rw [gup_ne nHG.symm]; exact hG, gup_same, hgl, hgm, Nat.le_refl _⟩ (fun _ _ _ _ _ => trivial) ?_ ?_
    · rintro i x σ' G' hi hx ⟨heads, first, z1, rfl, hl, f, hG, hH, hhl, hhm, hfi⟩
      have hx' : x = .int ((i : Nat) : Int) := by
        rw [rgU_get (by rw [List.length_map, hgl]; exact hi)] at hx
        cases hx
        rw [Int.zero_add]
      subst hx'
      by_cases hkf : first < i
      · refine ifT (decide_eq_true (by omega)) ?_
        refine ⟨_, uL (at0 gs (i - 1)), hG, at0J (by omega) (by omega), _, i, hH, (by rw [List.length_map, hhl]; exact ixN_nat hi), ?_⟩
        rw [show (heads.map uL).set i (uL (at0 gs (i - 1))) = (heads.set i (at0 gs (i - 1))).map uL by rw [List.map_set]]
        have hl := hl.mut (o := .lst ((heads.set i (at0 gs (i - 1))).map uL)) nHs nHc
        have f := f.mut (o := .lst ((heads.set i (at0 gs (i - 1))).map uL)) gH
        have hG : gup G' HL (.lst ((heads.set i (at0 gs (i - 1))).map uL)) GL = some (.lst (gs.map uL)) := by rw [gup_ne nHG.symm]; exact hG
        have hH : gup G' HL (.lst ((heads.set i (at0 gs (i - 1))).map uL)) HL = some (.lst ((heads.set i (at0 gs (i - 1))).map uL)) := gup_same
        have hhm := set_mem (k := i) hhm (at0_mem hgm (show i - 1 < gs.length by omega))
        have hhl : (heads.set i (at0 gs (i - 1))).length = n := by rw [List.length_set]; exact hhl
        generalize heads.set i (at0 gs (i - 1)) = heads at hl f hG hH hhm hhl ⊢
        generalize gup G' HL (.lst (heads.map uL)) = G' at hl f hG hH ⊢
        refine .inl ⟨_, hG, dat_int _, dat_int _, ?_⟩
        by_cases hk : i + 1 = n
        · refine ifT (by rw [eq3_int, List.length_map, hgl, ← hk]; simp) ?_
          refine ⟨_, uL (at0 gs i), hG, at0I (by omega), _, first, hH, (by rw [List.length_map, hhl]; exact ixN_nat (by omega)), ?_⟩
          rw [show (heads.map uL).set first (uL (at0 gs i)) = (heads.set first (at0 gs i)).map uL by rw [List.map_set]]
          refine Wk2.of ⟨heads.set first (at0 gs i), i + 1, _, rfl, hl.mut nHs nHc, f.mut gH, by rw [gup_ne nHG.symm]; exact hG, gup_same, by rw [List.length_set]; exact hhl, set_mem hhm (at0_mem hgm (by omega)), Nat.le_refl _⟩
        · refine ifF (by rw [eq3_int, List.length_map, hgl]; simp; omega) ?_
          refine ⟨s, c, 3, rfl, hl, by decide, by decide, fun v G9 hv0 hv1 hl9 f9 => ?_⟩
          have hG := f9 _ _ nGs nGc hG
          have hH := f9 _ _ nHs nHc hH
          have f := f.trans f9
          refine ⟨dat_int _, dat_int _, ?_⟩
          by_cases hv : v = 0
          · refine ifT (by rw [eq3_int, hv]; rfl) ?_
            refine ⟨_, uL (at0 gs i), hG, at0I (by omega), _, first, hH, (by rw [List.length_map, hhl]; exact ixN_nat (by omega)), ?_⟩
            rw [show (heads.map uL).set first (uL (at0 gs i)) = (heads.set first (at0 gs i)).map uL by rw [List.map_set]]
            refine Wk2.of ⟨heads.set first (at0 gs i), i + 1, _, rfl, hl9.mut nHs nHc, f.mut gH, by rw [gup_ne nHG.symm]; exact hG, gup_same, by rw [List.length_set]; exact hhl, set_mem hhm (at0_mem hgm (by omega)), Nat.le_refl _⟩
          · refine ifF (by rw [eq3_int]; simp [hv]) ?_
            exact Wk2.of ⟨heads, first, _, rfl, hl9, f, hG, hH, hhl, hhm, by omega⟩
      · refine ifF (decide_eq_false (by omega)) ?_
        refine .inl ⟨_, hG, dat_int _, dat_int _, ?_⟩
        by_cases hk : i + 1 = n
        · refine ifT (by rw [eq3_int, List.length_map, hgl, ← hk]; simp) ?_
          refine ⟨_, uL (at0 gs i), hG, at0I (by omega), _, first, hH, (by rw [List.length_map, hhl]; exact ixN_nat (by omega)), ?_⟩
          rw [show (heads.map uL).set first (uL (at0 gs i)) = (heads.set first (at0 gs i)).map uL by rw [List.map_set]]
          refine Wk2.of ⟨heads.set first (at0 gs i), i + 1, _, rfl, hl.mut nHs nHc, f.mut gH, by rw [gup_ne nHG.symm]; exact hG, gup_same, by rw [List.length_set]; exact hhl, set_mem hhm (at0_mem hgm (by omega)), Nat.le_refl _⟩
        · refine ifF (by rw [eq3_int, List.length_map, hgl]; simp; omega) ?_
          refine ⟨s, c, 3, rfl, hl, by decide, by decide, fun v G9 hv0 hv1 hl9 f9 => ?_⟩
          have hG := f9 _ _ nGs nGc hG
          have hH := f9 _ _ nHs nHc hH
          have f := f.trans f9
          refine ⟨dat_int _, dat_int _, ?_⟩
          by_cases hv : v = 0
          · refine ifT (by rw [eq3_int, hv]; rfl) ?_
            refine ⟨_, uL (at0 gs i), hG, at0I (by omega), _, first, hH, (by rw [List.length_map, hhl]; exact ixN_nat (by omega)), ?_⟩
            rw [show (heads.map uL).set first (uL (at0 gs i)) = (heads.set first (at0 gs i)).map uL by rw [List.map_set]]
            refine Wk2.of ⟨heads.set first (at0 gs i), i + 1, _, rfl, hl9.mut nHs nHc, f.mut gH, by rw [gup_ne nHG.symm]; exact hG, gup_same, by rw [List.length_set]; exact hhl, set_mem hhm (at0_mem hgm (by omega)), Nat.le_refl _⟩
          · refine ifF (by rw [eq3_int]; simp [hv]) ?_
            exact Wk2.of ⟨heads, first, _, rfl, hl9, f, hG, hH, hhl, hhm, by omega⟩
    · rintro σ' G1 ⟨heads, first, z1, rfl, hl, f, hG, hH, hhl, hhm, hfi⟩
      refine ⟨s, c, 3, rfl, hl, by decide, by decide, fun wd G2 hw0 hw1 hl2 f2 => ?_⟩
      have f := f.trans f2
      have hG := f2 _ _ nGs nGc hG
      have hH := f2 _ _ nHs nHc hH
      have hS2 := f _ _ nSs nSc hS
      refine ⟨rfl, rfl, fun p1 h1 => ?_⟩
      refine ⟨_, _, (by rw [gup_ne (gne_none hS2 h1)]; exact hS2), gup_same, decide_eq_true (by rw [List.length_map]; show spots.length + 1 ≤ 100000; omega), fun ML hML => ?_⟩
      have g1 := f.free hl2 h1
      have nM1 : ML ≠ p1 := fun e => by subst e; rw [gup_same] at hML; cases hML
      have hM2 : G2 ML = none := by rw [gup_ne nM1] at hML; exact hML
      have gM := f.free hl2 hM2
      have nMs := hl2.ns hM2
      have nMc := hl2.nc hM2
      have nMG := (gne_none hG hM2).symm
      have nMH := (gne_none hH hM2).symm
      have n1G := (gne_none hG h1).symm
      have n1H := (gne_none hH h1).symm
      rw [show spots.map uL ++ [U.tup [.str "out", .int 0]] = (spots ++ [out0]).map uL by rw [List.map_append]; rfl]
      try dsimp only [seq3, asg3, n3, v3, drop3, ret3, next3, List.set_cons_zero, List.set_cons_succ, List.getElem?_cons_zero, List.getElem?_cons_succ, start3, List.map_cons, List.map_nil, List.length_cons, List.length_nil, List.replicate, List.cons_append, List.nil_append, Nat.reduceSub, Nat.reduceAdd]
      refine for_of ?_
      refine .inl ⟨_, (by rw [gup_ne nMG.symm, gup_ne n1G.symm]; exact hG), decide_eq_true (by rw [List.length_map]; omega), ?_⟩
      refine forK_of n (by rw [rgU_len, List.length_map, hgl]; rfl) (fun i σ G' => ∃ (heads : List Loc) (z1 : Option U), σ = [some (.ref s), some (.ref S), some (.ref PL), some (.ref GL), z1, some (.ref HL), some (.int first), some (.int wd), some (.ref ML), none, none, none] ∧ Law s c G' ∧ Fr s c G G' ∧ G' GL = some (.lst (gs.map uL)) ∧ G' HL = some (.lst (heads.map uL)) ∧ G' ML = some (.lst ((spots ++ [out0]).map uL)) ∧ heads.length = n ∧ (∀ x ∈ heads, x ∈ spots ++ [out0]))
        ⟨heads, _, rfl, (hl2.mut (hl2.ns h1) (hl2.nc h1)).mut nMs nMc, (f.mut g1).mut gM, by rw [gup_ne nMG.symm, gup_ne n1G.symm]; exact hG, by rw [gup_ne nMH.symm, gup_ne n1H.symm]; exact hH, gup_same, hhl, fun x hx => List.mem_append_left _ (hhm x hx)⟩ (fun _ _ _ _ _ => trivial) ?_ ?_
      · rintro i x σ' G' hi hx ⟨heads, z1, rfl, hl, f, hG, hH, hM, hhl, hhm⟩
        have hx' : x = .int ((i : Nat) : Int) := by
          rw [rgU_get (by rw [List.length_map, hgl]; exact hi)] at hx
          cases hx
          rw [Int.zero_add]
        subst hx'
        refine ⟨s, c, 6, rfl, hl, by decide, by decide, fun v G3 hv0 hv1 hl3 f3 => ⟨mul_c (by decide) (by decide), ?_⟩⟩
        have f := f.trans f3
        have hG := f3 _ _ nGs nGc hG
        have hH := f3 _ _ nHs nHc hH
        have hM := f3 _ _ nMs nMc hM
        by_cases hv : v < wd * 2
        · refine ifT (decide_eq_true hv) ?_
          have hml : (spots ++ [out0]).length = spots.length + 1 := by rw [List.length_append]; rfl
          refine .inl ⟨_, hM, s, c, _, rfl, hl3, by rw [List.length_map, hml]; omega, by rw [List.length_map, hml]; omega, fun u G4 hu0 hu1 hl4 f4 => ?_⟩
          rw [List.length_map, hml] at hu1
          have f := f.trans f4
          have hG := f4 _ _ nGs nGc hG
          have hH := f4 _ _ nHs nHc hH
          have hM := f4 _ _ nMs nMc hM
          obtain ⟨k, rfl⟩ : ∃ k : Nat, u = (k : Int) := ⟨u.toNat, by omega⟩
          refine ⟨_, uL (at0 (spots ++ [out0]) k), hM, at0I (by rw [hml]; omega), _, i, hH, (by rw [List.length_map, hhl]; exact ixN_nat hi), ?_⟩
          rw [show (heads.map uL).set i (uL (at0 (spots ++ [out0]) k)) = (heads.set i (at0 (spots ++ [out0]) k)).map uL by rw [List.map_set]]
          refine Wk2.of ⟨heads.set i (at0 (spots ++ [out0]) k), _, rfl, hl4.mut nHs nHc, f.mut gH, by rw [gup_ne nHG.symm]; exact hG, gup_same, by rw [gup_ne nMH]; exact hM, by rw [List.length_set]; exact hhl, set_mem (p := fun x => x ∈ spots ++ [out0]) hhm (at0_mem (p := fun x => x ∈ spots ++ [out0]) (fun x hx => hx) (by rw [hml]; omega))⟩
        · refine ifF (decide_eq_false hv) ?_
          exact Wk2.of ⟨heads, _, rfl, hl3, f, hG, hH, hM, hhl, hhm⟩
      · rintro σ' G1 ⟨heads, z1, rfl, hl, f, hG, hH, hM, hhl, hhm⟩
        refine .inl ⟨_, hG, decide_eq_true (by rw [List.length_map]; omega), fun OL hOL => ?_⟩
        have nOs := hl.ns hOL
        have nOc := hl.nc hOL
        have gO := f.free hl hOL
        have nOG := (gne_none hG hOL).symm
        have nOH := (gne_none hH hOL).symm
        refine ⟨rfl, fun VL hVL => ?_⟩
        have nVO : VL ≠ OL := fun e => by subst e; rw [gup_same] at hVL; cases hVL
        have hV1 : G1 VL = none := by rw [gup_ne nVO] at hVL; exact hVL
        have nVs := hl.ns hV1
        have nVc := hl.nc hV1
        have gV := f.free hl hV1
        have nVG := (gne_none hG hV1).symm
        have nVH := (gne_none hH hV1).symm
        try dsimp only [seq3, asg3, n3, v3, drop3, ret3, next3, List.set_cons_zero, List.set_cons_succ, List.getElem?_cons_zero, List.getElem?_cons_succ, start3, List.map_cons, List.map_nil, List.length_cons, List.length_nil, List.replicate, List.cons_append, List.nil_append, Nat.reduceSub, Nat.reduceAdd]
        refine for_of ?_
        refine .inl ⟨_, (by rw [gup_ne nVG.symm, gup_ne nOG.symm]; exact hG), decide_eq_true (by rw [List.length_map]; omega), ?_⟩
        refine forK_of n (by rw [rgU_len, List.length_map, hgl]; rfl) (fun i σ G' => ∃ (ids dn : List Nat) (z1 z2 : Option U), σ = [some (.ref s), some (.ref S), some (.ref PL), some (.ref GL), z1, some (.ref HL), some (.int first), some (.int wd), some (.ref ML), some (.ref OL), some (.ref VL), z2] ∧ Law s c G' ∧ Fr s c G G' ∧ G' GL = some (.lst (gs.map uL)) ∧ G' HL = some (.lst (heads.map uL)) ∧ G' OL = some (.lst (ids.map fun j => U.int (j : Nat))) ∧ G' VL = some (.lst ((dn.map (pick heads gs)).map uM)) ∧ List.Perm (dn ++ ids) (List.range n) ∧ dn.length = i)
          ⟨List.range n, [], _, _, rfl, (hl.mut nOs nOc).mut nVs nVc, (f.mut gO).mut gV, by rw [gup_ne nVG.symm, gup_ne nOG.symm]; exact hG, by rw [gup_ne nVH.symm, gup_ne nOH.symm]; exact hH, by rw [gup_ne nVO.symm, gup_same, List.length_map, hgl]; rfl, gup_same, List.Perm.refl _, rfl⟩ (fun _ _ _ _ _ => trivial) ?_ ?_
        · rintro i x σ' G' hi hx ⟨ids, dn, z1, z2, rfl, hl, f, hG, hH, hO, hV, hpm, hdl⟩
          have hpl := hpm.length_eq
          rw [List.length_append, List.length_range] at hpl
          refine ⟨⟨_, hO⟩, .inl ⟨_, hO, s, c, _, rfl, hl, by rw [List.length_map]; omega, by rw [List.length_map]; omega, fun v G3 hv0 hv1 hl3 f3 => ?_⟩⟩
          rw [List.length_map] at hv1
          have f := f.trans f3
          have hG := f3 _ _ nGs nGc hG
          have hH := f3 _ _ nHs nHc hH
          have hO := f3 _ _ nOs nOc hO
          have hV := f3 _ _ nVs nVc hV
          obtain ⟨k, rfl⟩ : ∃ k : Nat, v = (k : Int) := ⟨v.toNat, by omega⟩
          have hk : k < ids.length := by omega
          have hx0 : ids[k]? = some ids[k] := List.getElem?_eq_getElem hk
          generalize ids[k] = x0 at hx0
          have hxn : x0 < n := List.mem_range.mp (hpm.subset (List.mem_append_right _ (List.mem_of_getElem? hx0)))
          refine ⟨_, k, .int (x0 : Nat), hO, decide_eq_true (by omega), (by rw [List.length_map]; exact seqI hk), (by rw [List.getElem?_map, hx0]; rfl), ?_⟩
          refine ⟨⟨_, (by rw [gup_ne nVO]; exact hV)⟩, _, uL (at0 heads x0), (by rw [gup_ne nOH.symm]; exact hH), at0I (by omega), _, uL (at0 gs x0), (by rw [gup_ne nOG.symm]; exact hG), at0I (by omega), rfl, _, (by rw [gup_ne nVO]; exact hV), decide_eq_true (by rw [List.length_map, List.length_map]; omega), ?_⟩
          rw [erase_map]
          refine Wk2.of ⟨ids.eraseIdx k, dn ++ [x0], _, _, rfl, (hl3.mut nOs nOc).mut nVs nVc, (f.mut gO).mut gV, by rw [gup_ne nVG.symm, gup_ne nOG.symm]; exact hG, by rw [gup_ne nVH.symm, gup_ne nOH.symm]; exact hH, by rw [gup_ne nVO.symm]; exact gup_same, by rw [gup_same, List.map_append, List.map_append]; rfl, perm_pick hpm hx0, by rw [List.length_append, hdl]; rfl⟩
        · rintro σ' G2 ⟨ids, dn, z1, z2, rfl, hl, f, hG, hH, hO, hV, hpm, hdl⟩
          have hdn : dn.Nodup := (List.nodup_append.mp (hpm.nodup_iff.mpr List.nodup_range)).1
          have hdm : ∀ j ∈ dn, j < n := fun j hj => List.mem_range.mp (hpm.subset (List.mem_append_left _ hj))
          refine Wk.of (hq (dn.map (pick heads gs)) VL G2 hl f gV nVs nVc hV (by rw [List.length_map]; omega) ?_ ?_ ?_)
          · unfold goals
            rw [List.map_map]
            have hinj : ∀ a ∈ dn, ∀ b ∈ dn, at0 gs a = at0 gs b → a = b := fun a ha b hb e => by
              have h1 := hdm a ha
              have h2 := hdm b hb
              unfold at0 at e
              rw [List.getD_eq_getElem?_getD, List.getD_eq_getElem?_getD, List.getElem?_eq_getElem (by omega), List.getElem?_eq_getElem (by omega)] at e
              have e : gs[a]'(by omega) = gs[b]'(by omega) := e
              exact (List.getElem?_inj (by omega) hgn).mp (by rw [List.getElem?_eq_getElem (by omega), List.getElem?_eq_getElem (by omega), e])
            exact List.pairwise_map.mpr (hdn.imp_of_mem fun {a b} ha hb hab e => hab (hinj a ha b hb e))
          · intro m hm
            obtain ⟨j, hj, rfl⟩ := List.mem_map.mp hm
            exact at0_mem hgm (by rw [hgl]; exact hdm j hj)
          · intro m hm
            obtain ⟨j, hj, rfl⟩ := List.mem_map.mp hm
            have := at0_mem (p := fun x => x ∈ spots ++ [out0]) hhm (i := j) (by rw [hhl]; exact hdm j hj)
            rcases List.mem_append.mp this with h | h
            · exact .inl h
            · exact .inr (List.mem_singleton.mp h)
end
end K39
end
section
set_option Elab.async false
set_option linter.all false
set_option maxRecDepth 100000
set_option maxHeartbeats 2000000
namespace K39
open PySem L2 L3
/-- a def that is called where an exception is handled -/
structure OwnH (P : Program) (w : World) (K : PySem.W.Frag) (mg : Str → Option Value) (base : Heap) (k : Nat) (x : Str) (ps : List Str) (sp : Sp3) (f : Addr) (fd : FuncData) : Prop where
  G : L2H.FnH P w K mg base CX0 k f fd ps (lowSp K sp)
  g : mg x = some (.ref f)
  kp : PySem.W.keepIn K (.ref f) = true
  b : Binds K fd ps []
section
variable {P : Program} {w : World} {K : PySem.W.Frag} {mg : Str → Option Value} {base : Heap}
theorem ok_alikeH {f : Addr} {fd : FuncData} (F : Fun K "_law_alike" "_law_alike" s_law_alike f fd) (T : Tg mg) (g : mg "_law_alike" = some (.ref f)) (kp : PySem.W.keepIn K (.ref f) = true) (b : Binds K fd ["told", "due"] []) : ∀ n, L2H.FnH P w K mg base CX0 (n + 1) f fd ["told", "due"] (lowSp K (spAlike n))
  | 0 => Fun_okH3 F sc_law_alike (fun ws G Q E h => h.elim) (fun cdv A outer s H E p ws G Q E3 hot hr h => h.elim)
  | n + 1 => by
    have H_law_alike : OwnH P w K mg base (n + 1) "_law_alike" ["told", "due"] (spAlike n) f fd := ⟨ok_alikeH F T g kp b n, g, kp, b⟩
    refine Fun_okH3 F sc_law_alike (fun ws G Q E h => by obtain ⟨_, rfl, _⟩ := h; rfl) (fun cdv A outer s H E p ws G Q E3 hot hr h => ?_)
    have hr_law_alike : L2H.RoomH (n + 1) _ := hr
    have hu64 : (A.deeper (PyProof.Rows.envOfC "_law_alike" (defScope s_law_alike) s.heap.objs.size f cdv)).units + 64 < cLine := by have := hr.un; omega
    have hc : L2H.HotC (L2H.cxH CX0 P w K mg base law_alike_N "_law_alike" (defScope s_law_alike) f cdv A outer s H E p) := ⟨p, hot, List.mem_singleton.mpr rfl⟩
    obtain ⟨x, rfl, hx, hq⟩ := h
    refine ⟨_, (ss_cons (s_if (t3cmp o_isN (e3v 1) e3non)
        (ss_one (s_ret (e3cmp o_isN (e3v 0) e3non)))
        ss_nil)
        (ss_cons (s_if (PW.pt (w3or (t3cmp (o_isB true) (e3v 1) e3bl) (w3or1 (t3cmp (o_isB false) (e3v 1) e3bl))))
        (ss_one (s_ret (e3and (e3B k_isi T.isinstance (a3cons (e3v 0) (a3cons (e3ty (n := "bool") rfl T.bool (by decide +kernel)) a3nil))) (e3one (e3cmp (o_eq hu64) (e3v 0) (e3v 1))))))
        ss_nil)
        (ss_cons (s_if (t3val (e3B k_isi T.isinstance (a3cons (e3v 1) (a3cons (e3ty (n := "int") rfl T.int (by decide +kernel)) a3nil))))
        (ss_one (s_ret (e3and (e3B k_isi T.isinstance (a3cons (e3v 0) (a3cons (e3ty (n := "int") rfl T.int (by decide +kernel)) a3nil))) (e3and (e3not (e3B k_isi T.isinstance (a3cons (e3v 0) (a3cons (e3ty (n := "bool") rfl T.bool (by decide +kernel)) a3nil)))) (e3one (e3cmp (o_eq hu64) (e3v 0) (e3v 1)))))))
        ss_nil)
        (ss_cons (s_if (t3val (e3B k_isi T.isinstance (a3cons (e3v 1) (a3cons (e3ty (n := "str") rfl T.str (by decide +kernel)) a3nil))))
        (ss_one (s_ret (e3and (e3B k_isi T.isinstance (a3cons (e3v 0) (a3cons (e3ty (n := "str") rfl T.str (by decide +kernel)) a3nil))) (e3one (e3cmp (o_eq hu64) (e3v 0) (e3v 1))))))
        ss_nil)
        (ss_cons (s_if (PW.pt (w3or (t3not (t3val (e3B k_isi T.isinstance (a3cons (e3v 0) (a3cons (e3ty (n := "tuple") rfl T.tuple (by decide +kernel)) a3nil))))) (w3or1 (t3cmp (o_ne hu64) (e3B k_len T.len (a3cons (e3v 0) a3nil)) (e3B k_len T.len (a3cons (e3v 1) a3nil))))))
        (ss_one (s_ret e3bl))
        ss_nil)
        (ss_one (s_ret (e3B (k_allH hc) T.all (a3cons (e3lcH (own := [("k", 2)]) hc sc_law_alike.nd (i_range1H T.range (e3B k_len T.len (a3cons (e3v 1) a3nil))) (blkOk_by (N := law_alike_N) (sc := defScope s_law_alike) (by decide +kernel)) (gl_own (by decide)) (fun _ _ _ _ _ => (pg_name (i := 2) sc_law_alike.nd rfl (by first | exact Or.inl rfl | exact Or.inr rfl))) (fun _ _ _ _ _ => ts3nil) (fun _ _ _ _ _ => (e3callH H_law_alike.G hr_law_alike hc H_law_alike.g H_law_alike.kp H_law_alike.b (a3cons (e3ix (e3v 0) (e3v 2)) (a3cons (e3ix (e3v 1) (e3v 2)) a3nil))))) a3nil))))))))), ?_⟩
    cases x with
    | int i =>
      refine ⟨rfl, rfl, "int", true, rfl, kit_ii, "int", true, rfl, kit_ii, "int", false, rfl, kit_ib, dat_int _, dat_int _, ?_⟩
      rw [show (if false = true then !eq3 (.int i) (.int i) else eq3 (.int i) (.int i)) = true by rw [if_neg Bool.false_ne_true, eq3_int]; simp]
      exact Wk.of hq
    | str t =>
      refine ⟨rfl, rfl, "str", false, rfl, kit_si, "str", true, rfl, kit_ss, "str", true, rfl, kit_ss, ?_⟩
      have hd : dat (.str t) = true := by cases n <;> exact hx
      refine ⟨hd, hd, ?_⟩
      rw [show (if false = true then !eq3 (.str t) (.str t) else eq3 (.str t) (.str t)) = true by rw [if_neg Bool.false_ne_true]; show (t == t) = true; simp]
      exact Wk.of hq
    | tup xs =>
      cases n with
      | zero => exact hx.elim
      | succ n =>
        obtain ⟨hl, hx⟩ := hx
        refine ⟨rfl, rfl, "tuple", false, rfl, kit_ti, "tuple", false, rfl, kit_ts, "tuple", true, rfl, kit_tt, dat_int _, dat_int _, ?_⟩
        refine ifF (by rw [if_pos rfl, eq3_int]; simp) ?_
        try dsimp only [retN3, ret3, next3, seq3, asg3, n3, v3, c3, drop3, ret3, next3, te3, op3, ifS3, cb3, cons3, nil3, call3, lst3, tup3, un3, List.set_cons_zero, List.set_cons_succ, List.getElem?_cons_zero, List.getElem?_cons_succ, start3, List.map_cons, List.map_nil, List.length_cons, List.length_nil, List.replicate, List.cons_append, List.nil_append, Nat.reduceSub, Nat.reduceAdd]
        refine lc_of ?_
        refine ⟨decide_eq_true (by omega), ?_⟩
        refine lcK_of (List.range xs.length) (fun j => U.int (0 + (j : Nat))) (fun _ => true) (fun _ => true) U.bl (fun _ _ => trivial) (by rw [List.length_range]; omega) (fun j hj G2 hs2 Y N hy hn => ?_) fun L hL => ?_
        · have hj := List.mem_range.mp hj
          have e : xs[j]? = some xs[j] := List.getElem?_eq_getElem hj
          exact ⟨xs[j], atI_eq (i := j) (by omega) e, xs[j], atI_eq (i := j) (by omega) e, xs[j], rfl, hx _ (List.getElem_mem hj), hy rfl _ (Sub.refl _)⟩
        · rw [filt_all]
          refine ⟨_, gup_same, Wk.sub ?_ (Sub.new (Sub.refl G) hL)⟩
          rw [all_true]
          exact hq
    | non => cases n <;> exact hx.elim
    | bl _ => cases n <;> exact hx.elim
    | ty _ => cases n <;> exact hx.elim
    | ref _ => cases n <;> exact hx.elim
    | wtup _ => cases n <;> exact hx.elim
    | lit _ => cases n <;> exact hx.elim
end
end K39
end
section
set_option Elab.async false
set_option linter.all false
set_option maxRecDepth 100000
set_option maxHeartbeats 2000000
namespace L3
open PySem L2
section
variable {X : Cx} {W : WX} {pos : Pos}
theorem s_forH {tg iter : Expr} {body : List Stmt} {wi : TI3} {g : TG} {g3 : TG3} {tb : TS3} (hp : PassesOwn (model X.prog X.w) X.A X.env X.xe) (hc : L2H.HotC X) (hi : L2H.PIH X tg iter (lowI X.K wi)) (hg : PG X tg g) (hl : GLow X.K none g g3) (hb : PSs X body (lowS X.K W tb))
    (hs : ∀ x, foldedSetIterable iter X.env x = pure x := by intro _; rfl) : PS X (.For tg iter body [] pos) (lowS X.K W (for3 wi g3 tb)) := (L2H.ps_forH hp hc hi hg hb hs).imp fun D σ H h => by
  obtain ⟨σ3, G, D3, hs, hh, ht, hle⟩ := h
  refine ⟨σ3, G, _, hs, hh, ht, fun J H1 it G1 k1 hh1 il q1 => ?_⟩
  obtain ⟨Pv, p0, pok, pst, pdn⟩ := q1
  refine ⟨fun i m σ' H' => m = it.items.length - i ∧ i ≤ it.items.length ∧ ∃ σ3' G', Keep H1 H' ∧ RepS X.K H' σ3' σ' ∧ RepH X.K G' H' ∧ Pv i σ3' G', ⟨_, rfl, Nat.zero_le _, σ3, G1, Keep.refl _, hs.keep k1, hh1, p0⟩, ?_⟩
  rintro i m σ' H' ⟨rfl, hi, σ3', G', kk, hs', hh', pv⟩
  have ok := pok i σ3' G' hi pv
  by_cases hlt : i < it.items.length
  · refine .inr ⟨il.goes i G' H' hlt kk hh' ok, fun σ2 H2 => ∃ σ32 G2, Keep H1 H2 ∧ RepS X.K H2 σ32 σ2 ∧ RepH X.K G2 H2 ∧ Pv (i + 1) σ32 G2, fun σ2 H2 q => ⟨it.items.length - (i + 1), by omega, rfl, hlt, q⟩, fun x H2 y => ?_⟩
    obtain ⟨k2, hh2, w, hw, rw⟩ := il.yields i G' H' x H2 hlt kk hh' ok y
    refine hl _ _ _ _ _ _ _ _ rw (hs'.keep k2) hh2 (pst i w σ3' G' hw pv) fun σ4 H4 σ34 G4 k4 _ hs4 hh4 q4 => ?_
    have kH4 : Keep H1 H4 := (kk.trans k2).trans k4
    refine ⟨σ34, G4, _, hs4, hh4, q4, ⟨fun σ5 H5 σ35 G5 k5 hs5 hh5 ⟨σ0, G0, z1, z2, q5⟩ => ⟨σ0, G0, kH4.trans k5, hs5.sub z1, hh5.less z2, q5⟩, hle.rt.from (k1.trans kH4), fun σ5 H5 σ35 G5 k5 hs5 hh5 ⟨σ0, G0, z1, z2, q5⟩ => hle.nx _ _ _ _ ((k1.trans kH4).trans k5) (hs5.sub z1) (hh5.less z2) q5,
      fun σ5 H5 σ35 G5 k5 hs5 hh5 ⟨σ0, G0, z1, z2, q5⟩ => ⟨σ0, G0, kH4.trans k5, hs5.sub z1, hh5.less z2, q5⟩, fun c d σ5 H5 σ35 G5 k5 hs5 hh5 q5 => hle.ex _ _ _ _ _ _ ((k1.trans kH4).trans k5) hs5 hh5 q5⟩⟩
  · have e : i = it.items.length := by omega
    subst e
    exact .inl ⟨il.stops G' H' kk hh' ok, hle.nx _ _ _ _ (k1.trans kk) hs' hh' (pdn _ _ pv)⟩
end
end L3
namespace K39
open PySem L2 L3
section
variable {P : Program} {w : World} {K : PySem.W.Frag} {mg : Str → Option Value} {base : Heap}
abbrev s_law_bad_index : Stmt := topS 20
abbrev law_bad_index_N : List Str := ["moves", "met", "k"]
theorem sc_law_bad_index : FnScope law_bad_index_N ["moves"] (defScope s_law_bad_index) := ⟨rfl, rfl, rfl, by decide +kernel, rfl, by decide +kernel, by decide +kernel⟩
abbrev s_law_spoilt : Stmt := topS 19
abbrev law_spoilt_N : List Str := ["state", "spots", "moves", "rows", "k", "goal", "at", "source"]
theorem sc_law_spoilt : FnScope law_spoilt_N ["state", "spots", "moves"] (defScope s_law_spoilt) := ⟨rfl, rfl, rfl, by decide +kernel, rfl, by decide +kernel, by decide +kernel⟩
def spBI : Sp3 := fun ws G Q _ => ∃ (a : Addr) (W : List Mv) (k : Nat), ws = [.ref a] ∧ G a = some (.lst (W.map uM)) ∧ W.length ≤ 90 ∧ BadIx W k ∧ Q (.int (k : Nat)) G
theorem ok_biH {f : Addr} {fd : FuncData} (F : Fun K "_law_bad_index" "_law_bad_index" s_law_bad_index f fd) (T : Tg2 mg) : L2H.FnH P w K mg base CX0 1 f fd ["moves"] (lowSp K spBI) := by
  refine Fun_okH3 F sc_law_bad_index (fun ws G Q E h => by obtain ⟨_, _, _, rfl, _⟩ := h; rfl) (fun cdv A outer s H E p ws G Q E3 hot hr h => ?_)
  have hu64 : (A.deeper (PyProof.Rows.envOfC "_law_bad_index" (defScope s_law_bad_index) s.heap.objs.size f cdv)).units + 64 < cLine := by have := hr.un; omega
  have hu65 : (A.deeper (PyProof.Rows.envOfC "_law_bad_index" (defScope s_law_bad_index) s.heap.objs.size f cdv)).units + 65 < cLine := by have := hr.un; omega
  have hc : L2H.HotC (L2H.cxH CX0 P w K mg base law_bad_index_N "_law_bad_index" (defScope s_law_bad_index) f cdv A outer s H E p) := ⟨p, hot, List.mem_singleton.mpr rfl⟩
  obtain ⟨a, W, kb, rfl, ha, hlen, B, hq⟩ := h
  refine ⟨_, (ss_cons (s_set (i := 1) sc_law_bad_index.nd (e3lst a3nil))
      (ss_cons (s_forH (passes_of rfl) hc (i_range1H T.range (e3B k_len T.len (a3cons (e3v 0) a3nil))) (pg_name (i := 2) sc_law_bad_index.nd rfl (by first | exact Or.inl rfl | exact Or.inr rfl)) gl_name
      (ss_cons (s_if (PW.pt (w3or (t3cmp (o_eq hu64) (e3ix (e3ix (e3ix (e3v 0) (e3v 2)) e3int) e3int) e3str) (w3or1 (t3cmp (o_in hu65) (e3ix (e3ix (e3v 0) (e3v 2)) e3int) (e3v 1) rfl))))
        (ss_one (s_ret (e3v 2)))
        ss_nil)
        (ss_one (s_expr (e3bmL PySem.F.slot_list_append PySem.F.type_list_append m_append (e3v 1) (a3cons (e3ix (e3ix (e3v 0) (e3v 2)) e3int) a3nil))))))
      (ss_one (s_ret (e3neg e3int))))), ?_⟩
  refine ⟨rfl, fun d hd => ?_⟩
  have nad : a ≠ d := gne_none ha hd
  try dsimp only [seq3, asg3, n3, v3, drop3, ret3, next3, List.set_cons_zero, List.set_cons_succ, List.getElem?_cons_zero, List.getElem?_cons_succ, start3, List.map_cons, List.map_nil, List.length_cons, List.length_nil, List.replicate, List.cons_append, List.nil_append, Nat.reduceSub, Nat.reduceAdd]
  refine for_of ?_
  have hA : ∀ o, gup G d o a = some (.lst (W.map uM)) := fun o => by rw [gup_ne nad]; exact ha
  refine .inl ⟨_, hA _, decide_eq_true (by rw [List.length_map]; omega), ?_⟩
  refine forK_of W.length (by rw [rgU_len, List.length_map]; rfl) (fun i σ G' => ∃ (z1 : Option U), σ = [some (.ref a), some (.ref d), z1] ∧ G' = gup G d (.lst ((goals (W.take i)).map uL)) ∧ i ≤ kb) ⟨_, rfl, rfl, Nat.zero_le _⟩ (fun _ _ _ _ _ => trivial) ?_ ?_
  · rintro i x σ' G' hi hx ⟨z1, rfl, rfl, hk⟩
    have hx' : x = .int ((i : Nat) : Int) := by
      rw [rgU_get (by rw [List.length_map]; exact hi)] at hx
      cases hx
      rw [Int.zero_add]
    subst hx'
    have hm : W[i]? = some W[i] := List.getElem?_eq_getElem hi
    generalize W[i] = m at hm
    have hmu : L2.atI (W.map uM) ((i : Nat) : Int) = some (uM m) := atI_nat (by rw [List.getElem?_map, hm]; rfl)
    have hgl : (goals (W.take i)).length ≤ i := by unfold goals; rw [List.length_map]; exact List.length_take_le i W
    refine ⟨_, uM m, hA _, hmu, uL m.2, rfl, .str m.2.1.str, rfl, dat_kd _, dat_kd .out, ?_⟩
    by_cases ho : m.2.1 = .out
    · have hb : i = kb := by
        rcases Nat.lt_or_eq_of_le hk with h | h
        · have := B.ok i h
          rw [badAt_of hm, decide_eq_true ho] at this
          cases this
        · exact h
      refine ifT ((eq3_kd _ .out).trans (decide_eq_true ho)) ?_
      rw [hb]
      exact Wk.sub hq (Sub.new (Sub.refl G) hd)
    · refine ifF ((eq3_kd _ .out).trans (decide_eq_false ho)) ?_
      refine ⟨_, uM m, hA _, hmu, uL m.2, rfl, ?_⟩
      refine ⟨_, gup_same, dat_uL _, dat_Ls _, ?_⟩
      by_cases hn : m.2 ∈ goals (W.take i)
      · have hb : i = kb := by
          rcases Nat.lt_or_eq_of_le hk with h | h
          · have := B.ok i h
            rw [badAt_of hm, decide_eq_true hn, Bool.or_true] at this
            cases this
          · exact h
        refine ifT (by rw [if_neg Bool.false_ne_true, any_uL]; exact decide_eq_true hn) ?_
        rw [hb]
        exact Wk.sub hq (Sub.new (Sub.refl G) hd)
      · refine ifF (by rw [if_neg Bool.false_ne_true, any_uL]; exact decide_eq_false hn) ?_
        have hlt : i < kb := by
          rcases Nat.lt_or_eq_of_le hk with h | h
          · exact h
          · have := B.bad
            rw [← h, badAt_of hm, decide_eq_false ho, decide_eq_false hn] at this
            cases this
        refine ⟨⟨_, gup_same⟩, _, uM m, hA _, hmu, uL m.2, rfl, _, gup_same, decide_eq_true (by rw [List.length_map]; omega), ?_⟩
        refine Wk2.of ⟨_, rfl, ?_, hlt⟩
        rw [gup_gup, take_s hm]
        unfold goals
        rw [List.map_append, List.map_append]
        rfl
  · rintro σ' G' ⟨z1, rfl, rfl, hk⟩
    have := B.lt
    omega
end
end K39
end
section
set_option linter.all false
namespace K39
theorem least_of (p : Nat → Bool) : ∀ n, p n = true → ∃ k, k ≤ n ∧ p k = true ∧ ∀ i, i < k → p i = false := by
  intro n
  induction n using Nat.strongRecOn with
  | ind n ih =>
    intro h
    by_cases hx : ∃ i, i < n ∧ p i = true
    · obtain ⟨i, hi, hp⟩ := hx
      obtain ⟨k, h1, h2, h3⟩ := ih i hi hp
      exact ⟨k, by omega, h2, h3⟩
    · refine ⟨n, Nat.le_refl _, h, fun i hi => ?_⟩
      cases e : p i with
      | false => rfl
      | true => exact absurd ⟨i, hi, e⟩ hx
def Bad (W : List Mv) : Prop := (∃ m ∈ W, m.2.1 = .out) ∨ ¬ (goals W).Nodup
theorem bad_ix {W : List Mv} (h : Bad W) : ∃ k, BadIx W k := by
  by_cases hx : ∃ n, n < W.length ∧ badAt W n = true
  · obtain ⟨n, hn, hb⟩ := hx
    obtain ⟨k, h1, h2, h3⟩ := least_of (badAt W) n hb
    exact ⟨k, by omega, h2, h3⟩
  · exfalso
    have no : ∀ (i : Nat) (m : Mv), W[i]? = some m → m.2.1 ≠ .out ∧ m.2 ∉ goals (W.take i) := fun i m e => by
      have hi := (List.getElem?_eq_some_iff.mp e).1
      have hb : badAt W i = false := by
        cases z : badAt W i with
        | false => rfl
        | true => exact absurd ⟨i, hi, z⟩ hx
      rw [badAt_of e] at hb
      simp at hb
      exact hb
    rcases h with ⟨m, hm, ho⟩ | h
    · obtain ⟨i, hi, e⟩ := List.mem_iff_getElem.mp hm
      exact (no i m (by rw [List.getElem?_eq_getElem hi, e])).1 ho
    · apply h
      unfold List.Nodup
      rw [List.pairwise_iff_getElem]
      intro i j hi hj hij e
      have hi' : i < W.length := by unfold goals at hi; rwa [List.length_map] at hi
      have hj' : j < W.length := by unfold goals at hj; rwa [List.length_map] at hj
      refine (no j W[j] (List.getElem?_eq_getElem hj')).2 ?_
      have g1 : (goals W)[i]? = some W[i].2 := by unfold goals; rw [List.getElem?_map, List.getElem?_eq_getElem hi']; rfl
      have g2 : (goals W)[j]? = some W[j].2 := by unfold goals; rw [List.getElem?_map, List.getElem?_eq_getElem hj']; rfl
      have e1 : (goals W)[i]? = (goals W)[j]? := by rw [List.getElem?_eq_getElem hi, List.getElem?_eq_getElem hj, e]
      have e2 : W[i].2 = W[j].2 := Option.some.inj (g1.symm.trans (e1.trans g2))
      rw [← e2]
      refine List.mem_map.mpr ⟨W[i], ?_, rfl⟩
      exact List.mem_iff_getElem.mpr ⟨i, by rw [List.length_take]; omega, by rw [List.getElem_take]⟩
theorem ins_sub {α : Type} (W : List α) (x : α) (n : Nat) : List.Sublist W (W.take n ++ [x] ++ W.drop n) := by
  have h : List.Sublist (W.take n ++ W.drop n) (W.take n ++ [x] ++ W.drop n) := List.Sublist.append (List.sublist_append_left _ _) (List.Sublist.refl _)
  rwa [List.take_append_drop] at h
theorem Bad.ins {W : List Mv} (h : Bad W) (x : Mv) (n : Nat) : Bad (W.take n ++ [x] ++ W.drop n) := by
  rcases h with ⟨m, hm, ho⟩ | h
  · exact .inl ⟨m, (ins_sub W x n).subset hm, ho⟩
  · exact .inr fun z => h (z.sublist ((ins_sub W x n).map _))
theorem bad_ins {W : List Mv} {x : Mv} (n : Nat) (h : x.2.1 = .out ∨ x.2 ∈ goals W) : Bad (W.take n ++ [x] ++ W.drop n) := by
  rcases h with h | h
  · exact .inl ⟨x, by simp, h⟩
  · refine .inr fun z => ?_
    unfold goals at z h
    rw [List.map_append, List.map_append, List.append_assoc] at z
    have z2 := (List.nodup_append.mp z)
    have h' : x.2 ∈ (W.take n).map (·.2) ∨ x.2 ∈ (W.drop n).map (·.2) := by
      rw [← List.mem_append, ← List.map_append, List.take_append_drop]; exact h
    rcases h' with h' | h'
    · exact z2.2.2 _ h' _ (by simp) rfl
    · have := (List.nodup_append.mp z2.2.1).2.2 x.2 (by simp) _ h'
      exact this rfl
end K39
end
section
set_option Elab.async false
set_option linter.all false
set_option maxRecDepth 100000
set_option maxHeartbeats 2000000
namespace K39
open PySem L2 L3
section
variable {P : Program} {w : World} {K : PySem.W.Frag} {mg : Str → Option Value} {base : Heap}
def spSpoilt : Sp3 := fun ws G Q _ => ∃ (s c S M : Addr) (spots : List Loc) (moves : List Mv), ws = [.ref s, .ref S, .ref M] ∧ Law s c G ∧ G S = some (.lst (spots.map uL)) ∧ S ≠ s ∧ S ≠ c ∧ 0 < spots.length ∧ spots.length ≤ 6 ∧ G M = some (.lst (moves.map uM)) ∧ M ≠ s ∧ M ≠ c ∧ moves.length ≤ 5 ∧
  ∀ (W : List Mv) (L : Addr) (G' : G3), Law s c G' → Fr s c G G' → G L = none → L ≠ s → L ≠ c → G' L = some (.lst (W.map uM)) → W.length ≤ 7 → Bad W → Q (.ref L) G'
theorem gnone {G : G3} {a b : Addr} {o : GO} (h : gup G a o b = none) : G b = none ∧ b ≠ a := by
  by_cases e : b = a
  · subst e
    rw [gup_same] at h
    cases h
  · rw [gup_ne e] at h
    exact ⟨h, e⟩
theorem ok_spoilt {f fT : Addr} {fd fdT : FuncData} (F : Fun K "_law_spoilt" "_law_spoilt" s_law_spoilt f fd) (T : Tg2 mg) (O_law_take : Own P w K mg base 1 "_law_take" ["state", "m"] spTake fT fdT) : FnOk P w K mg base CX0 2 f fd ["state", "spots", "moves"] (lowSp K spSpoilt) := by
  refine Fun_ok3 F sc_law_spoilt (fun ws G Q E h => by obtain ⟨_, _, _, _, _, _, rfl, _⟩ := h; rfl) (fun cdv A outer s H E ws G Q E3 hr h => ?_)
  have hr_law_take : Room 1 _ := hr
  have hu64 := hr.units
  obtain ⟨s, c, S, M, spots, moves, rfl, hl, hS, nSs, nSc, hs0, hs6, hM, nMs, nMc, hml, hq⟩ := h
  refine ⟨_, (ss_cons (s_set (i := 3) sc_law_spoilt.nd (e3T k_list T.list (a3cons (e3v 2) a3nil)))
      (ss_cons (s_for PassesOwn.never rfl (i_range1 T.range (e3op o_add e3int (e3call O_law_take.G hr_law_take O_law_take.g O_law_take.kp O_law_take.b pass0 (a3cons (e3v 0) (a3cons e3int a3nil))))) (pg_name (i := 4) sc_law_spoilt.nd rfl (by first | exact Or.inl rfl | exact Or.inr rfl)) gl_name
      (ss_cons (s_set (i := 5) sc_law_spoilt.nd (e3tup (a3cons e3str (a3cons e3int a3nil))))
        (ss_cons (s_if (PW.pt (w3and (t3cmp (o_eq hu64) (e3call O_law_take.G hr_law_take O_law_take.g O_law_take.kp O_law_take.b pass0 (a3cons (e3v 0) (a3cons e3int a3nil))) e3int) (w3and1 (t3cmp o_gt (e3B k_len T.len (a3cons (e3v 3) a3nil)) e3int))))
        (ss_one (s_set (i := 5) sc_law_spoilt.nd (e3ix (e3ix (e3v 3) (e3call O_law_take.G hr_law_take O_law_take.g O_law_take.kp O_law_take.b pass0 (a3cons (e3v 0) (a3cons (e3B k_len T.len (a3cons (e3v 3) a3nil)) a3nil)))) e3int)))
        ss_nil)
        (ss_cons (s_set (i := 6) sc_law_spoilt.nd (e3call O_law_take.G hr_law_take O_law_take.g O_law_take.kp O_law_take.b pass0 (a3cons (e3v 0) (a3cons (e3op o_add (e3B k_len T.len (a3cons (e3v 3) a3nil)) e3int) a3nil))))
        (ss_cons (s_set (i := 7) sc_law_spoilt.nd (e3ix (e3v 1) (e3call O_law_take.G hr_law_take O_law_take.g O_law_take.kp O_law_take.b pass0 (a3cons (e3v 0) (a3cons (e3B k_len T.len (a3cons (e3v 1) a3nil)) a3nil)))))
        (ss_one (s_set (i := 3) sc_law_spoilt.nd (e3op o_cat (e3op o_cat (e3sl (e3v 3) o3none (o3some (e3v 6))) (e3lst (a3cons (e3tup (a3cons (e3v 7) (a3cons (e3v 5) a3nil))) a3nil))) (e3sl (e3v 3) (o3some (e3v 6)) o3none)))))))))
      (ss_one (s_ret (e3v 3))))), ?_⟩
  refine ⟨_, hM, fun RL hRL => ?_⟩
  have nRs := hl.ns hRL
  have nRc := hl.nc hRL
  try dsimp only [seq3, asg3, n3, v3, drop3, ret3, next3, List.set_cons_zero, List.set_cons_succ, List.getElem?_cons_zero, List.getElem?_cons_succ, start3, List.map_cons, List.map_nil, List.length_cons, List.length_nil, List.replicate, List.cons_append, List.nil_append, Nat.reduceSub, Nat.reduceAdd]
  refine for_of ?_
  refine ⟨s, c, 2, rfl, hl.mut nRs nRc, by decide, by decide, fun v G2 hv0 hv1 hl2 f2 => ⟨decide_eq_true (by omega), ?_⟩⟩
  obtain ⟨n, rfl⟩ : ∃ n : Nat, v = (n : Int) := ⟨v.toNat, by omega⟩
  refine forK_of (1 + n) (by rw [rgU_len]; omega) (fun i σ G' => ∃ (R : Addr) (W : List Mv) (z1 z2 z3 z4 : Option U), σ = [some (.ref s), some (.ref S), some (.ref M), some (.ref R), z1, z2, z3, z4] ∧ Law s c G' ∧ Fr s c G G' ∧ G R = none ∧ R ≠ s ∧ R ≠ c ∧ G' R = some (.lst (W.map uM)) ∧ W.length = moves.length + i ∧ (0 < i → Bad W))
    ⟨RL, moves, _, _, _, _, rfl, hl2, (Fr.mut (Fr.refl G) hRL).trans f2, hRL, nRs, nRc, f2 _ _ nRs nRc gup_same, rfl, fun h => absurd h (Nat.lt_irrefl _)⟩ (fun _ _ _ _ _ => trivial) ?_ ?_
  · rintro i x σ' G' hi hx ⟨R, W, z1, z2, z3, z4, rfl, hl, f, hR, nRs, nRc, hW, hwl, hb⟩
    refine ⟨rfl, s, c, 2, rfl, hl, by decide, by decide, fun v1 G3 hv0 hv1 hl f3 => ⟨dat_int _, dat_int _, ?_⟩⟩
    have f := f.trans f3
    have hW := f3 _ _ nRs nRc hW
    by_cases hv : v1 = 1 ∧ 0 < W.length
    · refine ifT (by rw [eq3_int, hv.1]; rfl) ?_
      refine .inl ⟨_, hW, ?_⟩
      refine ifT (decide_eq_true (by rw [List.length_map]; omega)) ?_
      refine .inl ⟨_, hW, s, c, _, rfl, hl, by rw [List.length_map]; omega, by rw [List.length_map]; omega, fun u G9 hu0 hu1 hl f9 => ?_⟩
      rw [List.length_map] at hu1
      obtain ⟨u, rfl⟩ : ∃ n : Nat, u = (n : Int) := ⟨u.toNat, by omega⟩
      have f := f.trans f9
      have hW := f9 _ _ nRs nRc hW
      have hm : W[u]? = some W[u] := List.getElem?_eq_getElem (by omega)
      have hmm : W[u] ∈ W := List.getElem_mem _
      generalize W[u] = m at hm hmm
      have g : (m.2.1 = .out ∨ m.2 ∈ goals W) := .inr (List.mem_map.mpr ⟨m, hmm, rfl⟩)
      refine ⟨_, uM m, hW, atI_nat (by rw [List.getElem?_map, hm]; rfl), uL m.2, rfl, ?_⟩
      refine .inl ⟨_, hW, s, c, _, rfl, hl, by omega, by rw [List.length_map]; omega, fun a G4 ha0 ha1 hl4 f4 => ?_⟩
      rw [List.length_map] at ha1
      obtain ⟨a, rfl⟩ : ∃ n : Nat, a = (n : Int) := ⟨a.toNat, by omega⟩
      have f := f.trans f4
      have hW := f4 _ _ nRs nRc hW
      have hS4 := f _ _ nSs nSc hS
      refine .inl ⟨_, hS4, s, c, _, rfl, hl4, by rw [List.length_map]; omega, by rw [List.length_map]; omega, fun b G5 hb0 hb1 hl5 f5 => ?_⟩
      rw [List.length_map] at hb1
      obtain ⟨b, rfl⟩ : ∃ n : Nat, b = (n : Int) := ⟨b.toNat, by omega⟩
      have f := f.trans f5
      have hW := f5 _ _ nRs nRc hW
      have hS5 := f5 _ _ nSs nSc hS4
      refine ⟨_, uL (at0 spots b), hS5, at0I (by omega), ?_⟩
      refine ⟨_, hW, fun p1 h1 => ?_⟩
      rw [cut_to uM W a (by omega)]
      refine ⟨rfl, rfl, fun p2 h2 => ?_⟩
      have n12 : p1 ≠ p2 := gne_none gup_same h2
      refine ⟨_, _, (by rw [gup_ne n12]; exact gup_same), gup_same, decide_eq_true (by rw [List.length_map, List.length_take]; show _ + 1 ≤ _; omega), fun p3 h3 => ?_⟩
      have q2 := (gnone h2).1
      have q3 := (gnone (gnone h3).1).1
      have r1 := gne_none hW h1
      have r2 := gne_none hW q2
      have r3 := gne_none hW q3
      refine ⟨_, (by rw [gup_ne r3, gup_ne r2, gup_ne r1]; exact hW), fun p4 h4 => ?_⟩
      have q4 := (gnone (gnone (gnone h4).1).1).1
      have n34 : p3 ≠ p4 := gne_none gup_same h4
      rw [cut_from uM W a _ rfl (by omega)]
      refine ⟨_, _, (by rw [gup_ne n34]; exact gup_same), gup_same, decide_eq_true (by rw [List.length_append, List.length_map, List.length_map, List.length_take, List.length_drop]; show _ + 1 + _ ≤ _; omega), fun p5 h5 => ?_⟩
      have q5 := (gnone (gnone (gnone (gnone h5).1).1).1).1
      refine Wk2.of ⟨p5, W.take a ++ [(at0 spots b, m.2)] ++ W.drop a, _, _, _, _, rfl, ((((hl5.mut (hl5.ns h1) (hl5.nc h1)).mut (hl5.ns q2) (hl5.nc q2)).mut (hl5.ns q3) (hl5.nc q3)).mut (hl5.ns q4) (hl5.nc q4)).mut (hl5.ns q5) (hl5.nc q5), ((((f.mut (f.free hl5 h1)).mut (f.free hl5 q2)).mut (f.free hl5 q3)).mut (f.free hl5 q4)).mut (f.free hl5 q5), f.free hl5 q5, hl5.ns q5, hl5.nc q5, by rw [gup_same, List.map_append, List.map_append]; rfl, ?_, fun _ => bad_ins a g⟩
      rw [List.length_append, List.length_append, List.length_take, List.length_drop]
      show _ + 1 + _ = _
      omega
    · have g : (out0.1 = .out ∨ out0 ∈ goals W) := .inl rfl
      by_cases hv1 : v1 = 1
      · refine ifT (by rw [eq3_int, hv1]; rfl) ?_
        refine .inl ⟨_, hW, ?_⟩
        refine ifF (decide_eq_false (by rw [List.length_map]; omega)) ?_
        refine .inl ⟨_, hW, s, c, _, rfl, hl, by omega, by rw [List.length_map]; omega, fun a G4 ha0 ha1 hl4 f4 => ?_⟩
        rw [List.length_map] at ha1
        obtain ⟨a, rfl⟩ : ∃ n : Nat, a = (n : Int) := ⟨a.toNat, by omega⟩
        have f := f.trans f4
        have hW := f4 _ _ nRs nRc hW
        have hS4 := f _ _ nSs nSc hS
        refine .inl ⟨_, hS4, s, c, _, rfl, hl4, by rw [List.length_map]; omega, by rw [List.length_map]; omega, fun b G5 hb0 hb1 hl5 f5 => ?_⟩
        rw [List.length_map] at hb1
        obtain ⟨b, rfl⟩ : ∃ n : Nat, b = (n : Int) := ⟨b.toNat, by omega⟩
        have f := f.trans f5
        have hW := f5 _ _ nRs nRc hW
        have hS5 := f5 _ _ nSs nSc hS4
        refine ⟨_, uL (at0 spots b), hS5, at0I (by omega), ?_⟩
        refine ⟨_, hW, fun p1 h1 => ?_⟩
        rw [cut_to uM W a (by omega)]
        refine ⟨rfl, rfl, fun p2 h2 => ?_⟩
        have n12 : p1 ≠ p2 := gne_none gup_same h2
        refine ⟨_, _, (by rw [gup_ne n12]; exact gup_same), gup_same, decide_eq_true (by rw [List.length_map, List.length_take]; show _ + 1 ≤ _; omega), fun p3 h3 => ?_⟩
        have q2 := (gnone h2).1
        have q3 := (gnone (gnone h3).1).1
        have r1 := gne_none hW h1
        have r2 := gne_none hW q2
        have r3 := gne_none hW q3
        refine ⟨_, (by rw [gup_ne r3, gup_ne r2, gup_ne r1]; exact hW), fun p4 h4 => ?_⟩
        have q4 := (gnone (gnone (gnone h4).1).1).1
        have n34 : p3 ≠ p4 := gne_none gup_same h4
        rw [cut_from uM W a _ rfl (by omega)]
        refine ⟨_, _, (by rw [gup_ne n34]; exact gup_same), gup_same, decide_eq_true (by rw [List.length_append, List.length_map, List.length_map, List.length_take, List.length_drop]; show _ + 1 + _ ≤ _; omega), fun p5 h5 => ?_⟩
        have q5 := (gnone (gnone (gnone (gnone h5).1).1).1).1
        refine Wk2.of ⟨p5, W.take a ++ [(at0 spots b, out0)] ++ W.drop a, _, _, _, _, rfl, ((((hl5.mut (hl5.ns h1) (hl5.nc h1)).mut (hl5.ns q2) (hl5.nc q2)).mut (hl5.ns q3) (hl5.nc q3)).mut (hl5.ns q4) (hl5.nc q4)).mut (hl5.ns q5) (hl5.nc q5), ((((f.mut (f.free hl5 h1)).mut (f.free hl5 q2)).mut (f.free hl5 q3)).mut (f.free hl5 q4)).mut (f.free hl5 q5), f.free hl5 q5, hl5.ns q5, hl5.nc q5, by rw [gup_same, List.map_append, List.map_append]; rfl, ?_, fun _ => bad_ins a g⟩
        rw [List.length_append, List.length_append, List.length_take, List.length_drop]
        show _ + 1 + _ = _
        omega
      · refine ifF (by rw [eq3_int]; simp [hv1]) ?_
        refine .inl ⟨_, hW, s, c, _, rfl, hl, by omega, by rw [List.length_map]; omega, fun a G4 ha0 ha1 hl4 f4 => ?_⟩
        rw [List.length_map] at ha1
        obtain ⟨a, rfl⟩ : ∃ n : Nat, a = (n : Int) := ⟨a.toNat, by omega⟩
        have f := f.trans f4
        have hW := f4 _ _ nRs nRc hW
        have hS4 := f _ _ nSs nSc hS
        refine .inl ⟨_, hS4, s, c, _, rfl, hl4, by rw [List.length_map]; omega, by rw [List.length_map]; omega, fun b G5 hb0 hb1 hl5 f5 => ?_⟩
        rw [List.length_map] at hb1
        obtain ⟨b, rfl⟩ : ∃ n : Nat, b = (n : Int) := ⟨b.toNat, by omega⟩
        have f := f.trans f5
        have hW := f5 _ _ nRs nRc hW
        have hS5 := f5 _ _ nSs nSc hS4
        refine ⟨_, uL (at0 spots b), hS5, at0I (by omega), ?_⟩
        refine ⟨_, hW, fun p1 h1 => ?_⟩
        rw [cut_to uM W a (by omega)]
        refine ⟨rfl, rfl, fun p2 h2 => ?_⟩
        have n12 : p1 ≠ p2 := gne_none gup_same h2
        refine ⟨_, _, (by rw [gup_ne n12]; exact gup_same), gup_same, decide_eq_true (by rw [List.length_map, List.length_take]; show _ + 1 ≤ _; omega), fun p3 h3 => ?_⟩
        have q2 := (gnone h2).1
        have q3 := (gnone (gnone h3).1).1
        have r1 := gne_none hW h1
        have r2 := gne_none hW q2
        have r3 := gne_none hW q3
        refine ⟨_, (by rw [gup_ne r3, gup_ne r2, gup_ne r1]; exact hW), fun p4 h4 => ?_⟩
        have q4 := (gnone (gnone (gnone h4).1).1).1
        have n34 : p3 ≠ p4 := gne_none gup_same h4
        rw [cut_from uM W a _ rfl (by omega)]
        refine ⟨_, _, (by rw [gup_ne n34]; exact gup_same), gup_same, decide_eq_true (by rw [List.length_append, List.length_map, List.length_map, List.length_take, List.length_drop]; show _ + 1 + _ ≤ _; omega), fun p5 h5 => ?_⟩
        have q5 := (gnone (gnone (gnone (gnone h5).1).1).1).1
        refine Wk2.of ⟨p5, W.take a ++ [(at0 spots b, out0)] ++ W.drop a, _, _, _, _, rfl, ((((hl5.mut (hl5.ns h1) (hl5.nc h1)).mut (hl5.ns q2) (hl5.nc q2)).mut (hl5.ns q3) (hl5.nc q3)).mut (hl5.ns q4) (hl5.nc q4)).mut (hl5.ns q5) (hl5.nc q5), ((((f.mut (f.free hl5 h1)).mut (f.free hl5 q2)).mut (f.free hl5 q3)).mut (f.free hl5 q4)).mut (f.free hl5 q5), f.free hl5 q5, hl5.ns q5, hl5.nc q5, by rw [gup_same, List.map_append, List.map_append]; rfl, ?_, fun _ => bad_ins a g⟩
        rw [List.length_append, List.length_append, List.length_take, List.length_drop]
        show _ + 1 + _ = _
        omega
  · rintro σ' G' ⟨R, W, z1, z2, z3, z4, rfl, hl, f, hR, nRs, nRc, hW, hwl, hb⟩
    exact Wk.of (hq W R G' hl f hR nRs nRc hW (by omega) (hb (by omega)))
end
end K39
end
section
set_option Elab.async false
set_option linter.all false
set_option maxRecDepth 100000
set_option maxHeartbeats 2000000
namespace K39
open PySem L2 L3
/-- a list of lists of places -/
structure Rgs (G : G3) (as : List Addr) (rs : List (List Loc)) : Prop where
  len : as.length = rs.length
  at' : ∀ (i : Nat) (a : Addr) (r : List Loc), as[i]? = some a → rs[i]? = some r → G a = some (.lst (r.map uL))
section
variable {P : Program} {w : World} {K : PySem.W.Frag} {mg : Str → Option Value} {base : Heap}
abbrev s_law_rings : Stmt := topS 22
abbrev law_rings_N : List Str := ["pending", "rings", "ringed", "k", "ring"]
theorem sc_law_rings : FnScope law_rings_N ["pending"] (defScope s_law_rings) := ⟨rfl, rfl, rfl, by decide +kernel, rfl, by decide +kernel, by decide +kernel⟩
def spRgs : Sp3 := fun ws G Q _ => ∃ (p : Addr) (W : List Mv), ws = [.ref p] ∧ G p = some (.lst (W.map uM)) ∧ W.length ≤ 100 ∧ ∀ (as : List Addr) (L : Addr) (G' : G3), Sub G G' → G L = none → G' L = some (.lst (as.map U.ref)) → Rgs G' as (prAll W).1 → Q (.ref L) G'
theorem ok_rgs {f fT : Addr} {fd fdT : FuncData} (F : Fun K "_law_rings" "_law_rings" s_law_rings f fd) (T : Tg2 mg) (O_law_ring : Own P w K mg base 1 "_law_ring" ["pending", "first"] spLR fT fdT) : FnOk P w K mg base CX0 2 f fd ["pending"] (lowSp K spRgs) := by
  refine Fun_ok3 F sc_law_rings (fun ws G Q E h => by obtain ⟨_, _, rfl, _⟩ := h; rfl) (fun cdv A outer s H E ws G Q E3 hr h => ?_)
  have hr_law_ring : Room 1 _ := hr
  have hu64 := hr.units
  have hu65 : (A.deeper (PyProof.Rows.envOfC "_law_rings" (defScope s_law_rings) s.heap.objs.size f cdv)).units + 65 < cLine := by have := hr.un; omega
  obtain ⟨p, W, rfl, hp, hlen, hq⟩ := h
  refine ⟨_, (ss_cons (s_set (i := 1) sc_law_rings.nd (e3lst a3nil))
      (ss_cons (s_set (i := 2) sc_law_rings.nd (e3lst a3nil))
      (ss_cons (s_for PassesOwn.never rfl (i_range1 T.range (e3B k_len T.len (a3cons (e3v 0) a3nil))) (pg_name (i := 3) sc_law_rings.nd rfl (by first | exact Or.inl rfl | exact Or.inr rfl)) gl_name
      (ss_cons (s_set (i := 4) sc_law_rings.nd (e3call O_law_ring.G hr_law_ring O_law_ring.g O_law_ring.kp O_law_ring.b pass0 (a3cons (e3v 0) (a3cons (e3v 3) a3nil))))
        (ss_one (s_if (PW.pt (w3and (t3cmp o_gt (e3B k_len T.len (a3cons (e3v 4) a3nil)) e3int) (w3and1 (t3cmp (o_notin hu65) (e3ix (e3v 4) e3int) (e3v 2) rfl))))
        (ss_cons (s_expr (e3bmL PySem.F.slot_list_append PySem.F.type_list_append m_append (e3v 1) (a3cons (e3v 4) a3nil)))
          (ss_one (s_set (i := 2) sc_law_rings.nd (e3op o_cat (e3v 2) (e3v 4)))))
        ss_nil))))
      (ss_one (s_ret (e3v 1)))))), ?_⟩
  refine ⟨rfl, fun RL hRL => ⟨rfl, fun DL hDL => ?_⟩⟩
  try dsimp only [seq3, asg3, n3, v3, drop3, ret3, next3, List.set_cons_zero, List.set_cons_succ, List.getElem?_cons_zero, List.getElem?_cons_succ, start3, List.map_cons, List.map_nil, List.length_cons, List.length_nil, List.replicate, List.cons_append, List.nil_append, Nat.reduceSub, Nat.reduceAdd]
  refine for_of ?_
  have nRD : RL ≠ DL := gne_none gup_same hDL
  have gD : G DL = none := (gnone hDL).1
  have s0 : Sub G (gup (gup G RL (.lst [])) DL (.lst [])) := fun x o e => by rw [gup_ne (gne_none e gD), gup_ne (gne_none e hRL)]; exact e
  refine .inl ⟨_, s0 _ _ hp, decide_eq_true (by rw [List.length_map]; omega), ?_⟩
  refine forK_of W.length (by rw [rgU_len, List.length_map]; rfl) (fun i σ G' => ∃ (D : Addr) (as : List Addr) (z1 z2 : Option U), σ = [some (.ref p), some (.ref RL), some (.ref D), z1, z2] ∧ Sub G G' ∧ RL ≠ D ∧ G' RL = some (.lst (as.map U.ref)) ∧ G' D = some (.lst ((prTo W i).2.map uL)) ∧ Rgs G' as (prTo W i).1 ∧ RL ∉ as ∧ G D = none)
    ⟨DL, [], _, _, rfl, s0, nRD, by rw [gup_ne nRD]; exact gup_same, gup_same, ⟨rfl, fun i a r h => by simp at h⟩, by simp, gD⟩ (fun _ _ _ _ _ => trivial) ?_ ?_
  · rintro i x σ' G' hi hx ⟨D, as, z1, z2, rfl, hs, nRD, hR, hD, R, hn, gD⟩
    have hx' : x = .int ((i : Nat) : Int) := by
      rw [rgU_get (by rw [List.length_map]; exact hi)] at hx
      cases hx
      rw [Int.zero_add]
    subst hx'
    have hm : W[i]? = some W[i] := List.getElem?_eq_getElem hi
    generalize W[i] = m at hm
    refine ⟨p, W, i, m, rfl, hs _ _ hp, hlen, hm, fun L hL => ?_⟩
    refine .inl ⟨_, gup_same, ?_⟩
    have hR1 : gup G' L (.lst ((ringOf W m.1).map uL)) RL = some (.lst (as.map U.ref)) := by rw [gup_ne (gne_none hR hL)]; exact hR
    have hD1 : gup G' L (.lst ((ringOf W m.1).map uL)) D = some (.lst ((prTo W i).2.map uL)) := by rw [gup_ne (gne_none hD hL)]; exact hD
    have s1 : Sub G' (gup G' L (.lst ((ringOf W m.1).map uL))) := Sub.new (Sub.refl _) hL
    have R1 : Rgs (gup G' L (.lst ((ringOf W m.1).map uL))) as (prTo W i).1 := ⟨R.len, fun j a r h1 h2 => s1 _ _ (R.at' j a r h1 h2)⟩
    have hLn : L ∉ as := fun h => by
      obtain ⟨j, hj, e⟩ := List.mem_iff_getElem.mp h
      have hj2 : j < (prTo W i).1.length := by rw [← R.len]; exact hj
      have := R.at' j L _ (by rw [List.getElem?_eq_getElem hj, e]) (List.getElem?_eq_getElem hj2)
      rw [hL] at this
      cases this
    have hpl := prTo_len W i (by omega)
    have hz : i * W.length ≤ 10000 := Nat.mul_le_mul (by omega : i ≤ 100) (by omega : W.length ≤ 100)
    have hrl := ringOf_len W m.1
    have same : prStep W (prTo W i) m = prTo W i → Wk2 (fun σ G' => ∃ (D : Addr) (as : List Addr) (z1 z2 : Option U), σ = [some (.ref p), some (.ref RL), some (.ref D), z1, z2] ∧ Sub G G' ∧ RL ≠ D ∧ G' RL = some (.lst (as.map U.ref)) ∧ G' D = some (.lst ((prTo W (i + 1)).2.map uL)) ∧ Rgs G' as (prTo W (i + 1)).1 ∧ RL ∉ as ∧ G D = none) [some (.ref p), some (.ref RL), some (.ref D), some (.int ((i : Nat) : Int)), some (.ref L)] (gup G' L (.lst ((ringOf W m.1).map uL))) := fun e => by
      refine Wk2.of ⟨D, as, _, _, rfl, hs.trans s1, nRD, hR1, ?_, ?_, hn, gD⟩
      · rw [prTo_succ hm, e]; exact hD1
      · rw [prTo_succ hm, e]; exact R1
    by_cases hr0 : ringOf W m.1 = []
    · refine ifF (decide_eq_false (by rw [hr0]; simp)) ?_
      exact same (by unfold prStep; split <;> rfl)
    · obtain ⟨tl, htl⟩ := ringGo_pre (nxt W) m.1 W.length [] m.1 hr0
      have htl : ringOf W m.1 = m.1 :: tl := htl
      refine ifT (decide_eq_true (by rw [htl]; simp)) ?_
      refine ⟨_, uL m.1, gup_same, (by rw [htl]; exact atI_nat (i := 0) rfl), _, hD1, dat_uL _, dat_Ls _, ?_⟩
      by_cases hin : m.1 ∈ (prTo W i).2
      · refine ifF (by rw [if_pos rfl, any_uL, decide_eq_true hin]; rfl) ?_
        exact same (by unfold prStep; rw [if_pos hin])
      · refine ifT (by rw [if_pos rfl, any_uL, decide_eq_false hin]; rfl) ?_
        refine ⟨⟨_, hR1⟩, _, hR1, decide_eq_true (by rw [List.length_map, R.len]; omega), ?_⟩
        have nLR : L ≠ RL := (gne_none hR hL).symm
        refine ⟨_, _, (by rw [gup_ne nRD.symm]; exact hD1), (by rw [gup_ne nLR]; exact gup_same), decide_eq_true (by rw [List.length_map, List.length_map]; omega), fun p5 h5 => ?_⟩
        have q5 := gnone h5
        have g5 : G p5 = none := by
          cases e : G p5 with
          | none => rfl
          | some o => rw [(hs.trans s1) _ _ e] at q5; cases q5.1
        have hst : prStep W (prTo W i) m = ((prTo W i).1 ++ [ringOf W m.1], (prTo W i).2 ++ ringOf W m.1) := by unfold prStep; rw [if_neg hin, if_neg hr0]
        have hn5 : p5 ≠ L := fun e => by rw [e, gup_same] at q5; cases q5.1
        refine Wk2.of ⟨p5, as ++ [L], _, _, rfl, ?_, q5.2.symm, ?_, ?_, ?_, ?_, g5⟩
        · intro x o e
          rw [gup_ne (gne_none e g5), gup_ne (gne_none e hRL)]
          exact (hs.trans s1) _ _ e
        · rw [gup_ne q5.2.symm, gup_same, List.map_append]; rfl
        · rw [gup_same, prTo_succ hm, hst, List.map_append]
        · rw [prTo_succ hm, hst]
          have keep : ∀ a o, a ≠ RL → gup G' L (.lst ((ringOf W m.1).map uL)) a = some o → gup (gup (gup G' L (.lst ((ringOf W m.1).map uL))) RL (.lst (as.map U.ref ++ [U.ref L]))) p5 (.lst ((prTo W i).2.map uL ++ (ringOf W m.1).map uL)) a = some o := fun a o n e => by
            rw [gup_ne (gne_none e q5.1), gup_ne n]; exact e
          refine ⟨by rw [List.length_append, List.length_append, R.len]; rfl, fun j a r h1 h2 => ?_⟩
          by_cases hj : j < as.length
          · rw [List.getElem?_append_left hj] at h1
            rw [List.getElem?_append_left (by rw [← R.len]; exact hj)] at h2
            exact keep a _ (fun e => hn (by rw [← e]; exact List.mem_of_getElem? h1)) (R1.at' j a r h1 h2)
          · rw [List.getElem?_append_right (by omega)] at h1
            rw [List.getElem?_append_right (by rw [← R.len]; omega)] at h2
            have hj0 : j - as.length = 0 := by
              have := (List.getElem?_eq_some_iff.mp h1).1
              simp at this
              omega
            rw [hj0] at h1
            rw [← R.len, hj0] at h2
            cases h1
            cases h2
            exact keep L _ nLR gup_same
        · intro h
          rcases List.mem_append.mp h with h | h
          · exact hn h
          · exact nLR (List.mem_singleton.mp h).symm
  · rintro σ' G' ⟨D, as, z1, z2, rfl, hs, nRD, hR, hD, R, hn, gD⟩
    rw [prTo_all] at R
    exact Wk.of (hq as RL G' hs hRL hR R)
end
end K39
end
section
set_option Elab.async false
set_option linter.all false
set_option maxRecDepth 100000
set_option maxHeartbeats 2000000
namespace K39
open PySem L2 L3
section
variable {P : Program} {w : World} {K : PySem.W.Frag} {mg : Str → Option Value} {base : Heap}
abbrev s_law_all_moves : Stmt := topS 27
abbrev law_all_moves_N : List Str := ["told", "many", "row"]
theorem sc_law_all_moves : FnScope law_all_moves_N ["told", "many"] (defScope s_law_all_moves) := ⟨rfl, rfl, rfl, by decide +kernel, rfl, by decide +kernel, by decide +kernel⟩
def spAM : Sp3 := fun ws G Q _ => ∃ (rows : List Row), ws = [.tup (rows.map uR), .int (rows.length : Nat)] ∧ rows.length ≤ 90000 ∧ (∀ r ∈ rows, r.1 = false) ∧ Q (.bl true) G
theorem ok_am {f : Addr} {fd : FuncData} (F : Fun K "_law_all_moves" "_law_all_moves" s_law_all_moves f fd) (T : Tg2 mg) : FnOk P w K mg base CX0 1 f fd ["told", "many"] (lowSp K spAM) := by
  refine Fun_ok3 F sc_law_all_moves (fun ws G Q E h => by obtain ⟨_, rfl, _⟩ := h; rfl) (fun cdv A outer s H E ws G Q E3 hr h => ?_)
  have hu64 := hr.units
  obtain ⟨rows, rfl, hl, hm, hq⟩ := h
  refine ⟨_, (ss_cons (s_if (PW.pt (w3or (t3not (t3val (e3B k_isi T.isinstance (a3cons (e3v 0) (a3cons (e3ty (n := "tuple") rfl T.tuple (by decide +kernel)) a3nil))))) (w3or1 (t3cmp (o_ne hu64) (e3B k_len T.len (a3cons (e3v 0) a3nil)) (e3v 1)))))
      (ss_one (s_ret e3bl))
      ss_nil)
      (ss_cons (s_for PassesOwn.never rfl (i_tup (e3v 0)) (pg_name (i := 2) sc_law_all_moves.nd rfl (by first | exact Or.inl rfl | exact Or.inr rfl)) gl_name
      (ss_one (s_if (PW.pt (w3or (t3not (t3val (e3B k_isi T.isinstance (a3cons (e3v 2) (a3cons (e3ty (n := "tuple") rfl T.tuple (by decide +kernel)) a3nil))))) (w3or (t3cmp (o_ne hu64) (e3B k_len T.len (a3cons (e3v 2) a3nil)) e3int) (w3or1 (t3cmp (o_ne hu64) (e3ix (e3v 2) e3int) e3str)))))
        (ss_one (s_ret e3bl))
        ss_nil)))
      (ss_one (s_ret e3bl)))), ?_⟩
  refine ⟨"tuple", true, rfl, kit_tt, ?_⟩
  refine ifF rfl ?_
  refine ⟨dat_int _, dat_int _, ?_⟩
  refine ifF (by rw [if_pos rfl, eq3_int, List.length_map]; simp) ?_
  try dsimp only [seq3, asg3, n3, v3, drop3, ret3, next3, List.set_cons_zero, List.set_cons_succ, List.getElem?_cons_zero, List.getElem?_cons_succ, start3, List.map_cons, List.map_nil, List.length_cons, List.length_nil, List.replicate, List.cons_append, List.nil_append, Nat.reduceSub, Nat.reduceAdd]
  refine for_of ?_
  refine it_tup rfl ?_
  refine forK_of rows.length (by rw [List.length_map]) (fun i σ G' => ∃ z1 : Option U, σ = [some (.tup (rows.map uR)), some (.int (rows.length : Nat)), z1] ∧ G' = G) ⟨_, rfl, rfl⟩ (fun _ _ _ _ _ => trivial) ?_ ?_
  · rintro i x σ' G' hi hx ⟨z1, rfl, rfl⟩
    have hr : rows[i]? = some rows[i] := List.getElem?_eq_getElem hi
    have hmem : rows[i] ∈ rows := List.getElem_mem _
    generalize rows[i] = r at hr hmem
    rw [List.getElem?_map, hr] at hx
    cases hx
    refine ⟨"tuple", true, rfl, kit_tt, ?_⟩
    refine ifF rfl ?_
    refine ⟨dat_int _, dat_int _, ?_⟩
    refine ifF rfl ?_
    refine ⟨.str (rowS r.1), rfl, dat_row _, dat_row false, ?_⟩
    refine ifF (by rw [if_pos rfl]; rw [show eq3 (.str (rowS r.1)) (.str "move") = decide (r.1 = false) from eq3_row r.1 false, hm r hmem]; rfl) ?_
    exact Wk2.of ⟨_, rfl, rfl⟩
  · rintro σ' G' ⟨z1, rfl, rfl⟩
    exact Wk.of hq
end
end K39
end
section
set_option linter.all false
namespace K39
/-- moves and a spare place as the law hands them in -/
structure OkM (M : List Mv) (sp : Loc) : Prop where
  len : M.length ≤ 100
  nd : (goals M).Nodup
  out : ∀ m ∈ M, m.2.1 ≠ .out
  src : ∀ m ∈ M, m.1 ≠ sp
  tgt : ∀ m ∈ M, m.2 ≠ sp
end K39
end
section
set_option linter.all false
/-! rings: what they are; the moves left over are never stuck -/
namespace K39
theorem mem_tgs {P : List Mv} {x t : Loc} : t ∈ tgs P x ↔ (x, t) ∈ P := by
  unfold tgs
  constructor
  · intro h
    obtain ⟨m, hm, e⟩ := List.mem_map.mp h
    have hm2 := List.mem_filter.mp hm
    have e2 := of_decide_eq_true hm2.2
    have : m = (x, t) := by obtain ⟨a, b⟩ := m; cases e; cases e2; rfl
    rw [← this]; exact hm2.1
  · intro h
    exact List.mem_map.mpr ⟨(x, t), List.mem_filter.mpr ⟨h, decide_eq_true rfl⟩, rfl⟩
/-- a ring: no place twice, each leads to the next, the last to the first -/
structure Ring (P : List Mv) (r : List Loc) : Prop where
  nd : r.Nodup
  two : 2 ≤ r.length
  nx : ∀ i, (h : i < r.length) → nxt P r[i] = some (r[(i + 1) % r.length]'(Nat.mod_lt _ (by omega)))
def RSpec (P : List Mv) (s : Loc) (r : List Loc) : Prop := r.Nodup ∧ r[0]? = some s ∧ (∀ i, (h : i + 1 < r.length) → nxt P (r[i]'(by omega)) = some r[i + 1]) ∧ ∀ y, r.getLast? = some y → nxt P y = some s
theorem ringGo_spec {P : List Mv} (hn : (goals P).Nodup) {s : Loc} : ∀ (n : Nat) (acc : List Loc) (x : Loc), Walk (nxt P) s acc x → (acc ++ [x])[0]? = some s → (∀ i, (h : i + 1 < (acc ++ [x]).length) → nxt P ((acc ++ [x])[i]'(by omega)) = some (acc ++ [x])[i + 1]) → ringGo (nxt P) s n acc x ≠ [] →
    RSpec P s (ringGo (nxt P) s n acc x)
  | 0, acc, x, _, _, _, h => absurd rfl h
  | n + 1, acc, x, w, h0, hc, h => by
    rw [ringGo] at h
    have e : ringGo (nxt P) s (n + 1) acc x = match nxt P x with
      | none => []
      | some t => if t = s then acc ++ [x] else ringGo (nxt P) s n (acc ++ [x]) t := rfl
    cases ht : nxt P x with
    | none => rw [ht] at h; exact absurd rfl h
    | some t =>
      rw [ht] at h e
      dsimp only at h e
      by_cases hs : t = s
      · rw [if_pos hs] at e
        rw [e]
        refine ⟨w.nd, h0, hc, fun y hy => ?_⟩
        rw [List.getLast?_concat] at hy
        cases hy
        rw [ht, hs]
      · rw [if_neg hs] at e h
        rw [e]
        refine ringGo_spec hn n (acc ++ [x]) t (w.step (fun u v t => nxt_inj hn) ht hs) ?_ (fun i hi => ?_) h
        · rw [List.getElem?_append_left (by rw [List.length_append]; exact Nat.succ_pos _)]
          exact h0
        · have hl : ((acc ++ [x]) ++ [t]).length = (acc ++ [x]).length + 1 := by simp
          by_cases hi2 : i + 1 < (acc ++ [x]).length
          · rw [List.getElem_append_left (by omega), List.getElem_append_left hi2]
            exact hc i hi2
          · have e1 : i + 1 = (acc ++ [x]).length := by omega
            have e2 : ((acc ++ [x]) ++ [t])[i + 1]'hi = t := by
              rw [List.getElem_append_right (by omega)]
              simp
            have e3 : ((acc ++ [x]) ++ [t])[i]'(by omega) = x := by
              have hi3 : i < (acc ++ [x]).length := by omega
              rw [List.getElem_append_left hi3, List.getElem_append_right (by rw [List.length_append] at e1; have : i + 1 = acc.length + 1 := e1; omega)]
              simp
            rw [e2, e3]
            exact ht
theorem ring_is {P : List Mv} (hn : (goals P).Nodup) (hp : ∀ m ∈ P, m.1 ≠ m.2) {s : Loc} (h : ringOf P s ≠ []) : Ring P (ringOf P s) := by
  obtain ⟨t, tl, et⟩ := ring_two hp h
  obtain ⟨h1, h2, h3, h4⟩ := ringGo_spec hn P.length [] s (Walk.start _ _) rfl (fun i h => absurd h (by simp)) h
  have h1 : (ringOf P s).Nodup := h1
  have h2 : (ringOf P s)[0]? = some s := h2
  have h3 : ∀ i, (h : i + 1 < (ringOf P s).length) → nxt P ((ringOf P s)[i]'(by omega)) = some (ringOf P s)[i + 1] := h3
  have h4 : ∀ y, (ringOf P s).getLast? = some y → nxt P y = some s := h4
  have hl : 2 ≤ (ringOf P s).length := by rw [et]; simp
  refine ⟨h1, hl, fun i hi => ?_⟩
  by_cases hi2 : i + 1 < (ringOf P s).length
  · have e : (i + 1) % (ringOf P s).length = i + 1 := Nat.mod_eq_of_lt hi2
    have := h3 i hi2
    rw [this]
    congr 1
    exact getElem_congr_idx e.symm
  · have e0 : i + 1 = (ringOf P s).length := by omega
    have e : (i + 1) % (ringOf P s).length = 0 := by rw [e0, Nat.mod_self]
    have hz : (ringOf P s)[(i + 1) % (ringOf P s).length]'(Nat.mod_lt _ (by omega)) = s := by
      have h0 : (ringOf P s)[0]'(by omega) = s := by
        rw [List.getElem?_eq_getElem (by omega)] at h2
        exact Option.some.inj h2
      exact (getElem_congr_idx e).trans h0
    rw [hz]
    refine h4 _ ?_
    rw [List.getLast?_eq_getElem?, show (ringOf P s).length - 1 = i by omega, List.getElem?_eq_getElem hi]
/-- what holds at one place of a ring and goes on along the moves holds at all -/
theorem Ring.all {P : List Mv} {r : List Loc} (R : Ring P r) {p : Loc → Prop} (hp : ∀ x t, x ∈ r → p x → nxt P x = some t → p t) {x : Loc} (hx : x ∈ r) (h : p x) : ∀ y ∈ r, p y := by
  obtain ⟨i, hi, rfl⟩ := List.mem_iff_getElem.mp hx
  have hn : 0 < r.length := by have := R.two; omega
  have key : ∀ j, p (r[(i + j) % r.length]'(Nat.mod_lt _ hn)) := by
    intro j
    induction j with
    | zero =>
      have : (i + 0) % r.length = i := by rw [Nat.add_zero]; exact Nat.mod_eq_of_lt hi
      have e : r[(i + 0) % r.length]'(Nat.mod_lt _ hn) = r[i] := getElem_congr_idx this
      rw [e]; exact h
    | succ j ih =>
      have hj := Nat.mod_lt (i + j) hn
      have := R.nx _ hj
      refine hp _ _ (List.getElem_mem hj) ih ?_
      rw [this]
      congr 1
      refine getElem_congr_idx ?_
      rw [← Nat.add_assoc, Nat.add_mod ((i + j) % r.length), Nat.mod_mod, ← Nat.add_mod]
  intro y hy
  obtain ⟨k, hk, rfl⟩ := List.mem_iff_getElem.mp hy
  have := key (k + r.length - i)
  have e : (i + (k + r.length - i)) % r.length = k := by
    rw [show i + (k + r.length - i) = k + r.length by omega, Nat.add_mod_right]
    exact Nat.mod_eq_of_lt hk
  have e2 : r[(i + (k + r.length - i)) % r.length]'(Nat.mod_lt _ hn) = r[k] := getElem_congr_idx e
  rw [e2] at this
  exact this
theorem Ring.next {P : List Mv} {r : List Loc} (R : Ring P r) {x : Loc} (hx : x ∈ r) : ∃ t ∈ r, nxt P x = some t := by
  obtain ⟨i, hi, rfl⟩ := List.mem_iff_getElem.mp hx
  exact ⟨_, List.getElem_mem _, R.nx i hi⟩
theorem Ring.prev {P : List Mv} {r : List Loc} (R : Ring P r) {x : Loc} (hx : x ∈ r) : ∃ y ∈ r, nxt P y = some x := by
  obtain ⟨i, hi, rfl⟩ := List.mem_iff_getElem.mp hx
  have hn : 0 < r.length := by have := R.two; omega
  have hj := Nat.mod_lt (i + r.length - 1) hn
  refine ⟨r[(i + r.length - 1) % r.length]'hj, List.getElem_mem _, ?_⟩
  rw [R.nx _ hj]
  congr 1
  refine getElem_congr_idx ?_
  rw [Nat.mod_add_mod, show i + r.length - 1 + 1 = i + r.length by omega, Nat.add_mod_right]
  exact Nat.mod_eq_of_lt hi
theorem prTo_disj {P : List Mv} (hn : (goals P).Nodup) (hp : ∀ m ∈ P, m.1 ≠ m.2) : ∀ i, i ≤ P.length → (prTo P i).2.Nodup
  | 0, _ => by simp [prTo]
  | i + 1, h => by
    have hi : i < P.length := by omega
    have ih := prTo_disj hn hp i (by omega)
    obtain ⟨i1, i2⟩ := prTo_inv P i (by omega)
    rw [prTo_succ (List.getElem?_eq_getElem hi)]
    unfold prStep
    split
    · exact ih
    · rename_i hin
      split
      · exact ih
      · rename_i hne
        have R := ring_is hn hp hne
        obtain ⟨t, tl, et⟩ := ring_two hp hne
        rw [List.nodup_append]
        refine ⟨ih, R.nd, fun a ha b hb e => ?_⟩
        subst e
        rw [i2] at ha
        obtain ⟨r1, hr1, har⟩ := List.mem_flatten.mp ha
        obtain ⟨n1, m1, hm1, e1⟩ := i1 r1 hr1
        have R1 : Ring P r1 := by rw [e1]; exact ring_is hn hp (by rw [← e1]; exact n1)
        have : ∀ y ∈ ringOf P P[i].1, y ∈ r1 := R.all (p := fun y => y ∈ r1) (fun x t hx hp ht => by
          obtain ⟨t', ht', e'⟩ := R1.next hp
          rw [ht] at e'; cases e'; exact ht') hb har
        have hs : P[i].1 ∈ r1 := this _ (by rw [et]; exact List.mem_cons_self)
        exact hin (by rw [i2]; exact List.mem_flatten.mpr ⟨r1, hr1, hs⟩)
theorem prAll_nd {P : List Mv} (hn : (goals P).Nodup) (hp : ∀ m ∈ P, m.1 ≠ m.2) : (prAll P).2.Nodup := by
  rw [← prTo_all]; exact prTo_disj hn hp _ (Nat.le_refl _)
theorem prAll_Ring {P : List Mv} (hn : (goals P).Nodup) (hp : ∀ m ∈ P, m.1 ≠ m.2) {r : List Loc} (h : r ∈ (prAll P).1) : Ring P r := by
  obtain ⟨h1, m, _, h2⟩ := prAll_ring h
  rw [h2]; exact ring_is hn hp (by rw [← h2]; exact h1)
theorem prTo_mono {P : List Mv} {x : Loc} : ∀ j i, i + j ≤ P.length → x ∈ (prTo P i).2 → x ∈ (prTo P (i + j)).2
  | 0, _, _, h => h
  | j + 1, i, hl, h => by
    have ih := prTo_mono j i (by omega) h
    have hi : i + j < P.length := by omega
    rw [show i + (j + 1) = (i + j) + 1 by omega, prTo_succ (List.getElem?_eq_getElem hi)]
    unfold prStep
    split
    · exact ih
    · split
      · exact ih
      · exact List.mem_append_left _ ih
theorem prAll_has {P : List Mv} (hp : ∀ m ∈ P, m.1 ≠ m.2) {m : Mv} (hm : m ∈ P) (h : ringOf P m.1 ≠ []) : m.1 ∈ (prAll P).2 := by
  obtain ⟨i, hi, rfl⟩ := List.mem_iff_getElem.mp hm
  rw [← prTo_all]
  have : P[i].1 ∈ (prTo P (i + 1)).2 := by
    rw [prTo_succ (List.getElem?_eq_getElem hi)]
    unfold prStep
    by_cases hin : P[i].1 ∈ (prTo P i).2
    · rw [if_pos hin]; exact hin
    · rw [if_neg hin, if_neg h]
      obtain ⟨t, tl, et⟩ := ring_two hp h
      refine List.mem_append_right _ ?_
      rw [et]; exact List.mem_cons_self
  have := prTo_mono (P.length - (i + 1)) (i + 1) (by omega) this
  rwa [show i + 1 + (P.length - (i + 1)) = P.length by omega] at this
theorem nodup_srcs {P : List Mv} {l : List Loc} (hl : l.Nodup) (h : ∀ x ∈ l, nxt P x ≠ none) : l.length ≤ P.length := by
  have := nodup_len l (srcs P) hl fun x hx => by
    cases e : nxt P x with
    | none => exact absurd e (h x hx)
    | some t => exact List.mem_map.mpr ⟨_, nxt_mem e, rfl⟩
  unfold srcs at this
  rwa [List.length_map] at this
/-- where the way never ends it comes back -/
theorem ring_back {P : List Mv} (hn : (goals P).Nodup) {S : List Loc} (hS : ∀ x ∈ S, ∃ t ∈ S, nxt P x = some t) {s : Loc} : ∀ (n : Nat) (acc : List Loc) (x : Loc), Walk (nxt P) s acc x → x ∈ S → acc.length + n = P.length → ringGo (nxt P) s n acc x ≠ []
  | 0, acc, x, w, hx, hl => by
    obtain ⟨t, _, ht⟩ := hS x hx
    have := nodup_srcs w.nd fun y hy => by
      rcases List.mem_append.mp hy with hy | hy
      · exact w.ne y hy
      · rw [List.mem_singleton.mp hy, ht]; exact fun e => by cases e
    rw [List.length_append] at this
    have : acc.length + 1 ≤ P.length := this
    omega
  | n + 1, acc, x, w, hx, hl => by
    obtain ⟨t, htS, ht⟩ := hS x hx
    rw [ringGo, ht]
    dsimp only
    by_cases hs : t = s
    · rw [if_pos hs]; simp
    · rw [if_neg hs]
      exact ring_back hn hS n _ t (w.step (fun u v t => nxt_inj hn) ht hs) htS (by rw [List.length_append]; show acc.length + 1 + n = _; omega)
/-- places that lead to one another, each by one move -/
structure Closed (W : List Mv) (S : List Loc) : Prop where
  ne : S ≠ []
  fwd : ∀ x ∈ S, ∃ t ∈ S, nxt W x = some t
  bwd : ∀ x ∈ S, ∃ y ∈ S, nxt W y = some x
theorem left_open {P : List Mv} (hn : (goals P).Nodup) (hp : ∀ m ∈ P, m.1 ≠ m.2) (S : List Loc) : ¬ Closed (leftOf P) S := fun C => by
  have same : ∀ x, x ∉ (prAll P).2 → nxt (leftOf P) x = nxt P x := fun x hx => by
    unfold nxt tgs leftOf
    rw [List.filter_filter]
    congr 2
    refine List.filter_congr fun m _ => ?_
    by_cases h : m.1 = x
    · simp [h, hx]
    · simp [h]
  have hfree : ∀ x ∈ S, x ∉ (prAll P).2 := fun x hx => by
    obtain ⟨t, _, ht⟩ := C.fwd x hx
    have hm := nxt_mem ht
    unfold leftOf at hm
    exact of_decide_eq_true (List.mem_filter.mp hm).2
  have hS : ∀ x ∈ S, ∃ t ∈ S, nxt P x = some t := fun x hx => by
    obtain ⟨t, h1, h2⟩ := C.fwd x hx
    exact ⟨t, h1, by rw [← same x (hfree x hx)]; exact h2⟩
  obtain ⟨x, hx⟩ := List.exists_mem_of_ne_nil S C.ne
  obtain ⟨t, _, ht⟩ := hS x hx
  have hr : ringOf P x ≠ [] := ring_back hn hS P.length [] x (Walk.start _ _) hx (by simp)
  exact hfree x hx (prAll_has hp (nxt_mem ht) hr)
theorem nodup_full {α : Type} [DecidableEq α] : ∀ (l k : List α), l.Nodup → (∀ x ∈ l, x ∈ k) → k.length = l.length → k.Nodup ∧ ∀ x ∈ k, x ∈ l
  | [], k, _, _, hl => by
    have : k = [] := List.length_eq_zero_iff.mp hl
    subst this
    exact ⟨List.nodup_nil, fun x hx => hx⟩
  | a :: l, k, hn, hs, hl => by
    have ha : a ∈ k := hs a List.mem_cons_self
    have hn := List.nodup_cons.mp hn
    have hle := List.length_erase_of_mem ha
    have hpos : 0 < k.length := List.length_pos_of_mem ha
    obtain ⟨h1, h2⟩ := nodup_full l (k.erase a) hn.2 (fun x hx => (List.mem_erase_of_ne (fun e : x = a => hn.1 (by rw [← e]; exact hx))).mpr (hs x (List.mem_cons_of_mem _ hx))) (by rw [hle, hl]; simp)
    have hp : List.Perm k (a :: k.erase a) := List.perm_cons_erase ha
    refine ⟨hp.nodup_iff.mpr (List.nodup_cons.mpr ⟨fun h => hn.1 (h2 a h), h1⟩), fun x hx => ?_⟩
    rcases List.mem_cons.mp (hp.subset hx) with e | h
    · rw [e]; exact List.mem_cons_self
    · exact List.mem_cons_of_mem _ (h2 x h)
theorem nxt_one {W : List Mv} (hn : (srcs W).Nodup) {x t : Loc} (h : (x, t) ∈ W) : nxt W x = some t := by
  refine one_eq.mpr ?_
  have : (tgs W x).length ≤ 1 := by
    unfold tgs
    rw [List.length_map]
    induction W with
    | nil => cases h
    | cons m r ih =>
      have hn := List.nodup_cons.mp hn
      rw [List.filter_cons]
      by_cases hm : m.1 = x
      · rw [if_pos (decide_eq_true hm)]
        have : r.filter (fun m => decide (m.1 = x)) = [] := List.filter_eq_nil_iff.mpr fun y hy => by
          have : ¬ y.1 = x := fun e => hn.1 (List.mem_map.mpr ⟨y, hy, by show y.1 = m.1; rw [e, hm]⟩)
          simp [this]
        rw [this]; exact Nat.le_refl _
      · rw [if_neg (by simp [hm])]
        rcases List.mem_cons.mp h with e | h
        · rw [← e] at hm; exact absurd rfl hm
        · exact ih hn.2 h
  have hm := mem_tgs.mpr h
  match he : tgs W x, hm, this with
  | [u], hm, _ => rw [List.mem_singleton.mp hm]
  | _ :: _ :: _, _, h2 => exact absurd h2 (by simp)
/-- where every target is read the moves are closed -/
theorem closed_of {W : List Mv} (hn : (goals W).Nodup) (hne : W ≠ []) (h : ∀ m ∈ W, m.2 ∈ srcs W) : (srcs W).Nodup ∧ Closed W (goals W) := by
  obtain ⟨h1, h2⟩ := nodup_full (goals W) (srcs W) hn (fun x hx => by obtain ⟨m, hm, e⟩ := List.mem_map.mp hx; rw [← e]; exact h m hm) (by unfold srcs goals; rw [List.length_map, List.length_map])
  refine ⟨h1, fun e => hne (List.map_eq_nil_iff.mp e), fun x hx => ?_, fun x hx => ?_⟩
  · obtain ⟨m, hm, e⟩ := List.mem_map.mp hx
    obtain ⟨m2, hm2, e2⟩ := List.mem_map.mp (h m hm)
    refine ⟨m2.2, List.mem_map.mpr ⟨m2, hm2, rfl⟩, ?_⟩
    rw [← e, ← e2]
    exact nxt_one h1 hm2
  · obtain ⟨m, hm, e⟩ := List.mem_map.mp hx
    refine ⟨m.1, h2 _ (List.mem_map.mpr ⟨m, hm, rfl⟩), ?_⟩
    rw [← e]
    exact nxt_one h1 hm
end K39
end
section
set_option Elab.async false
set_option linter.all false
set_option maxRecDepth 100000
set_option maxHeartbeats 2000000
namespace K39
open PySem L2 L3
/-- what the classes are to one another -/
structure ExT (K : PySem.W.Frag) (mg : Str → Option Value) (C CL CB : Addr) : Prop where
  exc : ExcC K C
  exm : PySem.W.exmOne K (.ref C) (.ref CL) = some true
  gC : mg "NeedsSpare" = some (.ref C)
  gL : mg "LiveError" = some (.ref CL)
  gB : mg "BadMoves" = some (.ref CB)
  k1 : PySem.W.kitOne K (.ref C) (.ref C) = some true
  k2 : PySem.W.kitOne K (.ref C) (.ref CB) = some false
  k3 : PySem.W.kitOne K (.ref C) (.type "ValueError") = some true
  xf : XfC K C
  noR : PySem.W.findIn K (.ref C) "ring" = some none
  ve : mg "ValueError" = none
/-- what the law's checks lean on -/
structure Good (M : List Mv) (e : Int) (sp : Option Loc) : Prop where
  len : M.length ≤ 100
  nd : (goals M).Nodup
  out : ∀ m ∈ M, m.2.1 ≠ .out
  e01 : e = 0 ∨ e = 1
  ok : looseOk (leftOf (pend M)).length (leftOf (pend M))
  ring : needs (pend M) e sp = true → ∃ rest, (prAll (pend M)).1 = ringOf (pend M) (at0 (srcs (pend M)) 0) :: rest
  right : needs (pend M) e sp = false → Right M sp (dueRows (pend M) e sp)
theorem dat_s {x : Str} (h : (PyData.str x).canLay0 = true) : dat (.str x) = true := by
  show (true && ((PyData.str x).canLay0 && decide ((PyData.str x).depth ≤ 64))) = true
  rw [h]; rfl
theorem dat_rows : dat (.str "rows") = true := dat_s (by decide +kernel)
theorem dat_ring : dat (.str "ring") = true := dat_s (by decide +kernel)
theorem eq3_ss (x : Str) : eq3 (.str x) (.str x) = true := by show (x == x) = true; simp
theorem plain_L (n : Nat) (l : Loc) : PlainU (n + 1) (uL l) := by
  refine ⟨by show 2 ≤ 90000; decide, fun x hx => ?_⟩
  rcases List.mem_cons.mp hx with rfl | hx
  · have := dat_kd l.1
    cases n <;> exact this
  · rw [List.mem_singleton.mp hx]
    cases n <;> trivial
theorem plain_G (n : Nat) (r : List Loc) (h : r.length ≤ 90000) : PlainU (n + 2) (uG r) := by
  refine ⟨by rw [List.length_map]; exact h, fun x hx => ?_⟩
  obtain ⟨l, _, rfl⟩ := List.mem_map.mp hx
  exact plain_L n l
theorem plain_R (rs : List Row) (h : rs.length ≤ 90000) : PlainU 3 (.tup (rs.map uR)) := by
  refine ⟨by rw [List.length_map]; exact h, fun x hx => ?_⟩
  obtain ⟨r, _, rfl⟩ := List.mem_map.mp hx
  refine ⟨by show 3 ≤ 90000; decide, fun y hy => ?_⟩
  rcases List.mem_cons.mp hy with rfl | hy
  · exact dat_row r.1
  · rcases List.mem_cons.mp hy with rfl | hy
    · exact plain_L 0 _
    · rw [List.mem_singleton.mp hy]; exact plain_L 0 _
theorem dueRows_len {W : List Mv} (h : W.length ≤ 100) (e : Int) (sp : Option Loc) : (dueRows W e sp).length ≤ 90000 := by
  have h1 := rowsTo_len W e (spD (dueSp W sp)) W.length (Nat.le_refl _)
  have h2 : W.length * (W.length + 3) ≤ 100 * 103 := Nat.mul_le_mul h (by omega)
  have h3 : (looseRows (leftOf W)).length ≤ W.length := Nat.le_trans (looseGo_len _ _) (List.length_filter_le _ _)
  unfold rowsTo at h1
  rw [prTo_all] at h1
  unfold dueRows
  rw [List.length_append]
  omega
section
variable {P : Program} {w : World} {K : PySem.W.Frag} {mg : Str → Option Value} {base : Heap}
end
end K39
end
section
set_option linter.all false
/-! the loose moves: never stuck, and right -/
namespace K39
theorem mem_erase_or {α : Type} {W : List α} {k : Nat} {m x : α} (h : W[k]? = some m) (hx : x ∈ W) : x = m ∨ x ∈ W.eraseIdx k := by
  obtain ⟨hk, e⟩ := List.getElem?_eq_some_iff.mp h
  have := (perm_erase W k hk).symm.subset hx
  rcases List.mem_cons.mp this with h1 | h1
  · left; rw [h1, e]
  · right; exact h1
theorem goals_erase (W : List Mv) (k : Nat) : goals (W.eraseIdx k) = (goals W).eraseIdx k := (erase_map (fun m : Mv => m.2) W k).symm
theorem goals_led (s t : Loc) (W : List Mv) : goals (W.map (led s t)) = goals W := by
  unfold goals; rw [List.map_map]; rfl
theorem goals_next (W : List Mv) (k : Nat) (m : Mv) : goals (looseNext W k m) = (goals W).eraseIdx k := by
  unfold looseNext
  split
  · rw [goals_led, goals_erase]
  · exact goals_erase W k
theorem goal_gone {W : List Mv} {k : Nat} {m : Mv} (hn : (goals W).Nodup) (h : W[k]? = some m) : m.2 ∉ (goals W).eraseIdx k := by
  obtain ⟨hk, e⟩ := List.getElem?_eq_some_iff.mp h
  have hk' : k < (goals W).length := by unfold goals; rw [List.length_map]; exact hk
  have hp := perm_erase (goals W) k hk'
  have := hp.nodup_iff.mpr hn
  have e2 : (goals W)[k] = m.2 := by
    have : (goals W)[k]? = some m.2 := by unfold goals; rw [List.getElem?_map, h]; rfl
    rw [List.getElem?_eq_getElem hk'] at this
    exact Option.some.inj this
  rw [e2] at this
  exact (List.nodup_cons.mp this).1
theorem tgs_erase : ∀ (W : List Mv) (k : Nat) (m : Mv) (x : Loc), W[k]? = some m → m.1 ≠ x → tgs (W.eraseIdx k) x = tgs W x
  | [], k, m, x, h, _ => by simp at h
  | a :: W, 0, m, x, h, hx => by
    simp at h
    subst h
    show tgs W x = tgs (a :: W) x
    unfold tgs
    rw [List.filter_cons, if_neg (by simp [hx])]
  | a :: W, k + 1, m, x, h, hx => by
    have ih := tgs_erase W k m x (by simpa using h) hx
    show tgs (a :: W.eraseIdx k) x = tgs (a :: W) x
    unfold tgs at ih ⊢
    rw [List.filter_cons, List.filter_cons]
    split
    · rw [List.map_cons, List.map_cons, ih]
    · exact ih
theorem tgs_led (s t x : Loc) (h1 : x ≠ s) (h2 : x ≠ t) : ∀ W : List Mv, tgs (W.map (led s t)) x = tgs W x
  | [] => rfl
  | a :: W => by
    have ih := tgs_led s t x h1 h2 W
    unfold tgs at ih ⊢
    rw [List.map_cons, List.filter_cons, List.filter_cons]
    have e : decide ((led s t a).1 = x) = decide (a.1 = x) := by
      unfold led
      by_cases ha : a.1 = s
      · have q1 : ¬ t = x := fun e => h2 e.symm
        have q2 : ¬ s = x := fun e => h1 e.symm
        simp [ha, q1, q2]
      · simp [ha]
    rw [e]
    split
    · rw [List.map_cons, List.map_cons, ih]; rfl
    · exact ih
theorem unread_some {W : List Mv} {k : Nat} (h : unread W = some k) : ∃ m, W[k]? = some m ∧ m.2 ∉ srcs W := by
  unfold unread at h
  rw [List.findIdx?_eq_some_iff_getElem] at h
  obtain ⟨hk, hp, _⟩ := h
  exact ⟨W[k], List.getElem?_eq_getElem hk, by simpa using hp⟩
theorem unread_none {W : List Mv} (h : unread W = none) : ∀ m ∈ W, m.2 ∈ srcs W := by
  unfold unread at h
  rw [List.findIdx?_eq_none_iff] at h
  intro m hm
  have := h m hm
  simpa using this
theorem open_next {W : List Mv} {k : Nat} {m : Mv} (hn : (goals W).Nodup) (ho : ∀ S, ¬ Closed W S) (h : W[k]? = some m) (hm : m.2 ∉ srcs W) : ∀ S, ¬ Closed (looseNext W k m) S := fun S C => by
  have hmem := List.mem_of_getElem? h
  have hgone := goal_gone hn h
  have hgS : ∀ x ∈ S, x ∈ (goals W).eraseIdx k := fun x hx => by
    obtain ⟨y, _, hy⟩ := C.bwd x hx
    have := nxt_mem hy
    have : x ∈ goals (looseNext W k m) := List.mem_map.mpr ⟨_, this, rfl⟩
    rwa [goals_next] at this
  have key : (∀ x ∈ S, x ≠ m.1 → tgs (looseNext W k m) x = tgs W x) → (∀ x ∈ S, x ≠ m.1) → False := fun hs hne => by
    have e : ∀ x ∈ S, nxt (looseNext W k m) x = nxt W x := fun x hx => by unfold nxt; rw [hs x hx (hne x hx)]
    refine ho S ⟨C.ne, fun x hx => ?_, fun x hx => ?_⟩
    · obtain ⟨t, h1, h2⟩ := C.fwd x hx
      exact ⟨t, h1, by rw [← e x hx]; exact h2⟩
    · obtain ⟨y, h1, h2⟩ := C.bwd x hx
      exact ⟨y, h1, by rw [← e y h1]; exact h2⟩
  by_cases hin : m.1 ∈ goals (W.eraseIdx k)
  · have en : looseNext W k m = (W.eraseIdx k).map (led m.1 m.2) := if_pos hin
    have h2 : ∀ x ∈ S, x ≠ m.2 := fun x hx e => hgone (by rw [← e]; exact hgS x hx)
    have h1 : ∀ x ∈ S, x ≠ m.1 := fun x hx e => by
      obtain ⟨t, _, ht⟩ := C.fwd x hx
      have ht := nxt_mem ht
      rw [en] at ht
      obtain ⟨y, hy, e2⟩ := List.mem_map.mp ht
      have e3 : (led m.1 m.2 y).1 = x := by rw [e2]
      unfold led at e3
      by_cases hy1 : y.1 = m.1
      · have e3 : m.2 = x := by simpa [hy1] using e3
        exact h2 x hx e3.symm
      · have e3 : y.1 = x := by simpa [hy1] using e3
        exact hy1 (e3.trans e)
    refine key (fun x hx hne => ?_) h1
    rw [en, tgs_led _ _ _ hne (h2 x hx), tgs_erase W k m x h (Ne.symm hne)]
  · have en : looseNext W k m = W.eraseIdx k := if_neg hin
    refine key (fun x hx hne => by rw [en, tgs_erase W k m x h (Ne.symm hne)]) fun x hx e => ?_
    rw [goals_erase] at hin
    exact hin (by rw [← e]; exact hgS x hx)
theorem next_len {W : List Mv} {k : Nat} {m : Mv} (h : W[k]? = some m) : (looseNext W k m).length + 1 = W.length := by
  obtain ⟨hk, _⟩ := List.getElem?_eq_some_iff.mp h
  have : (W.eraseIdx k).length + 1 = W.length := by rw [List.length_eraseIdx, if_pos hk]; omega
  unfold looseNext
  split
  · rw [List.length_map]; exact this
  · exact this
theorem loose_ok : ∀ (n : Nat) (W : List Mv), W.length = n → (goals W).Nodup → (∀ S, ¬ Closed W S) → looseOk n W
  | 0, _, _, _, _ => trivial
  | n + 1, W, hl, hn, ho => by
    cases hu : unread W with
    | none =>
      have hne : W ≠ [] := fun e => by rw [e] at hl; cases hl
      exact absurd (closed_of hn hne (unread_none hu)).2 (ho _)
    | some k =>
      obtain ⟨m, hm, hs⟩ := unread_some hu
      refine ⟨k, m, hu, hm, loose_ok n _ ?_ ?_ (open_next hn ho hm hs)⟩
      · have := next_len hm
        omega
      · rw [goals_next]; exact hn.sublist (List.eraseIdx_sublist _ _)
def runFrom (h : Loc → Loc) (rows : List Row) : Loc → Loc := rows.foldl stepH h
theorem runFrom_app (h : Loc → Loc) (a b : List Row) : runFrom h (a ++ b) = runFrom (runFrom h a) b := List.foldl_append
/-- the loose rows are right -/
theorem loose_run : ∀ (n : Nat) (W : List Mv) (h : Loc → Loc), W.length = n → (goals W).Nodup → looseOk n W →
    (∀ m ∈ W, runFrom h (looseGo n W) m.2 = h m.1) ∧ (∀ z, z ∉ goals W → runFrom h (looseGo n W) z = h z) ∧ ∀ r ∈ looseGo n W, r.2.1 ∈ srcs W ++ goals W ∧ r.2.2 ∈ goals W
  | 0, W, h, hl, _, _ => by
    have : W = [] := List.length_eq_zero_iff.mp hl
    subst this
    exact ⟨(fun m hm => by cases hm), fun z _ => rfl, (fun r hr => by cases hr)⟩
  | n + 1, W, h, hl, hn, ho => by
    obtain ⟨k, m, hu, hm, hok⟩ := ho
    obtain ⟨m', hm', hs⟩ := unread_some hu
    rw [hm] at hm'
    cases hm'
    have hmem := List.mem_of_getElem? hm
    have eg : looseGo (n + 1) W = (false, m.1, m.2) :: looseGo n (looseNext W k m) := by
      rw [looseGo, hu]
      dsimp only
      rw [hm]
    have hlen := next_len hm
    have hgone := goal_gone hn hm
    obtain ⟨i1, i2, i3⟩ := loose_run n (looseNext W k m) (stepH h (false, m.1, m.2)) (by omega) (by rw [goals_next]; exact hn.sublist (List.eraseIdx_sublist _ _)) hok
    have er : runFrom h (looseGo (n + 1) W) = runFrom (stepH h (false, m.1, m.2)) (looseGo n (looseNext W k m)) := by rw [eg]; rfl
    have es : ∀ z, stepH h (false, m.1, m.2) z = if z = m.2 then h m.1 else h z := fun z => by unfold stepH; simp
    have hsub : ∀ z ∈ (goals W).eraseIdx k, z ∈ goals W := fun z hz => (List.eraseIdx_sublist _ _).subset hz
    rw [goals_next] at i2 i3
    refine ⟨fun y hy => ?_, fun z hz => ?_, fun r hr => ?_⟩
    · rw [er]
      rcases mem_erase_or hm hy with e | he
      · subst e
        rw [i2 _ hgone, es, if_pos rfl]
      · have hy2 : y.1 ≠ m.2 := fun e => hs (by rw [← e]; exact List.mem_map.mpr ⟨y, hy, rfl⟩)
        by_cases hin : m.1 ∈ goals (W.eraseIdx k)
        · have en : looseNext W k m = (W.eraseIdx k).map (led m.1 m.2) := if_pos hin
          have := i1 (led m.1 m.2 y) (by rw [en]; exact List.mem_map.mpr ⟨y, he, rfl⟩)
          have e2 : (led m.1 m.2 y).2 = y.2 := rfl
          rw [e2] at this
          rw [this, es]
          by_cases hy1 : y.1 = m.1
          · have e3 : (led m.1 m.2 y).1 = m.2 := if_pos hy1
            rw [e3, if_pos rfl, hy1]
          · have e3 : (led m.1 m.2 y).1 = y.1 := if_neg hy1
            rw [e3, if_neg hy2]
        · have en : looseNext W k m = W.eraseIdx k := if_neg hin
          rw [i1 y (by rw [en]; exact he), es, if_neg hy2]
    · rw [er, i2 z (fun hh => hz (hsub z hh)), es, if_neg (fun e => hz (by rw [e]; exact List.mem_map.mpr ⟨m, hmem, rfl⟩))]
    · rw [eg] at hr
      have hmg : m.2 ∈ goals W := List.mem_map.mpr ⟨m, hmem, rfl⟩
      rcases List.mem_cons.mp hr with e | hr
      · subst e
        exact ⟨List.mem_append_left _ (List.mem_map.mpr ⟨m, hmem, rfl⟩), hmg⟩
      · obtain ⟨j1, j2⟩ := i3 r hr
        refine ⟨?_, hsub _ j2⟩
        rcases List.mem_append.mp j1 with j | j
        · obtain ⟨y, hy, e⟩ := List.mem_map.mp j
          unfold looseNext at hy
          split at hy
          · obtain ⟨y0, hy0, e0⟩ := List.mem_map.mp hy
            have hy0' : y0 ∈ W := (List.eraseIdx_sublist _ _).subset hy0
            rw [← e, ← e0]
            unfold led
            by_cases h1 : y0.1 = m.1
            · rw [if_pos h1]; exact List.mem_append_right _ hmg
            · rw [if_neg h1]; exact List.mem_append_left _ (List.mem_map.mpr ⟨y0, hy0', rfl⟩)
          · rw [← e]
            exact List.mem_append_left _ (List.mem_map.mpr ⟨y, (List.eraseIdx_sublist _ _).subset hy, rfl⟩)
        · exact List.mem_append_right _ (hsub _ j)
end K39
end
section
set_option linter.all false
/-! the rows of a ring turn it by one -/
namespace K39
def RingRun (h res : Loc → Loc) (r : List Loc) : Prop := ∀ i, i < r.length → res (at0 r ((i + 1) % r.length)) = h (at0 r i)
theorem at0_eq {r : List Loc} {i : Nat} (h : i < r.length) : at0 r i = r[i] := by
  unfold at0
  rw [List.getD_eq_getElem?_getD, List.getElem?_eq_getElem h]
  rfl
theorem at0_in {r : List Loc} {i : Nat} (h : i < r.length) : at0 r i ∈ r := by rw [at0_eq h]; exact List.getElem_mem h
theorem at0_inj {r : List Loc} (hn : r.Nodup) {i j : Nat} (hi : i < r.length) (hj : j < r.length) (h : at0 r i = at0 r j) : i = j := by
  rw [at0_eq hi, at0_eq hj] at h
  exact (List.getElem?_inj hi hn).mp (by rw [List.getElem?_eq_getElem hi, List.getElem?_eq_getElem hj, h])
theorem step_mv (h : Loc → Loc) (a b z : Loc) : stepH h (false, a, b) z = if z = b then h a else h z := by unfold stepH; simp
theorem step_sw (h : Loc → Loc) (a b z : Loc) : stepH h (true, a, b) z = if z = a then h b else if z = b then h a else h z := by unfold stepH; simp
theorem swaps_run (a : Loc) : ∀ (l : List Loc) (h : Loc → Loc), (a :: l).Nodup → (∀ (i : Nat) (x y : Loc), l[i]? = some x → (a :: l)[i]? = some y → runFrom h (l.map fun x => (true, a, x)) x = h y) ∧ (∀ y, (a :: l).getLast? = some y → runFrom h (l.map fun x => (true, a, x)) a = h y) ∧ ∀ z, z ∉ a :: l → runFrom h (l.map fun x => (true, a, x)) z = h z
  | [], h, _ => ⟨fun i x y hx => by simp at hx, (fun y hy => by simp at hy; rw [← hy]; rfl), fun z _ => rfl⟩
  | x :: l, h, hn => by
    have hn1 := List.nodup_cons.mp hn
    have hn2 := List.nodup_cons.mp hn1.2
    have hax : a ≠ x := fun e => hn1.1 (by rw [e]; exact List.mem_cons_self)
    have hal : a ∉ l := fun e => hn1.1 (List.mem_cons_of_mem _ e)
    obtain ⟨i1, i2, i3⟩ := swaps_run a l (stepH h (true, a, x)) (List.nodup_cons.mpr ⟨hal, hn2.2⟩)
    have er : runFrom h ((x :: l).map fun x => (true, a, x)) = runFrom (stepH h (true, a, x)) (l.map fun x => (true, a, x)) := rfl
    rw [er]
    have hl : ∀ z ∈ l, stepH h (true, a, x) z = h z := fun z hz => by
      rw [step_sw, if_neg (fun e : z = a => hal (by rw [← e]; exact hz)), if_neg (fun e : z = x => hn2.1 (by rw [← e]; exact hz))]
    have ha : stepH h (true, a, x) a = h x := by rw [step_sw, if_pos rfl]
    refine ⟨fun i u y hu hy => ?_, fun y hy => ?_, fun z hz => ?_⟩
    · cases i with
      | zero =>
        simp at hu hy
        subst hu hy
        rw [i3 x (fun hh => by
          rcases List.mem_cons.mp hh with e | e
          · exact hax e.symm
          · exact hn2.1 e), step_sw, if_neg (Ne.symm hax), if_pos rfl]
      | succ i =>
        have hu : l[i]? = some u := by simpa using hu
        have hy : (x :: l)[i]? = some y := by simpa using hy
        cases i with
        | zero =>
          simp at hy
          subst hy
          rw [i1 0 u a hu rfl, ha]
        | succ j =>
          have hy : l[j]? = some y := by simpa using hy
          rw [i1 (j + 1) u y hu (by simpa using hy), hl y (List.mem_of_getElem? hy)]
    · cases l with
      | nil =>
        simp at hy
        subst hy
        rw [i2 a rfl, ha]
      | cons b l =>
        have hy2 : (b :: l).getLast? = some y := by simpa [List.getLast?_cons_cons] using hy
        have hm : y ∈ b :: l := List.mem_of_getLast? hy2
        rw [i2 y (by rw [List.getLast?_cons_cons]; exact hy2), hl y hm]
    · have hz1 : z ≠ a := fun e => hz (by rw [e]; exact List.mem_cons_self)
      have hz2 : z ≠ x := fun e => hz (by rw [e]; exact List.mem_cons_of_mem _ List.mem_cons_self)
      rw [i3 z (fun hh => by
        rcases List.mem_cons.mp hh with e | e
        · exact hz1 e
        · exact hz (List.mem_cons_of_mem _ (List.mem_cons_of_mem _ e))), step_sw, if_neg hz1, if_neg hz2]
theorem ringSwaps_run {r : List Loc} (hn : r.Nodup) (h2 : 2 ≤ r.length) (h : Loc → Loc) : RingRun h (runFrom h (ringSwaps r)) r ∧ ∀ z, z ∉ r → runFrom h (ringSwaps r) z = h z := by
  match r, h2 with
  | a :: l, h2 =>
    have e : ringSwaps (a :: l) = l.map fun x => (true, a, x) := rfl
    rw [e]
    obtain ⟨s1, s2, s3⟩ := swaps_run a l h hn
    refine ⟨fun i hi => ?_, s3⟩
    have hl : (a :: l).length = l.length + 1 := rfl
    by_cases hi2 : i + 1 < (a :: l).length
    · rw [Nat.mod_eq_of_lt hi2, at0_eq hi2, at0_eq hi]
      refine s1 i _ _ ?_ (List.getElem?_eq_getElem hi)
      show l[i]? = some (l[i]'(by omega))
      exact List.getElem?_eq_getElem _
    · have e0 : i + 1 = (a :: l).length := by omega
      rw [e0, Nat.mod_self, at0_eq (show 0 < (a :: l).length by omega), at0_eq hi]
      refine s2 _ ?_
      rw [List.getLast?_eq_getElem?, show (a :: l).length - 1 = i by omega, List.getElem?_eq_getElem hi]
/-- behind i of the moves between the first two and the last -/
structure Mid (h H : Loc → Loc) (r : List Loc) (sp : Loc) (i : Nat) : Prop where
  one : H (at0 r 1) = h (at0 r 0)
  zero : 1 ≤ i → H (at0 r 0) = h (at0 r (r.length - 1))
  done : ∀ j, j < r.length → 2 ≤ j → r.length - i < j → H (at0 r j) = h (at0 r (j - 1))
  todo : ∀ j, j < r.length → 2 ≤ j → j ≤ r.length - i → H (at0 r j) = h (at0 r j)
  spare : H sp = h (at0 r 1)
  rest : ∀ z, z ∉ r → z ≠ sp → H z = h z
theorem mid_run {r : List Loc} (hn : r.Nodup) (h2 : 2 ≤ r.length) {sp : Loc} (hs : sp ∉ r) (h : Loc → Loc) : ∀ i, i ≤ r.length - 2 → Mid h (runFrom h ([(false, at0 r 1, sp), (false, at0 r 0, at0 r 1)] ++ (List.range i).map (midRow r))) r sp i
  | 0, _ => by
    have e : ∀ z, runFrom h ([(false, at0 r 1, sp), (false, at0 r 0, at0 r 1)] ++ (List.range 0).map (midRow r)) z = if z = at0 r 1 then (if at0 r 0 = sp then h (at0 r 1) else h (at0 r 0)) else if z = sp then h (at0 r 1) else h z := fun z => by
      show stepH (stepH h (false, at0 r 1, sp)) (false, at0 r 0, at0 r 1) z = _
      rw [step_mv, step_mv, step_mv]
    have ne : ∀ j, j < r.length → at0 r j ≠ sp := fun j hj e => hs (by rw [← e]; exact at0_in hj)
    refine ⟨?_, fun h => absurd h (by omega), fun j hj h2 h3 => absurd h3 (by omega), fun j hj h2 _ => ?_, ?_, fun z hz hz2 => ?_⟩
    · rw [e, if_pos rfl, if_neg (ne 0 (by omega))]
    · rw [e, if_neg (fun e => by have := at0_inj hn hj (by omega) e; omega), if_neg (ne j hj)]
    · rw [e, if_neg (fun e => ne 1 (by omega) e.symm), if_pos rfl]
    · rw [e, if_neg (fun e => hz (by rw [e]; exact at0_in (by omega))), if_neg hz2]
  | i + 1, hi => by
    have M := mid_run hn h2 hs h i (by omega)
    rw [List.range_succ, List.map_append, ← List.append_assoc, runFrom_app]
    generalize runFrom h ([(false, at0 r 1, sp), (false, at0 r 0, at0 r 1)] ++ (List.range i).map (midRow r)) = H at M ⊢
    have ht : (r.length - 1 - i + 1) % r.length < r.length := Nat.mod_lt _ (by omega)
    have hv : H (at0 r (r.length - 1 - i)) = h (at0 r (r.length - 1 - i)) := M.todo _ (by omega) (by omega) (by omega)
    have e : ∀ z, runFrom H ([i].map (midRow r)) z = if z = at0 r ((r.length - 1 - i + 1) % r.length) then h (at0 r (r.length - 1 - i)) else H z := fun z => by
      show stepH H (false, at0 r (r.length - 1 - i), at0 r ((r.length - 1 - i + 1) % r.length)) z = _
      rw [step_mv, hv]
    have htv : (i = 0 ∧ (r.length - 1 - i + 1) % r.length = 0) ∨ (1 ≤ i ∧ (r.length - 1 - i + 1) % r.length = r.length - i) := by
      by_cases h0 : i = 0
      · left
        refine ⟨h0, ?_⟩
        subst h0
        rw [show r.length - 1 - 0 + 1 = r.length by omega, Nat.mod_self]
      · right
        refine ⟨by omega, ?_⟩
        rw [show r.length - 1 - i + 1 = r.length - i by omega]
        exact Nat.mod_eq_of_lt (by omega)
    generalize (r.length - 1 - i + 1) % r.length = t at ht e htv
    have neq : ∀ j, j < r.length → j ≠ t → at0 r j ≠ at0 r t := fun j hj hne e => hne (at0_inj hn hj ht e)
    refine ⟨?_, fun _ => ?_, fun j hj h2 h3 => ?_, fun j hj h2 h3 => ?_, ?_, fun z hz hz2 => ?_⟩
    · rw [e, if_neg (neq 1 (by omega) (by omega)), M.one]
    · rw [e]
      rcases htv with ⟨h0, h1⟩ | ⟨h0, h1⟩
      · rw [if_pos (by rw [h1]), h0]; rfl
      · rw [if_neg (neq 0 (by omega) (by omega)), M.zero h0]
    · rw [e]
      by_cases hjt : j = t
      · rw [if_pos (by rw [hjt])]
        congr 2
        omega
      · rw [if_neg (neq j hj hjt)]
        refine M.done j hj h2 ?_
        omega
    · rw [e, if_neg (neq j hj (by omega))]
      exact M.todo j hj h2 (by omega)
    · rw [e, if_neg (fun e => hs (by rw [e]; exact at0_in ht)), M.spare]
    · rw [e, if_neg (fun e => hz (by rw [e]; exact at0_in ht)), M.rest z hz hz2]
theorem ringMoves_run {r : List Loc} (hn : r.Nodup) (h2 : 2 ≤ r.length) {sp : Loc} (hs : sp ∉ r) (h : Loc → Loc) : RingRun h (runFrom h (ringMoves r sp)) r ∧ ∀ z, z ∉ r → z ≠ sp → runFrom h (ringMoves r sp) z = h z := by
  have M := mid_run hn h2 hs h (r.length - 2) (Nat.le_refl _)
  have e0 : runFrom h (ringMoves r sp) = runFrom (runFrom h ([(false, at0 r 1, sp), (false, at0 r 0, at0 r 1)] ++ (List.range (r.length - 2)).map (midRow r))) [(false, sp, at0 r (2 % r.length))] := by
    rw [← runFrom_app]; rfl
  rw [e0]
  generalize runFrom h ([(false, at0 r 1, sp), (false, at0 r 0, at0 r 1)] ++ (List.range (r.length - 2)).map (midRow r)) = H at M ⊢
  have ht : 2 % r.length < r.length := Nat.mod_lt _ (by omega)
  have e : ∀ z, runFrom H [(false, sp, at0 r (2 % r.length))] z = if z = at0 r (2 % r.length) then h (at0 r 1) else H z := fun z => by
    show stepH H (false, sp, at0 r (2 % r.length)) z = _
    rw [step_mv, M.spare]
  have htv : (r.length = 2 ∧ 2 % r.length = 0) ∨ (2 < r.length ∧ 2 % r.length = 2) := by
    by_cases h3 : r.length = 2
    · left; refine ⟨h3, by rw [h3]⟩
    · right; exact ⟨by omega, Nat.mod_eq_of_lt (by omega)⟩
  generalize 2 % r.length = t at ht e htv
  have neq : ∀ j, j < r.length → j ≠ t → at0 r j ≠ at0 r t := fun j hj hne e => hne (at0_inj hn hj ht e)
  refine ⟨fun i hi => ?_, fun z hz hz2 => ?_⟩
  · rw [e]
    have hm : (i + 1 < r.length ∧ (i + 1) % r.length = i + 1) ∨ (i + 1 = r.length ∧ (i + 1) % r.length = 0) := by
      by_cases h3 : i + 1 < r.length
      · exact .inl ⟨h3, Nat.mod_eq_of_lt h3⟩
      · right
        have : i + 1 = r.length := by omega
        exact ⟨this, by rw [this, Nat.mod_self]⟩
    generalize (i + 1) % r.length = j at hm
    by_cases hjt : j = t
    · rw [if_pos (by rw [hjt])]
      congr 2
      omega
    · rw [if_neg (neq j (by omega) hjt)]
      rcases hm with ⟨m1, m2⟩ | ⟨m1, m2⟩
      · by_cases hi0 : i = 0
        · subst hi0
          rw [m2]
          exact M.one
        · rw [m2]
          have := M.done (i + 1) m1 (by omega) (by omega)
          rw [this]
          rfl
      · rw [m2]
        have := M.zero (by omega)
        rw [this]
        congr 2
        omega
  · rw [e, if_neg (fun e => hz (by rw [e]; exact at0_in ht)), M.rest z hz hz2]
/-- all rings -/
theorem rings_run (e : Int) (sp : Loc) : ∀ (rs : List (List Loc)) (h : Loc → Loc), rs.flatten.Nodup → (∀ r ∈ rs, 2 ≤ r.length) → (e ≠ 1 → sp ∉ rs.flatten) →
    (∀ r ∈ rs, RingRun h (runFrom h (rs.flatMap (rowsOf e sp))) r) ∧ ∀ z, z ∉ rs.flatten → (e ≠ 1 → z ≠ sp) → runFrom h (rs.flatMap (rowsOf e sp)) z = h z
  | [], h, _, _, _ => ⟨(fun r hr => by cases hr), fun z _ _ => rfl⟩
  | r :: rs, h, hn, h2, hs => by
    rw [List.flatten_cons, List.nodup_append] at hn
    obtain ⟨n1, n2, n3⟩ := hn
    have hr2 := h2 r List.mem_cons_self
    have one : RingRun h (runFrom h (rowsOf e sp r)) r ∧ ∀ z, z ∉ r → (e ≠ 1 → z ≠ sp) → runFrom h (rowsOf e sp r) z = h z := by
      unfold rowsOf
      by_cases he : e = 1
      · rw [if_pos he]
        obtain ⟨a, b⟩ := ringSwaps_run n1 hr2 h
        exact ⟨a, fun z hz _ => b z hz⟩
      · rw [if_neg he]
        obtain ⟨a, b⟩ := ringMoves_run n1 hr2 (fun hh => hs he (by rw [List.flatten_cons]; exact List.mem_append_left _ hh)) h
        exact ⟨a, fun z hz hz2 => b z hz (hz2 he)⟩
    obtain ⟨i1, i2⟩ := rings_run e sp rs (runFrom h (rowsOf e sp r)) n2 (fun r hr => h2 r (List.mem_cons_of_mem _ hr)) (fun he hh => hs he (by rw [List.flatten_cons]; exact List.mem_append_right _ hh))
    have er : runFrom h ((r :: rs).flatMap (rowsOf e sp)) = runFrom (runFrom h (rowsOf e sp r)) (rs.flatMap (rowsOf e sp)) := by rw [List.flatMap_cons, runFrom_app]
    rw [er]
    have nsp : ∀ z ∈ (r :: rs).flatten, e ≠ 1 → z ≠ sp := fun z hz he e2 => hs he (by rw [← e2]; exact hz)
    refine ⟨fun q hq => ?_, fun z hz hz2 => ?_⟩
    · rcases List.mem_cons.mp hq with e1 | hq
      · subst e1
        intro i hi
        have hj : (i + 1) % q.length < q.length := Nat.mod_lt _ (by omega)
        have hin := at0_in hj
        rw [i2 _ (fun hh => n3 _ hin _ hh rfl) (nsp _ (by rw [List.flatten_cons]; exact List.mem_append_left _ hin))]
        exact one.1 i hi
      · intro i hi
        rw [i1 q hq i hi]
        have hin := at0_in hi
        have hfl : at0 q i ∈ rs.flatten := List.mem_flatten.mpr ⟨q, hq, hin⟩
        exact one.2 _ (fun hh => n3 _ hh _ hfl rfl) (nsp _ (by rw [List.flatten_cons]; exact List.mem_append_right _ hfl))
    · rw [List.flatten_cons] at hz
      rw [i2 z (fun hh => hz (List.mem_append_right _ hh)) hz2]
      exact one.2 z (fun hh => hz (List.mem_append_left _ hh)) hz2
end K39
end
section
set_option linter.all false
/-! what the law checks holds -/
namespace K39
theorem pend_mem {M : List Mv} {m : Mv} : m ∈ pend M ↔ m ∈ M ∧ m.1 ≠ m.2 := by
  unfold pend; rw [List.mem_filter]; simp
theorem left_mem {P : List Mv} {m : Mv} : m ∈ leftOf P ↔ m ∈ P ∧ m.1 ∉ (prAll P).2 := by
  unfold leftOf; rw [List.mem_filter]; simp
theorem prTo_pre {P : List Mv} {r : List Loc} (h : (prTo P 1).1 = [r]) : ∀ j, 1 + j ≤ P.length → ∃ rest, (prTo P (1 + j)).1 = r :: rest
  | 0, _ => ⟨[], h⟩
  | j + 1, hl => by
    obtain ⟨rest, e⟩ := prTo_pre h j (by omega)
    have hi : 1 + j < P.length := by omega
    rw [show 1 + (j + 1) = (1 + j) + 1 by omega, prTo_succ (List.getElem?_eq_getElem hi)]
    unfold prStep
    split
    · exact ⟨rest, e⟩
    · split
      · exact ⟨rest, e⟩
      · refine ⟨rest ++ [ringOf P (P[1 + j]).1], ?_⟩
        show (prTo P (1 + j)).1 ++ _ = _
        rw [e]; rfl
theorem first_ring {P : List Mv} (hn : (goals P).Nodup) (hp : ∀ m ∈ P, m.1 ≠ m.2) (hne : P ≠ []) (hf : frees P = []) : ∃ rest, (prAll P).1 = ringOf P (at0 (srcs P) 0) :: rest := by
  have hr : ∀ m ∈ P, m.2 ∈ srcs P := fun m hm => by
    unfold frees at hf
    have := List.map_eq_nil_iff.mp hf
    rw [List.filter_eq_nil_iff] at this
    have := this m hm
    simpa using this
  obtain ⟨hs, C⟩ := closed_of hn hne hr
  obtain ⟨_, hsub⟩ := nodup_full (goals P) (srcs P) hn (fun x hx => by obtain ⟨m, hm, e⟩ := List.mem_map.mp hx; rw [← e]; exact hr m hm) (by unfold srcs goals; rw [List.length_map, List.length_map])
  match P, hne with
  | m :: Q, _ =>
    have e0 : at0 (srcs (m :: Q)) 0 = m.1 := rfl
    rw [e0]
    have hm1 : m.1 ∈ goals (m :: Q) := hsub _ (List.mem_map.mpr ⟨m, List.mem_cons_self, rfl⟩)
    have hne : ringOf (m :: Q) m.1 ≠ [] := ring_back hn C.fwd _ [] m.1 (Walk.start _ _) hm1 (by simp)
    have h1 : (prTo (m :: Q) 1).1 = [ringOf (m :: Q) m.1] := by
      rw [prTo_succ (i := 0) (m := m) rfl]
      unfold prStep
      have : prTo (m :: Q) 0 = ([], []) := rfl
      rw [this, if_neg (by simp), if_neg hne]
      rfl
    have := prTo_pre h1 Q.length (by show 1 + Q.length ≤ Q.length + 1; omega)
    rw [← prTo_all, show (m :: Q).length = 1 + Q.length by show Q.length + 1 = _; omega]
    exact this
theorem rowsOf_dom {e : Int} {sp : Loc} {r : List Loc} (h2 : 2 ≤ r.length) {row : Row} (h : row ∈ rowsOf e sp r) : (row.2.1 ∈ r ∨ (e ≠ 1 ∧ row.2.1 = sp)) ∧ (row.2.2 ∈ r ∨ (e ≠ 1 ∧ row.2.2 = sp)) := by
  unfold rowsOf at h
  by_cases he : e = 1
  · rw [if_pos he] at h
    unfold ringSwaps at h
    obtain ⟨x, hx, e2⟩ := List.mem_map.mp h
    subst e2
    exact ⟨.inl (at0_in (by omega)), .inl (List.mem_of_mem_drop hx)⟩
  · rw [if_neg he] at h
    unfold ringMoves at h
    rcases List.mem_append.mp h with h | h
    · rcases List.mem_append.mp h with h | h
      · rcases List.mem_cons.mp h with h | h
        · subst h; exact ⟨.inl (at0_in (by omega)), .inr ⟨he, rfl⟩⟩
        · rw [List.mem_singleton.mp h]; exact ⟨.inl (at0_in (by omega)), .inl (at0_in (by omega))⟩
      · obtain ⟨i, hi, e2⟩ := List.mem_map.mp h
        have hi := List.mem_range.mp hi
        subst e2
        exact ⟨.inl (at0_in (by omega)), .inl (at0_in (Nat.mod_lt _ (by omega)))⟩
    · rw [List.mem_singleton.mp h]
      exact ⟨.inr ⟨he, rfl⟩, .inl (at0_in (Nat.mod_lt _ (by omega)))⟩
theorem right_of {M : List Mv} {sp : Loc} (K : OkM M sp) {e : Int} {o : Option Loc} (he : e = 0 ∨ e = 1) (ho : o = none ∨ o = some sp) (hb : needs (pend M) e o = false) : Right M o (dueRows (pend M) e o) := by
  have hn := goals_pend K.nd
  have hpp : ∀ m ∈ pend M, m.1 ≠ m.2 := fun m hm => (pend_mem.mp hm).2
  have hPM : ∀ m ∈ pend M, m ∈ M := fun m hm => (pend_mem.mp hm).1
  have hflat := prAll_flat (pend M)
  have hnd := prAll_nd hn hpp
  rw [hflat] at hnd
  -- the spare place that the rings use
  have hdS : e ≠ 1 → (prAll (pend M)).1 ≠ [] → o = some (spD (dueSp (pend M) o)) ∨ ∃ m ∈ pend M, spD (dueSp (pend M) o) = m.2 ∧ m.2 ∉ srcs (pend M) := fun h1 hr => by
    have e0 : e = 0 := he.resolve_right h1
    rcases ho with h | h
    · right
      subst h
      obtain ⟨r, hr'⟩ := List.exists_mem_of_ne_nil _ hr
      obtain ⟨_, m0, hm0, _⟩ := prAll_ring hr'
      rcases unread_frees (pend M) with ⟨u1, u2⟩ | ⟨k, m, q, u1, u2, u3⟩
      · unfold needs at hb
        rw [decide_eq_true e0, u2, decide_eq_true (by have := List.length_pos_of_mem hm0; omega)] at hb
        cases hb
      · have hm := List.mem_of_getElem? u2
        obtain ⟨m', hm', hs⟩ := unread_some u1
        rw [u2] at hm'
        cases hm'
        exact ⟨m, hm, by unfold dueSp; rw [u3]; rfl, hs⟩
    · left; rw [h]; rfl
  have hrows : dueRows (pend M) e o = (prAll (pend M)).1.flatMap (rowsOf e (spD (dueSp (pend M) o))) ++ looseRows (leftOf (pend M)) := rfl
  rw [hrows]
  generalize spD (dueSp (pend M) o) = dS at hdS ⊢
  have hR : ∀ r ∈ (prAll (pend M)).1, Ring (pend M) r := fun r hr => prAll_Ring hn hpp hr
  have hsrc : ∀ z ∈ (prAll (pend M)).1.flatten, z ∈ srcs (pend M) ∧ z ∈ goals (pend M) := fun z hz => by
    obtain ⟨r, hr, hzr⟩ := List.mem_flatten.mp hz
    obtain ⟨t, _, ht⟩ := (hR r hr).next hzr
    obtain ⟨y, _, hy⟩ := (hR r hr).prev hzr
    exact ⟨List.mem_map.mpr ⟨_, nxt_mem ht, rfl⟩, List.mem_map.mpr ⟨_, nxt_mem hy, rfl⟩⟩
  have hgM : ∀ z ∈ goals (pend M), z ∈ goals M := fun z hz => by
    obtain ⟨m, hm, e⟩ := List.mem_map.mp hz
    exact List.mem_map.mpr ⟨m, hPM m hm, e⟩
  have hspM : ∀ z, o = some z → z = sp := fun z h => by
    rcases ho with h2 | h2 <;> rw [h2] at h
    · cases h
    · exact (Option.some.inj h).symm
  have hsp : e ≠ 1 → dS ∉ (prAll (pend M)).1.flatten := fun h1 hh => by
    have hr : (prAll (pend M)).1 ≠ [] := fun e2 => by rw [e2] at hh; cases hh
    rcases hdS h1 hr with h | ⟨m, hm, e2, h3⟩
    · have h4 := hspM _ h
      obtain ⟨m, hm, e5⟩ := List.mem_map.mp (hgM _ (hsrc _ hh).2)
      exact K.tgt m hm (e5.trans h4)
    · exact h3 (by rw [← e2]; exact (hsrc _ hh).1)
  obtain ⟨R1, R2⟩ := rings_run e dS (prAll (pend M)).1 id hnd (fun r hr => (hR r hr).two) hsp
  obtain ⟨L1, L2, L3⟩ := loose_run (leftOf (pend M)).length (leftOf (pend M)) (runFrom id ((prAll (pend M)).1.flatMap (rowsOf e dS))) rfl (hn.sublist ((List.filter_sublist).map _))
    (loose_ok _ _ rfl (hn.sublist ((List.filter_sublist).map _)) (left_open hn hpp))
  have hrun : runH ((prAll (pend M)).1.flatMap (rowsOf e dS) ++ looseRows (leftOf (pend M))) = runFrom (runFrom id ((prAll (pend M)).1.flatMap (rowsOf e dS))) (looseGo (leftOf (pend M)).length (leftOf (pend M))) := by
    show runFrom id _ = _
    rw [runFrom_app]; rfl
  have hid : ∀ z, z ∉ (prAll (pend M)).1.flatten → (e ≠ 1 → (prAll (pend M)).1 ≠ [] → z ≠ dS) → runFrom id ((prAll (pend M)).1.flatMap (rowsOf e dS)) z = z := fun z hz h => by
    by_cases hr : (prAll (pend M)).1 = []
    · rw [hr]; rfl
    · exact R2 z hz fun h1 => h h1 hr
  have hgW : ∀ z ∈ goals (leftOf (pend M)), ∃ m ∈ pend M, m.1 ∉ (prAll (pend M)).2 ∧ m.2 = z := fun z hz => by
    obtain ⟨m, hm, e⟩ := List.mem_map.mp hz
    exact ⟨m, (left_mem.mp hm).1, (left_mem.mp hm).2, e⟩
  refine ⟨fun row hrow => ?_, fun m hm => ?_, fun z hz hzg hzo => ?_⟩
  · have hdomP : ∀ z, z ∈ srcs (pend M) ∨ z ∈ goals (pend M) → z ∈ domSp M o := fun z hz => by
      unfold domSp domS
      refine List.mem_append_left _ ?_
      rcases hz with hz | hz
      · obtain ⟨m, hm, e⟩ := List.mem_map.mp hz
        exact List.mem_flatMap.mpr ⟨m, hPM m hm, by rw [← e]; simp⟩
      · obtain ⟨m, hm, e⟩ := List.mem_map.mp hz
        exact List.mem_flatMap.mpr ⟨m, hPM m hm, by rw [← e]; simp⟩
    rcases List.mem_append.mp hrow with h | h
    · obtain ⟨r, hr, h2⟩ := List.mem_flatMap.mp h
      have hne : (prAll (pend M)).1 ≠ [] := fun e2 => by rw [e2] at hr; cases hr
      have one : ∀ z, (z ∈ r ∨ (e ≠ 1 ∧ z = dS)) → z ∈ domSp M o := fun z hz => by
        rcases hz with hz | ⟨h1, hz⟩
        · exact hdomP z (.inl (hsrc z (List.mem_flatten.mpr ⟨r, hr, hz⟩)).1)
        · rcases hdS h1 hne with h | ⟨m, hm, e2, _⟩
          · unfold domSp
            refine List.mem_append_right _ ?_
            rw [h, hz]
            exact List.mem_singleton.mpr rfl
          · exact hdomP z (.inr (List.mem_map.mpr ⟨m, hm, by rw [hz, e2]⟩))
      obtain ⟨a, b⟩ := rowsOf_dom (hR r hr).two h2
      exact ⟨one _ a, one _ b⟩
    · obtain ⟨a, b⟩ := L3 row h
      have hW : ∀ z, z ∈ srcs (leftOf (pend M)) ∨ z ∈ goals (leftOf (pend M)) → z ∈ domSp M o := fun z hz => by
        refine hdomP z ?_
        rcases hz with hz | hz
        · left
          obtain ⟨m, hm, e⟩ := List.mem_map.mp hz
          exact List.mem_map.mpr ⟨m, (left_mem.mp hm).1, e⟩
        · right
          obtain ⟨m, hm, e⟩ := List.mem_map.mp hz
          exact List.mem_map.mpr ⟨m, (left_mem.mp hm).1, e⟩
      exact ⟨hW _ ((List.mem_append.mp a).elim .inl .inr), hW _ (.inr b)⟩
  · rw [hrun]
    by_cases hmm : m.1 = m.2
    · have hng : m.2 ∉ goals (pend M) := fun h => by
        obtain ⟨m', hm', e2⟩ := List.mem_map.mp h
        have := goals_inj K.nd (hPM m' hm') hm e2
        rw [this] at hm'
        exact hpp m hm' hmm
      rw [L2 m.2 (fun h => by
        obtain ⟨m', hm', _, e2⟩ := hgW _ h
        exact hng (List.mem_map.mpr ⟨m', hm', e2⟩)), hid m.2 (fun h => hng (hsrc _ h).2) (fun h1 hr e2 => ?_), hmm]
      rcases hdS h1 hr with h | ⟨m', hm', e3, _⟩
      · exact K.tgt m hm (e2.trans (hspM _ h))
      · exact hng (List.mem_map.mpr ⟨m', hm', by rw [e2, e3]⟩)
    · have hmP : m ∈ pend M := pend_mem.mpr ⟨hm, hmm⟩
      by_cases hin : m.1 ∈ (prAll (pend M)).2
      · have hng : m.2 ∉ goals (leftOf (pend M)) := fun h => by
          obtain ⟨m', hm', h2, e2⟩ := hgW _ h
          have := goals_inj hn hm' hmP e2
          rw [this] at h2
          exact h2 hin
        rw [L2 m.2 hng]
        rw [hflat] at hin
        obtain ⟨r, hr, hmr⟩ := List.mem_flatten.mp hin
        obtain ⟨i, hi, ei⟩ := List.mem_iff_getElem.mp hmr
        have hnx := (hR r hr).nx i hi
        have h1 := R1 r hr i hi
        rw [at0_eq hi, at0_eq (Nat.mod_lt _ (by omega))] at h1
        rw [ei] at hnx h1
        have hg := one_eq.mp hnx
        have hmt : m.2 ∈ tgs (pend M) m.1 := mem_tgs.mpr hmP
        rw [hg] at hmt
        rw [List.mem_singleton.mp hmt]
        exact h1
      · have hmW : m ∈ leftOf (pend M) := left_mem.mpr ⟨hmP, hin⟩
        rw [L1 m hmW]
        have hms : m.1 ∈ srcs (pend M) := List.mem_map.mpr ⟨m, hmP, rfl⟩
        rw [hflat] at hin
        refine hid m.1 hin fun h1 hr e2 => ?_
        rcases hdS h1 hr with h | ⟨m', hm', e3, h4⟩
        · exact K.src m hm (e2.trans (hspM _ h))
        · exact h4 (by rw [← e3, ← e2]; exact hms)
  · rw [hrun]
    rw [L2 z (fun h => by
      obtain ⟨m', hm', _, e2⟩ := hgW _ h
      exact hzg (List.mem_map.mpr ⟨m', hPM m' hm', e2⟩))]
    refine hid z (fun h => hzg (hgM _ (hsrc _ h).2)) fun h1 hr e2 => ?_
    rcases hdS h1 hr with h | ⟨m', hm', e3, _⟩
    · exact hzo (by rw [h, e2])
    · exact hzg (List.mem_map.mpr ⟨m', hPM m' hm', by rw [e2, e3]⟩)
theorem good (M : List Mv) (sp : Loc) (K : OkM M sp) (e : Int) (o : Option Loc) (he : e = 0 ∨ e = 1) (ho : o = none ∨ o = some sp) : Good M e o := by
  have hn := goals_pend K.nd
  have hpp : ∀ m ∈ pend M, m.1 ≠ m.2 := fun m hm => (pend_mem.mp hm).2
  refine ⟨K.len, K.nd, K.out, he, loose_ok _ _ rfl (hn.sublist ((List.filter_sublist).map _)) (left_open hn hpp), fun h => ?_, right_of K he ho⟩
  unfold needs at h
  simp only [Bool.and_eq_true, decide_eq_true_eq, beq_iff_eq] at h
  obtain ⟨_, _, h3, h4⟩ := h
  exact first_ring hn hpp (fun e2 => by rw [e2] at h3; exact absurd h3 (by decide)) (List.length_eq_zero_iff.mp (by omega))
end K39
end
section
set_option linter.all false
/-! k40: how many rows -/
namespace K39
theorem looseGo_eq : ∀ (n : Nat) (W : List Mv), looseOk n W → (looseGo n W).length = n ∧ ∀ r ∈ looseGo n W, r.1 = false
  | 0, W, _ => ⟨rfl, fun r h => by cases h⟩
  | n + 1, W, ⟨k, m, h1, h2, h3⟩ => by
    obtain ⟨a, b⟩ := looseGo_eq n _ h3
    unfold looseGo
    rw [h1]
    dsimp only
    rw [h2]
    dsimp only
    refine ⟨by rw [List.length_cons, a], fun r hr => ?_⟩
    rcases List.mem_cons.mp hr with rfl | hr
    · rfl
    · exact b r hr
theorem rows_swap (sp : Loc) (r : List Loc) : (rowsOf 1 sp r).length = r.length - 1 := by
  unfold rowsOf ringSwaps
  rw [if_pos rfl, List.length_map, List.length_drop]
theorem rows_move (sp : Loc) (r : List Loc) (h : 2 ≤ r.length) : (rowsOf 0 sp r).length = r.length + 1 ∧ ∀ x ∈ rowsOf 0 sp r, x.1 = false := by
  unfold rowsOf ringMoves
  rw [if_neg (by decide)]
  refine ⟨by simp; omega, fun x hx => ?_⟩
  rcases List.mem_append.mp hx with hx | hx
  · rcases List.mem_append.mp hx with hx | hx
    · simp at hx
      rcases hx with rfl | rfl <;> rfl
    · obtain ⟨i, _, rfl⟩ := List.mem_map.mp hx
      rfl
  · rw [List.mem_singleton.mp hx]
end K39
end
section
set_option linter.all false
/-! k40: members of rings are the sources of just one pending move -/
namespace K39
theorem flat_len1 (f : List Loc → Nat) : ∀ rs : List (List Loc), (∀ r ∈ rs, f r = r.length + 1) → (rs.map f).sum = rs.flatten.length + rs.length
  | [], _ => rfl
  | r :: rs, h => by
    have := flat_len1 f rs fun x hx => h x (List.mem_cons_of_mem _ hx)
    rw [List.map_cons, List.sum_cons, List.flatten_cons, List.length_append, List.length_cons, this, h r List.mem_cons_self]
    omega
theorem flat_len2 (f : List Loc → Nat) : ∀ rs : List (List Loc), (∀ r ∈ rs, 1 ≤ r.length ∧ f r = r.length - 1) → (rs.map f).sum + rs.length = rs.flatten.length
  | [], _ => rfl
  | r :: rs, h => by
    have := flat_len2 f rs fun x hx => h x (List.mem_cons_of_mem _ hx)
    obtain ⟨h1, h2⟩ := h r List.mem_cons_self
    rw [List.map_cons, List.sum_cons, List.flatten_cons, List.length_append, List.length_cons, ← this, h2]
    omega
/-- pending moves whose source is in a set of sources that are read once -/
theorem filt_src : ∀ (S : List Loc) (W : List Mv), S.Nodup → (∀ x ∈ S, (tgs W x).length = 1) → (W.filter fun m => decide (m.1 ∈ S)).length = S.length
  | [], W, _, _ => by simp
  | x :: S, W, hn, h => by
    have ih := filt_src S W (List.nodup_cons.mp hn).2 fun y hy => h y (List.mem_cons_of_mem _ hy)
    have hx := h x List.mem_cons_self
    have hxs := (List.nodup_cons.mp hn).1
    have key : ∀ W : List Mv, (W.filter fun m => decide (m.1 ∈ x :: S)).length = (tgs W x).length + (W.filter fun m => decide (m.1 ∈ S)).length := by
      intro W
      induction W with
      | nil => rfl
      | cons m W ih =>
        unfold tgs at ih ⊢
        rw [List.length_map] at ih ⊢
        rw [List.filter_cons, List.filter_cons, List.filter_cons]
        by_cases h1 : m.1 = x
        · have h2 : m.1 ∉ S := by rw [h1]; exact hxs
          simp [h1, hxs] at ih ⊢
          omega
        · by_cases h2 : m.1 ∈ S
          · simp [h1, h2] at ih ⊢
            omega
          · simp [h1, h2] at ih ⊢
            omega
    rw [key W, hx, ih, List.length_cons]
    omega
end K39
end
section
set_option linter.all false
/-! k40: the number of rows -/
namespace K39
theorem filt_both {α : Type} (p q : α → Bool) (h : ∀ x, q x = !p x) : ∀ xs : List α, (xs.filter p).length + (xs.filter q).length = xs.length
  | [] => rfl
  | x :: xs => by
    have ih := filt_both p q h xs
    rw [List.filter_cons, List.filter_cons, h x]
    cases p x <;> simp <;> omega
theorem ringed_left {P : List Mv} (hn : (goals P).Nodup) (hp : ∀ m ∈ P, m.1 ≠ m.2) : (prAll P).1.flatten.length + (leftOf P).length = P.length := by
  have h1 := filt_src (prAll P).2 P (prAll_nd hn hp) fun x hx => by
    rw [prAll_flat] at hx
    obtain ⟨r, hr, hxr⟩ := List.mem_flatten.mp hx
    obtain ⟨t, _, e⟩ := (prAll_Ring hn hp hr).next hxr
    unfold nxt at e
    rw [one_eq.mp e]
    rfl
  have h2 := filt_both (fun m : Mv => decide (m.1 ∈ (prAll P).2)) (fun m => decide (m.1 ∉ (prAll P).2)) (fun m => by simp) P
  rw [h1] at h2
  rw [← prAll_flat]
  exact h2
theorem due_len0 {P : List Mv} (hn : (goals P).Nodup) (hp : ∀ m ∈ P, m.1 ≠ m.2) (hk : looseOk (leftOf P).length (leftOf P)) (sp : Option Loc) : (dueRows P 0 sp).length = P.length + (prAll P).1.length ∧ ∀ r ∈ dueRows P 0 sp, r.1 = false := by
  have h2 : ∀ r ∈ (prAll P).1, 2 ≤ r.length := fun r hr => by
    obtain ⟨hne, m, _, e⟩ := prAll_ring hr
    obtain ⟨t, tl, e2⟩ := ring_two hp (s := m.1) (by rw [← e]; exact hne)
    rw [e, e2]; simp
  obtain ⟨a, b⟩ := looseGo_eq _ _ hk
  unfold dueRows looseRows
  refine ⟨?_, fun r hr => ?_⟩
  · rw [List.length_append, a, List.length_flatMap, flat_len1 _ _ fun r hr => (rows_move _ r (h2 r hr)).1]
    have := ringed_left hn hp
    omega
  · rcases List.mem_append.mp hr with hr | hr
    · obtain ⟨x, hx, hr⟩ := List.mem_flatMap.mp hr
      exact (rows_move _ x (h2 x hx)).2 r hr
    · exact b r hr
theorem due_len1 {P : List Mv} (hn : (goals P).Nodup) (hp : ∀ m ∈ P, m.1 ≠ m.2) (hk : looseOk (leftOf P).length (leftOf P)) (sp : Option Loc) : (dueRows P 1 sp).length + (prAll P).1.length = P.length := by
  have h2 : ∀ r ∈ (prAll P).1, 1 ≤ r.length := fun r hr => by
    obtain ⟨hne, m, _, e⟩ := prAll_ring hr
    obtain ⟨t, tl, e2⟩ := ring_two hp (s := m.1) (by rw [← e]; exact hne)
    rw [e, e2]; simp
  obtain ⟨a, b⟩ := looseGo_eq _ _ hk
  unfold dueRows looseRows
  rw [List.length_append, a, List.length_flatMap]
  have := flat_len2 (fun r => (rowsOf 1 (spD (dueSp P sp)) r).length) (prAll P).1 fun r hr => ⟨h2 r hr, rows_swap _ r⟩
  have := ringed_left hn hp
  omega
end K39
end
section
set_option linter.all false
/-! k40: a lower bound for the number of moves -/
namespace K39
/-- one move: the thing at y is written to g -/
def put1 (h : Loc → Loc) (g t : Loc) : Loc → Loc := fun z => if z = g then t else h z
/-- a needed thing stands nowhere -/
def Dead (D : List Loc) (P : List Mv) (h : Loc → Loc) : Prop := ∃ m ∈ P, ∀ y ∈ D, h y ≠ m.1
/-- the members of r stand at their own places only -/
def Tight (D : List Loc) (h : Loc → Loc) (r : List Loc) : Prop := (∀ x ∈ r, h x = x) ∧ ∀ y ∈ D, y ∉ r → h y ∉ r
theorem dead_put {D : List Loc} {P : List Mv} {h : Loc → Loc} {g t : Loc} (hd : Dead D P h) (ht : ∃ y ∈ D, h y = t) : Dead D P (put1 h g t) := by
  obtain ⟨m, hm, no⟩ := hd
  refine ⟨m, hm, fun y hy e => ?_⟩
  unfold put1 at e
  split at e
  · obtain ⟨z, hz, e2⟩ := ht
    exact no z hz (e2.trans e)
  · exact no y hy e
theorem tight_put {D : List Loc} {P : List Mv} {h : Loc → Loc} {r : List Loc} (R : Ring P r) (T : Tight D h r) {g t : Loc} (hg : g ∈ r) (hne : t ≠ g) : Dead D P (put1 h g t) := by
  obtain ⟨x, _, e⟩ := R.next hg
  refine ⟨(g, x), nxt_mem e, fun y hy e2 => ?_⟩
  unfold put1 at e2
  split at e2
  · exact hne e2
  · rename_i hyg
    by_cases hr : y ∈ r
    · rw [T.1 y hr] at e2
      exact hyg e2
    · have := T.2 y hy hr
      have e3 : h y = g := e2
      rw [e3] at this
      exact this hg
theorem tight_keep {D : List Loc} {h : Loc → Loc} {r : List Loc} (T : Tight D h r) {g t : Loc} (hg : g ∉ r) (ht : t ∉ r) : Tight D (put1 h g t) r := by
  refine ⟨fun x hx => ?_, fun y hy hr => ?_⟩
  · unfold put1
    rw [if_neg (fun e => hg (by rw [← e]; exact hx))]
    exact T.1 x hx
  · unfold put1
    split
    · exact ht
    · exact T.2 y hy hr
end K39
end
section
set_option linter.all false
namespace K39
theorem cnt_le {α : Type} {p q : α → Bool} : ∀ xs : List α, (∀ x ∈ xs, p x = true → q x = true) → (xs.filter p).length ≤ (xs.filter q).length
  | [], _ => Nat.le_refl _
  | x :: xs, h => by
    have ih := cnt_le xs fun y hy => h y (List.mem_cons_of_mem _ hy)
    have hx := h x List.mem_cons_self
    rw [List.filter_cons, List.filter_cons]
    cases hp : p x <;> cases hq : q x <;> simp <;> first | omega | (rw [hp, hq] at hx; exact absurd (hx rfl) (by decide))
theorem cnt_drop {α : Type} {p q : α → Bool} {a : α} : ∀ xs : List α, xs.Nodup → (∀ x ∈ xs, x ≠ a → p x = true → q x = true) → (xs.filter p).length ≤ (xs.filter q).length + 1
  | [], _, _ => Nat.zero_le _
  | x :: xs, hn, h => by
    by_cases hxa : x = a
    · have := cnt_le (p := p) (q := q) xs fun y hy => h y (List.mem_cons_of_mem _ hy) (fun e => (List.nodup_cons.mp hn).1 (by rw [hxa, ← e]; exact hy))
      rw [List.filter_cons, List.filter_cons]
      cases p x <;> cases q x <;> simp <;> omega
    · have ih := cnt_drop (a := a) xs (List.nodup_cons.mp hn).2 fun y hy => h y (List.mem_cons_of_mem _ hy)
      have hx := h x List.mem_cons_self hxa
      rw [List.filter_cons, List.filter_cons]
      cases hp : p x <;> cases hq : q x <;> simp <;> first | omega | (rw [hp, hq] at hx; exact absurd (hx rfl) (by decide))
end K39
end
section
set_option linter.all false
namespace K39
open Classical in
noncomputable def phi (D : List Loc) (P : List Mv) (rs : List (List Loc)) (h : Loc → Loc) : Nat := (P.filter fun m => decide (h m.2 ≠ m.1)).length + (rs.filter fun r => decide (Tight D h r)).length
open Classical in
theorem phi_step {D : List Loc} {P : List Mv} {rs : List (List Loc)} (hn : (goals P).Nodup) (hrs : ∀ r ∈ rs, Ring P r) (hfl : rs.flatten.Nodup) (hrn : rs.Nodup) {h : Loc → Loc} {g t : Loc} (ht : ∃ y ∈ D, h y = t) :
    Dead D P (put1 h g t) ∨ phi D P rs h ≤ phi D P rs (put1 h g t) + 1 := by
  have hPn : P.Nodup := by
    have : (P.map (·.2)).Nodup := hn
    exact List.Pairwise.of_map _ (fun a b hab e => hab (by rw [e])) this
  by_cases hg : ∃ r ∈ rs, Tight D h r ∧ g ∈ r
  · obtain ⟨r, hr, T, hgr⟩ := hg
    by_cases htg : t = g
    · right
      have e : put1 h g t = h := by
        funext z
        unfold put1
        split
        · rename_i hz; rw [hz, T.1 g hgr, htg]
        · rfl
      rw [e]; omega
    · exact .inl (tight_put (hrs r hr) T hgr htg)
  · right
    have hg' : ∀ r ∈ rs, Tight D h r → g ∉ r := fun r hr T hgr => hg ⟨r, hr, T, hgr⟩
    unfold phi
    by_cases hb : ∃ r ∈ rs, Tight D h r ∧ t ∈ r
    · obtain ⟨r0, hr0, T0, htr⟩ := hb
      have h1 := cnt_le (p := fun m : Mv => decide (h m.2 ≠ m.1)) (q := fun m => decide (put1 h g t m.2 ≠ m.1)) P fun m hm hp => by
        refine decide_eq_true fun e => ?_
        unfold put1 at e
        split at e
        · rename_i hmg
          obtain ⟨x, hx, ex⟩ := (hrs r0 hr0).next htr
          have h3 : tgs P t = [x] := by unfold nxt at ex; exact one_eq.mp ex
          have h4 : m.2 ∈ tgs P t := mem_tgs.mpr (by rw [e]; exact hm)
          rw [h3] at h4
          exact hg' r0 hr0 T0 (by rw [← hmg, List.mem_singleton.mp h4]; exact hx)
        · exact of_decide_eq_true hp e
      have h2 := cnt_drop (p := fun r => decide (Tight D h r)) (q := fun r => decide (Tight D (put1 h g t) r)) (a := r0) rs hrn fun r hr hne hp => by
        have T := of_decide_eq_true hp
        refine decide_eq_true (tight_keep T (hg' r hr T) fun htr2 => ?_)
        obtain ⟨i, hi, e1⟩ := List.mem_iff_getElem.mp hr
        obtain ⟨j, hj, e2⟩ := List.mem_iff_getElem.mp hr0
        have pw := (List.pairwise_flatten.mp hfl).2
        rw [List.pairwise_iff_getElem] at pw
        rcases Nat.lt_trichotomy i j with hij | hij | hij
        · exact pw i j hi hj hij t (by rw [e1]; exact htr2) t (by rw [e2]; exact htr) rfl
        · subst hij; exact hne (e1.symm.trans e2)
        · exact pw j i hj hi hij t (by rw [e2]; exact htr) t (by rw [e1]; exact htr2) rfl
      omega
    · have h1 := cnt_le (p := fun r => decide (Tight D h r)) (q := fun r => decide (Tight D (put1 h g t) r)) rs fun r hr hp => by
        have T := of_decide_eq_true hp
        exact decide_eq_true (tight_keep T (hg' r hr T) fun htr => hb ⟨r, hr, T, htr⟩)
      have h2 : (P.filter fun m => decide (h m.2 ≠ m.1)).length ≤ (P.filter fun m => decide (put1 h g t m.2 ≠ m.1)).length + 1 := by
        by_cases hm : ∃ m ∈ P, m.2 = g
        · obtain ⟨m0, hm0, e0⟩ := hm
          refine cnt_drop (a := m0) P hPn fun m hm hne hp => ?_
          have : m.2 ≠ g := fun e => hne (goals_inj hn hm hm0 (e.trans e0.symm))
          refine decide_eq_true ?_
          unfold put1
          rw [if_neg this]
          exact of_decide_eq_true hp
        · refine Nat.le_trans (cnt_le P fun m hm' hp => ?_) (Nat.le_succ _)
          refine decide_eq_true ?_
          unfold put1
          rw [if_neg fun e => hm ⟨m, hm', e⟩]
          exact of_decide_eq_true hp
      omega
end K39
end
section
set_option linter.all false
namespace K39
open Classical in
theorem phi_id {D : List Loc} {P : List Mv} {rs : List (List Loc)} (hp : ∀ m ∈ P, m.1 ≠ m.2) : phi D P rs id = P.length + rs.length := by
  unfold phi
  have h1 : (P.filter fun m => decide (id m.2 ≠ m.1)) = P := List.filter_eq_self.mpr fun m hm => decide_eq_true fun e => hp m hm e.symm
  have h2 : (rs.filter fun r => decide (Tight D id r)) = rs := List.filter_eq_self.mpr fun r hr => decide_eq_true ⟨fun x _ => rfl, fun y _ h => h⟩
  rw [h1, h2]
open Classical in
theorem phi_met {D : List Loc} {P : List Mv} {rs : List (List Loc)} (hp : ∀ m ∈ P, m.1 ≠ m.2) (hrs : ∀ r ∈ rs, Ring P r ∧ r ≠ []) {h : Loc → Loc} (hm : ∀ m ∈ P, h m.2 = m.1) : phi D P rs h = 0 := by
  unfold phi
  have h1 : (P.filter fun m => decide (h m.2 ≠ m.1)) = [] := List.filter_eq_nil_iff.mpr fun m hm' e => of_decide_eq_true e (hm m hm')
  have h2 : (rs.filter fun r => decide (Tight D h r)) = [] := List.filter_eq_nil_iff.mpr fun r hr e => by
    have T := of_decide_eq_true e
    obtain ⟨R, hne⟩ := hrs r hr
    cases r with
    | nil => exact hne rfl
    | cons x l =>
      obtain ⟨y, hy, e2⟩ := R.prev (x := x) List.mem_cons_self
      have hyx := nxt_mem e2
      have h3 := hm _ hyx
      have h4 := T.1 x List.mem_cons_self
      exact hp _ hyx (h3.symm.trans h4)
  rw [h1, h2]; rfl
theorem not_dead {D : List Loc} {P : List Mv} {h : Loc → Loc} (hD : ∀ m ∈ P, m.2 ∈ D) (hm : ∀ m ∈ P, h m.2 = m.1) : ¬ Dead D P h := fun ⟨m, hm', no⟩ => no m.2 (hD m hm') (hm m hm')
end K39
end
section
set_option linter.all false
/-! k40: what the law's search of sequences is given -/
namespace K39
def addL (acc : List Loc) (x : Loc) : List Loc := if x ∈ acc then acc else acc ++ [x]
def sptTo (M : List Mv) (i : Nat) : List Loc := (M.take i).foldl (fun acc m => addL (addL acc m.1) m.2) []
def spotsOf (M : List Mv) (sp : Option Loc) : List Loc := match sp with
  | some x => sptTo M M.length ++ [x]
  | none => sptTo M M.length
def idxI (S : List Loc) (x : Loc) : Int := (S.idxOf x : Nat)
def wantI (M : List Mv) (sp : Option Loc) (S : List Loc) (s : Loc) : Int := match (M.filter fun m => decide (m.2 = s)).map (·.1) with
  | x :: _ => idxI S x
  | [] => if sp = some s then -1 else idxI S s
def metB : List Int → List Nat → Bool
  | [], _ => true
  | w :: ws, [] => true
  | w :: ws, h :: hs => if w ≠ -1 ∧ (h : Int) ≠ w then false else metB ws hs
theorem sptTo_succ {M : List Mv} {i : Nat} {m : Mv} (h : M[i]? = some m) : sptTo M (i + 1) = addL (addL (sptTo M i) m.1) m.2 := by
  unfold sptTo
  rw [List.take_succ, h, List.foldl_append]
  rfl
theorem addL_in {acc : List Loc} {x : Loc} (h : x ∈ acc) : addL acc x = acc := by unfold addL; rw [if_pos h]
theorem addL_out {acc : List Loc} {x : Loc} (h : x ∉ acc) : addL acc x = acc ++ [x] := by unfold addL; rw [if_neg h]
theorem addL_len (acc : List Loc) (x : Loc) : (addL acc x).length ≤ acc.length + 1 := by
  unfold addL
  split
  · omega
  · rw [List.length_append]; exact Nat.le_refl _
theorem sptTo_len (M : List Mv) : ∀ i, i ≤ M.length → (sptTo M i).length ≤ 2 * i
  | 0, _ => Nat.zero_le _
  | i + 1, h => by
    have hm : M[i]? = some M[i] := List.getElem?_eq_getElem (by omega)
    rw [sptTo_succ hm]
    have h1 := addL_len (addL (sptTo M i) M[i].1) M[i].2
    have h2 := addL_len (sptTo M i) M[i].1
    have h3 := sptTo_len M i (by omega)
    omega
theorem mem_addL {acc : List Loc} {x y : Loc} : y ∈ addL acc x ↔ y ∈ acc ∨ y = x := by
  unfold addL
  split
  · rename_i h
    constructor
    · exact .inl
    · rintro (h1 | rfl)
      · exact h1
      · exact h
  · simp
theorem addL_nd {acc : List Loc} {x : Loc} (h : acc.Nodup) : (addL acc x).Nodup := by
  unfold addL
  split
  · exact h
  · rename_i hx
    rw [List.nodup_append]
    refine ⟨h, by simp, fun a ha b hb e => ?_⟩
    rw [List.mem_singleton.mp hb] at e
    exact hx (by rw [← e]; exact ha)
theorem sptTo_nd (M : List Mv) : ∀ i, i ≤ M.length → (sptTo M i).Nodup
  | 0, _ => List.nodup_nil
  | i + 1, h => by
    have hm : M[i]? = some M[i] := List.getElem?_eq_getElem (by omega)
    rw [sptTo_succ hm]
    exact addL_nd (addL_nd (sptTo_nd M i (by omega)))
theorem mem_sptTo (M : List Mv) {y : Loc} : ∀ i, i ≤ M.length → (y ∈ sptTo M i ↔ ∃ m ∈ M.take i, m.1 = y ∨ m.2 = y)
  | 0, _ => by simp [sptTo]
  | i + 1, h => by
    have hm : M[i]? = some M[i] := List.getElem?_eq_getElem (by omega)
    rw [sptTo_succ hm, mem_addL, mem_addL, mem_sptTo M i (by omega), List.take_succ, hm]
    simp only [List.mem_append, Option.toList_some, List.mem_singleton]
    constructor
    · rintro ((⟨m, h1, h2⟩ | rfl) | rfl)
      · exact ⟨m, .inl h1, h2⟩
      · exact ⟨_, .inr rfl, .inl rfl⟩
      · exact ⟨_, .inr rfl, .inr rfl⟩
    · rintro ⟨m, h1 | rfl, h2⟩
      · exact .inl (.inl ⟨m, h1, h2⟩)
      · rcases h2 with h2 | h2
        · exact .inl (.inr h2.symm)
        · exact .inr h2.symm
theorem mem_spt {M : List Mv} {y : Loc} : y ∈ sptTo M M.length ↔ ∃ m ∈ M, m.1 = y ∨ m.2 = y := by
  rw [mem_sptTo M M.length (Nat.le_refl _), List.take_length]
theorem spotsOf_len {M : List Mv} {sp : Option Loc} : (spotsOf M sp).length ≤ 2 * M.length + 1 := by
  have := sptTo_len M M.length (Nat.le_refl _)
  cases sp with
  | none => show (sptTo M M.length).length ≤ _; omega
  | some x => show (sptTo M M.length ++ [x]).length ≤ _; rw [List.length_append]; show _ + 1 ≤ _; omega
end K39
end
section
set_option Elab.async false
set_option linter.all false
set_option maxRecDepth 100000
set_option maxHeartbeats 2000000
namespace K39
open PySem L2 L3
section
variable {P : Program} {w : World} {K : PySem.W.Frag} {mg : Str → Option Value} {base : Heap}
abbrev s_law_spots_of : Stmt := topS 23
abbrev law_spots_of_N : List Str := ["moves", "spare", "spots", "move", "spot"]
theorem sc_law_spots_of : FnScope law_spots_of_N ["moves", "spare"] (defScope s_law_spots_of) := ⟨rfl, rfl, rfl, by decide +kernel, rfl, by decide +kernel, by decide +kernel⟩
def spIn (acc : List Loc) (m : Mv) : Nat → List Loc
  | 0 => acc
  | 1 => addL acc m.1
  | _ => addL (addL acc m.1) m.2
def spSO : Sp3 := fun ws G Q _ => ∃ (a : Addr) (M : List Mv) (sp : Option Loc), ws = [.ref a, uO sp] ∧ G a = some (.lst (M.map uM)) ∧ M.length ≤ 100 ∧ ∀ L, G L = none → Q (.ref L) (gup G L (.lst ((spotsOf M sp).map uL)))
theorem ok_so {f : Addr} {fd : FuncData} (F : Fun K "_law_spots_of" "_law_spots_of" s_law_spots_of f fd) (T : Tg2 mg) : FnOk P w K mg base CX0 1 f fd ["moves", "spare"] (lowSp K spSO) := by
  refine Fun_ok3 F sc_law_spots_of (fun ws G Q E h => by obtain ⟨_, _, _, rfl, _⟩ := h; rfl) (fun cdv A outer s H E ws G Q E3 hr h => ?_)
  have hu64 := hr.units
  have hu65 : (A.deeper (PyProof.Rows.envOfC "_law_spots_of" (defScope s_law_spots_of) s.heap.objs.size f cdv)).units + 65 < cLine := by have := hr.un; omega
  obtain ⟨a, M, sp, rfl, ha, hlen, hq⟩ := h
  refine ⟨_, (ss_cons (s_set (i := 2) sc_law_spots_of.nd (e3lst a3nil))
      (ss_cons (s_for PassesOwn.never rfl (i_list (e3v 0)) (pg_name (i := 3) sc_law_spots_of.nd rfl (by first | exact Or.inl rfl | exact Or.inr rfl)) gl_name
      (ss_one (s_for PassesOwn.never rfl (i_tup (e3v 3)) (pg_name (i := 4) sc_law_spots_of.nd rfl (by first | exact Or.inl rfl | exact Or.inr rfl)) gl_name
        (ss_one (s_if (t3cmp (o_notin hu65) (e3v 4) (e3v 2) rfl)
          (ss_one (s_expr (e3bmL PySem.F.slot_list_append PySem.F.type_list_append m_append (e3v 2) (a3cons (e3v 4) a3nil))))
          ss_nil)))))
      (ss_cons (s_if (t3cmp o_notN (e3v 1) e3non)
      (ss_one (s_expr (e3bmL PySem.F.slot_list_append PySem.F.type_list_append m_append (e3v 2) (a3cons (e3v 1) a3nil))))
      ss_nil)
      (ss_one (s_ret (e3v 2)))))), ?_⟩
  refine ⟨rfl, fun L hL => ?_⟩
  have nL : a ≠ L := gne_none ha hL
  have ha1 : ∀ o, gup G L o a = some (.lst (M.map uM)) := fun o => by rw [gup_ne nL]; exact ha
  try dsimp only [seq3, asg3, n3, v3, drop3, ret3, next3, List.set_cons_zero, List.set_cons_succ, List.getElem?_cons_zero, List.getElem?_cons_succ, start3, List.map_cons, List.map_nil, List.length_cons, List.length_nil, List.replicate, List.cons_append, List.nil_append, Nat.reduceSub, Nat.reduceAdd]
  refine for_of ?_
  refine ⟨_, ha1 _, ?_⟩
  refine forK_of M.length (by rw [List.length_map]) (fun i σ G' => ∃ z1 z2, σ = [some (.ref a), some (uO sp), some (.ref L), z1, z2] ∧ G' = gup G L (.lst ((sptTo M i).map uL))) ⟨_, _, rfl, rfl⟩ (fun i σ' G' _ h => by obtain ⟨_, _, _, rfl⟩ := h; exact ha1 _) ?_ ?_
  · rintro i x σ' G' hi hx ⟨z1, z2, rfl, rfl⟩
    have hm : M[i]? = some M[i] := List.getElem?_eq_getElem hi
    generalize M[i] = m at hm
    rw [List.getElem?_map, hm] at hx
    cases hx
    have hsl := sptTo_len M i (by omega)
    try dsimp only [seq3, asg3, n3, v3, drop3, ret3, next3, List.set_cons_zero, List.set_cons_succ, List.getElem?_cons_zero, List.getElem?_cons_succ, start3, List.map_cons, List.map_nil, List.length_cons, List.length_nil, List.replicate, List.cons_append, List.nil_append, Nat.reduceSub, Nat.reduceAdd]
    refine for_of ?_
    refine it_tup rfl ?_
    refine forK_of 2 rfl (fun j σ G' => ∃ z2, σ = [some (.ref a), some (uO sp), some (.ref L), some (uM m), z2] ∧ G' = gup G L (.lst ((spIn (sptTo M i) m j).map uL))) ⟨_, rfl, rfl⟩ (fun _ _ _ _ _ => trivial) ?_ ?_
    · rintro j y σ' G' hj hy ⟨z2, rfl, rfl⟩
      have h1 := addL_len (sptTo M i) m.1
      match j, hj with
      | 0, _ =>
        cases hy
        refine ⟨(sptTo M i).map uL, gup_same, dat_uL _, dat_Ls _, ?_⟩
        by_cases hin : m.1 ∈ sptTo M i
        · refine ifF (by rw [if_pos rfl, any_uL, decide_eq_true hin]; rfl) (Wk2.of ⟨_, rfl, ?_⟩)
          show _ = gup G L (.lst ((addL (sptTo M i) m.1).map uL))
          rw [addL_in hin]; rfl
        · refine ifT (by rw [if_pos rfl, any_uL, decide_eq_false hin]; rfl) ⟨⟨_, gup_same⟩, (sptTo M i).map uL, gup_same, decide_eq_true (by rw [List.length_map]; omega), Wk2.of ⟨_, rfl, ?_⟩⟩
          show gup (gup _ _ _) _ _ = gup G L (.lst ((addL (sptTo M i) m.1).map uL))
          rw [gup_gup, addL_out hin, List.map_append]
          rfl
      | 1, _ =>
        cases hy
        refine ⟨(addL (sptTo M i) m.1).map uL, gup_same, dat_uL _, dat_Ls _, ?_⟩
        by_cases hin : m.2 ∈ addL (sptTo M i) m.1
        · refine ifF (by rw [if_pos rfl, any_uL, decide_eq_true hin]; rfl) (Wk2.of ⟨_, rfl, ?_⟩)
          show _ = gup G L (.lst ((addL (addL (sptTo M i) m.1) m.2).map uL))
          rw [addL_in hin]; rfl
        · refine ifT (by rw [if_pos rfl, any_uL, decide_eq_false hin]; rfl) ⟨⟨_, gup_same⟩, (addL (sptTo M i) m.1).map uL, gup_same, decide_eq_true (by rw [List.length_map]; show (addL (sptTo M i) m.1).length ≤ _; omega), Wk2.of ⟨_, rfl, ?_⟩⟩
          show gup (gup _ _ _) _ _ = gup G L (.lst ((addL (addL (sptTo M i) m.1) m.2).map uL))
          rw [gup_gup, addL_out hin, List.map_append]
          rfl
    · rintro σ' G' ⟨z2, rfl, rfl⟩
      exact Wk2.of ⟨_, _, rfl, by rw [sptTo_succ hm]; rfl⟩
  · rintro σ' G' ⟨z1, z2, rfl, rfl⟩
    have hsl := sptTo_len M M.length (Nat.le_refl _)
    have hq := hq L hL
    cases sp with
    | none =>
      try dsimp only [seq3, asg3, n3, v3, drop3, ret3, next3, List.set_cons_zero, List.set_cons_succ, List.getElem?_cons_zero, List.getElem?_cons_succ, start3, List.map_cons, List.map_nil, List.length_cons, List.length_nil, List.replicate, List.cons_append, List.nil_append, Nat.reduceSub, Nat.reduceAdd]
      refine ifS_of false (fun Q2 hQ => hQ) (fun h => by cases h) fun _ => ?_
      exact Wk.of hq
    | some x =>
      try dsimp only [seq3, asg3, n3, v3, drop3, ret3, next3, List.set_cons_zero, List.set_cons_succ, List.getElem?_cons_zero, List.getElem?_cons_succ, start3, List.map_cons, List.map_nil, List.length_cons, List.length_nil, List.replicate, List.cons_append, List.nil_append, Nat.reduceSub, Nat.reduceAdd]
      refine ifS_of true (fun Q2 hQ => hQ) (fun _ => ?_) (fun h => by cases h)
      refine ⟨⟨_, gup_same⟩, _, gup_same, decide_eq_true (by rw [List.length_map]; omega), Wk.of ?_⟩
      rw [gup_gup]
      have e : (sptTo M M.length).map uL ++ [uL x] = (spotsOf M (some x)).map uL := by
        show _ = (sptTo M M.length ++ [x]).map uL
        rw [List.map_append]; rfl
      show Q _ (gup G L (.lst ((sptTo M M.length).map uL ++ [uL x])))
      rw [e]
      exact hq
end
end K39
end
section
set_option Elab.async false
set_option linter.all false
set_option maxRecDepth 100000
set_option maxHeartbeats 2000000
namespace K39
open PySem L2 L3
theorem idx_get {S : List Loc} {x : Loc} (h : x ∈ S) : (S.map uL)[S.idxOf x]? = some (uL x) := by
  have hl : S.idxOf x < S.length := List.idxOf_lt_length_iff.mpr h
  rw [List.getElem?_map, List.getElem?_eq_getElem hl, List.getElem_idxOf hl]
  rfl
theorem idx_no {S : List Loc} {x : Loc} {m : Nat} {z : U} (h : m < S.idxOf x) (hz : (S.map uL)[m]? = some z) : eq3 z (uL x) = false := by
  rw [List.getElem?_map] at hz
  cases e : S[m]? with
  | none => rw [e] at hz; cases hz
  | some y =>
    rw [e] at hz
    cases hz
    rw [eq3_uL]
    refine decide_eq_false fun e2 => ?_
    obtain ⟨hl, e3⟩ := List.getElem?_eq_some_iff.mp e
    have := List.not_of_lt_findIdx (p := fun z => z == x) (xs := S) (i := m) h
    rw [e3, e2] at this
    simp at this
section
variable {P : Program} {w : World} {K : PySem.W.Frag} {mg : Str → Option Value} {base : Heap}
abbrev s_law_wanted : Stmt := topS 24
abbrev law_wanted_N : List Str := ["moves", "spare", "spots", "wanted", "spot", "found", "move"]
theorem sc_law_wanted : FnScope law_wanted_N ["moves", "spare", "spots"] (defScope s_law_wanted) := ⟨rfl, rfl, rfl, by decide +kernel, rfl, by decide +kernel, by decide +kernel⟩
abbrev s_law_met : Stmt := topS 25
abbrev law_met_N : List Str := ["held", "wanted", "k"]
theorem sc_law_met : FnScope law_met_N ["held", "wanted"] (defScope s_law_met) := ⟨rfl, rfl, rfl, by decide +kernel, rfl, by decide +kernel, by decide +kernel⟩
def spWa : Sp3 := fun ws G Q _ => ∃ (a b : Addr) (M : List Mv) (sp : Option Loc) (S : List Loc), ws = [.ref a, uO sp, .ref b] ∧ G a = some (.lst (M.map uM)) ∧ G b = some (.lst (S.map uL)) ∧ M.length ≤ 100 ∧ S.length ≤ 300 ∧ (∀ m ∈ M, m.1 ∈ S) ∧ ∀ L, G L = none → Q (.ref L) (gup G L (.lst ((S.map (wantI M sp S)).map U.int)))
theorem ok_wa {f : Addr} {fd : FuncData} (F : Fun K "_law_wanted" "_law_wanted" s_law_wanted f fd) (T : Tg2 mg) : FnOk P w K mg base CX0 1 f fd ["moves", "spare", "spots"] (lowSp K spWa) := by
  refine Fun_ok3 F sc_law_wanted (fun ws G Q E h => by obtain ⟨_, _, _, _, _, rfl, _⟩ := h; rfl) (fun cdv A outer s H E ws G Q E3 hr h => ?_)
  have hu64 := hr.units
  have hu65 : (A.deeper (PyProof.Rows.envOfC "_law_wanted" (defScope s_law_wanted) s.heap.objs.size f cdv)).units + 65 < cLine := by have := hr.un; omega
  obtain ⟨a, b, M, sp, S, rfl, ha, hb, hlen, hsl, hms, hq⟩ := h
  refine ⟨_, (ss_cons (s_set (i := 3) sc_law_wanted.nd (e3lst a3nil))
      (ss_cons (s_for PassesOwn.never rfl (i_list (e3v 2)) (pg_name (i := 4) sc_law_wanted.nd rfl (by first | exact Or.inl rfl | exact Or.inr rfl)) gl_name
      (ss_cons (s_setLc (i := 5) (own := [("move", 6)]) rfl sc_law_wanted.nd rfl (sw_true rfl rfl rfl (by decide +kernel)) (i_list (e3v 0)) (blkOk_by (N := law_wanted_N) (sc := defScope s_law_wanted) (by decide +kernel)) (gl_own (by decide)) (fun _ _ _ _ _ => (pg_name (i := 6) sc_law_wanted.nd rfl (by first | exact Or.inl rfl | exact Or.inr rfl))) (fun _ _ _ _ _ => (ts3one (t3cmp (o_eq hu64) (e3ix (e3v 6) e3int) (e3v 4)))) (fun _ _ _ _ _ => (e3ix (e3v 6) e3int)))
        (ss_one (s_if (t3cmp o_gt (e3B k_len T.len (a3cons (e3v 5) a3nil)) e3int)
        (ss_one (s_expr (e3bmL PySem.F.slot_list_append PySem.F.type_list_append m_append (e3v 3) (a3cons (e3bmL PySem.F.slot_list_index PySem.F.type_list_index (m_index hu65) (e3v 2) (a3cons (e3ix (e3v 5) e3int) a3nil)) a3nil))))
        (ss_one (s_if (t3cmp (o_eq hu64) (e3v 4) (e3v 1))
          (ss_one (s_expr (e3bmL PySem.F.slot_list_append PySem.F.type_list_append m_append (e3v 3) (a3cons (e3neg e3int) a3nil))))
          (ss_one (s_expr (e3bmL PySem.F.slot_list_append PySem.F.type_list_append m_append (e3v 3) (a3cons (e3bmL PySem.F.slot_list_index PySem.F.type_list_index (m_index hu65) (e3v 2) (a3cons (e3v 4) a3nil)) a3nil))))))))))
      (ss_one (s_ret (e3v 3))))), ?_⟩
  refine ⟨rfl, fun L hL => ?_⟩
  have naL : a ≠ L := gne_none ha hL
  have nbL : b ≠ L := gne_none hb hL
  have ha1 : ∀ o, gup G L o a = some (.lst (M.map uM)) := fun o => by rw [gup_ne naL]; exact ha
  have hb1 : ∀ o, gup G L o b = some (.lst (S.map uL)) := fun o => by rw [gup_ne nbL]; exact hb
  try dsimp only [seq3, asg3, n3, v3, drop3, ret3, next3, List.set_cons_zero, List.set_cons_succ, List.getElem?_cons_zero, List.getElem?_cons_succ, start3, List.map_cons, List.map_nil, List.length_cons, List.length_nil, List.replicate, List.cons_append, List.nil_append, Nat.reduceSub, Nat.reduceAdd]
  refine for_of ?_
  refine ⟨_, hb1 _, ?_⟩
  refine forK_of S.length (by rw [List.length_map]) (fun i σ G' => ∃ z1 z2 z3, σ = [some (.ref a), some (uO sp), some (.ref b), some (.ref L), z1, z2, z3] ∧ L3.Sub (gup G L (.lst (((S.take i).map (wantI M sp S)).map U.int))) G') ⟨_, _, _, rfl, Sub.refl _⟩ (fun i σ' G' _ h => by obtain ⟨_, _, _, _, h⟩ := h; exact h _ _ (hb1 _)) ?_ ?_
  · rintro i x σ' G' hi hx ⟨z1, z2, z3, rfl, hs⟩
    have hm : S[i]? = some S[i] := List.getElem?_eq_getElem hi
    have hmem : S[i] ∈ S := List.getElem_mem _
    generalize S[i] = x0 at hm hmem
    rw [List.getElem?_map, hm] at hx
    cases hx
    have haG := hs _ _ (ha1 _)
    have hbG := hs _ _ (hb1 _)
    have et : (S.take (i + 1)).map (wantI M sp S) = (S.take i).map (wantI M sp S) ++ [wantI M sp S x0] := by rw [List.take_succ, hm, List.map_append]; rfl
    have tl : (S.take i).length ≤ 300 := Nat.le_trans (List.length_take_le' _ _) hsl
    try dsimp only [seq3, asg3, n3, v3, drop3, ret3, next3, List.set_cons_zero, List.set_cons_succ, List.getElem?_cons_zero, List.getElem?_cons_succ, start3, List.map_cons, List.map_nil, List.length_cons, List.length_nil, List.replicate, List.cons_append, List.nil_append, Nat.reduceSub, Nat.reduceAdd]
    refine lc_of ?_
    refine ⟨_, haG, ?_⟩
    refine lcK_of M uM (fun y => decide (y.2 = x0)) (·.1) uL (fun G' s => s _ _ haG) (by omega) (fun y hy G2 hs2 Y N hy hn => ?_) fun L1 hL1 => ?_
    · refine ⟨uL y.2, rfl, dat_uL _, dat_uL _, ?_⟩
      by_cases h : y.2 = x0
      · exact ifT ((eq3_uL _ _).trans (decide_eq_true h)) ⟨uL y.1, rfl, hy (decide_eq_true h) _ (Sub.refl _)⟩
      · exact ifF ((eq3_uL _ _).trans (decide_eq_false h)) (hn (decide_eq_false h) _ (Sub.refl _))
    · have hsrc : ∀ y ∈ (M.filter fun y => decide (y.2 = x0)).map (·.1), y ∈ S := fun y hy => by
        obtain ⟨m, hm2, rfl⟩ := List.mem_map.mp hy
        exact hms m (List.mem_filter.mp hm2).1
      have ew : wantI M sp S x0 = match (M.filter fun y => decide (y.2 = x0)).map (·.1) with | x :: _ => idxI S x | [] => if sp = some x0 then -1 else idxI S x0 := rfl
      generalize (M.filter fun y => decide (y.2 = x0)).map (·.1) = fo at *
      have hs1 := Sub.new (o := .lst (fo.map uL)) hs (hs.free hL1)
      have g1 : gup G' L1 (.lst (fo.map uL)) L1 = some (.lst (fo.map uL)) := gup_same
      have hb2 : gup G' L1 (.lst (fo.map uL)) b = some (.lst (S.map uL)) := by rw [gup_ne (gne_none hbG hL1)]; exact hbG
      generalize gup G' L1 (.lst (fo.map uL)) = G1 at hs1 g1 hb2 ⊢
      have fin : ∀ z, Wk2 (fun σ G' => ∃ z1 z2 z3, σ = [some (.ref a), some (uO sp), some (.ref b), some (.ref L), z1, z2, z3] ∧ L3.Sub (gup G L (.lst (((S.take (i + 1)).map (wantI M sp S)).map U.int))) G') [some (.ref a), some (uO sp), some (.ref b), some (.ref L), some (uL x0), some (.ref L1), z] (gup G1 L (.lst (((S.take i).map (wantI M sp S)).map U.int ++ [.int (wantI M sp S x0)]))) := fun z => by
        refine Wk2.of ⟨_, _, _, rfl, ?_⟩
        rw [et, List.map_append]
        exact hs1.mut
      refine .inl ⟨_, g1, ?_⟩
      have hz : decide ((((S.take i).map (wantI M sp S)).map U.int).length ≤ 99999) = true := decide_eq_true (by rw [List.length_map, List.length_map]; omega)
      obtain ⟨y, r, hfo⟩ | hfo : (∃ y r, fo = y :: r) ∨ fo = [] := by cases fo <;> simp
      · rw [hfo] at ew g1
        have hyS := hsrc y (by rw [hfo]; exact List.mem_cons_self)
        refine ifT (decide_eq_true (by rw [hfo, List.length_map, List.length_cons]; omega)) ?_
        refine ⟨⟨_, hs1.at⟩, ⟨_, hb2⟩, _, uL y, g1, atI_eq (i := 0) rfl rfl, _, S.idxOf y, uL y, hb2, dat_Ls _, dat_uL _, idx_get hyS, by rw [eq3_uL]; exact decide_eq_true rfl, fun m z' h1 h2 => idx_no h1 h2, _, hs1.at, hz, ?_⟩
        have := fin z3
        rw [ew] at this
        exact this
      · rw [hfo] at ew
        refine ifF (decide_eq_false (by rw [hfo]; decide)) ?_
        refine ⟨dat_uL _, by cases sp <;> first | exact dat_non | exact dat_uL _, ?_⟩
        by_cases hsp : sp = some x0
        · refine ifT (by rw [if_neg (by decide), hsp]; show eq3 (uL x0) (uL x0) = true; rw [eq3_uL]; exact decide_eq_true rfl) ?_
          refine ⟨⟨_, hs1.at⟩, _, hs1.at, hz, ?_⟩
          have := fin z3
          rw [ew] at this
          rw [if_pos hsp] at this
          exact this
        · refine ifF ?_ ?_
          · rw [if_neg (by decide)]
            cases sp with
            | none => rfl
            | some y => show eq3 (uL x0) (uL y) = false; rw [eq3_uL]; exact decide_eq_false fun e => hsp (by rw [e])
          · refine ⟨⟨_, hs1.at⟩, ⟨_, hb2⟩, _, S.idxOf x0, uL x0, hb2, dat_Ls _, dat_uL _, idx_get hmem, by rw [eq3_uL]; exact decide_eq_true rfl, fun m z' h1 h2 => idx_no h1 h2, _, hs1.at, hz, ?_⟩
            have := fin z3
            rw [ew] at this
            rw [if_neg hsp] at this
            exact this
  · rintro σ' G' ⟨z1, z2, z3, rfl, hs⟩
    rw [List.take_length] at hs
    exact Wk.sub (hq L hL) hs
def uT (h : List Nat) : U := .tup (h.map fun i => U.int (i : Nat))
def spMet : Sp3 := fun ws G Q _ => ∃ (b : Addr) (h : List Nat) (W : List Int), ws = [uT h, .ref b] ∧ G b = some (.lst (W.map U.int)) ∧ h.length = W.length ∧ W.length ≤ 300 ∧ Q (.bl (metB W h)) G
theorem metB_drop : ∀ (W : List Int) (h : List Nat), h.length = W.length → (∀ (i : Nat) (w : Int) (x : Nat), W[i]? = some w → h[i]? = some x → w = -1 ∨ (x : Int) = w) → metB W h = true
  | [], _, _, _ => rfl
  | w :: ws, [], e, _ => by cases e
  | w :: ws, x :: xs, e, q => by
    unfold metB
    rw [if_neg, metB_drop ws xs (by simpa using e) fun i w x h1 h2 => q (i + 1) w x (by simpa using h1) (by simpa using h2)]
    rintro ⟨h1, h2⟩
    rcases q 0 w x rfl rfl with h | h
    · exact h1 h
    · exact h2 h
theorem metB_no : ∀ (W : List Int) (h : List Nat) (i : Nat) (w : Int) (x : Nat), W[i]? = some w → h[i]? = some x → w ≠ -1 → (x : Int) ≠ w → metB W h = false
  | [], _, i, w, x, h1, _, _, _ => by simp at h1
  | _ :: _, [], i, w, x, _, h2, _, _ => by simp at h2
  | a :: ws, b :: xs, 0, w, x, h1, h2, n1, n2 => by
    simp at h1 h2
    subst h1 h2
    unfold metB
    rw [if_pos ⟨n1, n2⟩]
  | a :: ws, b :: xs, i + 1, w, x, h1, h2, n1, n2 => by
    unfold metB
    split
    · rfl
    · exact metB_no ws xs i w x (by simpa using h1) (by simpa using h2) n1 n2
theorem ok_met {f : Addr} {fd : FuncData} (F : Fun K "_law_met" "_law_met" s_law_met f fd) (T : Tg2 mg) : FnOk P w K mg base CX0 1 f fd ["held", "wanted"] (lowSp K spMet) := by
  refine Fun_ok3 F sc_law_met (fun ws G Q E h => by obtain ⟨_, _, _, rfl, _⟩ := h; rfl) (fun cdv A outer s H E ws G Q E3 hr h => ?_)
  have hu64 := hr.units
  obtain ⟨b, h, W, rfl, hb, hl, hn, hq⟩ := h
  refine ⟨_, (ss_cons (s_for PassesOwn.never rfl (i_range1 T.range (e3B k_len T.len (a3cons (e3v 1) a3nil))) (pg_name (i := 2) sc_law_met.nd rfl (by first | exact Or.inl rfl | exact Or.inr rfl)) gl_name
      (ss_one (s_if (PW.pt (w3and (t3cmp (o_ne hu64) (e3ix (e3v 1) (e3v 2)) (e3neg e3int)) (w3and1 (t3cmp (o_ne hu64) (e3ix (e3v 0) (e3v 2)) (e3ix (e3v 1) (e3v 2))))))
        (ss_one (s_ret e3bl))
        ss_nil)))
      (ss_one (s_ret e3bl))), ?_⟩
  try dsimp only [seq3, asg3, n3, v3, drop3, ret3, next3, List.set_cons_zero, List.set_cons_succ, List.getElem?_cons_zero, List.getElem?_cons_succ, start3, List.map_cons, List.map_nil, List.length_cons, List.length_nil, List.replicate, List.cons_append, List.nil_append, Nat.reduceSub, Nat.reduceAdd]
  refine for_of ?_
  refine .inl ⟨_, hb, decide_eq_true (by rw [List.length_map]; omega), ?_⟩
  refine forK_of W.length (by rw [rgU_len, List.length_map]; rfl) (fun i σ G' => ∃ z1, σ = [some (uT h), some (.ref b), z1] ∧ G' = G ∧ ∀ j (w : Int) (x : Nat), j < i → W[j]? = some w → h[j]? = some x → w = -1 ∨ (x : Int) = w) ⟨_, rfl, rfl, fun j _ _ hj => by omega⟩ (fun _ _ _ _ _ => trivial) ?_ ?_
  · rintro i x σ' G' hi hx ⟨z1, rfl, rfl, hd⟩
    have hx' : x = .int ((i : Nat) : Int) := by
      rw [rgU_get (by rw [List.length_map]; exact hi)] at hx
      cases hx
      rw [Int.zero_add]
    subst hx'
    have hw : W[i]? = some W[i] := List.getElem?_eq_getElem hi
    have hh : h[i]? = some (h[i]'(by omega)) := List.getElem?_eq_getElem (by omega)
    generalize W[i] = wi at hw
    generalize (h[i]'(by omega)) = hi' at hh
    have aw : L2.atI (W.map U.int) (i : Int) = some (.int wi) := atI_nat (by rw [List.getElem?_map, hw]; rfl)
    have ah : L2.atI (h.map fun i => U.int (i : Nat)) (i : Int) = some (.int (hi' : Nat)) := atI_nat (by rw [List.getElem?_map, hh]; rfl)
    have next : (wi = -1 ∨ (hi' : Int) = wi) → Wk2 (fun σ G2 => ∃ z1, σ = [some (uT h), some (.ref b), z1] ∧ G2 = G' ∧ ∀ j (w : Int) (x : Nat), j < i + 1 → W[j]? = some w → h[j]? = some x → w = -1 ∨ (x : Int) = w) [some (uT h), some (.ref b), some (.int ((i : Nat) : Int))] G' := fun h1 => by
      refine Wk2.of ⟨_, rfl, rfl, fun j w x hj h2 h3 => ?_⟩
      rcases Nat.lt_succ_iff_lt_or_eq.mp hj with hj | rfl
      · exact hd j w x hj h2 h3
      · rw [hw] at h2; rw [hh] at h3; cases h2; cases h3; exact h1
    refine ⟨_, _, hb, aw, dat_int _, dat_int _, ?_⟩
    by_cases h1 : wi = -1
    · refine ifF (by rw [if_pos rfl, eq3_int, h1]; rfl) ?_
      exact ifF rfl (next (.inl h1))
    · refine ifT (by rw [if_pos rfl, eq3_int]; simp; exact h1) ?_
      refine ⟨_, ah, _, _, hb, aw, dat_int _, dat_int _, ?_⟩
      by_cases h2 : (hi' : Int) = wi
      · refine ifF (by rw [if_pos rfl, eq3_int, h2]; simp) ?_
        exact next (.inr h2)
      · refine ifT (by rw [if_pos rfl, eq3_int]; simp; exact h2) ?_
        have e := metB_no W h i wi hi' hw hh h1 h2
        rw [e] at hq
        exact Wk.of hq
  · rintro σ' G' ⟨z1, rfl, rfl, hd⟩
    have e := metB_drop W h hl fun j w x h1 h2 => hd j w x (List.getElem?_eq_some_iff.mp h1).1 h1 h2
    rw [e] at hq
    exact Wk.of hq
end
end K39
end
section
set_option linter.all false
/-! k40: states of the law's search, as keys -/
namespace K39
open PySem L2 L3
def kT (h : List Nat) : List Key := h.map fun (i : Nat) => Sum.inl (i : Int)
theorem kT_inj : ∀ {a b : List Nat}, kT a = kT b → a = b
  | [], [], _ => rfl
  | [], _ :: _, h => by cases h
  | _ :: _, [], h => by cases h
  | x :: xs, y :: ys, h => by
    have h : (Sum.inl (x : Int) :: kT xs : List Key) = Sum.inl (y : Int) :: kT ys := h
    injection h with h1 h2
    injection h1 with h1
    have : x = y := by omega
    rw [this, kT_inj h2]
theorem tkey_uT (h : List Nat) : tkey (uT h) = some (kT h) := by
  have e : (h.map fun i => U.int (i : Nat)) = (kT h).map kU := by
    unfold kT
    rw [List.map_map]
    rfl
  show keysOf (h.map fun i => U.int (i : Nat)) = _
  rw [e]
  exact keysOf_kU _
def dKn (ks : List (List Nat)) : List (List Key × U) := ks.map fun h => (kT h, .bl true)
theorem dKn_len (ks : List (List Nat)) : (dKn ks).length = ks.length := by unfold dKn; rw [List.length_map]
theorem look_dKn (h : List Nat) : ∀ ks : List (List Nat), look (dKn ks) (kT h) = if h ∈ ks then some (.bl true) else none
  | [] => rfl
  | k :: ks => by
    show look ((kT k, .bl true) :: dKn ks) (kT h) = _
    by_cases e : k = h
    · subst e
      rw [look_pos rfl, if_pos List.mem_cons_self]
    · rw [look_neg (p := (kT k, .bl true)) (fun z => e (kT_inj z)), look_dKn h ks]
      have : (h ∈ k :: ks) ↔ h ∈ ks := by
        rw [List.mem_cons]
        exact ⟨fun z => z.resolve_left fun z => e z.symm, .inr⟩
      simp only [this]
theorem put_dKn {h : List Nat} {ks : List (List Nat)} (n : h ∉ ks) : put (dKn ks) (kT h) (.bl true) = dKn (ks ++ [h]) := by
  rw [put_new _ (by rw [look_dKn, if_neg n])]
  unfold dKn
  rw [List.map_append]
  rfl
def Val (n : Nat) (h : List Nat) : Prop := h.length = n ∧ ∀ t ∈ h, t < n
theorem Val.set {n : Nat} {h : List Nat} (v : Val n h) {t : Nat} (g : Nat) (ht : t ∈ h) : Val n (h.set g t) := by
  refine ⟨by rw [List.length_set]; exact v.1, fun x hx => ?_⟩
  rcases List.mem_or_eq_of_mem_set hx with hx | rfl
  · exact v.2 x hx
  · exact v.2 _ ht
theorem Val.range (n : Nat) : Val n (List.range n) := ⟨List.length_range, fun t h => List.mem_range.mp h⟩
def allT (n : Nat) : Nat → List (List Nat)
  | 0 => [[]]
  | m + 1 => (allT n m).flatMap fun h => (List.range n).map fun t => t :: h
theorem allT_len (n : Nat) : ∀ m, (allT n m).length = n ^ m
  | 0 => rfl
  | m + 1 => by
    unfold allT
    rw [List.length_flatMap]
    have : ((allT n m).map fun h => ((List.range n).map fun t => t :: h).length) = (allT n m).map fun _ => n := by
      refine List.map_congr_left fun h _ => ?_
      rw [List.length_map, List.length_range]
    rw [this, List.map_const', List.sum_replicate_nat, allT_len n m, Nat.pow_succ]
theorem mem_allT (n : Nat) : ∀ (m : Nat) (h : List Nat), h.length = m → (∀ t ∈ h, t < n) → h ∈ allT n m
  | 0, h, e, _ => by
    rw [List.length_eq_zero_iff.mp e]
    exact List.mem_singleton.mpr rfl
  | m + 1, [], e, _ => by cases e
  | m + 1, t :: h, e, q => by
    unfold allT
    refine List.mem_flatMap.mpr ⟨h, mem_allT n m h (by simpa using e) fun x hx => q x (List.mem_cons_of_mem _ hx), List.mem_map.mpr ⟨t, List.mem_range.mpr (q t List.mem_cons_self), rfl⟩⟩
theorem known_le {n : Nat} {ks : List (List Nat)} (h4 : n ≤ 4) (nd : ks.Nodup) (v : ∀ h ∈ ks, Val n h) : ks.length ≤ 256 := by
  have h1 := nodup_len ks (allT n n) nd fun h hh => mem_allT n n h (v h hh).1 (v h hh).2
  rw [allT_len] at h1
  have : n = 0 ∨ n = 1 ∨ n = 2 ∨ n = 3 ∨ n = 4 := by omega
  rcases this with rfl | rfl | rfl | rfl | rfl <;> simp at h1 <;> omega
/-- no sequence of at most that many rounds meets what is wanted -/
structure NoWay (n : Nat) (W : List Int) (rounds : Int) (I : Nat → List Nat → Prop) : Prop where
  start : I 0 (List.range n)
  step : ∀ k h g t, I k h → Val n h → g < n → t ∈ h → I (k + 1) (h.set g t)
  no : ∀ k h, I k h → Val n h → (k : Int) ≤ rounds → metB W h = false
theorem set_cut {h : List Nat} {g t : Nat} (hg : g < h.length) : h.take g ++ [t] ++ h.drop (g + 1) = h.set g t := by
  rw [List.set_eq_take_append_cons_drop, if_pos hg, List.append_assoc]
  rfl
end K39
end
section
set_option Elab.async false
set_option linter.all false
set_option maxRecDepth 100000
set_option maxHeartbeats 2000000
namespace K39
open PySem L2 L3
abbrev uN (i : Nat) : U := U.int (i : Nat)
theorem cutA {h : List Nat} {g : Nat} (hg : g < h.length) : cut3 (h.map uN) none (some ((g : Nat) : Int)) = (h.take g).map uN := by
  unfold cut3
  rw [HT.sIx_none, List.length_map, HT.sIx_nat, Nat.min_eq_left (by omega), List.drop_zero, Nat.sub_zero, List.map_take]
theorem cutB {h : List Nat} {g : Nat} (hg : g < h.length) : cut3 (h.map uN) (some ((g : Nat) + 1 : Int)) none = (h.drop (g + 1)).map uN := by
  unfold cut3
  rw [show ((g : Nat) + 1 : Int) = ((g + 1 : Nat) : Int) from rfl, List.length_map, HT.sIx_nat, HT.sIx_none, Nat.min_eq_left (by omega), ← List.map_drop, List.take_of_length_le (by rw [List.length_map, List.length_drop]; exact Nat.le_refl _)]
theorem cutNew {h : List Nat} {g t : Nat} (hg : g < h.length) : U.tup (cut3 (h.map uN) none (some ((g : Nat) : Int)) ++ [uN t] ++ cut3 (h.map uN) (some ((g : Nat) + 1 : Int)) none) = uT (h.set g t) := by
  rw [cutA hg, cutB hg, ← set_cut hg]
  unfold uT
  rw [List.map_append, List.map_append]
  rfl
theorem cutA_part {h : List Nat} {g : Nat} (hg : g < h.length) : ¬ (HT.sIx (h.map uN).length 0 none = 0 ∧ HT.sIx (h.map uN).length (h.map uN).length (some ((g : Nat) : Int)) = (h.map uN).length) := by
  rw [List.length_map, HT.sIx_nat, Nat.min_eq_left (by omega)]
  omega
theorem cutB_part {h : List Nat} {g : Nat} (hg : g < h.length) : ¬ (HT.sIx (h.map uN).length 0 (some ((g : Nat) + 1 : Int)) = 0 ∧ HT.sIx (h.map uN).length (h.map uN).length none = (h.map uN).length) := by
  rw [show ((g : Nat) + 1 : Int) = ((g + 1 : Nat) : Int) from rfl, List.length_map, HT.sIx_nat, Nat.min_eq_left (by omega)]
  omega
/-- what stands while a level is worked off -/
structure LInv (G : G3) (n : Nat) (I : List Nat → Prop) (W : List Int) (go : List Nat) (lv : List (List Nat)) (WA GA LA KA FA : Addr) (G' : G3) : Prop where
  sub : L3.Sub G G'
  gF : G FA = none
  hW : G' WA = some (.lst (W.map U.int))
  hG : G' GA = some (.lst (go.map uN))
  hL : G' LA = some (.lst (lv.map uT))
  nW : WA ≠ FA
  nG : GA ≠ FA
  nL : LA ≠ FA
  kf : ∃ ks fr : List (List Nat), G' KA = some (.dT (dKn ks)) ∧ ks.Nodup ∧ (∀ h ∈ ks, Val n h) ∧ G' FA = some (.lst (fr.map uT)) ∧ (∀ h ∈ fr, Val n h ∧ I h) ∧ fr.length ≤ ks.length
section
variable {P : Program} {w : World} {K : PySem.W.Frag} {mg : Str → Option Value} {base : Heap}
abbrev s_law_least : Stmt := topS 26
abbrev law_least_N : List Str := ["moves", "spare", "rounds", "spots", "wanted", "goals", "level", "known", "k", "fresh", "held", "goal", "thing", "new"]
theorem sc_law_least : FnScope law_least_N ["moves", "spare", "rounds"] (defScope s_law_least) := ⟨rfl, rfl, rfl, by decide +kernel, rfl, by decide +kernel, by decide +kernel⟩
def spLeast : Sp3 := fun ws G Q _ => ∃ (a : Addr) (M : List Mv) (sp : Option Loc) (r : Int) (I : Nat → List Nat → Prop), ws = [.ref a, uO sp, .int r] ∧ G a = some (.lst (M.map uM)) ∧ M.length ≤ 100 ∧ -1 ≤ r ∧ r ≤ 1000 ∧ (spotsOf M sp).length ≤ 4 ∧ (∀ m ∈ M, m.1 ∈ spotsOf M sp) ∧
  NoWay (spotsOf M sp).length ((spotsOf M sp).map (wantI M sp (spotsOf M sp))) r I ∧ Q (.int (-1)) G
theorem ok_least {f f1 f2 f3 : Addr} {fd fd1 fd2 fd3 : FuncData} (F : Fun K "_law_least" "_law_least" s_law_least f fd) (T : Tg2 mg) (O_law_spots_of : Own P w K mg base 1 "_law_spots_of" ["moves", "spare"] spSO f1 fd1) (O_law_wanted : Own P w K mg base 1 "_law_wanted" ["moves", "spare", "spots"] spWa f2 fd2) (O_law_met : Own P w K mg base 1 "_law_met" ["held", "wanted"] spMet f3 fd3) : FnOk P w K mg base CX0 2 f fd ["moves", "spare", "rounds"] (lowSp K spLeast) := by
  refine Fun_ok3 F sc_law_least (fun ws G Q E h => by obtain ⟨_, _, _, _, _, rfl, _⟩ := h; rfl) (fun cdv A outer s H E ws G Q E3 hr h => ?_)
  have hr_law_spots_of : Room 1 _ := hr
  have hr_law_wanted : Room 1 _ := hr
  have hr_law_met : Room 1 _ := hr
  have hu64 := hr.units
  have hu65 : (A.deeper (PyProof.Rows.envOfC "_law_least" (defScope s_law_least) s.heap.objs.size f cdv)).units + 65 < cLine := by have := hr.un; omega
  have hu : (A.deeper (PyProof.Rows.envOfC "_law_least" (defScope s_law_least) s.heap.objs.size f cdv)).units + 1 < cLine := by omega
  obtain ⟨a, M, sp, r, I, rfl, ha, hlen, hr0, hr1, hn4, hms, nw, hq⟩ := h
  refine ⟨_, (ss_cons (s_set (i := 3) sc_law_least.nd (e3call O_law_spots_of.G hr_law_spots_of O_law_spots_of.g O_law_spots_of.kp O_law_spots_of.b pass0 (a3cons (e3v 0) (a3cons (e3v 1) a3nil))))
      (ss_cons (s_set (i := 4) sc_law_least.nd (e3call O_law_wanted.G hr_law_wanted O_law_wanted.g O_law_wanted.kp O_law_wanted.b pass0 (a3cons (e3v 0) (a3cons (e3v 1) (a3cons (e3v 3) a3nil)))))
      (ss_cons (s_setLc (i := 5) (own := [("k", 8)]) rfl sc_law_least.nd rfl (sw_true rfl rfl rfl (by decide +kernel)) (i_range1 T.range (e3B k_len T.len (a3cons (e3v 3) a3nil))) (blkOk_by (N := law_least_N) (sc := defScope s_law_least) (by decide +kernel)) (gl_own (by decide)) (fun _ _ _ _ _ => (pg_name (i := 8) sc_law_least.nd rfl (by first | exact Or.inl rfl | exact Or.inr rfl))) (fun _ _ _ _ _ => (ts3one (t3cmp (o_ne hu64) (e3ix (e3ix (e3v 3) (e3v 8)) e3int) e3str))) (fun _ _ _ _ _ => (e3v 8)))
      (ss_cons (s_set (i := 6) sc_law_least.nd (e3lst (a3cons (e3tupRg rfl T.tuple T.range (e3B k_len T.len (a3cons (e3v 3) a3nil))) a3nil)))
      (ss_cons (s_set (i := 7) sc_law_least.nd (e3disp1 hu (e3ix (e3v 6) e3int) e3bl))
      (ss_cons (s_for PassesOwn.never rfl (i_range1 T.range (e3op o_add (e3v 2) e3int)) (pg_name (i := 8) sc_law_least.nd rfl (by first | exact Or.inl rfl | exact Or.inr rfl)) gl_name
      (ss_cons (s_if (t3val (e3B (k_any rfl) T.any (a3cons (e3lc (own := [("held", 10)]) rfl sc_law_least.nd (i_list (e3v 6)) (blkOk_by (N := law_least_N) (sc := defScope s_law_least) (by decide +kernel)) (gl_own (by decide)) (fun _ _ _ _ _ => (pg_name (i := 10) sc_law_least.nd rfl (by first | exact Or.inl rfl | exact Or.inr rfl))) (fun _ _ _ _ _ => ts3nil) (fun _ _ _ _ _ => (e3call O_law_met.G hr_law_met O_law_met.g O_law_met.kp O_law_met.b pass0 (a3cons (e3v 10) (a3cons (e3v 4) a3nil))))) a3nil)))
        (ss_one (s_ret (e3v 8)))
        ss_nil)
        (ss_cons (s_set (i := 9) sc_law_least.nd (e3lst a3nil))
        (ss_cons (s_for PassesOwn.never rfl (i_list (e3v 6)) (pg_name (i := 10) sc_law_least.nd rfl (by first | exact Or.inl rfl | exact Or.inr rfl)) gl_name
        (ss_one (s_for PassesOwn.never rfl (i_list (e3v 5)) (pg_name (i := 11) sc_law_least.nd rfl (by first | exact Or.inl rfl | exact Or.inr rfl)) gl_name
          (ss_one (s_for PassesOwn.never rfl (i_tup (e3v 10)) (pg_name (i := 12) sc_law_least.nd rfl (by first | exact Or.inl rfl | exact Or.inr rfl)) gl_name
            (ss_cons (s_set (i := 13) sc_law_least.nd (e3op o_catA (e3op o_catA (e3sl (e3v 10) o3none (o3some (e3v 11))) (e3tup (a3cons (e3v 12) a3nil))) (e3sl (e3v 10) (o3some (e3op o_add (e3v 11) e3int)) o3none)))
              (ss_one (s_if (t3dnotin hu (e3v 13) (e3v 7))
              (ss_cons (s_dput hu (e3v 7) (e3v 13) e3bl)
                (ss_one (s_expr (e3bmL PySem.F.slot_list_append PySem.F.type_list_append m_append (e3v 9) (a3cons (e3v 13) a3nil)))))
              ss_nil))))))))
        (ss_one (s_set (i := 6) sc_law_least.nd (e3v 9)))))))
      (ss_one (s_ret (e3neg e3int))))))))), ?_⟩
  refine ⟨a, M, sp, rfl, ha, hlen, fun SA hSA => ?_⟩
  have s1 : L3.Sub G (gup G SA (.lst ((spotsOf M sp).map uL))) := Sub.new (Sub.refl G) hSA
  have hS : gup G SA (.lst ((spotsOf M sp).map uL)) SA = some (.lst ((spotsOf M sp).map uL)) := gup_same
  generalize spotsOf M sp = S at *
  generalize gup G SA (.lst (S.map uL)) = G1 at s1 hS ⊢
  refine ⟨a, SA, M, sp, S, rfl, s1 _ _ ha, hS, hlen, by omega, hms, fun WA hWA => ?_⟩
  generalize hW0 : S.map (wantI M sp S) = W at *
  have hWl : W.length = S.length := by rw [← hW0, List.length_map]
  have s2 : L3.Sub G (gup G1 WA (.lst (W.map U.int))) := Sub.new s1 (s1.free hWA)
  have hS2 : gup G1 WA (.lst (W.map U.int)) SA = some (.lst (S.map uL)) := by rw [gup_ne (gne_none hS hWA)]; exact hS
  have hW2 : gup G1 WA (.lst (W.map U.int)) WA = some (.lst (W.map U.int)) := gup_same
  generalize gup G1 WA (.lst (W.map U.int)) = G2 at s2 hS2 hW2 ⊢
  try dsimp only [seq3, asg3, n3, v3, drop3, ret3, next3, List.set_cons_zero, List.set_cons_succ, List.getElem?_cons_zero, List.getElem?_cons_succ, start3, List.map_cons, List.map_nil, List.length_cons, List.length_nil, List.replicate, List.cons_append, List.nil_append, Nat.reduceSub, Nat.reduceAdd]
  refine lc_of ?_
  refine .inl ⟨_, hS2, decide_eq_true (by rw [List.length_map]; omega), ?_⟩
  rw [List.length_map]
  refine lcK_of (List.range S.length) (fun i => U.int (0 + (i : Nat))) (fun i => decide ((at0 S i).1 ≠ .out)) (fun i => i) (fun i => U.int (0 + (i : Nat))) (fun _ _ => trivial) (by rw [List.length_range]; omega) (fun y hy G' hs Y N hy' hn => ?_) fun GA hGA => ?_
  · have hyl := List.mem_range.mp hy
    refine ⟨_, uL (at0 S y), hs _ _ hS2, at0J (by omega) hyl, .str (at0 S y).1.str, rfl, dat_kd _, dat_kd .out, ?_⟩
    by_cases h : (at0 S y).1 = .out
    · exact ifF (by rw [if_pos rfl]; show (!eq3 (.str (at0 S y).1.str) (.str Kd.out.str)) = false; rw [eq3_kd, decide_eq_true h]; rfl) (hn (by simp [h]) _ (Sub.refl _))
    · exact ifT (by rw [if_pos rfl]; show (!eq3 (.str (at0 S y).1.str) (.str Kd.out.str)) = true; rw [eq3_kd, decide_eq_false h]; rfl) (hy' (by simp [h]) _ (Sub.refl _))
  have ego : (((List.range S.length).filter fun i => decide ((at0 S i).1 ≠ .out)).map fun i => i).map (fun i : Nat => U.int (0 + (i : Nat))) = ((List.range S.length).filter fun i => decide ((at0 S i).1 ≠ .out)).map uN := by
    rw [List.map_id']
    refine List.map_congr_left fun i _ => ?_
    rw [Int.zero_add]
  rw [ego]
  have hgo : ∀ g ∈ (List.range S.length).filter fun i => decide ((at0 S i).1 ≠ .out), g < S.length := fun g hg => List.mem_range.mp (List.mem_filter.mp hg).1
  have hgl : ((List.range S.length).filter fun i => decide ((at0 S i).1 ≠ .out)).length ≤ 4 := by
    have := List.length_filter_le (fun i => decide ((at0 S i).1 ≠ .out)) (List.range S.length)
    rw [List.length_range] at this
    omega
  generalize ((List.range S.length).filter fun i => decide ((at0 S i).1 ≠ .out)) = go at hgo hgl ⊢
  have s3 : L3.Sub G (gup G2 GA (.lst (go.map uN))) := Sub.new s2 (s2.free hGA)
  have hS3 : gup G2 GA (.lst (go.map uN)) SA = some (.lst (S.map uL)) := by rw [gup_ne (gne_none hS2 hGA)]; exact hS2
  have hW3 : gup G2 GA (.lst (go.map uN)) WA = some (.lst (W.map U.int)) := by rw [gup_ne (gne_none hW2 hGA)]; exact hW2
  have hG3 : gup G2 GA (.lst (go.map uN)) GA = some (.lst (go.map uN)) := gup_same
  generalize gup G2 GA (.lst (go.map uN)) = G3 at s3 hS3 hW3 hG3 ⊢
  refine .inl ⟨_, hS3, decide_eq_true (by rw [List.length_map]; omega), rfl, fun LA hLA => ?_⟩
  have e0 : [U.tup ((List.range (((S.map uL).length : Nat) : Int).toNat).map fun i => U.int (i : Nat))] = [List.range S.length].map uT := by
    rw [List.length_map]
    rfl
  rw [e0]
  have s4 : L3.Sub G (gup G3 LA (.lst ([List.range S.length].map uT))) := Sub.new s3 (s3.free hLA)
  have hW4 : gup G3 LA (.lst ([List.range S.length].map uT)) WA = some (.lst (W.map U.int)) := by rw [gup_ne (gne_none hW3 hLA)]; exact hW3
  have hG4 : gup G3 LA (.lst ([List.range S.length].map uT)) GA = some (.lst (go.map uN)) := by rw [gup_ne (gne_none hG3 hLA)]; exact hG3
  have hL4 : gup G3 LA (.lst ([List.range S.length].map uT)) LA = some (.lst ([List.range S.length].map uT)) := gup_same
  generalize gup G3 LA (.lst ([List.range S.length].map uT)) = G4 at s4 hW4 hG4 hL4 ⊢
  try dsimp only [seq3, asg3, n3, v3, drop3, ret3, next3, List.set_cons_zero, List.set_cons_succ, List.getElem?_cons_zero, List.getElem?_cons_succ, start3, List.map_cons, List.map_nil, List.length_cons, List.length_nil, List.replicate, List.cons_append, List.nil_append, Nat.reduceSub, Nat.reduceAdd]
  refine fun KA hKA => ⟨_, uT (List.range S.length), (by rw [gup_ne (gne_none hL4 hKA)]; exact hL4), rfl, gup_same, _, tkey_uT _, ?_⟩
  rw [gup_gup]
  have gK : G KA = none := s4.free hKA
  have s5 : L3.Sub G (gup G4 KA (.dT [(kT (List.range S.length), .bl true)])) := Sub.new s4 gK
  have hW5 : gup G4 KA (.dT [(kT (List.range S.length), .bl true)]) WA = some (.lst (W.map U.int)) := by rw [gup_ne (gne_none hW4 hKA)]; exact hW4
  have hG5 : gup G4 KA (.dT [(kT (List.range S.length), .bl true)]) GA = some (.lst (go.map uN)) := by rw [gup_ne (gne_none hG4 hKA)]; exact hG4
  have hL5 : gup G4 KA (.dT [(kT (List.range S.length), .bl true)]) LA = some (.lst ([List.range S.length].map uT)) := by rw [gup_ne (gne_none hL4 hKA)]; exact hL4
  have hK5 : gup G4 KA (.dT [(kT (List.range S.length), .bl true)]) KA = some (.dT (dKn [List.range S.length])) := gup_same
  generalize gup G4 KA (.dT [(kT (List.range S.length), .bl true)]) = G5 at s5 hW5 hG5 hL5 hK5 ⊢
  generalize S.length = n at *
  try dsimp only [seq3, asg3, n3, v3, drop3, ret3, next3, List.set_cons_zero, List.set_cons_succ, List.getElem?_cons_zero, List.getElem?_cons_succ, start3, List.map_cons, List.map_nil, List.length_cons, List.length_nil, List.replicate, List.cons_append, List.nil_append, Nat.reduceSub, Nat.reduceAdd]
  refine for_of ?_
  refine ⟨decide_eq_true (by omega), ?_⟩
  refine forK_of (r + 1).toNat (by rw [rgU_len]) (fun k σ G' => ∃ (LA : Addr) (lv ks : List (List Nat)) (z8 z9 z10 z11 z12 z13 : Option U), σ = [some (.ref a), some (uO sp), some (.int r), some (.ref SA), some (.ref WA), some (.ref GA), some (.ref LA), some (.ref KA), z8, z9, z10, z11, z12, z13] ∧ L3.Sub G G' ∧
    G' WA = some (.lst (W.map U.int)) ∧ G' GA = some (.lst (go.map uN)) ∧ G' LA = some (.lst (lv.map uT)) ∧ (∀ h ∈ lv, Val n h ∧ I k h) ∧ lv.length ≤ 256 ∧ G' KA = some (.dT (dKn ks)) ∧ ks.Nodup ∧ (∀ h ∈ ks, Val n h))
    ⟨LA, _, _, _, _, _, _, _, _, rfl, s5, hW5, hG5, hL5, fun h hh => by rw [List.mem_singleton.mp hh]; exact ⟨Val.range n, nw.start⟩, (show 1 ≤ 256 by decide), hK5, by simp, fun h hh => by rw [List.mem_singleton.mp hh]; exact Val.range n⟩ (fun _ _ _ _ _ => trivial) ?_ ?_
  · rintro k x σ' G6 hi hx ⟨LA, lv, ks, z8, z9, z10, z11, z12, z13, rfl, s6, hW6, hG6, hL6, hlv, hll, hK6, hnd, hks⟩
    have hx' : x = .int ((k : Nat) : Int) := by
      rw [rgU_get hi] at hx
      cases hx
      rw [Int.zero_add]
    subst hx'
    try dsimp only [retN3, ret3, next3, seq3, asg3, n3, v3, c3, drop3, ret3, next3, te3, op3, ifS3, cb3, cons3, nil3, call3, lst3, tup3, un3, List.set_cons_zero, List.set_cons_succ, List.getElem?_cons_zero, List.getElem?_cons_succ, start3, List.map_cons, List.map_nil, List.length_cons, List.length_nil, List.replicate, List.cons_append, List.nil_append, Nat.reduceSub, Nat.reduceAdd]
    refine lc_of ?_
    refine ⟨_, hL6, ?_⟩
    refine lcK_of lv uT (fun _ => true) (metB W) U.bl (fun G' s => s _ _ hL6) (by omega) (fun h hh G' hs Y N hy hn => ?_) fun BA hBA => ?_
    · exact ⟨WA, h, W, rfl, hs _ _ hW6, (hlv h hh).1.1.trans hWl.symm, by omega, hy rfl _ (Sub.refl _)⟩
    rw [filt_all]
    have s7 : L3.Sub G (gup G6 BA (.lst ((lv.map (metB W)).map U.bl))) := Sub.new s6 (s6.free hBA)
    have hW7 : gup G6 BA (.lst ((lv.map (metB W)).map U.bl)) WA = some (.lst (W.map U.int)) := by rw [gup_ne (gne_none hW6 hBA)]; exact hW6
    have hG7 : gup G6 BA (.lst ((lv.map (metB W)).map U.bl)) GA = some (.lst (go.map uN)) := by rw [gup_ne (gne_none hG6 hBA)]; exact hG6
    have hL7 : gup G6 BA (.lst ((lv.map (metB W)).map U.bl)) LA = some (.lst (lv.map uT)) := by rw [gup_ne (gne_none hL6 hBA)]; exact hL6
    have hK7 : gup G6 BA (.lst ((lv.map (metB W)).map U.bl)) KA = some (.dT (dKn ks)) := by rw [gup_ne (gne_none hK6 hBA)]; exact hK6
    have hB7 : gup G6 BA (.lst ((lv.map (metB W)).map U.bl)) BA = some (.lst ((lv.map (metB W)).map U.bl)) := gup_same
    generalize gup G6 BA (.lst ((lv.map (metB W)).map U.bl)) = G7 at s7 hW7 hG7 hL7 hK7 hB7 ⊢
    refine ⟨_, hB7, ?_⟩
    have hany : (lv.map (metB W)).any id = false := by
      rw [List.any_map, List.any_eq_false]
      intro h hh e
      have := nw.no k h (hlv h hh).2 (hlv h hh).1 (by omega)
      rw [Function.comp_apply, id_eq, this] at e
      cases e
    refine ifF hany ?_
    refine ⟨rfl, fun FA hFA => ?_⟩
    have gF : G FA = none := s7.free hFA
    have s8 : L3.Sub G (gup G7 FA (.lst [])) := Sub.new s7 gF
    have J : LInv G n (I (k + 1)) W go lv WA GA LA KA FA (gup G7 FA (.lst [])) := ⟨s8, gF, by rw [gup_ne (gne_none hW7 hFA)]; exact hW7, by rw [gup_ne (gne_none hG7 hFA)]; exact hG7, by rw [gup_ne (gne_none hL7 hFA)]; exact hL7, gne_none hW7 hFA, gne_none hG7 hFA, gne_none hL7 hFA, ks, [], by rw [gup_ne (gne_none hK7 hFA)]; exact hK7, hnd, hks, gup_same, (fun h hh => absurd hh List.not_mem_nil), Nat.zero_le _⟩
    generalize gup G7 FA (.lst []) = G8 at s8 J ⊢
    try dsimp only [seq3, asg3, n3, v3, drop3, ret3, next3, List.set_cons_zero, List.set_cons_succ, List.getElem?_cons_zero, List.getElem?_cons_succ, start3, List.map_cons, List.map_nil, List.length_cons, List.length_nil, List.replicate, List.cons_append, List.nil_append, Nat.reduceSub, Nat.reduceAdd]
    refine for_of ?_
    refine ⟨_, J.hL, ?_⟩
    refine forK_of lv.length (by rw [List.length_map]) (fun _ σ G' => ∃ z10 z11 z12 z13, σ = [some (.ref a), some (uO sp), some (.int r), some (.ref SA), some (.ref WA), some (.ref GA), some (.ref LA), some (.ref KA), some (.int ((k : Nat) : Int)), some (.ref FA), z10, z11, z12, z13] ∧ LInv G n (I (k + 1)) W go lv WA GA LA KA FA G') ⟨_, _, _, _, rfl, J⟩ (fun i σ' G' _ h => by obtain ⟨_, _, _, _, _, h⟩ := h; exact h.hL) ?_ ?_
    · rintro i x σ' G' hi hx ⟨z10, z11, z12, z13, rfl, J⟩
      have hh : lv[i] ∈ lv := List.getElem_mem _
      rw [List.getElem?_map, List.getElem?_eq_getElem hi] at hx
      generalize lv[i] = h at hh hx
      cases hx
      obtain ⟨hv, hI⟩ := hlv h hh
      try dsimp only [seq3, asg3, n3, v3, drop3, ret3, next3, List.set_cons_zero, List.set_cons_succ, List.getElem?_cons_zero, List.getElem?_cons_succ, start3, List.map_cons, List.map_nil, List.length_cons, List.length_nil, List.replicate, List.cons_append, List.nil_append, Nat.reduceSub, Nat.reduceAdd]
      refine for_of ?_
      refine ⟨_, J.hG, ?_⟩
      refine forK_of go.length (by rw [List.length_map]) (fun _ σ G' => ∃ z11 z12 z13, σ = [some (.ref a), some (uO sp), some (.int r), some (.ref SA), some (.ref WA), some (.ref GA), some (.ref LA), some (.ref KA), some (.int ((k : Nat) : Int)), some (.ref FA), some (uT h), z11, z12, z13] ∧ LInv G n (I (k + 1)) W go lv WA GA LA KA FA G') ⟨_, _, _, rfl, J⟩ (fun i σ' G' _ h => by obtain ⟨_, _, _, _, h⟩ := h; exact h.hG) ?_ ?_
      · rintro i x σ' G' hi hx ⟨z11, z12, z13, rfl, J⟩
        have hg : go[i] ∈ go := List.getElem_mem _
        rw [List.getElem?_map, List.getElem?_eq_getElem hi] at hx
        generalize go[i] = g at hg hx
        cases hx
        have hgn := hgo g hg
        have hgh : g < h.length := by rw [hv.1]; exact hgn
        try dsimp only [seq3, asg3, n3, v3, drop3, ret3, next3, List.set_cons_zero, List.set_cons_succ, List.getElem?_cons_zero, List.getElem?_cons_succ, start3, List.map_cons, List.map_nil, List.length_cons, List.length_nil, List.replicate, List.cons_append, List.nil_append, Nat.reduceSub, Nat.reduceAdd]
        refine for_of ?_
        refine it_tup rfl ?_
        refine forK_of h.length (by rw [List.length_map]) (fun _ σ G' => ∃ z12 z13, σ = [some (.ref a), some (uO sp), some (.int r), some (.ref SA), some (.ref WA), some (.ref GA), some (.ref LA), some (.ref KA), some (.int ((k : Nat) : Int)), some (.ref FA), some (uT h), some (uN g), z12, z13] ∧ LInv G n (I (k + 1)) W go lv WA GA LA KA FA G') ⟨_, _, rfl, J⟩ (fun _ _ _ _ _ => trivial) ?_ ?_
        · rintro i x σ' G' hi hx ⟨z12, z13, rfl, J⟩
          have ht : h[i] ∈ h := List.getElem_mem _
          rw [List.getElem?_map, List.getElem?_eq_getElem hi] at hx
          generalize h[i] = t at ht hx
          cases hx
          have hv2 := hv.set g ht
          have hI2 := nw.step k h g t hI hv hgn ht
          have hlt : (h.map uN).length ≤ 4 := by rw [List.length_map, hv.1]; exact hn4
          have hl4 : h.length ≤ 4 := by rw [hv.1]; exact hn4
          have l1 := (cutA (h := h) hgh)
          have l2 := (cutB (h := h) hgh)
          refine ⟨cutA_part hgh, rfl, decide_eq_true (by rw [l1, List.length_map, List.length_take]; show _ + 1 ≤ _; omega), cutB_part hgh, decide_eq_true (by rw [l1, l2, List.length_append, List.length_map, List.length_take, List.length_map, List.length_drop]; show _ + 1 + _ ≤ _; omega), ?_⟩
          rw [cutNew hgh]
          obtain ⟨s9, gF, hW9, hG9, hL9, nW, nG, nL, ks, fr, hK9, hnd, hks, hF9, hfr, hfl⟩ := J
          have hkl := known_le hn4 hnd hks
          try dsimp only [seq3, asg3, n3, v3, drop3, ret3, next3, List.set_cons_zero, List.set_cons_succ, List.getElem?_cons_zero, List.getElem?_cons_succ, start3, List.map_cons, List.map_nil, List.length_cons, List.length_nil, List.replicate, List.cons_append, List.nil_append, Nat.reduceSub, Nat.reduceAdd]
          refine ⟨_, .inl ⟨_, _, .inl hK9, tkey_uT _, rfl⟩, ?_⟩
          rw [look_dKn]
          by_cases hin : h.set g t ∈ ks
          · refine ifF (by rw [if_pos rfl, if_pos hin]; rfl) ?_
            exact Wk2.of ⟨_, _, rfl, s9, gF, hW9, hG9, hL9, nW, nG, nL, ks, fr, hK9, hnd, hks, hF9, hfr, hfl⟩
          · refine ifT (by rw [if_pos rfl, if_neg hin]; rfl) ?_
            refine ⟨_, _, hK9, tkey_uT _, decide_eq_true (by rw [dKn_len]; omega), ?_⟩
            rw [put_dKn hin]
            have nKF : KA ≠ FA := fun e => by rw [e, hF9] at hK9; cases hK9
            have nKW : WA ≠ KA := fun e => by rw [e, hK9] at hW9; cases hW9
            have nKG : GA ≠ KA := fun e => by rw [e, hK9] at hG9; cases hG9
            have nKL : LA ≠ KA := fun e => by rw [e, hK9] at hL9; cases hL9
            have hF10 : gup G' KA (.dT (dKn (ks ++ [h.set g t]))) FA = some (.lst (fr.map uT)) := by rw [gup_ne nKF.symm]; exact hF9
            refine ⟨⟨_, hF10⟩, _, hF10, decide_eq_true (by rw [List.length_map]; omega), ?_⟩
            refine Wk2.of ⟨_, _, rfl, ?_, gF, ?_, ?_, ?_, nW, nG, nL, ks ++ [h.set g t], fr ++ [h.set g t], ?_, ?_, ?_, ?_, ?_, ?_⟩
            · intro x o e
              rw [gup_ne (gne_none e gF), gup_ne (gne_none e gK)]
              exact s9 _ _ e
            · rw [gup_ne nW, gup_ne nKW]; exact hW9
            · rw [gup_ne nG, gup_ne nKG]; exact hG9
            · rw [gup_ne nL, gup_ne nKL]; exact hL9
            · rw [gup_ne nKF, gup_same]
            · rw [List.nodup_append]
              exact ⟨hnd, by simp, fun x hx y hy e => hin (by rw [← List.mem_singleton.mp hy, ← e]; exact hx)⟩
            · intro x hx
              rcases List.mem_append.mp hx with hx | hx
              · exact hks x hx
              · rw [List.mem_singleton.mp hx]; exact hv2
            · rw [gup_same, List.map_append]; rfl
            · intro x hx
              rcases List.mem_append.mp hx with hx | hx
              · exact hfr x hx
              · rw [List.mem_singleton.mp hx]; exact ⟨hv2, hI2⟩
            · rw [List.length_append, List.length_append]
              show _ + 1 ≤ _ + 1
              omega
        · rintro σ' G' ⟨z12, z13, rfl, J⟩
          exact Wk2.of ⟨_, _, _, rfl, J⟩
      · rintro σ' G' ⟨z11, z12, z13, rfl, J⟩
        exact Wk2.of ⟨_, _, _, _, rfl, J⟩
    · rintro σ' G' ⟨z10, z11, z12, z13, rfl, J⟩
      obtain ⟨s9, gF, hW9, hG9, hL9, nW, nG, nL, ks, fr, hK9, hnd, hks, hF9, hfr, hfl⟩ := J
      have hkl := known_le hn4 hnd hks
      exact Wk2.of ⟨FA, fr, ks, _, _, _, _, _, _, rfl, s9, hW9, hG9, hF9, hfr, by omega, hK9, hnd, hks⟩
  · rintro σ' G' ⟨LA, lv, ks, z8, z9, z10, z11, z12, z13, rfl, s6, hW6, hG6, hL6, hlv, hll, hK6, hnd, hks⟩
    exact Wk.sub hq s6
end
end K39
end
section
set_option linter.all false
/-! k40: no sequence of moves is shorter -/
namespace K39
def asF (S : List Loc) (h : List Nat) : Loc → Loc := fun z => if z ∈ S then at0 S (h.getD (S.idxOf z) 0) else z
theorem at0_idx {S : List Loc} {x : Loc} (h : x ∈ S) : at0 S (S.idxOf x) = x := by
  have hl : S.idxOf x < S.length := List.idxOf_lt_length_iff.mpr h
  unfold at0
  rw [List.getD_eq_getElem?_getD, List.getElem?_eq_getElem hl, List.getElem_idxOf hl]
  rfl
theorem idx_at0 {S : List Loc} (nd : S.Nodup) {i : Nat} (h : i < S.length) : S.idxOf (at0 S i) = i := by
  have h1 := at0_idx (at0_in h)
  have hl : S.idxOf (at0 S i) < S.length := List.idxOf_lt_length_iff.mpr (at0_in h)
  unfold at0 at h1 hl ⊢
  rw [List.getD_eq_getElem?_getD, List.getD_eq_getElem?_getD, List.getElem?_eq_getElem h] at h1
  rw [List.getD_eq_getElem?_getD, List.getElem?_eq_getElem h] at hl ⊢
  rw [List.getElem?_eq_getElem hl] at h1
  exact (List.getElem_inj nd).mp h1
theorem idx_inj {S : List Loc} {x y : Loc} (hx : x ∈ S) (hy : y ∈ S) (e : S.idxOf x = S.idxOf y) : x = y := by
  rw [← at0_idx hx, e, at0_idx hy]
theorem asF_id (S : List Loc) : asF S (List.range S.length) = id := by
  funext z
  unfold asF
  split
  · rename_i h
    have hl : S.idxOf z < S.length := List.idxOf_lt_length_iff.mpr h
    rw [List.getD_eq_getElem?_getD, List.getElem?_range hl]
    exact at0_idx h
  · rfl
theorem asF_set {S : List Loc} (nd : S.Nodup) {h : List Nat} (v : Val S.length h) {g t : Nat} (hg : g < S.length) : asF S (h.set g t) = put1 (asF S h) (at0 S g) (at0 S t) := by
  funext z
  unfold asF put1
  dsimp only
  by_cases hz : z ∈ S
  · rw [if_pos hz]
    by_cases e : z = at0 S g
    · rw [if_pos e, e, idx_at0 nd hg, List.getD_eq_getElem?_getD, List.getElem?_set_self (by rw [v.1]; exact hg)]
      rfl
    · rw [if_neg e, if_pos hz]
      have : g ≠ S.idxOf z := fun e2 => e (by rw [e2, at0_idx hz])
      rw [List.getD_eq_getElem?_getD, List.getElem?_set_ne this, ← List.getD_eq_getElem?_getD]
  · rw [if_neg hz, if_neg hz, if_neg]
    intro e
    exact hz (by rw [e]; exact at0_in hg)
theorem asF_has {S : List Loc} (nd : S.Nodup) {h : List Nat} (v : Val S.length h) {t : Nat} (ht : t ∈ h) : ∃ y ∈ S, asF S h y = at0 S t := by
  obtain ⟨i, hi, e⟩ := List.mem_iff_getElem.mp ht
  have hi' : i < S.length := by rw [← v.1]; exact hi
  refine ⟨at0 S i, at0_in hi', ?_⟩
  unfold asF
  rw [if_pos (at0_in hi'), idx_at0 nd hi', List.getD_eq_getElem?_getD, List.getElem?_eq_getElem hi, e]
  rfl
section
variable {M : List Mv} {sp : Option Loc} {S : List Loc}
theorem want_goal (hn : (goals M).Nodup) {m : Mv} (hm : m ∈ M) : wantI M sp S m.2 = idxI S m.1 := by
  unfold wantI
  cases e : (M.filter fun y => decide (y.2 = m.2)).map (·.1) with
  | nil =>
    have : m.1 ∈ (M.filter fun y => decide (y.2 = m.2)).map (·.1) := List.mem_map.mpr ⟨m, List.mem_filter.mpr ⟨hm, decide_eq_true rfl⟩, rfl⟩
    rw [e] at this
    cases this
  | cons x r =>
    have : x ∈ (M.filter fun y => decide (y.2 = m.2)).map (·.1) := by rw [e]; exact List.mem_cons_self
    obtain ⟨y, hy, rfl⟩ := List.mem_map.mp this
    obtain ⟨h1, h2⟩ := List.mem_filter.mp hy
    rw [goals_inj hn h1 hm (of_decide_eq_true h2)]
theorem want_else {s : Loc} (h : ∀ m ∈ M, m.2 ≠ s) (hs : sp ≠ some s) : wantI M sp S s = idxI S s := by
  unfold wantI
  rw [show (M.filter fun y => decide (y.2 = s)) = [] from List.filter_eq_nil_iff.mpr fun m hm e => h m hm (of_decide_eq_true e)]
  exact if_neg hs
theorem want_at {x : Loc} (hx : x ∈ S) : (S.map (wantI M sp S))[S.idxOf x]? = some (wantI M sp S x) := by
  have hl : S.idxOf x < S.length := List.idxOf_lt_length_iff.mpr hx
  rw [List.getElem?_map, List.getElem?_eq_getElem hl, List.getElem_idxOf hl]
  rfl
theorem met_all (hn : (goals M).Nodup) (h1 : ∀ m ∈ M, m.1 ∈ S ∧ m.2 ∈ S) {h : List Nat} (v : Val S.length h) (hm : metB (S.map (wantI M sp S)) h = true) : ∀ m ∈ M, asF S h m.2 = m.1 := by
  intro m hmm
  obtain ⟨a, b⟩ := h1 m hmm
  have hl : S.idxOf m.2 < S.length := List.idxOf_lt_length_iff.mpr b
  have hx : h[S.idxOf m.2]? = some (h[S.idxOf m.2]'(by rw [v.1]; exact hl)) := List.getElem?_eq_getElem _
  have hw := want_at (M := M) (sp := sp) b
  rw [want_goal hn hmm] at hw
  unfold asF
  rw [if_pos b, List.getD_eq_getElem?_getD, hx]
  generalize (h[S.idxOf m.2]'(by rw [v.1]; exact hl)) = x at hx
  by_cases e : (x : Int) = idxI S m.1
  · have : x = S.idxOf m.1 := by unfold idxI at e; omega
    rw [this]
    exact at0_idx a
  · have := metB_no _ h _ _ _ hw hx (by unfold idxI; omega) e
    rw [hm] at this
    cases this
end
theorem nodup_rs {rs : List (List Loc)} (hf : rs.flatten.Nodup) (hne : ∀ r ∈ rs, r ≠ []) : rs.Nodup := by
  have pw := (List.pairwise_flatten.mp hf).2
  refine List.Pairwise.imp_of_mem ?_ pw
  intro a b ha hb h e
  cases a with
  | nil => exact hne _ ha rfl
  | cons x l => exact h x List.mem_cons_self x (by rw [← e]; exact List.mem_cons_self) rfl
/-- the lower bound -/
theorem noway0 {M : List Mv} {sp : Option Loc} {S : List Loc} (hn : (goals M).Nodup) (nd : S.Nodup) (h1 : ∀ m ∈ M, m.1 ∈ S ∧ m.2 ∈ S) (r : Int) (hr : r = (pend M).length + (prAll (pend M)).1.length - 1) :
    NoWay S.length (S.map (wantI M sp S)) r fun k h => Dead S (pend M) (asF S h) ∨ (pend M).length + (prAll (pend M)).1.length ≤ k + phi S (pend M) (prAll (pend M)).1 (asF S h) := by
  have hpm : ∀ m ∈ pend M, m ∈ M := fun m hm => (List.mem_filter.mp hm).1
  have hp : ∀ m ∈ pend M, m.1 ≠ m.2 := fun m hm => of_decide_eq_true (List.mem_filter.mp hm).2
  have hnp : (goals (pend M)).Nodup := List.Nodup.sublist (List.Sublist.map _ List.filter_sublist) hn
  have hrg : ∀ r ∈ (prAll (pend M)).1, Ring (pend M) r := fun r hr => prAll_Ring hnp hp hr
  have hfl : (prAll (pend M)).1.flatten.Nodup := by rw [← prAll_flat]; exact prAll_nd hnp hp
  have hne : ∀ r ∈ (prAll (pend M)).1, r ≠ [] := fun r hr => (prAll_ring hr).1
  have hrn := nodup_rs hfl hne
  refine ⟨.inr ?_, fun k h g t hI v hg ht => ?_, fun k h hI v hk => ?_⟩
  · rw [asF_id, phi_id hp]
    omega
  · rw [asF_set nd v hg]
    have has := asF_has nd v ht
    rcases hI with hd | hl
    · exact .inl (dead_put hd has)
    · rcases phi_step hnp hrg hfl hrn (g := at0 S g) has with h2 | h2
      · exact .inl h2
      · exact .inr (by omega)
  · cases e : metB (S.map (wantI M sp S)) h with
    | false => rfl
    | true =>
      have hm := met_all hn h1 v e
      have hm' : ∀ m ∈ pend M, asF S h m.2 = m.1 := fun m hm2 => hm m (hpm m hm2)
      rcases hI with hd | hl
      · exact absurd hd (not_dead (fun m hm2 => (h1 m (hpm m hm2)).2) hm')
      · rw [phi_met hp (fun r hr => ⟨hrg r hr, hne r hr⟩) hm'] at hl
        omega
/-- where no place is free -/
theorem noway1 {M : List Mv} {S : List Loc} (hn : (goals M).Nodup) (nd : S.Nodup) (h1 : ∀ m ∈ M, m.1 ∈ S ∧ m.2 ∈ S) (h0 : 0 < (pend M).length) (hf : frees (pend M) = []) (r : Int) :
    NoWay S.length (S.map (wantI M none S)) r fun _ h => h = List.range S.length ∨ ∃ x, x < S.length ∧ x ∉ h := by
  have hpm : ∀ m ∈ pend M, m ∈ M := fun m hm => (List.mem_filter.mp hm).1
  have hp : ∀ m ∈ pend M, m.1 ≠ m.2 := fun m hm => of_decide_eq_true (List.mem_filter.mp hm).2
  have hA : ∀ x, x < S.length → ∃ y : Nat, y < S.length ∧ (S.map (wantI M none S))[y]? = some (x : Int) := by
    intro x hx
    have hxS := at0_in hx
    have ex : idxI S (at0 S x) = (x : Int) := by unfold idxI; rw [idx_at0 nd hx]
    by_cases hg : ∃ m ∈ M, m.2 = at0 S x
    · obtain ⟨m, hm, e⟩ := hg
      by_cases hpp : m.1 = m.2
      · refine ⟨S.idxOf m.2, List.idxOf_lt_length_iff.mpr (h1 m hm).2, ?_⟩
        rw [want_at (h1 m hm).2, want_goal hn hm, hpp, e, ex]
      · have hmp : m ∈ pend M := List.mem_filter.mpr ⟨hm, decide_eq_true hpp⟩
        have hin : m.2 ∈ srcs (pend M) := by
          refine Classical.byContradiction fun hno => ?_
          have : m.2 ∈ frees (pend M) := List.mem_map.mpr ⟨m, List.mem_filter.mpr ⟨hmp, decide_eq_true hno⟩, rfl⟩
          rw [hf] at this
          cases this
        obtain ⟨m', hm', e'⟩ := List.mem_map.mp hin
        have hM' := hpm m' hm'
        refine ⟨S.idxOf m'.2, List.idxOf_lt_length_iff.mpr (h1 m' hM').2, ?_⟩
        rw [want_at (h1 m' hM').2, want_goal hn hM', e', e, ex]
    · refine ⟨S.idxOf (at0 S x), List.idxOf_lt_length_iff.mpr hxS, ?_⟩
      rw [want_at hxS, want_else (fun m hm e => hg ⟨m, hm, e⟩) (by intro e; cases e), ex]
  refine ⟨.inl rfl, fun k h g t hI v hg ht => ?_, fun k h hI v hk => ?_⟩
  · rcases hI with rfl | ⟨x, hx, hno⟩
    · by_cases e : t = g
      · subst e
        left
        refine List.ext_getElem? fun i => ?_
        by_cases hi : t = i
        · subst hi
          rw [List.getElem?_set_self (by rw [List.length_range]; exact hg), List.getElem?_range hg]
        · rw [List.getElem?_set_ne hi]
      · refine .inr ⟨g, hg, fun hin => ?_⟩
        obtain ⟨i, hi, e2⟩ := List.mem_iff_getElem.mp hin
        rw [List.getElem_set] at e2
        split at e2
        · exact e e2
        · rename_i hne
          rw [List.getElem_range] at e2
          exact hne e2.symm
    · refine .inr ⟨x, hx, fun hin => ?_⟩
      rcases List.mem_or_eq_of_mem_set hin with h2 | rfl
      · exact hno h2
      · exact hno ht
  · rcases hI with rfl | ⟨x, hx, hno⟩
    · obtain ⟨m, hm⟩ := List.exists_mem_of_length_pos h0
      have hM := hpm m hm
      have hl : S.idxOf m.2 < S.length := List.idxOf_lt_length_iff.mpr (h1 m hM).2
      have hw := want_at (M := M) (sp := none) (h1 m hM).2
      rw [want_goal hn hM] at hw
      refine metB_no _ _ _ _ _ hw (List.getElem?_range hl) (by unfold idxI; omega) fun e => ?_
      have e : S.idxOf m.2 = S.idxOf m.1 := by unfold idxI at e; omega
      exact hp m hm (idx_inj (h1 m hM).1 (h1 m hM).2 e.symm)
    · obtain ⟨y, hy, hw⟩ := hA x hx
      have hyl : y < h.length := by rw [v.1]; exact hy
      refine metB_no _ _ _ _ _ hw (List.getElem?_eq_getElem hyl) (by omega) fun e => ?_
      have e : h[y] = x := by omega
      exact hno (by rw [← e]; exact List.getElem_mem _)
end K39
end
section
set_option Elab.async false
set_option linter.all false
set_option maxRecDepth 100000
set_option maxHeartbeats 2000000
namespace L2N
open PySem L2
theorem passN {P : Program} {w : World} {X : L2.Cx} : L2.Passes (L2N.CX P w) X E0 := fun _ _ _ _ _ _ _ h => by
  obtain ⟨_, _, _, _, _, _, _, _, _, _, _, _, hE⟩ := h
  exact hE.elim
end L2N
namespace K39
open PySem L2 L3 L2N
theorem spots_mem {M : List Mv} {sp : Option Loc} {m : Mv} (hm : m ∈ M) : m.1 ∈ spotsOf M sp ∧ m.2 ∈ spotsOf M sp := by
  have h1 : m.1 ∈ sptTo M M.length := mem_spt.mpr ⟨m, hm, .inl rfl⟩
  have h2 : m.2 ∈ sptTo M M.length := mem_spt.mpr ⟨m, hm, .inr rfl⟩
  cases sp with
  | none => exact ⟨h1, h2⟩
  | some x => exact ⟨List.mem_append_left _ h1, List.mem_append_left _ h2⟩
theorem spots_nodup {M : List Mv} {sp : Option Loc} (h : ∀ x, sp = some x → ∀ m ∈ M, m.1 ≠ x ∧ m.2 ≠ x) : (spotsOf M sp).Nodup := by
  have h1 := sptTo_nd M M.length (Nat.le_refl _)
  cases sp with
  | none => exact h1
  | some x =>
    show (sptTo M M.length ++ [x]).Nodup
    rw [List.nodup_append]
    refine ⟨h1, by simp, fun a ha b hb e => ?_⟩
    rw [List.mem_singleton.mp hb] at e
    obtain ⟨m, hm, e2⟩ := mem_spt.mp ha
    obtain ⟨n1, n2⟩ := h x rfl m hm
    rcases e2 with e2 | e2
    · exact n1 (e2.trans e)
    · exact n2 (e2.trans e)
section
variable {P : Program} {w : World} {K : PySem.W.Frag} {mg : Str → Option Value} {base : Heap}
abbrev s_law_counted : Stmt := topS 28
abbrev law_counted_N : List Str := ["moves", "spare", "deep", "pending", "rings", "read", "free", "stuck", "handed", "told", "ring", "e", "rounds", "swapped", "move"]
theorem sc_law_counted : FnScope law_counted_N ["moves", "spare", "deep"] (defScope s_law_counted) := ⟨rfl, rfl, rfl, by decide +kernel, rfl, by decide +kernel, by decide +kernel⟩
def spCo : Sp3 := fun ws G Q _ => ∃ (a : Addr) (M : List Mv) (sp : Option Loc) (deep : Bool), ws = [.ref a, uO sp, .bl deep] ∧ G a = some (.lst (M.map uM)) ∧ M.length ≤ 10 ∧ Good M 0 sp ∧ (∀ x, sp = some x → ∀ m ∈ M, m.1 ≠ x ∧ m.2 ≠ x) ∧ Q (.bl true) G
theorem ok_counted {C CL CB : Addr} (X : ExT K mg C CL CB) {f f1 f2 f3 f4 f5 f6 : Addr} {fd fd1 fd2 fd3 fd4 fd5 fd6 : FuncData} (F : Fun K "_law_counted" "_law_counted" s_law_counted f fd) (T : Tg2 mg) (O_law_rings : Own P w K mg base 2 "_law_rings" ["pending"] spRgs f1 fd1)
    (GI : FnOk P w K mg base (L2N.CX P w) 3 f2 fd2 ["moves", "exchange", "spare"] (lowSp K (spIS C))) (gI : mg "in_step" = some (.ref f2)) (kI : PySem.W.keepIn K (.ref f2) = true) (bI : Binds K fd2 ["moves", "exchange", "spare"] [])
    (O_law_alike : Own P w K mg base 5 "_law_alike" ["told", "due"] (spAlike 4) f3 fd3) (O_law_all_moves : Own P w K mg base 1 "_law_all_moves" ["told", "many"] spAM f4 fd4) (O_law_spots_of : Own P w K mg base 1 "_law_spots_of" ["moves", "spare"] spSO f5 fd5) (O_law_least : Own P w K mg base 2 "_law_least" ["moves", "spare", "rounds"] spLeast f6 fd6) :
    FnOk P w K mg base CX0 6 f fd ["moves", "spare", "deep"] (lowSp K spCo) := by
  refine Fun_ok3 F sc_law_counted (fun ws G Q E h => by obtain ⟨_, _, _, _, rfl, _⟩ := h; rfl) (fun cdv A outer s H E ws G Q E3 hr h => ?_)
  have hr_law_rings : Room 2 _ := hr.mono (by decide)
  have hr_in_step : Room 3 _ := hr.mono (by decide)
  have hr_law_alike : Room 5 _ := hr
  have hr_law_all_moves : Room 1 _ := hr.mono (by decide)
  have hr_law_spots_of : Room 1 _ := hr.mono (by decide)
  have hr_law_least : Room 2 _ := hr.mono (by decide)
  have hu64 := hr.units
  have hu65 : (A.deeper (PyProof.Rows.envOfC "_law_counted" (defScope s_law_counted) s.heap.objs.size f cdv)).units + 65 < cLine := by have := hr.un; omega
  obtain ⟨a, M, sp, deep, rfl, ha, hlen, g, hsp, hq⟩ := h
  refine ⟨_, (ss_cons (s_setLc (i := 3) (own := [("move", 14)]) rfl sc_law_counted.nd rfl (sw_true rfl rfl rfl (by decide +kernel)) (i_list (e3v 0)) (blkOk_by (N := law_counted_N) (sc := defScope s_law_counted) (by decide +kernel)) (gl_own (by decide)) (fun _ _ _ _ _ => (pg_name (i := 14) sc_law_counted.nd rfl (by first | exact Or.inl rfl | exact Or.inr rfl))) (fun _ _ _ _ _ => (ts3one (t3cmp (o_ne hu64) (e3ix (e3v 14) e3int) (e3ix (e3v 14) e3int)))) (fun _ _ _ _ _ => (e3v 14)))
      (ss_cons (s_set (i := 4) sc_law_counted.nd (e3call O_law_rings.G hr_law_rings O_law_rings.g O_law_rings.kp O_law_rings.b pass0 (a3cons (e3v 3) a3nil)))
      (ss_cons (s_set (i := 5) sc_law_counted.nd (e3lc (own := [("move", 14)]) rfl sc_law_counted.nd (i_list (e3v 3)) (blkOk_by (N := law_counted_N) (sc := defScope s_law_counted) (by decide +kernel)) (gl_own (by decide)) (fun _ _ _ _ _ => (pg_name (i := 14) sc_law_counted.nd rfl (by first | exact Or.inl rfl | exact Or.inr rfl))) (fun _ _ _ _ _ => ts3nil) (fun _ _ _ _ _ => (e3ix (e3v 14) e3int))))
      (ss_cons (s_setLc (i := 6) (own := [("move", 14)]) rfl sc_law_counted.nd rfl (sw_true rfl rfl rfl (by decide +kernel)) (i_list (e3v 3)) (blkOk_by (N := law_counted_N) (sc := defScope s_law_counted) (by decide +kernel)) (gl_own (by decide)) (fun _ _ _ _ _ => (pg_name (i := 14) sc_law_counted.nd rfl (by first | exact Or.inl rfl | exact Or.inr rfl))) (fun _ _ _ _ _ => (ts3one (t3cmp (o_notin hu65) (e3ix (e3v 14) e3int) (e3v 5) rfl))) (fun _ _ _ _ _ => (e3ix (e3v 14) e3int)))
      (ss_cut (s_set (i := 7) sc_law_counted.nd (e3and (e3cmp o_isN (e3v 1) e3non) (e3and (e3cmp o_gt (e3B k_len T.len (a3cons (e3v 3) a3nil)) e3int) (e3one (e3cmp (o_eq hu64) (e3B k_len T.len (a3cons (e3v 6) a3nil)) e3int)))))
      (ss_cons (s_set (i := 8) sc_law_counted.nd (e3T k_list T.list (a3cons (e3v 0) a3nil)))
      (ss_cons (s_set (i := 9) sc_law_counted.nd e3non)
      (ss_cons (s_set (i := 10) sc_law_counted.nd e3non)
      (ss_cut (s_try (i := 11) (c := .ref CL) rfl rfl sc_law_counted.nd ⟨rfl, by decide, Or.inl X.gL⟩
      (fun W pn xe tk _ => ss_one (s_setX (i := 9) sc_law_counted.nd GI hr_in_step gI kI bI tk (a3cons (e3v 8) (a3cons e3int (a3cons (e3v 1) a3nil)))))
      (fun a' oe cls d pn hz hf =>
        (ss_cons (s_if (PW.pt (w3or (t3not (t3val (e3B (k_isX hz.zc hf) T.isinstance (a3cons (e3v 11) (a3cons (e3glob rfl X.gC) a3nil))))) (w3or1 (t3val (e3B (k_isX hz.zc hf) T.isinstance (a3cons (e3v 11) (a3cons (e3glob rfl X.gB) a3nil)))))))
            (ss_one (s_ret e3bl)) ss_nil)
          (ss_one (s_set (i := 10) sc_law_counted.nd (e3xf X.xf X.noR hz.zc hf (e3v 11)))))))
      (ss_cons (s_if (t3cmp (o_neL hu64) (e3v 8) (e3v 0))
      (ss_one (s_ret e3bl))
      ss_nil)
      (ss_cons (s_set (i := 12) sc_law_counted.nd (e3op o_sub (e3op o_add (e3B k_len T.len (a3cons (e3v 3) a3nil)) (e3B k_len T.len (a3cons (e3v 4) a3nil))) e3int))
      (ss_cut (s_if (t3val (e3v 7))
      (ss_cons (s_if (PW.pt (w3or (t3cmp o_notN (e3v 9) e3non) (w3or1 (t3not (t3val (e3call O_law_alike.G hr_law_alike O_law_alike.g O_law_alike.kp O_law_alike.b pass0 (a3cons (e3v 10) (a3cons (e3T k_tuple T.tuple (a3cons (e3ix (e3v 4) e3int) a3nil)) a3nil))))))))
        (ss_one (s_ret e3bl))
        ss_nil)
        (ss_one (s_set (i := 12) sc_law_counted.nd e3int)))
      (ss_one (s_if (PW.pt (w3or (t3cmp o_notN (e3v 10) e3non) (w3or1 (t3not (t3val (e3call O_law_all_moves.G hr_law_all_moves O_law_all_moves.g O_law_all_moves.kp O_law_all_moves.b pass0 (a3cons (e3v 9) (a3cons (e3op o_add (e3v 12) e3int) a3nil))))))))
        (ss_one (s_ret e3bl))
        ss_nil)))
      (ss_cut (s_if (PW.pt (w3and (t3val (e3v 2)) (w3and1 (t3cmp o_le (e3B k_len T.len (a3cons (e3call O_law_spots_of.G hr_law_spots_of O_law_spots_of.g O_law_spots_of.kp O_law_spots_of.b pass0 (a3cons (e3v 0) (a3cons (e3v 1) a3nil))) a3nil)) e3int))))
      (ss_one (s_if (t3cmp (o_ne hu64) (e3call O_law_least.G hr_law_least O_law_least.g O_law_least.kp O_law_least.b pass0 (a3cons (e3v 0) (a3cons (e3v 1) (a3cons (e3v 12) a3nil)))) (e3neg e3int))
        (ss_one (s_ret e3bl))
        ss_nil))
      ss_nil)
      (ss_cons (s_set (i := 13) sc_law_counted.nd (e3call GI hr_in_step gI kI bI passN (a3cons (e3v 8) (a3cons e3int (a3cons (e3v 1) a3nil)))))
      (ss_one (s_ret (e3and (e3B k_isi T.isinstance (a3cons (e3v 13) (a3cons (e3ty (n := "tuple") rfl T.tuple (by decide +kernel)) a3nil))) (e3one (e3cmp (o_eq hu64) (e3B k_len T.len (a3cons (e3v 13) a3nil)) (e3op o_sub (e3B k_len T.len (a3cons (e3v 3) a3nil)) (e3B k_len T.len (a3cons (e3v 4) a3nil)))))))))))))))))))))), ?_⟩
  try dsimp only [seq3, asg3, n3, v3, drop3, ret3, next3, List.set_cons_zero, List.set_cons_succ, List.getElem?_cons_zero, List.getElem?_cons_succ, start3, List.map_cons, List.map_nil, List.length_cons, List.length_nil, List.replicate, List.cons_append, List.nil_append, Nat.reduceSub, Nat.reduceAdd]
  refine lc_of ?_
  refine ⟨_, ha, ?_⟩
  refine lcK_of M uM (fun m => decide (m.1 ≠ m.2)) (fun m => m) uM (fun G' s => s _ _ ha) (by omega) (fun y hy G' hs Y N hy hn => ?_) fun PL hPL => ?_
  · refine ⟨uL y.1, rfl, uL y.2, rfl, dat_uL _, dat_uL _, ?_⟩
    by_cases h : y.1 = y.2
    · exact ifF (by rw [if_pos rfl, eq3_uL, decide_eq_true h]; rfl) (hn (by simp [h]) _ (Sub.refl _))
    · exact ifT (by rw [if_pos rfl, eq3_uL, decide_eq_false h]; rfl) (hy (by simp [h]) _ (Sub.refl _))
  rw [List.map_id']
  rw [show (M.filter fun m => decide (m.1 ≠ m.2)) = pend M from rfl]
  have hpl : (pend M).length ≤ 10 := Nat.le_trans (List.length_filter_le _ _) hlen
  have hpp : ∀ m ∈ pend M, m.1 ≠ m.2 := fun m hm => of_decide_eq_true (List.mem_filter.mp hm).2
  have hnp : (goals (pend M)).Nodup := goals_pend g.nd
  have s1 : L3.Sub G (gup G PL (.lst ((pend M).map uM))) := Sub.new (Sub.refl G) hPL
  have hP : gup G PL (.lst ((pend M).map uM)) PL = some (.lst ((pend M).map uM)) := gup_same
  have hrsl := (prAll_len (pend M)).1
  have hd0 := due_len0 hnp hpp g.ok sp
  have hd1 := due_len1 hnp hpp g.ok sp
  have nw0 := fun (hs : (spotsOf M sp).Nodup) => noway0 (sp := sp) g.nd hs (fun m hm => spots_mem (sp := sp) hm) _ rfl
  have nw1 := fun (hs : (spotsOf M none).Nodup) (h0 : 0 < (pend M).length) (hf : frees (pend M) = []) => noway1 g.nd hs (fun m hm => spots_mem (sp := none) hm) h0 hf 260
  have hgr := g.ring
  have hgo := g.ok
  generalize hPM : pend M = W at *
  generalize gup G PL (.lst (W.map uM)) = G1 at s1 hP ⊢
  refine ⟨PL, W, rfl, hP, by omega, fun as RL G2 s2 hRL hR2 R => ?_⟩
  have s12 := s1.trans s2
  have nPR := gne_none hP hRL
  have hP2 := s2 _ _ hP
  have hA2 := s12 _ _ ha
  try dsimp only [seq3, asg3, n3, v3, drop3, ret3, next3, List.set_cons_zero, List.set_cons_succ, List.getElem?_cons_zero, List.getElem?_cons_succ, start3, List.map_cons, List.map_nil, List.length_cons, List.length_nil, List.replicate, List.cons_append, List.nil_append, Nat.reduceSub, Nat.reduceAdd]
  refine lc_of ?_
  refine ⟨_, hP2, ?_⟩
  refine lcK_of W uM (fun _ => true) (·.1) uL (fun G' s => s _ _ hP2) (by omega) (fun y hy G' hs Y N hy hn => ⟨uL y.1, rfl, hy rfl _ (Sub.refl _)⟩) fun RD hRD => ?_
  rw [filt_all]
  have t3 : L3.Sub G2 (gup G2 RD (.lst ((W.map (·.1)).map uL))) := Sub.new (Sub.refl _) hRD
  have hR3 : gup G2 RD (.lst ((W.map (·.1)).map uL)) RD = some (.lst ((srcs W).map uL)) := gup_same
  generalize gup G2 RD (.lst ((W.map (·.1)).map uL)) = G3 at t3 hR3 ⊢
  refine lc_of ?_
  refine ⟨_, t3 _ _ hP2, ?_⟩
  refine lcK_of W uM (fun m => decide (m.2 ∉ srcs W)) (·.2) uL (fun G' s => s _ _ (t3 _ _ hP2)) (by omega) (fun y hy G' hs Y N hy hn => ?_) fun FL hFL => ?_
  · refine ⟨uL y.2, rfl, _, hs _ _ hR3, dat_uL _, dat_Ls _, ?_⟩
    by_cases h : y.2 ∈ srcs W
    · exact ifF (by rw [if_pos rfl, any_uL, decide_eq_true h]; rfl) (hn (by simp [h]) _ (Sub.refl _))
    · exact ifT (by rw [if_pos rfl, any_uL, decide_eq_false h]; rfl) ⟨uL y.2, rfl, hy (by simp [h]) _ (Sub.refl _)⟩
  rw [show (W.filter fun m => decide (m.2 ∉ srcs W)).map (·.2) = frees W from rfl]
  have t4 : L3.Sub G2 (gup G3 FL (.lst ((frees W).map uL))) := Sub.new t3 (t3.free hFL)
  have hF4 : gup G3 FL (.lst ((frees W).map uL)) FL = some (.lst ((frees W).map uL)) := gup_same
  generalize gup G3 FL (.lst ((frees W).map uL)) = G4 at t4 hF4 ⊢
  refine ⟨fun σ' G' => G' = G4 ∧ σ' = [some (.ref a), some (uO sp), some (.bl deep), some (.ref PL), some (.ref RL), some (.ref RD), some (.ref FL), some (.bl (needs W 0 sp)), none, none, none, none, none, none, none], ?_, ?_⟩
  · clear nw0 nw1 hd0 hd1 hgr
    cases sp with
    | some x => exact Wk2.of ⟨rfl, rfl⟩
    | none =>
      refine .inl ⟨_, t4 _ _ hP2, ?_⟩
      by_cases h1 : (0 : Int) < (W.length : Nat)
      · refine ifT (decide_eq_true (by rw [List.length_map]; exact h1)) ?_
        refine .inl ⟨_, hF4, dat_int _, dat_int _, ?_⟩
        refine Wk2.of ⟨rfl, ?_⟩
        have e : needs W 0 none = eq3 (.int (((frees W).map uL).length : Nat)) (.int 0) := by
          unfold needs
          rw [decide_eq_true h1, List.length_map]
          rfl
        rw [e]
        rfl
      · refine ifF (decide_eq_false (by rw [List.length_map]; exact h1)) ?_
        refine Wk2.of ⟨rfl, ?_⟩
        have e : needs W 0 none = false := by
          unfold needs
          rw [decide_eq_false h1]
          rfl
        rw [e]
        rfl
  rintro σ' G' ⟨rfl, rfl⟩
  try dsimp only [seq3, asg3, n3, v3, drop3, ret3, next3, List.set_cons_zero, List.set_cons_succ, List.getElem?_cons_zero, List.getElem?_cons_succ, start3, List.map_cons, List.map_nil, List.length_cons, List.length_nil, List.replicate, List.cons_append, List.nil_append, Nat.reduceSub, Nat.reduceAdd]
  refine ⟨_, t4 _ _ hA2, fun HL hHL => ?_⟩
  have t5 : L3.Sub G2 (gup G' HL (.lst (M.map uM))) := Sub.new t4 (t4.free hHL)
  have hH5 : gup G' HL (.lst (M.map uM)) HL = some (.lst (M.map uM)) := gup_same
  generalize gup G' HL (.lst (M.map uM)) = G5 at t5 hH5 ⊢
  try dsimp only [seq3, asg3, n3, v3, drop3, ret3, next3, List.set_cons_zero, List.set_cons_succ, List.getElem?_cons_zero, List.getElem?_cons_succ, start3, List.map_cons, List.map_nil, List.length_cons, List.length_nil, List.replicate, List.cons_append, List.nil_append, Nat.reduceSub, Nat.reduceAdd]
  refine ⟨fun σ' G' => ∃ z9 z10, σ' = [some (.ref a), some (uO sp), some (.bl deep), some (.ref PL), some (.ref RL), some (.ref RD), some (.ref FL), some (.bl (needs W 0 sp)), some (.ref HL), some z9, some z10, none, none, none, none] ∧ L3.Sub G5 G' ∧ ((needs W 0 sp = true ∧ z9 = .non ∧ z10 = uG (ringOf W (at0 (srcs W) 0))) ∨ (needs W 0 sp = false ∧ z9 = .tup ((dueRows W 0 sp).map uR) ∧ z10 = .non)), ?_, ?_⟩
  · refine ⟨.ref HL, M, 0, sp, rfl, .inr ⟨HL, rfl, hH5⟩, g.len, g.nd, g.out, .inl rfl, by rw [hPM]; exact hgo, fun hb => ?_, fun hb => ?_⟩
    · rw [hPM] at hb ⊢
      obtain ⟨rest, er⟩ := hgr hb
      refine ⟨_, rest, er, fun d hd => ⟨X.exm, fun a' na => ?_⟩⟩
      refine ⟨C, d, _, .ref C, .ref C, true, rfl, rfl, X.exc, rfl, .inl ⟨C, rfl, rfl⟩, X.k1, gup_same, ?_⟩
      refine ⟨C, d, _, .ref CB, .ref CB, false, rfl, rfl, X.exc, rfl, .inl ⟨CB, rfl, rfl⟩, X.k2, gup_same, ?_⟩
      refine ⟨rfl, rfl, d, _, rfl, gup_same, ?_⟩
      exact Wk2.of ⟨_, _, rfl, Sub.new (Sub.refl _) hd, .inl ⟨hb, rfl, rfl⟩⟩
    · rw [hPM] at hb ⊢
      exact Wk2.of ⟨_, _, rfl, Sub.refl _, .inr ⟨hb, rfl, rfl⟩⟩
  rintro σ' G6 ⟨z9, z10, rfl, t6, hz⟩
  have t6' := t5.trans t6
  refine ⟨_, _, t6 _ _ hH5, t6' _ _ hA2, dat_Ms _, dat_Ms _, ifF (by rw [if_pos rfl, eq3_Ms, decide_eq_true rfl]; rfl) ?_⟩
  have hR6 := t6' _ _ hR2
  refine .inl ⟨_, t6' _ _ hP2, .inl ⟨_, hR6, ?_⟩⟩
  have er : (((W.map uM).length : Nat) : Int) + (((as.map U.ref).length : Nat) : Int) - 1 = (W.length : Int) + (prAll W).1.length - 1 := by rw [List.length_map, List.length_map, R.len]
  try dsimp only [seq3, asg3, n3, v3, drop3, ret3, next3, List.set_cons_zero, List.set_cons_succ, List.getElem?_cons_zero, List.getElem?_cons_succ, start3, List.map_cons, List.map_nil, List.length_cons, List.length_nil, List.replicate, List.cons_append, List.nil_append, Nat.reduceSub, Nat.reduceAdd]
  refine ⟨fun σ' G' => ∃ y9 y10 r, σ' = [some (.ref a), some (uO sp), some (.bl deep), some (.ref PL), some (.ref RL), some (.ref RD), some (.ref FL), some (.bl (needs W 0 sp)), some (.ref HL), some y9, some y10, none, some (.int r), none, none] ∧ L3.Sub G5 G' ∧ (needs W 0 sp = true → r = 260) ∧ (needs W 0 sp = false → r = (W.length : Int) + (prAll W).1.length - 1), ?_, ?_⟩
  · rcases hz with ⟨hb, rfl, rfl⟩ | ⟨hb, rfl, rfl⟩
    · obtain ⟨rest, er2⟩ := hgr hb
      have hrl := ringOf_len W (at0 (srcs W) 0)
      have hl0 : 0 < as.length := by rw [R.len, er2]; exact Nat.succ_pos _
      have ha0 : as[0]? = some as[0] := List.getElem?_eq_getElem hl0
      have hr0 := R.at' 0 as[0] _ ha0 (by rw [er2]; rfl)
      refine ifS_of (needs W 0 sp) (fun Q2 hQ => hQ) (fun _ => ?_) (fun h => by rw [hb] at h; cases h)
      refine ⟨_, .ref as[0], hR6, atI_eq (i := 0) rfl (by rw [List.getElem?_map, ha0]; rfl), _, t6' _ _ hr0, ?_⟩
      refine ⟨uG (ringOf W (at0 (srcs W) 0)), rfl, plain_G 1 _ (by omega), ?_⟩
      exact Wk2.of ⟨_, _, _, rfl, t6, fun _ => rfl, fun h => by rw [hb] at h; cases h⟩
    · refine ifS_of (needs W 0 sp) (fun Q2 hQ => hQ) (fun h => by rw [hb] at h; cases h) (fun _ => ?_)
      refine ⟨dueRows W 0 sp, ?_, by omega, hd0.2, ?_⟩
      · have e : (W.length : Int) + (prAll W).1.length - 1 + 1 = ((dueRows W 0 sp).length : Nat) := by omega
        show [U.tup ((dueRows W 0 sp).map uR), U.int ((((W.map uM).length : Nat) : Int) + (((as.map U.ref).length : Nat) : Int) - 1 + 1)] = _
        rw [er, e]
      · exact Wk2.of ⟨_, _, _, rfl, t6, (fun h => by rw [hb] at h; cases h), fun _ => er⟩
  rintro σ' G7 ⟨y9, y10, r, rfl, t7, hr1, hr2⟩
  have t7' := t5.trans t7
  refine ⟨fun σ' G' => ∃ y9 y10 r, σ' = [some (.ref a), some (uO sp), some (.bl deep), some (.ref PL), some (.ref RL), some (.ref RD), some (.ref FL), some (.bl (needs W 0 sp)), some (.ref HL), some y9, some y10, none, some (.int r), none, none] ∧ L3.Sub G5 G', ?_, ?_⟩
  · cases deep with
    | false => exact Wk2.of ⟨_, _, _, rfl, t7⟩
    | true =>
      refine ⟨a, M, sp, rfl, t7' _ _ hA2, by omega, fun SL hSL => ?_⟩
      refine .inl ⟨_, gup_same, ?_⟩
      have t8 : L3.Sub G5 (gup G7 SL (.lst ((spotsOf M sp).map uL))) := Sub.new t7 (t7.free hSL)
      have hA8 : gup G7 SL (.lst ((spotsOf M sp).map uL)) a = some (.lst (M.map uM)) := by rw [gup_ne (gne_none (t7' _ _ hA2) hSL)]; exact t7' _ _ hA2
      generalize gup G7 SL (.lst ((spotsOf M sp).map uL)) = G8 at t8 hA8 ⊢
      by_cases h4 : (spotsOf M sp).length ≤ 4
      · refine ifT (decide_eq_true (by rw [List.length_map]; omega)) ?_
        have hnd := spots_nodup hsp
        have way : ∃ I, NoWay (spotsOf M sp).length ((spotsOf M sp).map (wantI M sp (spotsOf M sp))) r I := by
          cases hb : needs W 0 sp with
          | false => rw [hr2 hb]; exact ⟨_, nw0 hnd⟩
          | true =>
            rw [hr1 hb]
            unfold needs at hb
            simp only [Bool.and_eq_true, decide_eq_true_eq, beq_iff_eq] at hb
            obtain ⟨_, h1, h2, h3⟩ := hb
            have : sp = none := by cases sp with
              | none => rfl
              | some x => cases h1
            subst this
            exact ⟨_, nw1 hnd (by omega) (List.length_eq_zero_iff.mp (by omega))⟩
        obtain ⟨I, nw⟩ := way
        have hrb : -1 ≤ r ∧ r ≤ 1000 := by
          cases hb : needs W 0 sp with
          | false => rw [hr2 hb]; omega
          | true => rw [hr1 hb]; omega
        refine ⟨a, M, sp, r, I, rfl, hA8, by omega, hrb.1, hrb.2, h4, fun m hm => (spots_mem hm).1, nw, dat_int _, dat_int _, ?_⟩
        refine ifF rfl ?_
        exact Wk2.of ⟨_, _, _, rfl, t8⟩
      · refine ifF (decide_eq_false (by rw [List.length_map]; omega)) ?_
        exact Wk2.of ⟨_, _, _, rfl, t8⟩
  rintro σ' G8 ⟨y9, y10, r, rfl, t8⟩
  have t8' := t5.trans t8
  have hn1 : needs W 1 sp = false := by unfold needs; rfl
  refine ⟨.ref HL, M, 1, sp, rfl, .inr ⟨HL, rfl, t8 _ _ hH5⟩, g.len, g.nd, g.out, .inr rfl, by rw [hPM]; exact hgo, (fun hb => by rw [hPM, hn1] at hb; cases hb), fun hb => ?_⟩
  rw [hPM]
  refine ⟨"tuple", true, rfl, kit_tt, ?_⟩
  refine .inl ⟨_, t8' _ _ hP2, .inl ⟨_, t8' _ _ hR2, dat_int _, dat_int _, ?_⟩⟩
  have e : eq3 (.int (((dueRows W 1 sp).map uR).length : Nat)) (.int ((((W.map uM).length : Nat) : Int) - (((as.map U.ref).length : Nat) : Int))) = true := by
    rw [eq3_int, List.length_map, List.length_map, List.length_map, R.len]
    simp
    omega
  rw [if_neg Bool.false_ne_true, e]
  exact Wk.sub hq (s12.trans t8')
end
end K39
end
section
set_option Elab.async false
set_option linter.all false
set_option maxRecDepth 100000
set_option maxHeartbeats 2000000
namespace K39
open PySem L2 L3
/-- what the class BadMoves is to the others -/
structure ExB (K : PySem.W.Frag) (mg : Str → Option Value) (C CL CB : Addr) : Prop where
  exc : ExcC K CB
  exm : PySem.W.exmOne K (.ref CB) (.ref CL) = some true
  k1 : PySem.W.kitOne K (.ref CB) (.ref CB) = some true
  k2 : PySem.W.kitOne K (.ref CB) (.ref C) = some false
  k3 : PySem.W.kitOne K (.ref CB) (.type "ValueError") = some true
  xf : XfC K CB
  noA : PySem.W.findIn K (.ref CB) "at" = some none
section
variable {P : Program} {w : World} {K : PySem.W.Frag} {mg : Str → Option Value} {base : Heap}
abbrev s_law_refused : Stmt := topS 29
abbrev law_refused_N : List Str := ["moves", "exchange", "spare", "e"]
theorem sc_law_refused : FnScope law_refused_N ["moves", "exchange", "spare"] (defScope s_law_refused) := ⟨rfl, rfl, rfl, by decide +kernel, rfl, by decide +kernel, by decide +kernel⟩
def spRe : Sp3 := fun ws G Q _ => ∃ (a : Addr) (W : List Mv) (e : Int) (sp : Option Loc), ws = [.ref a, .int e, uO sp] ∧ G a = some (.lst (W.map uM)) ∧ W.length ≤ 90 ∧ Bad W ∧ Q (.bl true) G
theorem ok_refused {C CL CB : Addr} (X : ExT K mg C CL CB) (Y : ExB K mg C CL CB) {f f2 f3 f4 : Addr} {fd fd2 fd3 fd4 : FuncData} (F : Fun K "_law_refused" "_law_refused" s_law_refused f fd) (T : Tg2 mg)
    (GI : FnOk P w K mg base (L2N.CX P w) 3 f2 fd2 ["moves", "exchange", "spare"] (lowSp K (spISb CB))) (gI : mg "in_step" = some (.ref f2)) (kI : PySem.W.keepIn K (.ref f2) = true) (bI : Binds K fd2 ["moves", "exchange", "spare"] [])
    (H_law_alike : OwnH P w K mg base 5 "_law_alike" ["told", "due"] (spAlike 4) f3 fd3) (H_law_bad_index : OwnH P w K mg base 1 "_law_bad_index" ["moves"] spBI f4 fd4) :
    FnOk P w K mg base CX0 6 f fd ["moves", "exchange", "spare"] (lowSp K spRe) := by
  refine Fun_ok3 F sc_law_refused (fun ws G Q E h => by obtain ⟨_, _, _, _, rfl, _⟩ := h; rfl) (fun cdv A outer s H E ws G Q E3 hr h => ?_)
  have hr_in_step : Room 3 _ := hr.mono (by decide)
  have hr_law_alike : Room 5 _ := hr
  have hr1 : Room 1 _ := hr.mono (by decide)
  have hu64 := hr.units
  obtain ⟨a, W, e, sp, rfl, ha, hlen, hbad, hq⟩ := h
  refine ⟨_, (ss_cons (s_try (i := 3) (c := .ref CL) rfl rfl sc_law_refused.nd ⟨rfl, by decide, Or.inl X.gL⟩
      (fun W pn xe tk _ => ss_one (s_exprX GI hr_in_step gI kI bI tk (a3cons (e3T k_list T.list (a3cons (e3v 0) a3nil)) (a3cons (e3v 1) (a3cons (e3v 2) a3nil)))))
      (fun a' oe cls d pn hz hf =>
        (ss_cons (s_if (PW.pt (w3or (t3not (t3val (e3B (k_isX hz.zc hf) T.isinstance (a3cons (e3v 3) (a3cons (e3glob rfl X.gB) a3nil))))) (w3or1 (t3val (e3B (k_isX hz.zc hf) T.isinstance (a3cons (e3v 3) (a3cons (e3glob rfl X.gC) a3nil)))))))
            (ss_one (s_ret e3bl)) ss_nil)
          (ss_one (s_ret (e3and (e3B (k_isX hz.zc hf) T.isinstance (a3cons (e3v 3) (a3cons (e3ty (n := "ValueError") rfl X.ve (by decide +kernel)) a3nil)))
            (e3one (e3callH H_law_alike.G ⟨hr_law_alike.dp, hr_law_alike.un⟩ (by obtain ⟨vs, hv⟩ := hf; exact ⟨(a', oe), ⟨rfl, vs, hv, hz.2.2 vs hv⟩, List.mem_cons_self⟩) H_law_alike.g H_law_alike.kp H_law_alike.b (a3cons (e3xf Y.xf Y.noA hz.zc hf (e3v 3)) (a3cons
              (e3callH H_law_bad_index.G ⟨hr1.dp, hr1.un⟩ (by obtain ⟨vs, hv⟩ := hf; exact ⟨(a', oe), ⟨rfl, vs, hv, hz.2.2 vs hv⟩, List.mem_cons_self⟩) H_law_bad_index.g H_law_bad_index.kp H_law_bad_index.b (a3cons (e3v 0) a3nil)) a3nil))))))))))
    (ss_one (s_ret e3bl))), ?_⟩
  obtain ⟨k, B⟩ := bad_ix hbad
  refine ⟨_, ha, fun HL hHL => ?_⟩
  have hA1 : gup G HL (.lst (W.map uM)) a = some (.lst (W.map uM)) := by rw [gup_ne (gne_none ha hHL)]; exact ha
  have s1 : L3.Sub G (gup G HL (.lst (W.map uM))) := Sub.new (Sub.refl G) hHL
  have hH1 : gup G HL (.lst (W.map uM)) HL = some (.lst (W.map uM)) := gup_same
  generalize gup G HL (.lst (W.map uM)) = G1 at hA1 s1 hH1 ⊢
  refine ⟨HL, W, k, e, sp, rfl, hH1, hlen, B, fun d hd => ⟨Y.exm, fun a' na => ?_⟩⟩
  have hA2 : ∀ o, gup G1 d o a = some (.lst (W.map uM)) := fun o => by rw [gup_ne (gne_none hA1 hd)]; exact hA1
  refine ⟨CB, d, _, .ref CB, .ref CB, true, rfl, rfl, Y.exc, rfl, .inl ⟨CB, rfl, rfl⟩, Y.k1, gup_same, ?_⟩
  refine ⟨CB, d, _, .ref C, .ref C, false, rfl, rfl, Y.exc, rfl, .inl ⟨C, rfl, rfl⟩, Y.k2, gup_same, ?_⟩
  refine ⟨CB, d, _, .ty "ValueError", .type "ValueError", true, rfl, rfl, Y.exc, rfl, .inr ⟨_, rfl, rfl⟩, Y.k3, gup_same, ?_⟩
  refine ⟨rfl, rfl, d, _, rfl, gup_same, ?_⟩
  refine ⟨a, W, k, rfl, hA2 _, hlen, B, ?_⟩
  refine ⟨.int (k : Nat), rfl, trivial, ?_⟩
  exact Wk.sub hq (Sub.new s1 (s1.free hd))
end
end K39
end
section
set_option Elab.async false
set_option linter.all false
set_option maxRecDepth 100000
set_option maxHeartbeats 2000000
namespace K39
open PySem L2 L3
section
variable {P : Program} {w : World} {K : PySem.W.Frag} {mg : Str → Option Value} {base : Heap}
abbrev s_law : Stmt := topS 30
abbrev law_N : List Str := ["script", "state", "spots", "moves", "spare", "spoilt", "other", "exchange"]
theorem sc_law : FnScope law_N ["script"] (defScope s_law) := ⟨rfl, rfl, rfl, by decide +kernel, rfl, by decide +kernel, by decide +kernel⟩
def spLaw : Sp3 := fun ws G Q _ => ∃ (x : U) (ns : List Int), ws = [x] ∧ (x = .lit (ns.map U.int) ∨ ∃ a, x = .ref a ∧ G a = some (.lst (ns.map U.int))) ∧ ns.length ≤ 63 ∧ ∀ G', Q (.bl true) G'
theorem ok_law {f f1 f2 f3 f4 f5 f6 f7 : Addr} {fd fd1 fd2 fd3 fd4 fd5 fd6 fd7 : FuncData} (F : Fun K "law" "law" s_law f fd) (T : Tg2 mg) (O_law_state : Own P w K mg base 1 "_law_state" ["script"] spState f1 fd1) (O_law_spots : Own P w K mg base 2 "_law_spots" ["state"] spSpots f2 fd2)
    (O_law_moves : Own P w K mg base 2 "_law_moves" ["state", "spots"] spMoves f3 fd3) (O_law_take : Own P w K mg base 1 "_law_take" ["state", "m"] spTake f4 fd4) (O_law_spoilt : Own P w K mg base 2 "_law_spoilt" ["state", "spots", "moves"] spSpoilt f5 fd5)
    (O_law_counted : Own P w K mg base 6 "_law_counted" ["moves", "spare", "deep"] spCo f6 fd6) (O_law_refused : Own P w K mg base 6 "_law_refused" ["moves", "exchange", "spare"] spRe f7 fd7) : FnOk P w K mg base CX0 8 f fd ["script"] (lowSp K spLaw) := by
  refine Fun_ok3 F sc_law (fun ws G Q E h => by obtain ⟨_, _, rfl, _⟩ := h; rfl) (fun cdv A outer s H E ws G Q E3 hr h => ?_)
  have hr_law_state : Room 1 _ := hr.mono (by decide)
  have hr_law_spots : Room 2 _ := hr.mono (by decide)
  have hr_law_moves : Room 2 _ := hr.mono (by decide)
  have hr_law_take : Room 1 _ := hr.mono (by decide)
  have hr_law_spoilt : Room 2 _ := hr.mono (by decide)
  have hr_law_counted : Room 6 _ := hr.mono (by decide)
  have hr_law_refused : Room 6 _ := hr.mono (by decide)
  have hu64 := hr.units
  obtain ⟨x, ns, rfl, hx, hlen, hq⟩ := h
  refine ⟨_, (ss_cons (s_set (i := 1) sc_law.nd (e3call O_law_state.G hr_law_state O_law_state.g O_law_state.kp O_law_state.b pass0 (a3cons (e3v 0) a3nil)))
      (ss_cons (s_set (i := 2) sc_law.nd (e3call O_law_spots.G hr_law_spots O_law_spots.g O_law_spots.kp O_law_spots.b pass0 (a3cons (e3v 1) a3nil)))
      (ss_cons (s_set (i := 3) sc_law.nd (e3call O_law_moves.G hr_law_moves O_law_moves.g O_law_moves.kp O_law_moves.b pass0 (a3cons (e3v 1) (a3cons (e3v 2) a3nil))))
      (ss_cons (s_set (i := 4) sc_law.nd (e3tup (a3cons (e3ix (e3lst (a3cons e3str (a3cons e3str a3nil))) (e3call O_law_take.G hr_law_take O_law_take.g O_law_take.kp O_law_take.b pass0 (a3cons (e3v 1) (a3cons e3int a3nil)))) (a3cons e3int a3nil))))
      (ss_cons (s_set (i := 5) sc_law.nd (e3call O_law_spoilt.G hr_law_spoilt O_law_spoilt.g O_law_spoilt.kp O_law_spoilt.b pass0 (a3cons (e3v 1) (a3cons (e3v 2) (a3cons (e3v 3) a3nil)))))
      (ss_cons (s_for PassesOwn.never rfl (i_list (e3lst (a3cons e3non (a3cons (e3v 4) a3nil)))) (pg_name (i := 6) sc_law.nd rfl (by first | exact Or.inl rfl | exact Or.inr rfl)) gl_name
      (ss_cons (s_if (t3not (t3val (e3call O_law_counted.G hr_law_counted O_law_counted.g O_law_counted.kp O_law_counted.b pass0 (a3cons (e3v 3) (a3cons (e3v 6) (a3cons e3bl a3nil))))))
        (ss_one (s_ret e3bl))
        ss_nil)
        (ss_one (s_for PassesOwn.never rfl (i_list (e3lst (a3cons e3int (a3cons e3int a3nil)))) (pg_name (i := 7) sc_law.nd rfl (by first | exact Or.inl rfl | exact Or.inr rfl)) gl_name
        (ss_one (s_if (t3not (t3val (e3call O_law_refused.G hr_law_refused O_law_refused.g O_law_refused.kp O_law_refused.b pass0 (a3cons (e3v 5) (a3cons (e3v 7) (a3cons (e3v 6) a3nil))))))
          (ss_one (s_ret e3bl))
          ss_nil))))))
      (ss_one (s_ret (e3call O_law_counted.G hr_law_counted O_law_counted.g O_law_counted.kp O_law_counted.b pass0 (a3cons (e3v 3) (a3cons e3non (a3cons e3bl a3nil)))))))))))), ?_⟩
  refine ⟨x, ns, rfl, hx, hlen, fun s c cells z nsc gs gc => ?_⟩
  have hl1 : Law s c (gup (gup G c (.lst (cells.map U.int))) s (.lst [.ref c, .int 0, .int z])) := ⟨nsc, cells, 0, z, gup_same, (by rw [gup_ne nsc.symm]; exact gup_same), Int.le_refl _⟩
  generalize gup (gup G c (.lst (cells.map U.int))) s (.lst [.ref c, .int 0, .int z]) = G1 at hl1 ⊢
  refine ⟨s, c, rfl, hl1, fun spots S G2 hs3 hs6 hnd hbd hl2 f2 gS nSs nSc hS => ?_⟩
  refine ⟨s, c, S, spots, rfl, hl2, hS, nSs, nSc, hs3, hs6, hnd, fun moves MV G3 hl3 f3 gM nMs nMc hM hml hmn hmg hms => ?_⟩
  have hS := f3 _ _ nSs nSc hS
  refine ⟨rfl, fun p1 h1 => ?_⟩
  have hM1 : gup G3 p1 (.lst [.str "p", .str "s"]) MV = some (.lst (moves.map uM)) := by rw [gup_ne (gne_none hM h1)]; exact hM
  have hS1 : gup G3 p1 (.lst [.str "p", .str "s"]) S = some (.lst (spots.map uL)) := by rw [gup_ne (gne_none hS h1)]; exact hS
  have hp1 : gup G3 p1 (.lst [.str "p", .str "s"]) p1 = some (.lst [.str "p", .str "s"]) := gup_same
  have n1s := hl3.ns h1
  have n1c := hl3.nc h1
  have hl3 := hl3.mut (o := .lst [.str "p", .str "s"]) n1s n1c
  refine ⟨s, c, 2, rfl, hl3, by decide, by decide, fun v G4 hv0 hv1 hl4 f4 => ?_⟩
  have hM := f4 _ _ nMs nMc hM1
  have hS := f4 _ _ nSs nSc hS1
  have hp1 := f4 _ _ n1s n1c hp1
  obtain ⟨k, hk, hkk⟩ : ∃ k : Kd, k ≠ .out ∧ L2.atI [U.str "p", U.str "s"] v = some (.str k.str) := by
    have : v = 0 ∨ v = 1 := by omega
    rcases this with rfl | rfl
    · exact ⟨.p, by decide, rfl⟩
    · exact ⟨.s, by decide, rfl⟩
  refine ⟨_, .str k.str, hp1, hkk, rfl, ?_⟩
  refine ⟨s, c, S, MV, spots, moves, rfl, hl4, hS, nSs, nSc, by omega, hs6, hM, nMs, nMc, hml, fun W SP G5 hl5 f5 gSP nPs nPc hW hWl hbad => ?_⟩
  have hM := f5 _ _ nMs nMc hM
  have hsp : ∀ l ∈ spots, l ≠ (k, 99) := fun l hl e => by
    have := (hbd l hl).2.2
    rw [e] at this
    have : (99 : Int) ≤ 54 := this
    omega
  have okM : OkM moves (k, 99) := by
    refine ⟨by omega, hmn, fun m hm => (hbd _ (hmg m hm)).1, fun m hm => ?_, fun m hm => hsp _ (hmg m hm)⟩
    rcases hms m hm with h | h
    · exact hsp _ h
    · rw [h]; exact fun e => by cases e
  have hne : ∀ o : Option Loc, (o = none ∨ o = some (k, 99)) → ∀ x, o = some x → ∀ m ∈ moves, m.1 ≠ x ∧ m.2 ≠ x := by
    rintro o (rfl | rfl) x hx m hm
    · cases hx
    · cases hx; exact ⟨okM.src m hm, okM.tgt m hm⟩
  try dsimp only [seq3, asg3, n3, v3, drop3, ret3, next3, List.set_cons_zero, List.set_cons_succ, List.getElem?_cons_zero, List.getElem?_cons_succ, start3, List.map_cons, List.map_nil, List.length_cons, List.length_nil, List.replicate, List.cons_append, List.nil_append, Nat.reduceSub, Nat.reduceAdd]
  refine for_of ?_
  refine ⟨rfl, fun OL hOL => ⟨_, gup_same, ?_⟩⟩
  have s0 : L3.Sub G5 (gup G5 OL (.lst [.non, uL (k, 99)])) := Sub.new (Sub.refl G5) hOL
  refine forK_of 2 rfl (fun i σ G' => ∃ z1 z2, σ = [some x, some (.ref s), some (.ref S), some (.ref MV), some (uL (k, 99)), some (.ref SP), z1, z2] ∧ L3.Sub (gup G5 OL (.lst [.non, uL (k, 99)])) G') ⟨_, _, rfl, Sub.refl _⟩ (fun i σ' G' _ h => by obtain ⟨_, _, _, h⟩ := h; exact h.at) ?_ ?_
  · rintro i y σ' G' hi hy ⟨z1, z2, rfl, hs⟩
    obtain ⟨o, rfl, ho⟩ : ∃ o : Option Loc, y = uO o ∧ (o = none ∨ o = some (k, 99)) := by
      match i, hi with
      | 0, _ => cases hy; exact ⟨none, rfl, .inl rfl⟩
      | 1, _ => cases hy; exact ⟨some (k, 99), rfl, .inr rfl⟩
    refine ⟨MV, moves, o, true, rfl, hs _ _ (s0 _ _ hM), by omega, good moves (k, 99) okM 0 o (.inl rfl) ho, hne o ho, ?_⟩
    try dsimp only [seq3, asg3, n3, v3, drop3, ret3, next3, List.set_cons_zero, List.set_cons_succ, List.getElem?_cons_zero, List.getElem?_cons_succ, start3, List.map_cons, List.map_nil, List.length_cons, List.length_nil, List.replicate, List.cons_append, List.nil_append, Nat.reduceSub, Nat.reduceAdd]
    refine ifF rfl ?_
    refine for_of ?_
    refine ⟨rfl, fun IL hIL => ⟨_, gup_same, ?_⟩⟩
    refine forK_of 2 rfl (fun j σ G2 => ∃ z2, σ = [some x, some (.ref s), some (.ref S), some (.ref MV), some (uL (k, 99)), some (.ref SP), some (uO o), z2] ∧ L3.Sub (gup G' IL (.lst [.int 0, .int 1])) G2) ⟨_, rfl, Sub.refl _⟩ (fun i σ' G' _ h => by obtain ⟨_, _, h⟩ := h; exact h.at) ?_ ?_
    · rintro j y σ' G2 hj hy ⟨z2, rfl, hs2⟩
      obtain ⟨e, rfl⟩ : ∃ e : Int, y = .int e := by
        match j, hj with
        | 0, _ => cases hy; exact ⟨0, rfl⟩
        | 1, _ => cases hy; exact ⟨1, rfl⟩
      have sg := s0.trans (hs.trans ((Sub.new (Sub.refl G') hIL).trans hs2))
      exact ⟨SP, W, e, o, rfl, sg _ _ hW, by omega, hbad, Wk2.of ⟨_, rfl, hs2⟩⟩
    · rintro σ' G2 ⟨z2, rfl, hs2⟩
      exact Wk2.of ⟨_, _, rfl, hs.trans ((Sub.new (Sub.refl G') hIL).trans hs2)⟩
  · rintro σ' G' ⟨z1, z2, rfl, hs⟩
    exact ⟨MV, moves, none, false, rfl, hs _ _ (s0 _ _ hM), by omega, good moves (k, 99) okM 0 none (.inl rfl) (.inl rfl), hne none (.inl rfl), Wk.of (hq _)⟩
end
end K39
end
section
set_option Elab.async false
set_option linter.all false
set_option maxRecDepth 100000
set_option maxHeartbeats 4000000
/-! the join of law k40 -/
namespace K39
open PySem L2 L3
theorem exc_mk {K : PySem.W.Frag} {C : Addr} (hg : PySem.W.findIn K (.ref C) "__getattribute__" = some (some (.builtin "BaseException.__getattribute__"))) (hk : PySem.W.findIn K (.ref C) "__getattr__" = some none) (hs : PySem.W.subIn K (.ref C) (.type "BaseException") = some true) (hd : PySem.W.hasDictIn K C = true)
    (ha : PySem.W.findIn K (.ref C) "__class__" = some (some (.builtin "object.__class__"))) (hn : PySem.W.specialIn K (.builtin "object.__class__") "__get__" = some (some (.builtin "getset_descriptor.__get__"))) (ht : PySem.W.takesIn K (.builtin "object.__class__") = some true) (hm : PySem.W.mroIn K C (.type "object") = some true) : ExcC K C := ⟨hg, hk, hs, hd, ha, hn, ht, hm⟩
theorem repL_ints {K : PySem.W.Frag} {H : Hp} : ∀ ns : List Int, RepL K H (ns.map U.int) (ns.map V.int)
  | [] => .nil
  | n :: ns => .cons (.int n) (repL_ints ns)
theorem sp_in {K : PySem.W.Frag} {H : Hp} {a : Addr} {ns : List Int} (hl : ns.length ≤ 63) (h : SqL K H a (ns.map V.int)) : lowSp K spLaw [.ref a] H (fun v _ => v = .bl true) fun _ _ _ => False := by
  rcases h with (h | ⟨o, h⟩) | h
  · refine ⟨[.ref a], fun b => if b = a then some (.lst (ns.map U.int)) else none, fun v _ => v = .bl true, fun _ _ _ => False, .cons (.ref a) .nil, ?_, ⟨_, ns, rfl, .inr ⟨a, rfl, if_pos rfl⟩, hl, fun _ => rfl⟩, ?_, fun _ _ _ _ _ _ z => z⟩
    · intro b g e
      by_cases hb : b = a
      · subst hb
        have e' : some (GO.lst (ns.map U.int)) = some g := (if_pos rfl).symm.trans e
        cases e'
        exact ⟨_, h, repL_ints ns⟩
      · have e' : none = some g := (if_neg hb).symm.trans e
        cases e'
    · intro b H' x G' _ _ r q
      subst q
      cases r
      rfl
  · refine ⟨[.lit (ns.map U.int)], fun _ => none, fun v _ => v = .bl true, fun _ _ _ => False, .cons (.lit (.inl ⟨o, h⟩) (repL_ints ns)) .nil, (fun b g e => by cases e), ⟨_, ns, rfl, .inl rfl, hl, fun _ => rfl⟩, ?_, fun _ _ _ _ _ _ z => z⟩
    intro b H' x G' _ _ r q
    subst q
    cases r
    rfl
  · refine ⟨[.lit (ns.map U.int)], fun _ => none, fun v _ => v = .bl true, fun _ _ _ => False, .cons (.lit (.inr fun G => .inr h) (repL_ints ns)) .nil, (fun b g e => by cases e), ⟨_, ns, rfl, .inl rfl, hl, fun _ => rfl⟩, ?_, fun _ _ _ _ _ _ z => z⟩
    intro b H' x G' _ _ r q
    subst q
    cases r
    rfl
theorem all_mk {l : PySem.W.OpenLaw} {w : World} {K : PySem.W.Frag} {h : Heap} {mg : Str → Option Value} {fa C CL CB fI fJ cda cc cdb cb : Addr} {bm bmB : List Value} {f1 f2 f3 f4 f5 f6 f7 f8 f9 f10 f11 f12 f13 f14 f15 f16 f17 f18 f19 f20 f21 f22 f23 f24 f25 : Addr} (X : K.In h) (G : h.Ns mainGlobals mg) (hfa : mg "law" = some (.ref fa))
    {nm q : Str} {N : Addr} {bs : List Value} {sn : List Str} {sub : List Value} {ab : Bool} {col : Option Bool} {dd : Option Addr} {m0 m1 m2 m3 m5 : Option Value} {ocI kVI dcI pmI ctI : Value} {odI anI : Option Addr} {slI : Array (Option Value)} {ccl clc : Value} {cdd cld : Option Addr} {cvs : Array Value} {ccs csl : Array (Option Value)} {file : Str} {tf : Tok}
    {nmB qB : Str} {NB : Addr} {bsB : List Value} {snB : List Str} {subB : List Value} {abB : Bool} {colB : Option Bool} {ddB : Option Addr} {n0 n1 n2 n3 n5 : Option Value} {ocJ kVJ dcJ pmJ ctJ : Value} {odJ anJ : Option Addr} {slJ : Array (Option Value)} {cclB clcB : Value} {cddB cldB : Option Addr} {cvsB : Array Value} {ccsB cslB : Array (Option Value)} {fileB : Str} {tfB : Tok}
    {od1 an1 od2 an2 od3 an3 od4 an4 od5 an5 od6 an6 od7 an7 od8 an8 od9 an9 od10 an10 od11 an11 od12 an12 od13 an13 od14 an14 od15 an15 od16 an16 od17 an17 od18 an18 od19 an19 od20 an20 od21 an21 od22 an22 od23 an23 od24 an24 od25 an25 : Option Addr} {sl1 sl2 sl3 sl4 sl5 sl6 sl7 sl8 sl9 sl10 sl11 sl12 sl13 sl14 sl15 sl16 sl17 sl18 sl19 sl20 sl21 sl22 sl23 sl24 sl25 : Array (Option Value)} {oc1 kV1 dc1 pm1 cd1 ct1 oc2 kV2 dc2 pm2 cd2 ct2 oc3 kV3 dc3 pm3 cd3 ct3 oc4 kV4 dc4 pm4 cd4 ct4 oc5 kV5 dc5 pm5 cd5 ct5 oc6 kV6 dc6 pm6 cd6 ct6 oc7 kV7 dc7 pm7 cd7 ct7 oc8 kV8 dc8 pm8 cd8 ct8 oc9 kV9 dc9 pm9 cd9 ct9 oc10 kV10 dc10 pm10 cd10 ct10 oc11 kV11 dc11 pm11 cd11 ct11 oc12 kV12 dc12 pm12 cd12 ct12 oc13 kV13 dc13 pm13 cd13 ct13 oc14 kV14 dc14 pm14 cd14 ct14 oc15 kV15 dc15 pm15 cd15 ct15 oc16 kV16 dc16 pm16 cd16 ct16 oc17 kV17 dc17 pm17 cd17 ct17 oc18 kV18 dc18 pm18 cd18 ct18 oc19 kV19 dc19 pm19 cd19 ct19 oc20 kV20 dc20 pm20 cd20 ct20 oc21 kV21 dc21 pm21 cd21 ct21 oc22 kV22 dc22 pm22 cd22 ct22 oc23 kV23 dc23 pm23 cd23 ct23 oc24 kV24 dc24 pm24 cd24 ct24 oc25 kV25 dc25 pm25 cd25 ct25 : Value}
    (aC : PySem.W.nsIn K mainGlobals "NeedsSpare" = some (some (.ref C)))
    (aL : PySem.W.nsIn K mainGlobals "LiveError" = some (some (.ref CL)))
    (aB : PySem.W.nsIn K mainGlobals "BadMoves" = some (some (.ref CB)))
    (xL : K.lookup C = some (excClassObj nm q C N bs bm true sn sub ab col dd m0 m1 m2 m3 m5 "ValueError.__new__"))
    (xV : PySem.HandSPX.refsVE bm = true)
    (sa : PySem.W.findIn K (.ref C) "__setattr__" = some (some (.builtin "object.__setattr__")))
    (ga : PySem.W.findIn K (.ref C) "__getattribute__" = some (some (.builtin "BaseException.__getattribute__")))
    (gg : PySem.W.findIn K (.ref C) "__getattr__" = some none)
    (nR : PySem.W.findIn K (.ref C) "ring" = some none)
    (aI : PySem.W.findIn K (.ref C) "__init__" = some (some (.ref fI)))
    (tI : PySem.W.typeIn K (.ref fI) = some (.type "function"))
    (lI : K.lookup fI = some ⟨ocI, odI, .func (PySem.W.ksFn "__init__" "NeedsSpare.__init__" (PySem.LowNS.iA "ring" PySem.LowNS.nsP) (PySem.LowNS.iB "ring" PySem.LowNS.nsE PySem.LowNS.nsP) (PySem.LowNS.iS "ring") .none kVI dcI pmI anI (.ref cda) ctI cc), slI⟩)
    (cI : PySem.W.codeIn K (.ref cda) "NeedsSpare.__init__" = true)
    (lA : K.lookup cda = some ⟨ccl, cdd, .fields cvs, ccs⟩)
    (vA : cvs[2]? = some (.str file tf))
    (fA : (l.prog.main.file == file) = true)
    (lC : K.lookup cc = some ⟨clc, cld, .cell (some (.ref C)), csl⟩)
    (kC : PySem.W.keepIn K (.ref C) = true)
    (eC : PySem.W.subIn K (.ref C) (.type "BaseException") = some true)
    (tC : PySem.W.typeIn K (.ref C) = some (.type "type"))
    (vC : PySem.W.subIn K (.ref C) (.type "ValueError") = some true)
    (mC : PySem.W.mroIn K C (.ref C) = some true)
    (uC : PySem.W.ks_superIn K C C "__init__" = some (some (.builtin "ValueError.__init__")))
    (hC : PySem.W.hasDictIn K C = true)
    (qa : PySem.W.findIn K (.ref C) "__class__" = some (some (.builtin "object.__class__")))
    (qm : PySem.W.mroIn K C (.type "object") = some true)
    (sL : PySem.W.subIn K (.ref C) (.ref CL) = some true)
    (xLB : K.lookup CB = some (excClassObj nmB qB CB NB bsB bmB true snB subB abB colB ddB n0 n1 n2 n3 n5 "ValueError.__new__"))
    (xVB : PySem.HandSPX.refsVE bmB = true)
    (saB : PySem.W.findIn K (.ref CB) "__setattr__" = some (some (.builtin "object.__setattr__")))
    (gaB : PySem.W.findIn K (.ref CB) "__getattribute__" = some (some (.builtin "BaseException.__getattribute__")))
    (ggB : PySem.W.findIn K (.ref CB) "__getattr__" = some none)
    (nRB : PySem.W.findIn K (.ref CB) "at" = some none)
    (aIB : PySem.W.findIn K (.ref CB) "__init__" = some (some (.ref fJ)))
    (tIB : PySem.W.typeIn K (.ref fJ) = some (.type "function"))
    (lIB : K.lookup fJ = some ⟨ocJ, odJ, .func (PySem.W.ksFn "__init__" "BadMoves.__init__" (PySem.LowNS.iA "at" PySem.LowNS.fbP) (PySem.LowNS.iB "at" PySem.LowNS.fbE PySem.LowNS.fbP) (PySem.LowNS.iS "at") .none kVJ dcJ pmJ anJ (.ref cdb) ctJ cb), slJ⟩)
    (cIB : PySem.W.codeIn K (.ref cdb) "BadMoves.__init__" = true)
    (lAB : K.lookup cdb = some ⟨cclB, cddB, .fields cvsB, ccsB⟩)
    (vAB : cvsB[2]? = some (.str fileB tfB))
    (fAB : (l.prog.main.file == fileB) = true)
    (lCB : K.lookup cb = some ⟨clcB, cldB, .cell (some (.ref CB)), cslB⟩)
    (kCB : PySem.W.keepIn K (.ref CB) = true)
    (eCB : PySem.W.subIn K (.ref CB) (.type "BaseException") = some true)
    (tCB : PySem.W.typeIn K (.ref CB) = some (.type "type"))
    (vCB : PySem.W.subIn K (.ref CB) (.type "ValueError") = some true)
    (mCB : PySem.W.mroIn K CB (.ref CB) = some true)
    (uCB : PySem.W.ks_superIn K CB CB "__init__" = some (some (.builtin "ValueError.__init__")))
    (hCB : PySem.W.hasDictIn K CB = true)
    (qaB : PySem.W.findIn K (.ref CB) "__class__" = some (some (.builtin "object.__class__")))
    (qmB : PySem.W.mroIn K CB (.type "object") = some true)
    (sLB : PySem.W.subIn K (.ref CB) (.ref CL) = some true)
    (oq : PySem.W.nsIn K cStatics "thirdparty.any" = some none)
    (gS : PySem.W.nsIn K mainGlobals "super" = some none)
    (gV : PySem.W.nsIn K mainGlobals "ValueError" = some none)
    (ht : (l.prog.main.scope.names.lookup ("super" : Str)).isSome = false)
    (qn : PySem.W.specialIn K (.builtin "object.__class__") "__get__" = some (some (.builtin "getset_descriptor.__get__")))
    (qt : PySem.W.takesIn K (.builtin "object.__class__") = some true)
    (eL : PySem.W.subIn K (.ref CL) (.type "BaseException") = some true)
    (hL : PySem.W.hasDictIn K CL = true)
    (tL : PySem.W.typeIn K (.ref CL) = some (.type "type"))
    (k1 : PySem.W.kitOne K (.ref C) (.ref C) = some true)
    (k2 : PySem.W.kitOne K (.ref C) (.ref CB) = some false)
    (k3 : PySem.W.kitOne K (.ref C) (.type "ValueError") = some true)
    (k1B : PySem.W.kitOne K (.ref CB) (.ref CB) = some true)
    (k2B : PySem.W.kitOne K (.ref CB) (.ref C) = some false)
    (k3B : PySem.W.kitOne K (.ref CB) (.type "ValueError") = some true)
    (z_len : PySem.W.nsIn K mainGlobals "len" = some none)
    (z_list : PySem.W.nsIn K mainGlobals "list" = some none)
    (z_tuple : PySem.W.nsIn K mainGlobals "tuple" = some none)
    (z_range : PySem.W.nsIn K mainGlobals "range" = some none)
    (z_enumerate : PySem.W.nsIn K mainGlobals "enumerate" = some none)
    (z_int : PySem.W.nsIn K mainGlobals "int" = some none)
    (z_abs : PySem.W.nsIn K mainGlobals "abs" = some none)
    (z_sum : PySem.W.nsIn K mainGlobals "sum" = some none)
    (z_all : PySem.W.nsIn K mainGlobals "all" = some none)
    (z_isinstance : PySem.W.nsIn K mainGlobals "isinstance" = some none)
    (z_bool : PySem.W.nsIn K mainGlobals "bool" = some none)
    (z_str : PySem.W.nsIn K mainGlobals "str" = some none)
    (z_min : PySem.W.nsIn K mainGlobals "min" = some none)
    (z_any : PySem.W.nsIn K mainGlobals "any" = some none)
    (a1 : PySem.W.nsIn K mainGlobals "check_targets" = some (some (.ref f1)))
    (l1 : K.lookup f1 = some ⟨oc1, od1, .func (PySem.W.fnOf "check_targets" "check_targets" (defArgs s_check_targets) (defBody s_check_targets) (defScope s_check_targets) .none kV1 dc1 pm1 an1 cd1 ct1), sl1⟩)
    (c1 : PySem.W.codeIn K cd1 "check_targets" = true)
    (k1_ : PySem.W.keepIn K (.ref f1) = true)
    (a2 : PySem.W.nsIn K mainGlobals "ring_from" = some (some (.ref f2)))
    (l2 : K.lookup f2 = some ⟨oc2, od2, .func (PySem.W.fnOf "ring_from" "ring_from" (defArgs s_ring_from) (defBody s_ring_from) (defScope s_ring_from) .none kV2 dc2 pm2 an2 cd2 ct2), sl2⟩)
    (c2 : PySem.W.codeIn K cd2 "ring_from" = true)
    (k2_ : PySem.W.keepIn K (.ref f2) = true)
    (a3 : PySem.W.nsIn K mainGlobals "pure_rings" = some (some (.ref f3)))
    (l3 : K.lookup f3 = some ⟨oc3, od3, .func (PySem.W.fnOf "pure_rings" "pure_rings" (defArgs s_pure_rings) (defBody s_pure_rings) (defScope s_pure_rings) .none kV3 dc3 pm3 an3 cd3 ct3), sl3⟩)
    (c3 : PySem.W.codeIn K cd3 "pure_rings" = true)
    (k3_ : PySem.W.keepIn K (.ref f3) = true)
    (a4 : PySem.W.nsIn K mainGlobals "ring_swaps" = some (some (.ref f4)))
    (l4 : K.lookup f4 = some ⟨oc4, od4, .func (PySem.W.fnOf "ring_swaps" "ring_swaps" (defArgs s_ring_swaps) (defBody s_ring_swaps) (defScope s_ring_swaps) .none kV4 dc4 pm4 an4 cd4 ct4), sl4⟩)
    (c4 : PySem.W.codeIn K cd4 "ring_swaps" = true)
    (k4_ : PySem.W.keepIn K (.ref f4) = true)
    (a5 : PySem.W.nsIn K mainGlobals "ring_moves" = some (some (.ref f5)))
    (l5 : K.lookup f5 = some ⟨oc5, od5, .func (PySem.W.fnOf "ring_moves" "ring_moves" (defArgs s_ring_moves) (defBody s_ring_moves) (defScope s_ring_moves) .none kV5 dc5 pm5 an5 cd5 ct5), sl5⟩)
    (c5 : PySem.W.codeIn K cd5 "ring_moves" = true)
    (k5_ : PySem.W.keepIn K (.ref f5) = true)
    (a6 : PySem.W.nsIn K mainGlobals "unread_index" = some (some (.ref f6)))
    (l6 : K.lookup f6 = some ⟨oc6, od6, .func (PySem.W.fnOf "unread_index" "unread_index" (defArgs s_unread_index) (defBody s_unread_index) (defScope s_unread_index) .none kV6 dc6 pm6 an6 cd6 ct6), sl6⟩)
    (c6 : PySem.W.codeIn K cd6 "unread_index" = true)
    (k6_ : PySem.W.keepIn K (.ref f6) = true)
    (a7 : PySem.W.nsIn K mainGlobals "loose_moves" = some (some (.ref f7)))
    (l7 : K.lookup f7 = some ⟨oc7, od7, .func (PySem.W.fnOf "loose_moves" "loose_moves" (defArgs s_loose_moves) (defBody s_loose_moves) (defScope s_loose_moves) .none kV7 dc7 pm7 an7 cd7 ct7), sl7⟩)
    (c7 : PySem.W.codeIn K cd7 "loose_moves" = true)
    (k7_ : PySem.W.keepIn K (.ref f7) = true)
    (a8 : PySem.W.nsIn K mainGlobals "in_step" = some (some (.ref f8)))
    (l8 : K.lookup f8 = some ⟨oc8, od8, .func (PySem.W.fnOf "in_step" "in_step" (defArgs s_in_step) (defBody s_in_step) (defScope s_in_step) .none kV8 dc8 pm8 an8 cd8 ct8), sl8⟩)
    (c8 : PySem.W.codeIn K cd8 "in_step" = true)
    (k8_ : PySem.W.keepIn K (.ref f8) = true)
    (a9 : PySem.W.nsIn K mainGlobals "_law_take" = some (some (.ref f9)))
    (l9 : K.lookup f9 = some ⟨oc9, od9, .func (PySem.W.fnOf "_law_take" "_law_take" (defArgs s_law_take) (defBody s_law_take) (defScope s_law_take) .none kV9 dc9 pm9 an9 cd9 ct9), sl9⟩)
    (c9 : PySem.W.codeIn K cd9 "_law_take" = true)
    (k9_ : PySem.W.keepIn K (.ref f9) = true)
    (a10 : PySem.W.nsIn K mainGlobals "_law_state" = some (some (.ref f10)))
    (l10 : K.lookup f10 = some ⟨oc10, od10, .func (PySem.W.fnOf "_law_state" "_law_state" (defArgs s_law_state) (defBody s_law_state) (defScope s_law_state) .none kV10 dc10 pm10 an10 cd10 ct10), sl10⟩)
    (c10 : PySem.W.codeIn K cd10 "_law_state" = true)
    (k10_ : PySem.W.keepIn K (.ref f10) = true)
    (a11 : PySem.W.nsIn K mainGlobals "_law_alike" = some (some (.ref f11)))
    (l11 : K.lookup f11 = some ⟨oc11, od11, .func (PySem.W.fnOf "_law_alike" "_law_alike" (defArgs s_law_alike) (defBody s_law_alike) (defScope s_law_alike) .none kV11 dc11 pm11 an11 cd11 ct11), sl11⟩)
    (c11 : PySem.W.codeIn K cd11 "_law_alike" = true)
    (k11_ : PySem.W.keepIn K (.ref f11) = true)
    (a12 : PySem.W.nsIn K mainGlobals "_law_spots" = some (some (.ref f12)))
    (l12 : K.lookup f12 = some ⟨oc12, od12, .func (PySem.W.fnOf "_law_spots" "_law_spots" (defArgs s_law_spots) (defBody s_law_spots) (defScope s_law_spots) .none kV12 dc12 pm12 an12 cd12 ct12), sl12⟩)
    (c12 : PySem.W.codeIn K cd12 "_law_spots" = true)
    (k12_ : PySem.W.keepIn K (.ref f12) = true)
    (a13 : PySem.W.nsIn K mainGlobals "_law_moves" = some (some (.ref f13)))
    (l13 : K.lookup f13 = some ⟨oc13, od13, .func (PySem.W.fnOf "_law_moves" "_law_moves" (defArgs s_law_moves) (defBody s_law_moves) (defScope s_law_moves) .none kV13 dc13 pm13 an13 cd13 ct13), sl13⟩)
    (c13 : PySem.W.codeIn K cd13 "_law_moves" = true)
    (k13_ : PySem.W.keepIn K (.ref f13) = true)
    (a14 : PySem.W.nsIn K mainGlobals "_law_spoilt" = some (some (.ref f14)))
    (l14 : K.lookup f14 = some ⟨oc14, od14, .func (PySem.W.fnOf "_law_spoilt" "_law_spoilt" (defArgs s_law_spoilt) (defBody s_law_spoilt) (defScope s_law_spoilt) .none kV14 dc14 pm14 an14 cd14 ct14), sl14⟩)
    (c14 : PySem.W.codeIn K cd14 "_law_spoilt" = true)
    (k14_ : PySem.W.keepIn K (.ref f14) = true)
    (a15 : PySem.W.nsIn K mainGlobals "_law_bad_index" = some (some (.ref f15)))
    (l15 : K.lookup f15 = some ⟨oc15, od15, .func (PySem.W.fnOf "_law_bad_index" "_law_bad_index" (defArgs s_law_bad_index) (defBody s_law_bad_index) (defScope s_law_bad_index) .none kV15 dc15 pm15 an15 cd15 ct15), sl15⟩)
    (c15 : PySem.W.codeIn K cd15 "_law_bad_index" = true)
    (k15_ : PySem.W.keepIn K (.ref f15) = true)
    (a16 : PySem.W.nsIn K mainGlobals "_law_ring" = some (some (.ref f16)))
    (l16 : K.lookup f16 = some ⟨oc16, od16, .func (PySem.W.fnOf "_law_ring" "_law_ring" (defArgs s_law_ring) (defBody s_law_ring) (defScope s_law_ring) .none kV16 dc16 pm16 an16 cd16 ct16), sl16⟩)
    (c16 : PySem.W.codeIn K cd16 "_law_ring" = true)
    (k16_ : PySem.W.keepIn K (.ref f16) = true)
    (a17 : PySem.W.nsIn K mainGlobals "_law_rings" = some (some (.ref f17)))
    (l17 : K.lookup f17 = some ⟨oc17, od17, .func (PySem.W.fnOf "_law_rings" "_law_rings" (defArgs s_law_rings) (defBody s_law_rings) (defScope s_law_rings) .none kV17 dc17 pm17 an17 cd17 ct17), sl17⟩)
    (c17 : PySem.W.codeIn K cd17 "_law_rings" = true)
    (k17_ : PySem.W.keepIn K (.ref f17) = true)
    (a18 : PySem.W.nsIn K mainGlobals "_law_spots_of" = some (some (.ref f18)))
    (l18 : K.lookup f18 = some ⟨oc18, od18, .func (PySem.W.fnOf "_law_spots_of" "_law_spots_of" (defArgs s_law_spots_of) (defBody s_law_spots_of) (defScope s_law_spots_of) .none kV18 dc18 pm18 an18 cd18 ct18), sl18⟩)
    (c18 : PySem.W.codeIn K cd18 "_law_spots_of" = true)
    (k18_ : PySem.W.keepIn K (.ref f18) = true)
    (a19 : PySem.W.nsIn K mainGlobals "_law_wanted" = some (some (.ref f19)))
    (l19 : K.lookup f19 = some ⟨oc19, od19, .func (PySem.W.fnOf "_law_wanted" "_law_wanted" (defArgs s_law_wanted) (defBody s_law_wanted) (defScope s_law_wanted) .none kV19 dc19 pm19 an19 cd19 ct19), sl19⟩)
    (c19 : PySem.W.codeIn K cd19 "_law_wanted" = true)
    (k19_ : PySem.W.keepIn K (.ref f19) = true)
    (a20 : PySem.W.nsIn K mainGlobals "_law_met" = some (some (.ref f20)))
    (l20 : K.lookup f20 = some ⟨oc20, od20, .func (PySem.W.fnOf "_law_met" "_law_met" (defArgs s_law_met) (defBody s_law_met) (defScope s_law_met) .none kV20 dc20 pm20 an20 cd20 ct20), sl20⟩)
    (c20 : PySem.W.codeIn K cd20 "_law_met" = true)
    (k20_ : PySem.W.keepIn K (.ref f20) = true)
    (a21 : PySem.W.nsIn K mainGlobals "_law_least" = some (some (.ref f21)))
    (l21 : K.lookup f21 = some ⟨oc21, od21, .func (PySem.W.fnOf "_law_least" "_law_least" (defArgs s_law_least) (defBody s_law_least) (defScope s_law_least) .none kV21 dc21 pm21 an21 cd21 ct21), sl21⟩)
    (c21 : PySem.W.codeIn K cd21 "_law_least" = true)
    (k21_ : PySem.W.keepIn K (.ref f21) = true)
    (a22 : PySem.W.nsIn K mainGlobals "_law_all_moves" = some (some (.ref f22)))
    (l22 : K.lookup f22 = some ⟨oc22, od22, .func (PySem.W.fnOf "_law_all_moves" "_law_all_moves" (defArgs s_law_all_moves) (defBody s_law_all_moves) (defScope s_law_all_moves) .none kV22 dc22 pm22 an22 cd22 ct22), sl22⟩)
    (c22 : PySem.W.codeIn K cd22 "_law_all_moves" = true)
    (k22_ : PySem.W.keepIn K (.ref f22) = true)
    (a23 : PySem.W.nsIn K mainGlobals "_law_counted" = some (some (.ref f23)))
    (l23 : K.lookup f23 = some ⟨oc23, od23, .func (PySem.W.fnOf "_law_counted" "_law_counted" (defArgs s_law_counted) (defBody s_law_counted) (defScope s_law_counted) .none kV23 dc23 pm23 an23 cd23 ct23), sl23⟩)
    (c23 : PySem.W.codeIn K cd23 "_law_counted" = true)
    (k23_ : PySem.W.keepIn K (.ref f23) = true)
    (a24 : PySem.W.nsIn K mainGlobals "_law_refused" = some (some (.ref f24)))
    (l24 : K.lookup f24 = some ⟨oc24, od24, .func (PySem.W.fnOf "_law_refused" "_law_refused" (defArgs s_law_refused) (defBody s_law_refused) (defScope s_law_refused) .none kV24 dc24 pm24 an24 cd24 ct24), sl24⟩)
    (c24 : PySem.W.codeIn K cd24 "_law_refused" = true)
    (k24_ : PySem.W.keepIn K (.ref f24) = true)
    (a25 : PySem.W.nsIn K mainGlobals "law" = some (some (.ref f25)))
    (l25 : K.lookup f25 = some ⟨oc25, od25, .func (PySem.W.fnOf "law" "law" (defArgs s_law) (defBody s_law) (defScope s_law) .none kV25 dc25 pm25 an25 cd25 ct25), sl25⟩)
    (c25 : PySem.W.codeIn K cd25 "law" = true)
    (k25_ : PySem.W.keepIn K (.ref f25) = true)
    : ∃ fd : FuncData, (∀ (s : Shared) (v : Value), BindsTo s fd ⟨[v], []⟩ [("script", v)]) ∧ ∀ base : Heap, K.In base → base.Ns mainGlobals mg → FnOk l.prog w K mg base CX0 8 fa fd ["script"] (lowSp K spLaw) := by
  have e := hfa.symm.trans (PySem.W.mg_of X G a25)
  cases e
  have T : Tg mg := ⟨PySem.W.mg_none_of X G z_len, PySem.W.mg_none_of X G z_list, PySem.W.mg_none_of X G z_tuple, PySem.W.mg_none_of X G z_range, PySem.W.mg_none_of X G z_enumerate, PySem.W.mg_none_of X G z_int, PySem.W.mg_none_of X G z_abs, PySem.W.mg_none_of X G z_sum, PySem.W.mg_none_of X G z_all, PySem.W.mg_none_of X G z_isinstance, PySem.W.mg_none_of X G z_bool, PySem.W.mg_none_of X G z_str⟩
  have T2 : Tg2 mg := { toTg := T, min := PySem.W.mg_none_of X G z_min, any := PySem.W.mg_none_of X G z_any }
  have N : NsT l.prog K mg C fI := ⟨⟨⟨nm, q, N, bs, bm, sn, sub, ab, col, dd, m0, m1, m2, m3, m5, xL, xV⟩, sa, nR, aI, tI, kC, eC, tC, vC, mC, uC, oq, PySem.W.mg_none_of X G gS, ht, ⟨_, _, _, _, _, _, cda, _, _, cc, _, _, cvs, _, file, tf, _, _, _, lI, cI, lA, vA, fA, lC⟩⟩, PySem.W.mg_of X G aC⟩
  have NB : BmT l.prog K mg CB fJ := ⟨⟨⟨nmB, qB, NB, bsB, bmB, snB, subB, abB, colB, ddB, n0, n1, n2, n3, n5, xLB, xVB⟩, saB, nRB, aIB, tIB, kCB, eCB, tCB, vCB, mCB, uCB, oq, PySem.W.mg_none_of X G gS, ht, ⟨_, _, _, _, _, _, cdb, _, _, cb, _, _, cvsB, _, fileB, tfB, _, _, _, lIB, cIB, lAB, vAB, fAB, lCB⟩⟩, PySem.W.mg_of X G aB⟩
  have XT : ExT K mg C CL CB := { exc := exc_mk ga gg eC hC qa qn qt qm, exm := PySem.W.exm_ref eL hL tL sL, gC := PySem.W.mg_of X G aC, gL := PySem.W.mg_of X G aL, gB := PySem.W.mg_of X G aB, k1 := k1, k2 := k2, k3 := k3, xf := ⟨ga, gg, eC, hC⟩, noR := nR, ve := PySem.W.mg_none_of X G gV }
  have XB : ExB K mg C CL CB := { exc := exc_mk gaB ggB eCB hCB qaB qn qt qmB, exm := PySem.W.exm_ref eL hL tL sLB, k1 := k1B, k2 := k2B, k3 := k3B, xf := ⟨gaB, ggB, eCB, hCB⟩, noA := nRB }
  have F1 := fun_mk (st := s_check_targets) l1 c1 k1_
  have b1 := F1.binds (ps := ["moves"]) fun _ _ _ _ _ _ us hl => match us, hl with | [_], _ => rfl
  have F2 := fun_mk (st := s_ring_from) l2 c2 k2_
  have b2 := F2.binds (ps := ["start", "leads"]) fun _ _ _ _ _ _ us hl => match us, hl with | [_, _], _ => rfl
  have F3 := fun_mk (st := s_pure_rings) l3 c3 k3_
  have b3 := F3.binds (ps := ["pending"]) fun _ _ _ _ _ _ us hl => match us, hl with | [_], _ => rfl
  have F4 := fun_mk (st := s_ring_swaps) l4 c4 k4_
  have b4 := F4.binds (ps := ["ring"]) fun _ _ _ _ _ _ us hl => match us, hl with | [_], _ => rfl
  have F5 := fun_mk (st := s_ring_moves) l5 c5 k5_
  have b5 := F5.binds (ps := ["ring", "spare"]) fun _ _ _ _ _ _ us hl => match us, hl with | [_, _], _ => rfl
  have F6 := fun_mk (st := s_unread_index) l6 c6 k6_
  have b6 := F6.binds (ps := ["pending"]) fun _ _ _ _ _ _ us hl => match us, hl with | [_], _ => rfl
  have F7 := fun_mk (st := s_loose_moves) l7 c7 k7_
  have b7 := F7.binds (ps := ["pending"]) fun _ _ _ _ _ _ us hl => match us, hl with | [_], _ => rfl
  have F8 := fun_mk (st := s_in_step) l8 c8 k8_
  have b8 := F8.binds (ps := ["moves", "exchange", "spare"]) fun _ _ _ _ _ _ us hl => match us, hl with | [_, _, _], _ => rfl
  have F9 := fun_mk (st := s_law_take) l9 c9 k9_
  have b9 := F9.binds (ps := ["state", "m"]) fun _ _ _ _ _ _ us hl => match us, hl with | [_, _], _ => rfl
  have F10 := fun_mk (st := s_law_state) l10 c10 k10_
  have b10 := F10.binds (ps := ["script"]) fun _ _ _ _ _ _ us hl => match us, hl with | [_], _ => rfl
  have F11 := fun_mk (st := s_law_alike) l11 c11 k11_
  have b11 := F11.binds (ps := ["told", "due"]) fun _ _ _ _ _ _ us hl => match us, hl with | [_, _], _ => rfl
  have F12 := fun_mk (st := s_law_spots) l12 c12 k12_
  have b12 := F12.binds (ps := ["state"]) fun _ _ _ _ _ _ us hl => match us, hl with | [_], _ => rfl
  have F13 := fun_mk (st := s_law_moves) l13 c13 k13_
  have b13 := F13.binds (ps := ["state", "spots"]) fun _ _ _ _ _ _ us hl => match us, hl with | [_, _], _ => rfl
  have F14 := fun_mk (st := s_law_spoilt) l14 c14 k14_
  have b14 := F14.binds (ps := ["state", "spots", "moves"]) fun _ _ _ _ _ _ us hl => match us, hl with | [_, _, _], _ => rfl
  have F15 := fun_mk (st := s_law_bad_index) l15 c15 k15_
  have b15 := F15.binds (ps := ["moves"]) fun _ _ _ _ _ _ us hl => match us, hl with | [_], _ => rfl
  have F16 := fun_mk (st := s_law_ring) l16 c16 k16_
  have b16 := F16.binds (ps := ["pending", "first"]) fun _ _ _ _ _ _ us hl => match us, hl with | [_, _], _ => rfl
  have F17 := fun_mk (st := s_law_rings) l17 c17 k17_
  have b17 := F17.binds (ps := ["pending"]) fun _ _ _ _ _ _ us hl => match us, hl with | [_], _ => rfl
  have F18 := fun_mk (st := s_law_spots_of) l18 c18 k18_
  have b18 := F18.binds (ps := ["moves", "spare"]) fun _ _ _ _ _ _ us hl => match us, hl with | [_, _], _ => rfl
  have F19 := fun_mk (st := s_law_wanted) l19 c19 k19_
  have b19 := F19.binds (ps := ["moves", "spare", "spots"]) fun _ _ _ _ _ _ us hl => match us, hl with | [_, _, _], _ => rfl
  have F20 := fun_mk (st := s_law_met) l20 c20 k20_
  have b20 := F20.binds (ps := ["held", "wanted"]) fun _ _ _ _ _ _ us hl => match us, hl with | [_, _], _ => rfl
  have F21 := fun_mk (st := s_law_least) l21 c21 k21_
  have b21 := F21.binds (ps := ["moves", "spare", "rounds"]) fun _ _ _ _ _ _ us hl => match us, hl with | [_, _, _], _ => rfl
  have F22 := fun_mk (st := s_law_all_moves) l22 c22 k22_
  have b22 := F22.binds (ps := ["told", "many"]) fun _ _ _ _ _ _ us hl => match us, hl with | [_, _], _ => rfl
  have F23 := fun_mk (st := s_law_counted) l23 c23 k23_
  have b23 := F23.binds (ps := ["moves", "spare", "deep"]) fun _ _ _ _ _ _ us hl => match us, hl with | [_, _, _], _ => rfl
  have F24 := fun_mk (st := s_law_refused) l24 c24 k24_
  have b24 := F24.binds (ps := ["moves", "exchange", "spare"]) fun _ _ _ _ _ _ us hl => match us, hl with | [_, _, _], _ => rfl
  have F25 := fun_mk (st := s_law) l25 c25 k25_
  have b25 := F25.binds (ps := ["script"]) fun _ _ _ _ _ _ us hl => match us, hl with | [_], _ => rfl
  refine ⟨PySem.W.fnOf "law" "law" (defArgs s_law) (defBody s_law) (defScope s_law) .none kV25 dc25 pm25 an25 cd25 ct25, fun s v => .of_eq rfl, fun base _ _ => ?_⟩
  have O_check_targets : Own l.prog w K mg base 1 "check_targets" ["moves"] spCT f1 _ := ⟨ok_ct F1 T, PySem.W.mg_of X G a1, k1_, b1⟩
  have O_ring_from : Own l.prog w K mg base 1 "ring_from" ["start", "leads"] spRF f2 _ := ⟨ok_rf F2 T, PySem.W.mg_of X G a2, k2_, b2⟩
  have O_pure_rings : Own l.prog w K mg base 2 "pure_rings" ["pending"] spPR f3 _ := ⟨ok_pr F3 T O_ring_from, PySem.W.mg_of X G a3, k3_, b3⟩
  have O_ring_swaps : Own l.prog w K mg base 1 "ring_swaps" ["ring"] spRS f4 _ := ⟨ok_rs F4 T, PySem.W.mg_of X G a4, k4_, b4⟩
  have O_ring_moves : Own l.prog w K mg base 1 "ring_moves" ["ring", "spare"] spRM f5 _ := ⟨ok_rm F5 T, PySem.W.mg_of X G a5, k5_, b5⟩
  have O_unread_index : Own l.prog w K mg base 1 "unread_index" ["pending"] spUI f6 _ := ⟨ok_ui F6 T, PySem.W.mg_of X G a6, k6_, b6⟩
  have O_loose_moves : Own l.prog w K mg base 2 "loose_moves" ["pending"] spLM f7 _ := ⟨ok_lm F7 T O_unread_index, PySem.W.mg_of X G a7, k7_, b7⟩
  have GI : FnOk l.prog w K mg base (L2N.CX l.prog w) 3 f8 _ ["moves", "exchange", "spare"] (lowSp K (spIS C)) := ok_is N F8 T O_check_targets O_pure_rings O_unread_index O_ring_swaps O_ring_moves O_loose_moves
  have GB : FnOk l.prog w K mg base (L2N.CX l.prog w) 3 f8 _ ["moves", "exchange", "spare"] (lowSp K (spISb CB)) := ok_isB F8 T (ok_ctB NB F1 T) (PySem.W.mg_of X G a1) k1_ b1
  have O_law_take : Own l.prog w K mg base 1 "_law_take" ["state", "m"] spTake f9 _ := ⟨ok_take F9 T, PySem.W.mg_of X G a9, k9_, b9⟩
  have O_law_state : Own l.prog w K mg base 1 "_law_state" ["script"] spState f10 _ := ⟨ok_state F10 T, PySem.W.mg_of X G a10, k10_, b10⟩
  have OH_law_alike : OwnH l.prog w K mg base 5 "_law_alike" ["told", "due"] (spAlike 4) f11 _ := ⟨ok_alikeH F11 T (PySem.W.mg_of X G a11) k11_ b11 4, PySem.W.mg_of X G a11, k11_, b11⟩
  have O_law_alike : Own l.prog w K mg base 5 "_law_alike" ["told", "due"] (spAlike 4) f11 _ := ⟨ok_alike F11 T (PySem.W.mg_of X G a11) k11_ b11 4, PySem.W.mg_of X G a11, k11_, b11⟩
  have O_law_spots : Own l.prog w K mg base 2 "_law_spots" ["state"] spSpots f12 _ := ⟨ok_spots F12 T O_law_take, PySem.W.mg_of X G a12, k12_, b12⟩
  have O_law_moves : Own l.prog w K mg base 2 "_law_moves" ["state", "spots"] spMoves f13 _ := ⟨ok_moves F13 T2 O_law_take, PySem.W.mg_of X G a13, k13_, b13⟩
  have O_law_spoilt : Own l.prog w K mg base 2 "_law_spoilt" ["state", "spots", "moves"] spSpoilt f14 _ := ⟨ok_spoilt F14 T2 O_law_take, PySem.W.mg_of X G a14, k14_, b14⟩
  have OH_law_bad_index : OwnH l.prog w K mg base 1 "_law_bad_index" ["moves"] spBI f15 _ := ⟨ok_biH F15 T2, PySem.W.mg_of X G a15, k15_, b15⟩
  have O_law_ring : Own l.prog w K mg base 1 "_law_ring" ["pending", "first"] spLR f16 _ := ⟨ok_lr F16 T, PySem.W.mg_of X G a16, k16_, b16⟩
  have O_law_rings : Own l.prog w K mg base 2 "_law_rings" ["pending"] spRgs f17 _ := ⟨ok_rgs F17 T2 O_law_ring, PySem.W.mg_of X G a17, k17_, b17⟩
  have O_law_spots_of : Own l.prog w K mg base 1 "_law_spots_of" ["moves", "spare"] spSO f18 _ := ⟨ok_so F18 T2, PySem.W.mg_of X G a18, k18_, b18⟩
  have O_law_wanted : Own l.prog w K mg base 1 "_law_wanted" ["moves", "spare", "spots"] spWa f19 _ := ⟨ok_wa F19 T2, PySem.W.mg_of X G a19, k19_, b19⟩
  have O_law_met : Own l.prog w K mg base 1 "_law_met" ["held", "wanted"] spMet f20 _ := ⟨ok_met F20 T2, PySem.W.mg_of X G a20, k20_, b20⟩
  have O_law_least : Own l.prog w K mg base 2 "_law_least" ["moves", "spare", "rounds"] spLeast f21 _ := ⟨ok_least F21 T2 O_law_spots_of O_law_wanted O_law_met, PySem.W.mg_of X G a21, k21_, b21⟩
  have O_law_all_moves : Own l.prog w K mg base 1 "_law_all_moves" ["told", "many"] spAM f22 _ := ⟨ok_am F22 T2, PySem.W.mg_of X G a22, k22_, b22⟩
  have O_law_counted : Own l.prog w K mg base 6 "_law_counted" ["moves", "spare", "deep"] spCo f23 _ := ⟨ok_counted XT F23 T2 O_law_rings GI (PySem.W.mg_of X G a8) k8_ b8 O_law_alike O_law_all_moves O_law_spots_of O_law_least, PySem.W.mg_of X G a23, k23_, b23⟩
  have O_law_refused : Own l.prog w K mg base 6 "_law_refused" ["moves", "exchange", "spare"] spRe f24 _ := ⟨ok_refused XT XB F24 T2 GB (PySem.W.mg_of X G a8) k8_ b8 OH_law_alike OH_law_bad_index, PySem.W.mg_of X G a24, k24_, b24⟩
  exact ok_law F25 T2 O_law_state O_law_spots O_law_moves O_law_take O_law_spoilt O_law_counted O_law_refused
theorem walk {l : PySem.W.OpenLaw} {q : Program} {loose : List Str} {XP : (Str → Option Value) → Heap → Prop} {YP : World → Heap → Prop} {d : DefRec} {K : Params → PySem.W.Frag} (hn : l.most = some 63) (hdf : d.params.defaults = [])
    (hY : ∀ (w : World) (h : Heap), YP w h → (K w.params).In h)
    (F : ∀ (w : World) (mg : Str → Option Value) (fa : Addr) (h : Heap), (K w.params).In h → h.Ns mainGlobals mg → mg d.name = some (.ref fa) →
      ∃ fd : FuncData, (∀ (s : Shared) (u : Value), BindsTo s fd ⟨[u], []⟩ [("script", u)]) ∧ ∀ base : Heap, (K w.params).In base → base.Ns mainGlobals mg → FnOk l.prog w (K w.params) mg base CX0 8 fa fd ["script"] (lowSp (K w.params) spLaw)) :
    PySem.W.WalkO q loose XP YP l.row.toRowW d [] (fun f vs => PySem.call f vs) :=
  L2.walk_of (n := 63) (k := 8) (x := "script") (CX := fun _ => CX0) (sp := fun w => lowSp (K w.params) spLaw) hn (by decide) hdf ⟨rfl, by decide, by decide⟩ hY F (fun _ _ a ns hl _ hS => sp_in hl hS) fun _ _ _ _ _ z => z
end K39
open PySem PySem.W PyProof.Rows
set_option maxRecDepth 100000 in
set_option maxHeartbeats 0 in
theorem PySem.Challenge.cw_liveplaces_k40_moves_fewest_spare_exactl_holds : PySem.Challenge.rw_liveplaces_k40_moves_fewest_spare_exactl.Holds := by
  w_on; o_law; k_head; (case hw => w_witness2)
  k_fill
  refine K39.walk (l := PySem.Challenge.rw_liveplaces_k40_moves_fewest_spare_exactl) rfl rfl (fun w h Y => PySem.W.kIn_of Y) ?F
  case F =>
    intro w mg fa h KX G hmg
    refine' K39.all_mk KX G hmg ?aC ?aL ?aB ?xL ?xV ?sa ?ga ?gg ?nR ?aI ?tI ?lI ?cI ?lA ?vA ?fA ?lC ?kC ?eC ?tC ?vC ?mC ?uC ?hC ?qa ?qm ?sL ?xLB ?xVB ?saB ?gaB ?ggB ?nRB ?aIB ?tIB ?lIB ?cIB ?lAB ?vAB ?fAB ?lCB ?kCB ?eCB ?tCB ?vCB ?mCB ?uCB ?hCB ?qaB ?qmB ?sLB ?oq ?gS ?gV ?ht ?qn ?qt ?eL ?hL ?tL ?k1 ?k2 ?k3 ?k1B ?k2B ?k3B ?z_len ?z_list ?z_tuple ?z_range ?z_enumerate ?z_int ?z_abs ?z_sum ?z_all ?z_isinstance ?z_bool ?z_str ?z_min ?z_any ?a1 ?l1 ?c1 ?k1_ ?a2 ?l2 ?c2 ?k2_ ?a3 ?l3 ?c3 ?k3_ ?a4 ?l4 ?c4 ?k4_ ?a5 ?l5 ?c5 ?k5_ ?a6 ?l6 ?c6 ?k6_ ?a7 ?l7 ?c7 ?k7_ ?a8 ?l8 ?c8 ?k8_ ?a9 ?l9 ?c9 ?k9_ ?a10 ?l10 ?c10 ?k10_ ?a11 ?l11 ?c11 ?k11_ ?a12 ?l12 ?c12 ?k12_ ?a13 ?l13 ?c13 ?k13_ ?a14 ?l14 ?c14 ?k14_ ?a15 ?l15 ?c15 ?k15_ ?a16 ?l16 ?c16 ?k16_ ?a17 ?l17 ?c17 ?k17_ ?a18 ?l18 ?c18 ?k18_ ?a19 ?l19 ?c19 ?k19_ ?a20 ?l20 ?c20 ?k20_ ?a21 ?l21 ?c21 ?k21_ ?a22 ?l22 ?c22 ?k22_ ?a23 ?l23 ?c23 ?k23_ ?a24 ?l24 ?c24 ?k24_ ?a25 ?l25 ?c25 ?k25_
    (case aC => k_is)
    (case aL => k_is)
    (case aB => k_is)
    (case xL => k_is)
    (case xV => decide +kernel)
    (case sa => k_is)
    (case ga => k_is)
    (case gg => k_is)
    (case nR => k_is)
    (case aI => k_is)
    (case tI => k_is)
    (case lI => k_is)
    (case cI => k_is)
    (case lA => k_is)
    (case vA => rfl)
    (case fA => rfl)
    (case lC => k_is)
    (case kC => k_is)
    (case eC => k_is)
    (case tC => k_is)
    (case vC => k_is)
    (case mC => k_is)
    (case uC => first | k_is | rfl | decide +kernel)
    (case hC => k_is)
    (case qa => k_is)
    (case qm => k_is)
    (case sL => k_is)
    (case xLB => k_is)
    (case xVB => decide +kernel)
    (case saB => k_is)
    (case gaB => k_is)
    (case ggB => k_is)
    (case nRB => k_is)
    (case aIB => k_is)
    (case tIB => k_is)
    (case lIB => k_is)
    (case cIB => k_is)
    (case lAB => k_is)
    (case vAB => rfl)
    (case fAB => rfl)
    (case lCB => k_is)
    (case kCB => k_is)
    (case eCB => k_is)
    (case tCB => k_is)
    (case vCB => k_is)
    (case mCB => k_is)
    (case uCB => first | k_is | rfl | decide +kernel)
    (case hCB => k_is)
    (case qaB => k_is)
    (case qmB => k_is)
    (case sLB => k_is)
    (case oq => k_is)
    (case gS => k_is)
    (case gV => k_is)
    (case ht => decide +kernel)
    (case qn => k_is)
    (case qt => k_is)
    (case eL => k_is)
    (case hL => k_is)
    (case tL => k_is)
    (case k1 => first | kit_is | k_is | rfl)
    (case k2 => first | kit_is | k_is | rfl)
    (case k3 => first | kit_is | k_is | rfl)
    (case k1B => first | kit_is | k_is | rfl)
    (case k2B => first | kit_is | k_is | rfl)
    (case k3B => first | kit_is | k_is | rfl)
    (case z_len => k_is)
    (case z_list => k_is)
    (case z_tuple => k_is)
    (case z_range => k_is)
    (case z_enumerate => k_is)
    (case z_int => k_is)
    (case z_abs => k_is)
    (case z_sum => k_is)
    (case z_all => k_is)
    (case z_isinstance => k_is)
    (case z_bool => k_is)
    (case z_str => k_is)
    (case z_min => k_is)
    (case z_any => k_is)
    (case a1 => k_is)
    (case l1 => k_is)
    (case c1 => k_is)
    (case k1_ => k_is)
    (case a2 => k_is)
    (case l2 => k_is)
    (case c2 => k_is)
    (case k2_ => k_is)
    (case a3 => k_is)
    (case l3 => k_is)
    (case c3 => k_is)
    (case k3_ => k_is)
    (case a4 => k_is)
    (case l4 => k_is)
    (case c4 => k_is)
    (case k4_ => k_is)
    (case a5 => k_is)
    (case l5 => k_is)
    (case c5 => k_is)
    (case k5_ => k_is)
    (case a6 => k_is)
    (case l6 => k_is)
    (case c6 => k_is)
    (case k6_ => k_is)
    (case a7 => k_is)
    (case l7 => k_is)
    (case c7 => k_is)
    (case k7_ => k_is)
    (case a8 => k_is)
    (case l8 => k_is)
    (case c8 => k_is)
    (case k8_ => k_is)
    (case a9 => k_is)
    (case l9 => k_is)
    (case c9 => k_is)
    (case k9_ => k_is)
    (case a10 => k_is)
    (case l10 => k_is)
    (case c10 => k_is)
    (case k10_ => k_is)
    (case a11 => k_is)
    (case l11 => k_is)
    (case c11 => k_is)
    (case k11_ => k_is)
    (case a12 => k_is)
    (case l12 => k_is)
    (case c12 => k_is)
    (case k12_ => k_is)
    (case a13 => k_is)
    (case l13 => k_is)
    (case c13 => k_is)
    (case k13_ => k_is)
    (case a14 => k_is)
    (case l14 => k_is)
    (case c14 => k_is)
    (case k14_ => k_is)
    (case a15 => k_is)
    (case l15 => k_is)
    (case c15 => k_is)
    (case k15_ => k_is)
    (case a16 => k_is)
    (case l16 => k_is)
    (case c16 => k_is)
    (case k16_ => k_is)
    (case a17 => k_is)
    (case l17 => k_is)
    (case c17 => k_is)
    (case k17_ => k_is)
    (case a18 => k_is)
    (case l18 => k_is)
    (case c18 => k_is)
    (case k18_ => k_is)
    (case a19 => k_is)
    (case l19 => k_is)
    (case c19 => k_is)
    (case k19_ => k_is)
    (case a20 => k_is)
    (case l20 => k_is)
    (case c20 => k_is)
    (case k20_ => k_is)
    (case a21 => k_is)
    (case l21 => k_is)
    (case c21 => k_is)
    (case k21_ => k_is)
    (case a22 => k_is)
    (case l22 => k_is)
    (case c22 => k_is)
    (case k22_ => k_is)
    (case a23 => k_is)
    (case l23 => k_is)
    (case c23 => k_is)
    (case k23_ => k_is)
    (case a24 => k_is)
    (case l24 => k_is)
    (case c24 => k_is)
    (case k24_ => k_is)
    (case a25 => k_is)
    (case l25 => k_is)
    (case c25 => k_is)
    (case k25_ => k_is)
end
