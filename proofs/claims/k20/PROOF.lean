import PyProof.Rows.All
import Wide.All
import OpenK.AllK
import Wide.FinOn
import HandS.ForMost
import HandS.ForExc
import HandS.Walk
import HandS.Deep
import HandS.TupLen
import HandS.Style
import HandS.DictComp
import HandS.TryMany
import HandS.ExcIs
import HandS.ExcField
import HandS.ExcInit
import HandS.IsInst
import HandS.Conv
import KE.GoesEnum
import PyProof.DictMoreH
import KE.KExcSuper
import KE.KSuper
import HandS.ExcSuper
import HandS.HotCalls
import KE.KExcIs
import HandS.TupAny
import PyProof.Rows.TupDisplay
import HandS.ClsMeth
import HandS.MakeKwOnly
import HandS.New0
import HandS.CallSlots
import HandS.TupMul
import HandS.Text
import HandS.WrittenGet
import PyProof.FString
import PyProof.FString4
import PyProof.FitsInt
import PySem.Challenge.RW_liveplaces_k20_machine_first_fault
import HandS.Defaults
import HandS.Wide
section
set_option Elab.async false
set_option linter.all false
set_option maxRecDepth 100000
set_option maxHeartbeats 2000000
/-! L3: a layer over L2 in which tuples are plain values. -/
namespace L3
open PySem L2

/-- a value; a tuple is its items, wherever it stands -/
inductive U where
  | non
  | bl (b : Bool)
  | int (i : Int)
  | str (x : Str)
  | ty (n : String)
  | ref (a : Addr)
  | tup (xs : List U)
  | wtup (xs : List U)
  | lit (xs : List U)

/-- a list that is never changed: locked, or written in the module -/
def LitAt (K : PySem.W.Frag) (H : Hp) (a : Addr) (xs : List V) : Prop := (∃ o, H a = some (.frz o (.lst xs))) ∨ (∀ G : Hp, SqL K G a xs)

mutual
inductive Rep (K : PySem.W.Frag) (H : Hp) : U → V → Prop
  | non : Rep K H .non .non
  | bl (b : Bool) : Rep K H (.bl b) (.bl b)
  | int (i : Int) : Rep K H (.int i) (.int i)
  | str (x : Str) : Rep K H (.str x) (.str x)
  | ty (n : String) : Rep K H (.ty n) (.ty n)
  | ref (a : Addr) : Rep K H (.ref a) (.ref a)
  | tup {a : Addr} {vs : List V} {ws : List U} : H a = some (.tup vs) → RepL K H ws vs → Rep K H (.tup ws) (.ref a)
  | wtup {a : Addr} {vs : List V} {ws : List U} : SqT K H a vs → RepL K H ws vs → Rep K H (.wtup ws) (.ref a)
  | lit {a : Addr} {vs : List V} {ws : List U} : LitAt K H a vs → RepL K H ws vs → Rep K H (.lit ws) (.ref a)
inductive RepL (K : PySem.W.Frag) (H : Hp) : List U → List V → Prop
  | nil : RepL K H [] []
  | cons {w : U} {v : V} {ws : List U} {vs : List V} : Rep K H w v → RepL K H ws vs → RepL K H (w :: ws) (v :: vs)
end

/-- the tuples and the locked lists stay -/
structure Keep (H H' : Hp) : Prop where
  tup : ∀ a xs, H a = some (.tup xs) → H' a = some (.tup xs)
  frz : ∀ a o xs, H a = some (.frz o (.tup xs)) → H' a = some (.frz o (.tup xs))
  lit : ∀ a o xs, H a = some (.frz o (.lst xs)) → H' a = some (.frz o (.lst xs))
theorem Keep.refl (H : Hp) : Keep H H := ⟨fun _ _ h => h, fun _ _ _ h => h, fun _ _ _ h => h⟩
theorem Keep.trans {H H1 H2 : Hp} (a : Keep H H1) (b : Keep H1 H2) : Keep H H2 :=
  ⟨fun x xs h => b.tup x xs (a.tup x xs h), fun x o xs h => b.frz x o xs (a.frz x o xs h), fun x o xs h => b.lit x o xs (a.lit x o xs h)⟩
theorem Keep.same {H H' : Hp} (s : Same H H') : Keep H H' := ⟨fun a _ h => s a _ h, fun a _ _ h => s a _ h, fun a _ _ h => s a _ h⟩
theorem Same.new {H : Hp} {p : Addr} {o : HO} (h : H p = none) : Same H (upd H p o) := fun b u e => by
  rw [upd_ne (ne_of_none e h)]; exact e
theorem Keep.new {H : Hp} {p : Addr} {o : HO} (h : H p = none) : Keep H (upd H p o) := Keep.same (Same.new h)
/-- a thing that is no tuple and no locked one is written -/
def Soft : HO → Prop
  | .tup _ => False
  | .frz _ (.tup _) => False
  | .frz _ (.lst _) => False
  | _ => True
theorem Keep.mut {H : Hp} {p : Addr} {u o : HO} (h : H p = some u) (s : Soft u) : Keep H (upd H p o) := by
  refine ⟨fun a xs e => ?_, fun a ob xs e => ?_, fun a ob xs e => ?_⟩ <;>
  · rw [upd_ne]
    · exact e
    · intro z
      subst z
      rw [h] at e
      cases e
      exact s
theorem SqT.keep {K : PySem.W.Frag} {H H' : Hp} {a : Addr} {xs : List V} (k : Keep H H') (h : SqT K H a xs) : SqT K H' a xs := by
  rcases h with (h | ⟨o, h⟩) | h
  · exact .inl (.inl (k.tup _ _ h))
  · exact .inl (.inr ⟨o, k.frz _ _ _ h⟩)
  · exact .inr h
theorem LitAt.keep {K : PySem.W.Frag} {H H' : Hp} {a : Addr} {xs : List V} (k : Keep H H') (h : LitAt K H a xs) : LitAt K H' a xs := by
  rcases h with ⟨o, h⟩ | h
  · exact .inl ⟨o, k.lit _ _ _ h⟩
  · exact .inr h
theorem LitAt.sq {K : PySem.W.Frag} {H : Hp} {a : Addr} {xs : List V} (h : LitAt K H a xs) : SqL K H a xs := by
  rcases h with ⟨o, h⟩ | h
  · exact .inl (.inr ⟨o, h⟩)
  · exact h H
section
variable {K : PySem.W.Frag} {H H' : Hp}
theorem Rep.keep (k : Keep H H') {w : U} {v : V} (r : Rep K H w v) : Rep K H' w v :=
  Rep.rec (motive_1 := fun w v _ => Rep K H' w v) (motive_2 := fun ws vs _ => RepL K H' ws vs)
    .non .bl .int .str .ty .ref (fun h _ r => .tup (k.tup _ _ h) r) (fun h _ r => .wtup (SqT.keep k h) r) (fun h _ r => .lit (LitAt.keep k h) r) .nil (fun _ _ a b => .cons a b) r
theorem RepL.keep (k : Keep H H') : ∀ {ws : List U} {vs : List V}, RepL K H ws vs → RepL K H' ws vs
  | _, _, .nil => .nil
  | _, _, .cons a b => .cons (a.keep k) (RepL.keep k b)
theorem RepL.length : ∀ {ws : List U} {vs : List V}, RepL K H ws vs → ws.length = vs.length
  | _, _, .nil => rfl
  | _, _, .cons _ b => by rw [List.length_cons, List.length_cons, RepL.length b]
theorem RepL.get : ∀ {ws : List U} {vs : List V} {i : Nat} {w : U}, RepL K H ws vs → ws[i]? = some w → ∃ v, vs[i]? = some v ∧ Rep K H w v
  | _, _, _, _, .nil, e => by simp at e
  | _, _, 0, _, .cons r _, e => by simp at e; subst e; exact ⟨_, rfl, r⟩
  | _, _, i + 1, w, .cons _ t, e => by
    obtain ⟨v, h1, h2⟩ := RepL.get (i := i) (w := w) t (by simpa using e)
    exact ⟨v, by simpa using h1, h2⟩
theorem RepL.get' : ∀ {ws : List U} {vs : List V} {i : Nat} {v : V}, RepL K H ws vs → vs[i]? = some v → ∃ w, ws[i]? = some w ∧ Rep K H w v
  | _, _, _, _, .nil, e => by simp at e
  | _, _, 0, _, .cons r _, e => by simp at e; subst e; exact ⟨_, rfl, r⟩
  | _, _, i + 1, w, .cons _ t, e => by
    obtain ⟨v, h1, h2⟩ := RepL.get' (i := i) (v := w) t (by simpa using e)
    exact ⟨v, by simpa using h1, h2⟩
theorem RepL.append : ∀ {ws us : List U} {vs xs : List V}, RepL K H ws vs → RepL K H us xs → RepL K H (ws ++ us) (vs ++ xs)
  | _, _, _, _, .nil, s => s
  | _, _, _, _, .cons r t, s => .cons r (RepL.append t s)
theorem RepL.set {w : U} {v : V} (r : Rep K H w v) : ∀ {ws : List U} {vs : List V} (i : Nat), RepL K H ws vs → RepL K H (ws.set i w) (vs.set i v)
  | _, _, _, .nil => .nil
  | _, _, 0, .cons _ t => .cons r t
  | _, _, i + 1, .cons q t => .cons q (RepL.set r i t)
theorem RepL.take : ∀ {ws : List U} {vs : List V} (n : Nat), RepL K H ws vs → RepL K H (ws.take n) (vs.take n)
  | _, _, 0, _ => .nil
  | _, _, _ + 1, .nil => .nil
  | _, _, n + 1, .cons r t => .cons r (RepL.take n t)
theorem RepL.drop : ∀ {ws : List U} {vs : List V} (n : Nat), RepL K H ws vs → RepL K H (ws.drop n) (vs.drop n)
  | _, _, 0, r => r
  | _, _, _ + 1, .nil => .nil
  | _, _, n + 1, .cons _ t => RepL.drop n t
theorem RepL.eraseIdx : ∀ {ws : List U} {vs : List V} (n : Nat), RepL K H ws vs → RepL K H (ws.eraseIdx n) (vs.eraseIdx n)
  | _, _, _, .nil => .nil
  | _, _, 0, .cons _ t => t
  | _, _, n + 1, .cons r t => .cons r (RepL.eraseIdx n t)
theorem RepL.ints : ∀ ns : List Int, RepL K H (ns.map U.int) (ns.map V.int)
  | [] => .nil
  | n :: ns => .cons (.int n) (RepL.ints ns)
theorem RepL.of_ints : ∀ {ns : List Int} {vs : List V}, RepL K H (ns.map U.int) vs → vs = ns.map V.int
  | [], _, .nil => rfl
  | _ :: ns, _, .cons r t => by
    cases r
    rw [RepL.of_ints t, List.map_cons]
theorem RepL.of_bls : ∀ {ns : List Bool} {vs : List V}, RepL K H (ns.map U.bl) vs → vs = ns.map V.bl
  | [], _, .nil => rfl
  | _ :: ns, _, .cons r t => by
    cases r
    rw [RepL.of_bls t, List.map_cons]
end

/-! ### the heap of things that may change -/
inductive GO where
  | lst (xs : List U)
  | dT (kvs : List (List Key × U))
  | dK (kvs : List (Key × U))
  | ldT (o : Obj) (vs : List (List Key × V)) (kvs : List (List Key × U))
  | ldK (o : Obj) (vs : List (Key × V)) (kvs : List (Key × U))
  | ins (C dx : Addr) (fs : List (Str × U))
  | own (x : Addr)
  | xd (fs : List (Str × U))
abbrev G3 := Addr → Option GO
abbrev S3 := List (Option U)
def gup (G : G3) (a : Addr) (o : GO) : G3 := fun b => if b = a then some o else G b
theorem gup_same {G : G3} {a : Addr} {o : GO} : gup G a o a = some o := by unfold gup; rw [if_pos rfl]
theorem gup_ne {G : G3} {a b : Addr} {o : GO} (h : b ≠ a) : gup G a o b = G b := by unfold gup; rw [if_neg h]
theorem gup_gup {G : G3} {a : Addr} {o u : GO} : gup (gup G a o) a u = gup G a u := by
  funext b; unfold gup; split <;> rfl
theorem gne_none {G : G3} {a b : Addr} {o : GO} (h : G a = some o) (h' : G b = none) : a ≠ b := by
  intro e; subst e; rw [h] at h'; cases h'
abbrev RepK (K : PySem.W.Frag) (H : Hp) {κ : Type} (us : List (κ × U)) (vs : List (κ × V)) : Prop := Paired (fun (p : κ × U) (q : κ × V) => p.1 = q.1 ∧ Rep K H p.2 q.2) us vs
def RepO (K : PySem.W.Frag) (H : Hp) (a : Addr) : GO → Prop
  | .lst xs => ∃ vs, H a = some (.lst vs) ∧ RepL K H xs vs
  | .dT kvs => ∃ vs, H a = some (.dT vs) ∧ RepK K H kvs vs
  | .dK kvs => ∃ vs, H a = some (.dK vs) ∧ RepK K H kvs vs
  | .ldT o vs kvs => H a = some (.frz o (.dT vs)) ∧ RepK K H kvs vs
  | .ldK o vs kvs => H a = some (.frz o (.dK vs)) ∧ RepK K H kvs vs
  | .ins C dx fs => ∃ vs, H a = some (.ins C dx vs) ∧ RepK K H fs vs
  | .own x => H a = some (.own x)
  | .xd fs => ∃ vs, H a = some (.xd vs) ∧ RepK K H fs vs
def RepH (K : PySem.W.Frag) (G : G3) (H : Hp) : Prop := ∀ a g, G a = some g → RepO K H a g
def RepS (K : PySem.W.Frag) (H : Hp) (σ3 : S3) (σ : St) : Prop := σ3.length = σ.length ∧ ∀ (i : Nat) (w : U), σ3[i]? = some (some w) → ∃ v, σ[i]? = some (some v) ∧ Rep K H w v
section
variable {K : PySem.W.Frag} {H H' : Hp} {G : G3} {a : Addr}
theorem RepK.keep {κ : Type} {us : List (κ × U)} {vs : List (κ × V)} (k : Keep H H') (r : RepK K H us vs) : RepK K H' us vs := Paired.mapP r fun _ _ z => ⟨z.1, z.2.keep k⟩
/-- an object that stands as it stood is what it was -/
theorem RepO.at {g : GO} (r : RepO K H a g) (k : Keep H H') (e : H' a = H a) : RepO K H' a g := by
  cases g with
  | lst xs => obtain ⟨vs, h, q⟩ := r; exact ⟨vs, e.trans h, q.keep k⟩
  | dT xs => obtain ⟨vs, h, q⟩ := r; exact ⟨vs, e.trans h, q.keep k⟩
  | dK xs => obtain ⟨vs, h, q⟩ := r; exact ⟨vs, e.trans h, q.keep k⟩
  | ldT o vs xs => obtain ⟨h, q⟩ := r; exact ⟨e.trans h, q.keep k⟩
  | ldK o vs xs => obtain ⟨h, q⟩ := r; exact ⟨e.trans h, q.keep k⟩
  | ins C dx xs => obtain ⟨vs, h, q⟩ := r; exact ⟨vs, e.trans h, q.keep k⟩
  | own x => exact e.trans r
  | xd xs => obtain ⟨vs, h, q⟩ := r; exact ⟨vs, e.trans h, q.keep k⟩
theorem RepO.some {g : GO} (r : RepO K H a g) : ∃ u, H a = some u := by
  cases g with
  | lst xs => obtain ⟨vs, h, q⟩ := r; exact ⟨_, h⟩
  | dT xs => obtain ⟨vs, h, q⟩ := r; exact ⟨_, h⟩
  | dK xs => obtain ⟨vs, h, q⟩ := r; exact ⟨_, h⟩
  | ldT o vs xs => obtain ⟨h, q⟩ := r; exact ⟨_, h⟩
  | ldK o vs xs => obtain ⟨h, q⟩ := r; exact ⟨_, h⟩
  | ins C dx xs => obtain ⟨vs, h, q⟩ := r; exact ⟨_, h⟩
  | own x => exact ⟨_, r⟩
  | xd xs => obtain ⟨vs, h, q⟩ := r; exact ⟨_, h⟩
theorem RepH.free (h : RepH K G H) (n : H a = none) : G a = none := by
  cases e : G a with
  | none => rfl
  | some g =>
    obtain ⟨u, q⟩ := RepO.some (h a g e)
    rw [n] at q; cases q
/-- a new thing that is not told: a tuple -/
theorem RepH.skip {o : HO} (h : RepH K G H) (n : H a = none) : RepH K G (upd H a o) := fun b g e =>
  (h b g e).at (Keep.new n) (upd_ne (gne_none e (h.free n)))
/-- a new thing that is told -/
theorem RepH.new {o : HO} {g : GO} (h : RepH K G H) (n : H a = none) (r : RepO K (upd H a o) a g) : RepH K (gup G a g) (upd H a o) := fun b u e => by
  by_cases hb : b = a
  · subst hb; rw [gup_same] at e; cases e; exact r
  · rw [gup_ne hb] at e
    exact (h b u e).at (Keep.new n) (upd_ne hb)
/-- a thing is changed -/
theorem RepH.mut {u o : HO} {g : GO} (h : RepH K G H) (n : H a = some u) (s : Soft u) (r : RepO K (upd H a o) a g) : RepH K (gup G a g) (upd H a o) := fun b v e => by
  by_cases hb : b = a
  · subst hb; rw [gup_same] at e; cases e; exact r
  · rw [gup_ne hb] at e
    exact (h b v e).at (Keep.mut n s) (upd_ne hb)
/-- fewer things are told -/
theorem RepH.less {G' : G3} (h : RepH K G H) (l : ∀ b g, G' b = some g → G b = some g) : RepH K G' H := fun b g e => h b g (l b g e)
theorem obj_new {p : Addr} {ws : List U} {vs : List V} (n : H p = none) (r : RepL K H ws vs) : RepO K (upd H p (.lst vs)) p (.lst ws) := ⟨vs, upd_same, r.keep (Keep.new n)⟩
theorem obj_mut {p : Addr} {u : HO} {ws : List U} {vs : List V} (h : H p = some u) (s : Soft u) (r : RepL K H ws vs) : RepO K (upd H p (.lst vs)) p (.lst ws) := ⟨vs, upd_same, r.keep (Keep.mut h s)⟩
theorem RepS.keep {σ3 : S3} {σ : St} (r : RepS K H σ3 σ) (k : Keep H H') : RepS K H' σ3 σ := ⟨r.1, fun i w e => let ⟨v, h, q⟩ := r.2 i w e; ⟨v, h, q.keep k⟩⟩
theorem RepS.set {σ3 : S3} {σ : St} {w : U} {v : V} (r : RepS K H σ3 σ) (i : Nat) (q : Rep K H w v) : RepS K H (σ3.set i (some w)) (σ.set i (some v)) := by
  refine ⟨by rw [List.length_set, List.length_set]; exact r.1, fun j u e => ?_⟩
  by_cases h : i = j
  · subst h
    have hl : i < σ3.length := by
      have := (List.getElem?_eq_some_iff.mp e).1
      rwa [List.length_set] at this
    rw [List.getElem?_set_self hl] at e
    cases e
    exact ⟨v, List.getElem?_set_self (by rw [← r.1]; exact hl), q⟩
  · rw [List.getElem?_set_ne h] at e
    obtain ⟨x, h1, h2⟩ := r.2 j u e
    exact ⟨x, by rw [List.getElem?_set_ne h]; exact h1, h2⟩
end

/-- fewer things, fewer slots are told -/
def Sub (G0 G : G3) : Prop := ∀ b g, G0 b = some g → G b = some g
def SubS (σ0 σ : S3) : Prop := σ0.length = σ.length ∧ ∀ (i : Nat) (w : U), σ0[i]? = some (some w) → σ[i]? = some (some w)
theorem Sub.refl (G : G3) : Sub G G := fun _ _ h => h
theorem Sub.trans {G G1 G2 : G3} (a : Sub G G1) (b : Sub G1 G2) : Sub G G2 := fun x g h => b x g (a x g h)
theorem Sub.free {G G1 : G3} (a : Sub G G1) {p : Addr} (h : G1 p = none) : G p = none := by
  cases e : G p with
  | none => rfl
  | some g => rw [a p g e] at h; cases h
theorem Sub.new {G G1 : G3} (a : Sub G G1) {p : Addr} {o : GO} (h : G p = none) : Sub G (gup G1 p o) := fun b g e => by
  rw [gup_ne (gne_none e h)]
  exact a b g e
theorem Sub.up {G G1 : G3} (a : Sub G G1) {p : Addr} {o : GO} : Sub (gup G p o) (gup G1 p o) := fun b g e => by
  by_cases h : b = p
  · subst h; rw [gup_same] at e ⊢; exact e
  · rw [gup_ne h] at e ⊢; exact a b g e
theorem SubS.refl (σ : S3) : SubS σ σ := ⟨rfl, fun _ _ h => h⟩
theorem RepS.sub {K : PySem.W.Frag} {H : Hp} {σ0 σ3 : S3} {σ : L2.St} (r : RepS K H σ3 σ) (s : SubS σ0 σ3) : RepS K H σ0 σ := ⟨s.1.trans r.1, fun i w e => r.2 i w (s.2 i w e)⟩
def Wk (Q : U → G3 → Prop) : U → G3 → Prop := fun v G => ∃ G0, Sub G0 G ∧ Q v G0
def Wk1 (P : G3 → Prop) : G3 → Prop := fun G => ∃ G0, Sub G0 G ∧ P G0
def Wk2 (P : S3 → G3 → Prop) : S3 → G3 → Prop := fun σ G => ∃ σ0 G0, SubS σ0 σ ∧ Sub G0 G ∧ P σ0 G0
/-! ### readings over these values -/
abbrev K3 := U → G3 → Prop
abbrev TE3 := S3 → G3 → K3 → Prop
abbrev TT3 := S3 → G3 → (Bool → G3 → Prop) → Prop
abbrev TA3 := S3 → G3 → (List U → G3 → Prop) → Prop
abbrev TO3 := S3 → G3 → (Option Int → G3 → Prop) → Prop
structure En3 where
  nx : S3 → G3 → Prop
  rt : K3
  bk : S3 → G3 → Prop := fun _ _ => False
  ct : S3 → G3 → Prop := fun _ _ => False
  ex : Value → Option Addr → S3 → G3 → Prop := fun _ _ _ _ => False
abbrev TS3 := En3 → S3 → G3 → Prop
/-- what a continuation over these values says of one over the heap -/
def Post {α β : Type} (K : PySem.W.Frag) (R : Hp → α → β → Prop) (H : Hp) (Q3 : α → G3 → Prop) (Q : β → Hp → Prop) : Prop :=
  ∀ b H' a G', Keep H H' → RepH K G' H' → R H' a b → Q3 a G' → Q b H'
def low {α β : Type} (K : PySem.W.Frag) (R : Hp → α → β → Prop) (t : S3 → G3 → (α → G3 → Prop) → Prop) : St → Hp → (β → Hp → Prop) → Prop := fun σ H Q =>
  ∃ σ3 G Q3, RepS K H σ3 σ ∧ RepH K G H ∧ t σ3 G Q3 ∧ Post K R H Q3 Q
abbrev lowE (K : PySem.W.Frag) (t : TE3) : TE := low K (Rep K) t
abbrev lowT (K : PySem.W.Frag) (t : TT3) : TT := low K (fun _ (a b : Bool) => a = b) t
abbrev lowA (K : PySem.W.Frag) (t : TA3) : TA := low K (RepL K) t
abbrev lowO (K : PySem.W.Frag) (t : TO3) : TO := low K (fun _ (a b : Option Int) => a = b) t
/-- the ends of a statement -/
structure EndsLe (K : PySem.W.Frag) (W : WX) (H : Hp) (D3 : En3) (D : Ends) : Prop where
  nx : ∀ σ' H' σ3 G', Keep H H' → RepS K H' σ3 σ' → RepH K G' H' → D3.nx σ3 G' → D.nx σ' H'
  rt : Post K (Rep K) H D3.rt D.rt
  bk : ∀ σ' H' σ3 G', Keep H H' → RepS K H' σ3 σ' → RepH K G' H' → D3.bk σ3 G' → D.bk σ' H'
  ct : ∀ σ' H' σ3 G', Keep H H' → RepS K H' σ3 σ' → RepH K G' H' → D3.ct σ3 G' → D.ct σ' H'
  ex : ∀ c d σ' H' σ3 G', Keep H H' → RepS K H' σ3 σ' → RepH K G' H' → D3.ex c d σ3 G' → W c d σ' H'
def W0 : WX := fun _ _ _ _ => False
def lowS (K : PySem.W.Frag) (W : WX) (t : TS3) : TS := fun D σ H => ∃ σ3 G D3, RepS K H σ3 σ ∧ RepH K G H ∧ t D3 σ3 G ∧ EndsLe K W H D3 D
theorem Post.from {α β : Type} {K : PySem.W.Frag} {R : Hp → α → β → Prop} {H H1 : Hp} {Q3 : α → G3 → Prop} {Q : β → Hp → Prop} (p : Post K R H Q3 Q) (k : Keep H H1) : Post K R H1 Q3 Q :=
  fun b H' a G' k' => p b H' a G' (k.trans k')
theorem Post.here {α β : Type} {K : PySem.W.Frag} {R : Hp → α → β → Prop} {H : Hp} {Q3 : α → G3 → Prop} {Q : β → Hp → Prop} {a : α} {b : β} {G : G3} (p : Post K R H Q3 Q) (h : RepH K G H) (r : R H a b) (q : Q3 a G) : Q b H := p b H a G (Keep.refl H) h r q
theorem EndsLe.from {K : PySem.W.Frag} {W : WX} {H H1 : Hp} {D3 : En3} {D : Ends} (p : EndsLe K W H D3 D) (k : Keep H H1) : EndsLe K W H1 D3 D :=
  ⟨fun a b c d k' => p.nx a b c d (k.trans k'), p.rt.from k, fun a b c d k' => p.bk a b c d (k.trans k'), fun a b c d k' => p.ct a b c d (k.trans k'), fun x y a b c d k' => p.ex x y a b c d (k.trans k')⟩
theorem _root_.L2.PE.imp {X : Cx} {e : Expr} {t t' : TE} (h : PE X e t) (i : ∀ σ H Q, t' σ H Q → t σ H Q) : PE X e t' := ⟨fun pins s σ H Q I q => h.run pins s σ H Q I (i σ H Q q)⟩
theorem _root_.L2.PT.imp {X : Cx} {e : Expr} {t t' : TT} (h : PT X e t) (i : ∀ σ H Q, t' σ H Q → t σ H Q) : PT X e t' := ⟨fun pins s σ H Q I q => h.run pins s σ H Q I (i σ H Q q)⟩
theorem _root_.L2.PW.imp {X : Cx} {e : Expr} {t t' : TT} (h : PW X e t) (i : ∀ σ H Q, t' σ H Q → t σ H Q) : PW X e t' := ⟨fun w pins s σ H Q I q => h.run w pins s σ H Q I (i σ H Q q)⟩
theorem _root_.L2.PA.imp {X : Cx} {e : List Expr} {t t' : TA} (h : PA X e t) (i : ∀ σ H Q, t' σ H Q → t σ H Q) : PA X e t' := ⟨fun p pins s σ H Q I q => h.run p pins s σ H Q I (i σ H Q q)⟩
theorem _root_.L2.PO.imp {X : Cx} {e : Option Expr} {t t' : TO} (h : PO X e t) (i : ∀ σ H Q, t' σ H Q → t σ H Q) : PO X e t' := ⟨fun pins s σ H Q I q => h.run pins s σ H Q I (i σ H Q q)⟩
theorem _root_.L2.PS.imp {X : Cx} {e : Stmt} {t t' : TS} (h : PS X e t) (i : ∀ D σ H, t' D σ H → t D σ H) : PS X e t' := ⟨fun pins s σ H D I q => h.run pins s σ H D I (i D σ H q)⟩
theorem _root_.L2.PSs.imp {X : Cx} {e : List Stmt} {t t' : TS} (h : PSs X e t) (i : ∀ D σ H, t' D σ H → t D σ H) : PSs X e t' := ⟨fun pins s σ H D I q => h.run pins s σ H D I (i D σ H q)⟩
end L3
end
section
set_option Elab.async false
set_option linter.all false
set_option maxRecDepth 100000
set_option maxHeartbeats 2000000
/-! L3: expressions. -/
namespace L3
open PySem L2
section
variable {X : Cx} {a b c e : Expr} {pos : Pos} {ta tb tc te : TE3} {tA tB' : TT3}

/-! ### names and constants -/
def v3 (i : Nat) : TE3 := fun σ G Q => match σ[i]? with
  | some (some w) => Q w G
  | _ => False
theorem e3v (i : Nat) {x : Str} {pos : Pos} (hN : X.N[i]? = some x := by rfl) (hv : Vis X.env.scope x := by first | exact Or.inl rfl | exact Or.inr (Or.inl rfl) | exact Or.inr (Or.inr rfl)) (hd : (x == ("__debug__" : Str)) = false := by decide)
    (hcd : (x == ("__classdict__" : Str)) = false := by decide) : PE X (.Name x pos) (lowE X.K (v3 i)) := (pe_var hN hv hd hcd).imp fun σ H Q h => by
  obtain ⟨σ3, G, Q3, hs, hh, ht, hq⟩ := h
  unfold v3 at ht
  split at ht
  · rename_i w e
    obtain ⟨v, e2, r⟩ := hs.2 _ _ e
    exact ⟨v, e2, hq.here hh r ht⟩
  · exact ht.elim
def c3 (w : U) : TE3 := fun _ G Q => Q w G
theorem e3c {v : V} {w : U} (h : PE X e (tC v)) (r : ∀ H, Rep X.K H w v) : PE X e (lowE X.K (c3 w)) := h.imp fun σ H Q h => by
  obtain ⟨σ3, G, Q3, hs, hh, ht, hq⟩ := h
  exact hq.here hh (r H) ht
theorem e3int {i j pos} : PE X (.Constant (.int i) j pos) (lowE X.K (c3 (.int i))) := e3c pe_int fun _ => .int i
theorem e3bl {i j pos} : PE X (.Constant (.bool i) j pos) (lowE X.K (c3 (.bl i))) := e3c pe_bl fun _ => .bl i
theorem e3non {j pos} : PE X (.Constant .none j pos) (lowE X.K (c3 .non)) := e3c pe_non fun _ => .non
theorem e3str {i j pos} : PE X (.Constant (.str i) j pos) (lowE X.K (c3 (.str i))) := e3c pe_str fun _ => .str i
theorem e3ty {x : Str} {n : String} {pos : Pos} (hg : Gl X x) (hm : X.mg x = none) (hv : bootBuiltins x = some (.type n)) (hn : x ≠ "__name__" := by decide) (hd : (x == ("__debug__" : Str)) = false := by decide) : PE X (.Name x pos) (lowE X.K (c3 (.ty n))) :=
  e3c (pe_bltn (v := .ty n) hg hm hv rfl hn hd) fun _ => .ty n
/-- a class, a def of the module as a value -/
theorem e3glob {x : Str} {C : Addr} {pos : Pos} (hg : Gl X x) (hm : X.mg x = some (.ref C)) (hd : (x == ("__debug__" : Str)) = false := by decide) : PE X (.Name x pos) (lowE X.K (c3 (.ref C))) :=
  e3c (pe_glob (v := .ref C) hg hm rfl hd) fun _ => .ref C

/-! ### operators by values -/
abbrev R3 := U → U → G3 → K3 → Prop
def lowR (K : PySem.W.Frag) (r : R3) : R2 := fun x y H Q => ∃ a b G Q3, Rep K H a x ∧ Rep K H b y ∧ RepH K G H ∧ r a b G Q3 ∧ Post K (Rep K) H Q3 Q
theorem OpR.imp {f : Value → Value → Sem Value} {r r' : R2} (h : OpR X f r) (i : ∀ x y H Q, r' x y H Q → r x y H Q) : OpR X f r' := fun pins s σ H x y v u Q I rx ry q => h pins s σ H x y v u Q I rx ry (i _ _ _ _ q)
def op3 (r : R3) (ta tb : TE3) : TE3 := fun σ G Q => ta σ G fun x G1 => tb σ G1 fun y G2 => r x y G2 Q
theorem op3_low {K : PySem.W.Frag} {r : R3} : ∀ σ H Q, lowE K (op3 r ta tb) σ H Q → tOp (lowR K r) (lowE K ta) (lowE K tb) σ H Q := fun σ H Q h => by
  obtain ⟨σ3, G, Q3, hs, hh, ht, hq⟩ := h
  refine ⟨σ3, G, _, hs, hh, ht, fun x H1 a G1 k1 hh1 ra q1 => ?_⟩
  refine ⟨σ3, G1, _, hs.keep k1, hh1, q1, fun y H2 b G2 k2 hh2 rb q2 => ?_⟩
  exact ⟨a, b, G2, Q3, ra.keep k2, rb, hh2, q2, hq.from (k1.trans k2)⟩
theorem e3op {op : Operator} {r : R3} (ho : OpR X (binaryOp op) (lowR X.K r)) (ha : PE X a (lowE X.K ta)) (hb : PE X b (lowE X.K tb)) : PE X (.BinOp a op b pos) (lowE X.K (op3 r ta tb)) := (pe_op ho ha hb).imp op3_low
theorem e3cmp {op : CmpOp} {r : R3} (ho : OpR X (compareOp op) (lowR X.K r)) (ha : PE X a (lowE X.K ta)) (hb : PE X b (lowE X.K tb)) (hm : behindInMarks op b = false := by first | exact nomark _ | rfl) : PE X (.Compare a [op] [b] pos) (lowE X.K (op3 r ta tb)) := (pe_cmpR ho ha hb hm).imp op3_low
/-- a value that is to be True or False, as a test -/
def te3 (t : TE3) : TT3 := fun σ G Q => t σ G fun x G1 => match x with
  | .bl b => Q b G1
  | _ => False
theorem te3_low {K : PySem.W.Frag} {t : TE3} : ∀ σ H Q, lowT K (te3 t) σ H Q → tTest (lowE K t) σ H Q := fun σ H Q h => by
  obtain ⟨σ3, G, Q3, hs, hh, ht, hq⟩ := h
  refine ⟨σ3, G, _, hs, hh, ht, fun x H1 a G1 k1 hh1 ra q1 => ?_⟩
  split at q1
  · cases ra
    exact ⟨_, rfl, hq _ _ _ _ k1 hh1 rfl q1⟩
  · exact q1.elim
theorem tTest_mono {t t' : TE} (h : ∀ σ H Q, t' σ H Q → t σ H Q) : ∀ σ H Q, tTest t' σ H Q → tTest t σ H Q := fun σ H Q q => h _ _ _ q
theorem t3cmp {op : CmpOp} {r : R3} (ho : OpR X (compareOp op) (lowR X.K r)) (ha : PE X a (lowE X.K ta)) (hb : PE X b (lowE X.K tb)) (hm : behindInMarks op b = false := by first | exact nomark _ | rfl) : PT X (.Compare a [op] [b] pos) (lowT X.K (te3 (op3 r ta tb))) :=
  (pt_cmpR ho ha hb hm).imp fun σ H Q h => tTest_mono op3_low _ _ _ (te3_low _ _ _ h)
theorem t3val {t : TE3} (h : PE X e (lowE X.K t)) (he : ∀ whole, isTrue e X.env whole = (do let v ← whole; standAt e.pos; holding [v] (truthy v)) := by intro _; rfl) : PT X e (lowT X.K (te3 t)) :=
  (pt_val h he).imp fun σ H Q h => te3_low _ _ _ h

def rI3 (C : Int → Int → Prop) (g : Int → Int → U) : R3 := fun x y G Q => match x, y with
  | .int i, .int j => C i j ∧ Q (g i j) G
  | _, _ => False
def rI03 (g : Int → Int → U) : R3 := fun x y G Q => match x, y with
  | .int i, .int j => Q (g i j) G
  | _, _ => False
theorem opI3 {f : Value → Value → Sem Value} {C : Int → Int → Prop} {g : Int → Int → V} {g3 : Int → Int → U} (h : OpR X f (rI C g)) (hg : ∀ H i j, Rep X.K H (g3 i j) (g i j)) : OpR X f (lowR X.K (rI3 C g3)) := OpR.imp h fun x y H Q q => by
  obtain ⟨a, b, G, Q3, ra, rb, hh, q, p⟩ := q
  unfold rI3 at q
  split at q
  · cases ra; cases rb
    exact ⟨_, _, rfl, rfl, q.1, p.here hh (hg H _ _) q.2⟩
  · exact q.elim
theorem opI03 {f : Value → Value → Sem Value} {g : Int → Int → V} {g3 : Int → Int → U} (h : OpR X f (rI0 g)) (hg : ∀ H i j, Rep X.K H (g3 i j) (g i j)) : OpR X f (lowR X.K (rI03 g3)) := OpR.imp h fun x y H Q q => by
  obtain ⟨a, b, G, Q3, ra, rb, hh, q, p⟩ := q
  unfold rI03 at q
  split at q
  · cases ra; cases rb
    exact ⟨_, _, rfl, rfl, p.here hh (hg H _ _) q⟩
  · exact q.elim
theorem o_add : OpR X (binaryOp .Add) (lowR X.K (rI03 fun i j => .int (i + j))) := opI03 op_add fun _ _ _ => .int _
theorem o_sub : OpR X (binaryOp .Sub) (lowR X.K (rI03 fun i j => .int (i - j))) := opI03 op_sub fun _ _ _ => .int _
theorem o_mul : OpR X (binaryOp .Mult) (lowR X.K (rI3 CMul fun i j => .int (i * j))) := opI3 op_mul fun _ _ _ => .int _
theorem o_fdiv : OpR X (binaryOp .FloorDiv) (lowR X.K (rI3 CDivN fun i j => .int (i.fdiv j))) := opI3 op_fdivN fun _ _ _ => .int _
theorem o_mod : OpR X (binaryOp .Mod) (lowR X.K (rI3 (fun _ j => j ≠ 0) fun i j => .int (i.fmod j))) := opI3 op_modN fun _ _ _ => .int _
theorem o_pow : OpR X (binaryOp .Pow) (lowR X.K (rI3 CPow fun i j => .int (i ^ j.toNat))) := opI3 op_pow fun _ _ _ => .int _
theorem o_shl : OpR X (binaryOp .LShift) (lowR X.K (rI3 CPow fun i j => .int (i * 2 ^ j.toNat))) := opI3 op_shl fun _ _ _ => .int _
theorem o_lt : OpR X (compareOp .Lt) (lowR X.K (rI03 fun i j => .bl (decide (i < j)))) := opI03 op_lt fun _ _ _ => .bl _
theorem o_le : OpR X (compareOp .LtE) (lowR X.K (rI03 fun i j => .bl (decide (i ≤ j)))) := opI03 op_le fun _ _ _ => .bl _
theorem o_gt : OpR X (compareOp .Gt) (lowR X.K (rI03 fun i j => .bl (decide (j < i)))) := opI03 op_gt fun _ _ _ => .bl _
theorem o_ge : OpR X (compareOp .GtE) (lowR X.K (rI03 fun i j => .bl (decide (j ≤ i)))) := opI03 op_ge fun _ _ _ => .bl _
def rI1 (g : Int → U) : U → G3 → K3 → Prop := fun x G Q => match x with
  | .int i => Q (g i) G
  | _ => False

/-! ### data: nested tuples of numbers, texts, truth values, None -/
mutual
def pd : U → PyData
  | .non => .none
  | .bl b => .bool b
  | .int i => .int i
  | .str x => .str x
  | .tup xs => .tuple (pdL xs)
  | .wtup xs => .tuple (pdL xs)
  | .lit xs => .list (pdL xs)
  | .ty _ => .none
  | .ref _ => .none
def pdL : List U → List PyData
  | [] => []
  | x :: xs => pd x :: pdL xs
end
mutual
def noref : U → Bool
  | .non => true
  | .bl _ => true
  | .int _ => true
  | .str _ => true
  | .tup xs => norefL xs
  | .wtup xs => norefL xs
  | .lit xs => norefL xs
  | .ty _ => false
  | .ref _ => false
def norefL : List U → Bool
  | [] => true
  | x :: xs => noref x && norefL xs
end
theorem pdL_map : ∀ xs : List U, pdL xs = xs.map pd
  | [] => rfl
  | x :: xs => by rw [pdL, List.map_cons, pdL_map xs]
theorem norefL_all : ∀ xs : List U, norefL xs = xs.all noref
  | [] => rfl
  | x :: xs => by rw [norefL, List.all_cons, norefL_all xs]
/-- may be compared -/
def dat (x : U) : Bool := noref x && SeqAt.shaped (pd x)
theorem Rep.dp {K : PySem.W.Frag} {H : Hp} {w : U} {v : V} (r : Rep K H w v) : noref w = true → Dp K H v (pd w) :=
  Rep.rec (motive_1 := fun w v _ => noref w = true → Dp K H v (pd w)) (motive_2 := fun ws vs _ => norefL ws = true → DpAll K H vs (pdL ws))
    (fun _ => .non) (fun b _ => .bl b) (fun i _ => .int i) (fun x _ => .str x) (fun n h => by cases h) (fun a h => by cases h)
    (fun h _ ih n => .tup (SqT.of h) (ih n)) (fun h _ ih n => .tup h (ih n)) (fun h _ ih n => .lst (LitAt.sq h) (ih n))
    (fun _ => .nil) (fun _ _ ih1 ih2 n => by
      rw [norefL, Bool.and_eq_true] at n
      exact .cons (ih1 n.1) (ih2 n.2)) r
theorem RepL.dp {K : PySem.W.Frag} {H : Hp} : ∀ {ws : List U} {vs : List V}, RepL K H ws vs → norefL ws = true → DpAll K H vs (pdL ws)
  | _, _, .nil, _ => .nil
  | _, _, .cons a b, n => by
    rw [norefL, Bool.and_eq_true] at n
    exact .cons (a.dp n.1) (RepL.dp b n.2)
/-- x == y of data -/
def eq3 (x y : U) : Bool := PyData.eqv (pd x) (pd y)
def rEq3 (neg : Bool) : R3 := fun x y G Q => dat x = true ∧ dat y = true ∧ Q (.bl (if neg then !eq3 x y else eq3 x y)) G
theorem o_eq (hu : X.A.units + 64 < cLine) : OpR X (compareOp .Eq) (lowR X.K (rEq3 false)) := OpR.imp (op_eqD hu) fun x y H Q q => by
  obtain ⟨a, b, G, Q3, ra, rb, hh, ⟨h1, h2, q⟩, p⟩ := q
  unfold dat at h1 h2
  rw [Bool.and_eq_true] at h1 h2
  exact ⟨_, _, ra.dp h1.1, rb.dp h2.1, h1.2, h2.2, p.here hh (.bl _) q⟩
theorem o_ne (hu : X.A.units + 64 < cLine) : OpR X (compareOp .NotEq) (lowR X.K (rEq3 true)) := OpR.imp (op_neD hu) fun x y H Q q => by
  obtain ⟨a, b, G, Q3, ra, rb, hh, ⟨h1, h2, q⟩, p⟩ := q
  unfold dat at h1 h2
  rw [Bool.and_eq_true] at h1 h2
  exact ⟨_, _, ra.dp h1.1, rb.dp h2.1, h1.2, h2.2, p.here hh (.bl _) q⟩
/-- two lists of data compared -/
def rNeL3 (neg : Bool) : R3 := fun x y G Q => match x, y with
  | .ref a, .ref b => ∃ xs ys, G a = some (.lst xs) ∧ G b = some (.lst ys) ∧ dat (.lit xs) = true ∧ dat (.lit ys) = true ∧ Q (.bl (if neg then !eq3 (.lit xs) (.lit ys) else eq3 (.lit xs) (.lit ys))) G
  | _, _ => False
theorem list_dp {K : PySem.W.Frag} {G : G3} {H : Hp} {a : Addr} {xs : List U} (hh : RepH K G H) (h : G a = some (.lst xs)) (d : noref (.lit xs) = true) : Dp K H (.ref a) (pd (.lit xs)) := by
  obtain ⟨vs, e, r⟩ := hh a _ h
  exact .lst (SqL.of e) (r.dp d)
theorem o_eqL (hu : X.A.units + 64 < cLine) : OpR X (compareOp .Eq) (lowR X.K (rNeL3 false)) := OpR.imp (op_eqD hu) fun x y H Q q => by
  obtain ⟨a, b, G, Q3, ra, rb, hh, q, p⟩ := q
  unfold rNeL3 at q
  split at q
  · obtain ⟨xs, ys, h1, h2, d1, d2, q⟩ := q
    cases ra; cases rb
    unfold dat at d1 d2
    rw [Bool.and_eq_true] at d1 d2
    exact ⟨_, _, list_dp hh h1 d1.1, list_dp hh h2 d2.1, d1.2, d2.2, p.here hh (.bl _) q⟩
  · exact q.elim
theorem o_neL (hu : X.A.units + 64 < cLine) : OpR X (compareOp .NotEq) (lowR X.K (rNeL3 true)) := OpR.imp (op_neD hu) fun x y H Q q => by
  obtain ⟨a, b, G, Q3, ra, rb, hh, q, p⟩ := q
  unfold rNeL3 at q
  split at q
  · obtain ⟨xs, ys, h1, h2, d1, d2, q⟩ := q
    cases ra; cases rb
    unfold dat at d1 d2
    rw [Bool.and_eq_true] at d1 d2
    exact ⟨_, _, list_dp hh h1 d1.1, list_dp hh h2 d2.1, d1.2, d2.2, p.here hh (.bl _) q⟩
  · exact q.elim
/-- x in a list of data -/
def rIn3 (neg : Bool) : R3 := fun x y G Q => match y with
  | .ref a => ∃ xs, G a = some (.lst xs) ∧ dat x = true ∧ dat (.lit xs) = true ∧ Q (.bl (if neg then !(xs.any fun z => eq3 z x) else xs.any fun z => eq3 z x)) G
  | _ => False
theorem any_pd (x : PyData) : ∀ xs : List U, ((pdL xs).any fun z => PyData.eqv z x) = xs.any fun z => PyData.eqv (pd z) x
  | [] => rfl
  | y :: ys => by rw [pdL, List.any_cons, List.any_cons, any_pd x ys]
theorem o_in (hu : X.A.units + 65 < cLine) : OpR X (compareOp .In) (lowR X.K (rIn3 false)) := OpR.imp (op_inD hu) fun x y H Q q => by
  obtain ⟨a, b, G, Q3, ra, rb, hh, q, p⟩ := q
  unfold rIn3 at q
  split at q
  · obtain ⟨xs, h1, d1, d2, q⟩ := q
    cases rb
    unfold dat at d1 d2
    rw [Bool.and_eq_true] at d1 d2
    refine ⟨_, _, ra.dp d1.1, list_dp hh h1 d2.1, d1.2, d2.2, p.here hh (.bl _) ?_⟩
    rw [any_pd]
    exact q
  · exact q.elim
theorem o_notin (hu : X.A.units + 65 < cLine) : OpR X (compareOp .NotIn) (lowR X.K (rIn3 true)) := OpR.imp (op_notInD hu) fun x y H Q q => by
  obtain ⟨a, b, G, Q3, ra, rb, hh, q, p⟩ := q
  unfold rIn3 at q
  split at q
  · obtain ⟨xs, h1, d1, d2, q⟩ := q
    cases rb
    unfold dat at d1 d2
    rw [Bool.and_eq_true] at d1 d2
    refine ⟨_, _, ra.dp d1.1, list_dp hh h1 d2.1, d1.2, d2.2, p.here hh (.bl _) ?_⟩
    rw [any_pd]
    exact q
  · exact q.elim
/-- x is None -/
def isN : U → Bool
  | .non => true
  | _ => false
def rIsN3 (neg : Bool) : R3 := fun x y G Q => match y with
  | .non => Q (.bl (if neg then !isN x else isN x)) G
  | _ => False
theorem isN_eq {K : PySem.W.Frag} {H : Hp} {w : U} {v : V} (r : Rep K H w v) : decide (v = .non) = isN w := by
  cases r <;> simp [isN]
theorem o_isN : OpR X (compareOp .Is) (lowR X.K (rIsN3 false)) := OpR.imp op_isN fun x y H Q q => by
  obtain ⟨a, b, G, Q3, ra, rb, hh, q, p⟩ := q
  unfold rIsN3 at q
  split at q
  · cases rb
    exact ⟨rfl, p.here hh (by rw [isN_eq ra]; exact .bl _) q⟩
  · exact q.elim
theorem o_notN : OpR X (compareOp .IsNot) (lowR X.K (rIsN3 true)) := OpR.imp op_notN fun x y H Q q => by
  obtain ⟨a, b, G, Q3, ra, rb, hh, q, p⟩ := q
  unfold rIsN3 at q
  split at q
  · cases rb
    exact ⟨rfl, p.here hh (by rw [isN_eq ra]; exact .bl _) q⟩
  · exact q.elim

/-! ### and, or, not -/
def and3 (t u : TT3) : TT3 := fun σ G Q => t σ G fun c G1 => if c = true then u σ G1 Q else Q false G1
def or3 (t u : TT3) : TT3 := fun σ G Q => t σ G fun c G1 => if c = true then Q true G1 else u σ G1 Q
def not3 (t : TT3) : TT3 := fun σ G Q => t σ G fun c G1 => Q (!c) G1
theorem w3and1 (ha : PT X a (lowT X.K tA)) : PW X (.BoolOp .And [a] pos) (lowT X.K tA) := pw_and1 ha
theorem w3or1 (ha : PT X a (lowT X.K tA)) : PW X (.BoolOp .Or [a] pos) (lowT X.K tA) := pw_or1 ha
theorem w3and {rest : List Expr} (ha : PT X a (lowT X.K tA)) (hb : PW X (.BoolOp .And (b :: rest) pos) (lowT X.K tB')) : PW X (.BoolOp .And (a :: b :: rest) pos) (lowT X.K (and3 tA tB')) := (pw_and ha hb).imp fun σ H Q h => by
  obtain ⟨σ3, G, Q3, hs, hh, ht, hq⟩ := h
  refine ⟨σ3, G, _, hs, hh, ht, fun d H1 d' G1 k1 hh1 e q1 => ?_⟩
  obtain rfl : d' = d := e
  cases d' with
  | true => exact ⟨σ3, G1, _, hs.keep k1, hh1, q1, hq.from k1⟩
  | false => exact hq _ _ _ _ k1 hh1 rfl q1
theorem w3or {rest : List Expr} (ha : PT X a (lowT X.K tA)) (hb : PW X (.BoolOp .Or (b :: rest) pos) (lowT X.K tB')) : PW X (.BoolOp .Or (a :: b :: rest) pos) (lowT X.K (or3 tA tB')) := (pw_or ha hb).imp fun σ H Q h => by
  obtain ⟨σ3, G, Q3, hs, hh, ht, hq⟩ := h
  refine ⟨σ3, G, _, hs, hh, ht, fun d H1 d' G1 k1 hh1 e q1 => ?_⟩
  obtain rfl : d' = d := e
  cases d' with
  | false => exact ⟨σ3, G1, _, hs.keep k1, hh1, q1, hq.from k1⟩
  | true => exact hq _ _ _ _ k1 hh1 rfl q1
theorem t3not (ha : PT X a (lowT X.K tA)) : PT X (.UnaryOp .Not a pos) (lowT X.K (not3 tA)) := (pt_not ha).imp fun σ H Q h => by
  obtain ⟨σ3, G, Q3, hs, hh, ht, hq⟩ := h
  refine ⟨σ3, G, _, hs, hh, ht, fun d H1 d' G1 k1 hh1 e q1 => ?_⟩
  obtain rfl : d' = d := e
  exact hq _ _ _ _ k1 hh1 rfl q1
/-- as values: True and False -/
def andV3 (ta tb : TE3) : TE3 := fun σ G Q => ta σ G fun x G1 => match x with
  | .bl c => if c = true then tb σ G1 Q else Q (.bl false) G1
  | _ => False
def orV3 (ta tb : TE3) : TE3 := fun σ G Q => ta σ G fun x G1 => match x with
  | .bl c => if c = true then Q (.bl true) G1 else tb σ G1 Q
  | _ => False
def notV3 (ta : TE3) : TE3 := fun σ G Q => ta σ G fun x G1 => match x with
  | .bl c => Q (.bl (!c)) G1
  | _ => False
theorem e3one {op : BoolOp} (h : PE X a (lowE X.K ta)) : PE X (.BoolOp op [a] pos) (lowE X.K ta) := pe_one h
theorem e3and {rest : List Expr} (ha : PE X a (lowE X.K ta)) (hb : PE X (.BoolOp .And (b :: rest) pos) (lowE X.K tb)) : PE X (.BoolOp .And (a :: b :: rest) pos) (lowE X.K (andV3 ta tb)) := (pe_and ha hb).imp fun σ H Q h => by
  obtain ⟨σ3, G, Q3, hs, hh, ht, hq⟩ := h
  refine ⟨σ3, G, _, hs, hh, ht, fun d H1 d' G1 k1 hh1 e q1 => ?_⟩
  split at q1
  · rename_i c
    cases e
    refine ⟨c, rfl, ?_⟩
    cases c with
    | true => exact ⟨σ3, G1, _, hs.keep k1, hh1, q1, hq.from k1⟩
    | false => exact hq _ _ _ _ k1 hh1 (.bl _) q1
  · exact q1.elim
theorem e3or {rest : List Expr} (ha : PE X a (lowE X.K ta)) (hb : PE X (.BoolOp .Or (b :: rest) pos) (lowE X.K tb)) : PE X (.BoolOp .Or (a :: b :: rest) pos) (lowE X.K (orV3 ta tb)) := (pe_or ha hb).imp fun σ H Q h => by
  obtain ⟨σ3, G, Q3, hs, hh, ht, hq⟩ := h
  refine ⟨σ3, G, _, hs, hh, ht, fun d H1 d' G1 k1 hh1 e q1 => ?_⟩
  split at q1
  · rename_i c
    cases e
    refine ⟨c, rfl, ?_⟩
    cases c with
    | false => exact ⟨σ3, G1, _, hs.keep k1, hh1, q1, hq.from k1⟩
    | true => exact hq _ _ _ _ k1 hh1 (.bl _) q1
  · exact q1.elim
theorem e3not (ha : PE X a (lowE X.K ta)) : PE X (.UnaryOp .Not a pos) (lowE X.K (notV3 ta)) := (pe_not ha).imp fun σ H Q h => by
  obtain ⟨σ3, G, Q3, hs, hh, ht, hq⟩ := h
  refine ⟨σ3, G, _, hs, hh, ht, fun d H1 d' G1 k1 hh1 e q1 => ?_⟩
  split at q1
  · cases e
    exact ⟨_, rfl, hq _ _ _ _ k1 hh1 (.bl _) q1⟩
  · exact q1.elim
def if3 (t : TT3) (ta tb : TE3) : TE3 := fun σ G Q => t σ G fun c G1 => if c = true then ta σ G1 Q else tb σ G1 Q
theorem e3if (hc : PT X c (lowT X.K tA)) (ha : PE X a (lowE X.K ta)) (hb : PE X b (lowE X.K tb)) : PE X (.IfExp c a b pos) (lowE X.K (if3 tA ta tb)) := (pe_ifExp hc ha hb).imp fun σ H Q h => by
  obtain ⟨σ3, G, Q3, hs, hh, ht, hq⟩ := h
  refine ⟨σ3, G, _, hs, hh, ht, fun d H1 d' G1 k1 hh1 e q1 => ?_⟩
  obtain rfl : d' = d := e
  cases d' with
  | false => exact ⟨σ3, G1, _, hs.keep k1, hh1, q1, hq.from k1⟩
  | true => exact ⟨σ3, G1, _, hs.keep k1, hh1, q1, hq.from k1⟩
/-- truth -/
def truR (x : U) (G : G3) (Q : Bool → G3 → Prop) : Prop := match x with
  | .non => Q false G
  | .bl b => Q b G
  | .int i => Q (i != 0) G
  | .tup xs => Q (!xs.isEmpty) G
  | .ref a => ∃ xs, G a = some (.lst xs) ∧ Q (!xs.isEmpty) G
  | _ => False
def tru3 (t : TE3) : TT3 := fun σ G Q => t σ G fun x G1 => truR x G1 Q
theorem RepL.isEmpty {K : PySem.W.Frag} {H : Hp} {ws : List U} {vs : List V} (r : RepL K H ws vs) : ws.isEmpty = vs.isEmpty := by cases r <;> rfl
theorem t3tru (ha : PE X a (lowE X.K ta)) (he : ∀ whole, isTrue a X.env whole = (do let v ← whole; standAt a.pos; holding [v] (truthy v)) := by intro _; rfl) : PT X a (lowT X.K (tru3 ta)) := (pt_truth ha he).imp fun σ H Q h => by
  obtain ⟨σ3, G, Q3, hs, hh, ht, hq⟩ := h
  refine ⟨σ3, G, _, hs, hh, ht, fun d H1 d' G1 k1 hh1 e q1 => ?_⟩
  unfold truR at q1
  split at q1
  · cases e; exact ⟨_, rfl, hq _ _ _ _ k1 hh1 rfl q1⟩
  · cases e; exact ⟨_, rfl, hq _ _ _ _ k1 hh1 rfl q1⟩
  · cases e; exact ⟨_, rfl, hq _ _ _ _ k1 hh1 rfl q1⟩
  · cases e with
    | tup h r => exact ⟨_, .inr (.inl ⟨_, SqT.of h, rfl⟩), hq _ _ _ _ k1 hh1 (by rw [← r.isEmpty]) q1⟩
  · cases e
    obtain ⟨xs, h, q1⟩ := q1
    obtain ⟨vs, h2, r⟩ := hh1 _ _ h
    exact ⟨_, .inl ⟨_, SqL.of h2, rfl⟩, hq _ _ _ _ k1 hh1 (by rw [← r.isEmpty]) q1⟩
  · exact q1.elim

/-! ### items, slices, displays -/
theorem RepL.atI {K : PySem.W.Frag} {H : Hp} {ws : List U} {vs : List V} {i : Int} {w : U} (r : RepL K H ws vs) (h : L2.atI ws i = some w) : ∃ v, L2.atI vs i = some v ∧ Rep K H w v := by
  unfold L2.atI at h ⊢
  rw [← r.length]
  cases e : ixN ws.length i with
  | none => rw [e] at h; cases h
  | some j =>
    rw [e] at h
    exact r.get h
def rIx3 : R3 := fun x y G Q => match x, y with
  | .tup xs, .int i => ∃ v, L2.atI xs i = some v ∧ Q v G
  | .wtup xs, .int i => ∃ v, L2.atI xs i = some v ∧ Q v G
  | .lit xs, .int i => ∃ v, L2.atI xs i = some v ∧ Q v G
  | .ref a, .int i => ∃ xs v, G a = some (.lst xs) ∧ L2.atI xs i = some v ∧ Q v G
  | _, _ => False
theorem IxR.imp {r r' : R2} (h : IxR X r) (i : ∀ x y H Q, r' x y H Q → r x y H Q) : IxR X r' := fun va sl pins s σ H x y v u Q I rx ry q hp => h va sl pins s σ H x y v u Q I rx ry (i _ _ _ _ q) hp
theorem x_ix : IxR X (lowR X.K rIx3) := IxR.imp ix_seq fun x y H Q q => by
  obtain ⟨a, b, G, Q3, ra, rb, hh, q, p⟩ := q
  unfold rIx3 at q
  split at q
  · obtain ⟨v, h, q⟩ := q
    cases rb
    cases ra with
    | tup h1 r =>
      obtain ⟨v', h2, r2⟩ := r.atI h
      exact .inr (.inl ⟨_, _, _, _, rfl, rfl, SqT.of h1, h2, p.here hh r2 q⟩)
  · obtain ⟨v, h, q⟩ := q
    cases rb
    cases ra with
    | wtup h1 r =>
      obtain ⟨v', h2, r2⟩ := r.atI h
      exact .inr (.inl ⟨_, _, _, _, rfl, rfl, h1, h2, p.here hh r2 q⟩)
  · obtain ⟨v, h, q⟩ := q
    cases rb
    cases ra with
    | lit h1 r =>
      obtain ⟨v', h2, r2⟩ := r.atI h
      exact .inl ⟨_, _, _, _, rfl, rfl, h1.sq, h2, p.here hh r2 q⟩
  · obtain ⟨xs, v, hg, h, q⟩ := q
    cases rb
    cases ra
    obtain ⟨vs, e, r⟩ := hh _ _ hg
    obtain ⟨v', h2, r2⟩ := r.atI h
    exact .inl ⟨_, _, _, _, rfl, rfl, SqL.of e, h2, p.here hh r2 q⟩
  · exact q.elim
theorem e3ix (ha : PE X a (lowE X.K ta)) (hb : PE X b (lowE X.K tb)) (hs : PlainIx b := by exact fun _ _ => rfl) : PE X (.Subscript a b pos) (lowE X.K (op3 rIx3 ta tb)) := (pe_ix x_ix ha hb hs).imp op3_low

/-! ### argument lists, displays -/
def nil3 : TA3 := fun _ G Q => Q [] G
def cons3 (ta : TE3) (tr : TA3) : TA3 := fun σ G Q => ta σ G fun x G1 => tr σ G1 fun xs G2 => Q (x :: xs) G2
theorem a3nil : PA X [] (lowA X.K nil3) := pa_nil.imp fun σ H Q h => by
  obtain ⟨σ3, G, Q3, hs, hh, ht, hq⟩ := h
  exact hq.here hh .nil ht
theorem a3cons {es : List Expr} {t : TA3} (ha : PE X e (lowE X.K te)) (hr : PA X es (lowA X.K t)) (hs : starEach (e :: es) X.env = (false, eval e X.env) :: starEach es X.env := by rfl) : PA X (e :: es) (lowA X.K (cons3 te t)) := (pa_cons ha hr hs).imp fun σ H Q h => by
  obtain ⟨σ3, G, Q3, hs, hh, ht, hq⟩ := h
  refine ⟨σ3, G, _, hs, hh, ht, fun x H1 a G1 k1 hh1 ra q1 => ?_⟩
  refine ⟨σ3, G1, _, hs.keep k1, hh1, q1, fun y H2 b G2 k2 hh2 rb q2 => ?_⟩
  exact hq _ _ _ _ (k1.trans k2) hh2 (.cons (ra.keep k2) rb) q2
def tup3 (t : TA3) : TE3 := fun σ G Q => t σ G fun xs G1 => decide (xs.length ≤ 100000) = true ∧ Q (.tup xs) G1
def lst3 (t : TA3) : TE3 := fun σ G Q => t σ G fun xs G1 => decide (xs.length ≤ 100000) = true ∧ ∀ p, G1 p = none → Q (.ref p) (gup G1 p (.lst xs))
theorem sz {n : Nat} (h : decide (n ≤ 100000) = true) : n ≤ sizeLine := Nat.le_trans (of_decide_eq_true h) (by decide)
theorem e3tup {es : List Expr} {t : TA3} {x1} (h : PA X es (lowA X.K t)) : PE X (.Tuple es x1 pos) (lowE X.K (tup3 t)) := (pe_tup h).imp fun σ H Q h => by
  obtain ⟨σ3, G, Q3, hs, hh, ht, hq⟩ := h
  refine ⟨σ3, G, _, hs, hh, ht, fun vs H1 ws G1 k1 hh1 r q1 => ⟨by rw [← r.length]; exact sz q1.1, fun p hp => ?_⟩⟩
  exact hq _ _ _ _ (k1.trans (Keep.new hp)) (hh1.skip hp) (.tup upd_same (r.keep (Keep.new hp))) q1.2
theorem e3lst {es : List Expr} {t : TA3} (h : PA X es (lowA X.K t)) : PE X (.List es pos) (lowE X.K (lst3 t)) := (pe_lst h).imp fun σ H Q h => by
  obtain ⟨σ3, G, Q3, hs, hh, ht, hq⟩ := h
  refine ⟨σ3, G, _, hs, hh, ht, fun vs H1 ws G1 k1 hh1 r q1 => ⟨by rw [← r.length]; exact sz q1.1, fun p hp => ?_⟩⟩
  exact hq _ _ _ _ (k1.trans (Keep.new hp)) (hh1.new hp (obj_new hp r)) (.ref _) (q1.2 p (hh1.free hp))

/-! ### slices -/
def cut3 (xs : List U) (lo hi : Option Int) : List U := (xs.drop (HT.sIx xs.length 0 lo)).take (HT.sIx xs.length xs.length hi - HT.sIx xs.length 0 lo)
theorem RepL.cut {K : PySem.W.Frag} {H : Hp} {ws : List U} {vs : List V} (r : RepL K H ws vs) (lo hi : Option Int) : RepL K H (cut3 ws lo hi) (cutV vs lo hi) := by
  unfold cut3 cutV
  rw [r.length]
  exact (r.drop _).take _
def noPart3 : TO3 := fun _ G Q => Q none G
def part3 (t : TE3) : TO3 := fun σ G Q => t σ G fun x G1 => match x with
  | .int i => Q (some i) G1
  | _ => False
theorem o3none : PO X none (lowO X.K noPart3) := po_none.imp fun σ H Q h => by
  obtain ⟨σ3, G, Q3, hs, hh, ht, hq⟩ := h
  exact hq.here hh rfl ht
theorem o3some (h : PE X e (lowE X.K te)) : PO X (some e) (lowO X.K (part3 te)) := (po_some h).imp fun σ H Q h => by
  obtain ⟨σ3, G, Q3, hs, hh, ht, hq⟩ := h
  refine ⟨σ3, G, _, hs, hh, ht, fun x H1 a G1 k1 hh1 ra q1 => ?_⟩
  split at q1
  · cases ra
    exact ⟨_, rfl, hq _ _ _ _ k1 hh1 rfl q1⟩
  · exact q1.elim
def sl3 (te : TE3) (tl th : TO3) : TE3 := fun σ G Q => te σ G fun x G1 => tl σ G1 fun l G2 => th σ G2 fun u G3 => match x with
  | .tup xs => ¬ (HT.sIx xs.length 0 l = 0 ∧ HT.sIx xs.length xs.length u = xs.length) ∧ Q (.tup (cut3 xs l u)) G3
  | .lit xs => ∀ p, G3 p = none → Q (.ref p) (gup G3 p (.lst (cut3 xs l u)))
  | .ref a => ∃ xs, G3 a = some (.lst xs) ∧ ∀ p, G3 p = none → Q (.ref p) (gup G3 p (.lst (cut3 xs l u)))
  | _ => False
def rSl3 (K : PySem.W.Frag) : V → Option Int → Option Int → Hp → VK → Prop := fun x lo hi H Q => rSlL K x lo hi H Q ∨ rSlT K x lo hi H Q
theorem e3sl {lo hi : Option Expr} {tl th : TO3} {p2 : Pos} (he : PE X e (lowE X.K te)) (hl : PO X lo (lowO X.K tl)) (hu : PO X hi (lowO X.K th)) : PE X (.Subscript e (.Slice lo hi none p2) pos) (lowE X.K (sl3 te tl th)) :=
  (pe_slice (r := rSl3 X.K) (sl_list.or sl_tup) he hl hu).imp fun σ H Q h => by
  obtain ⟨σ3, G, Q3, hs, hh, ht, hq⟩ := h
  refine ⟨σ3, G, _, hs, hh, ht, fun x H1 a G1 k1 hh1 ra q1 => ?_⟩
  refine ⟨σ3, G1, _, hs.keep k1, hh1, q1, fun l H2 l' G2 k2 hh2 el q2 => ?_⟩
  refine ⟨σ3, G2, _, hs.keep (k1.trans k2), hh2, q2, fun u H3 u' G3 k3 hh3 eu q3 => ?_⟩
  obtain rfl : l' = l := el
  obtain rfl : u' = u := eu
  have kk := (k1.trans k2).trans k3
  have ra3 := ra.keep (k2.trans k3)
  split at q3
  · cases ra3 with
    | tup h r => exact .inr ⟨_, _, rfl, SqT.of h, by rw [← r.length]; exact q3.1, fun p hp => hq _ _ _ _ (kk.trans (Keep.new hp)) (hh3.skip hp) (.tup upd_same ((r.cut _ _).keep (Keep.new hp))) q3.2⟩
  · cases ra3 with
    | lit h r => exact .inl ⟨_, _, rfl, h.sq, fun p hp => hq _ _ _ _ (kk.trans (Keep.new hp)) (hh3.new hp (obj_new hp (r.cut _ _))) (.ref _) (q3 p (hh3.free hp))⟩
  · cases ra3
    obtain ⟨xs, hg, q3⟩ := q3
    obtain ⟨vs, e, r⟩ := hh3 _ _ hg
    exact .inl ⟨_, _, rfl, SqL.of e, fun p hp => hq _ _ _ _ (kk.trans (Keep.new hp)) (hh3.new hp (obj_new hp (r.cut _ _))) (.ref _) (q3 p (hh3.free hp))⟩
  · exact q3.elim
end
end L3
end
section
set_option Elab.async false
set_option linter.all false
set_option maxRecDepth 100000
set_option maxHeartbeats 2000000
/-! L3: calls of built-ins, methods, statements, loops, comprehensions, own defs. -/
namespace L3
open PySem L2
section
variable {X : Cx} {a b c e : Expr} {pos : Pos} {ta tb tc te : TE3} {tA tB' : TT3}

/-! ### built-ins by name -/
abbrev C3 := List U → G3 → K3 → Prop
def lowC (K : PySem.W.Frag) (r : C3) : List V → Hp → VK → Prop := fun vs H Q => ∃ ws G Q3, RepL K H ws vs ∧ RepH K G H ∧ r ws G Q3 ∧ Post K (Rep K) H Q3 Q
theorem CallR.imp {f : Value} {r r' : List V → Hp → VK → Prop} (h : CallR X f r) (i : ∀ vs H Q, r' vs H Q → r vs H Q) : CallR X f r' := fun pins s σ H xs us Q I rx q => h pins s σ H xs us Q I rx (i _ _ _ q)
def cb3 (r : C3) (t : TA3) : TE3 := fun σ G Q => t σ G fun ws G1 => r ws G1 Q
theorem cb3_low {K : PySem.W.Frag} {r : C3} {t : TA3} : ∀ σ H Q, lowE K (cb3 r t) σ H Q → tCB (lowC K r) (lowA K t) σ H Q := fun σ H Q h => by
  obtain ⟨σ3, G, Q3, hs, hh, ht, hq⟩ := h
  exact ⟨σ3, G, _, hs, hh, ht, fun vs H1 ws G1 k1 hh1 r q1 => ⟨ws, G1, Q3, r, hh1, q1, hq.from k1⟩⟩
theorem e3B {x : Str} {id : String} {r : C3} {es : List Expr} {t : TA3} {p : Pos} (hc : CallR X (.builtin id) (lowC X.K r)) (hm : X.mg x = none) (ha : PA X (e :: es) (lowA X.K t)) (hg : Gl X x := by rfl) (hv : bootBuiltins x = some (.builtin id) := by decide +kernel) (hn : x ≠ "__name__" := by decide) (hdb : (x == ("__debug__" : Str)) = false := by decide)
    (he : starEach (e :: es) X.env = (false, eval e X.env) :: starEach es X.env := by rfl) (hpl : (backTo pos (starEach es X.env)).any (·.1) = false := by rfl) : PE X (.Call (.Name x p) (e :: es) [] pos) (lowE X.K (cb3 r t)) := (pe_callB hc hg hm hv ha hn hdb he hpl).imp cb3_low
theorem e3T {x : Str} {T : String} {r : C3} {es : List Expr} {t : TA3} {p : Pos} (hc : CallR X (.type T) (lowC X.K r)) (hm : X.mg x = none) (ha : PA X (e :: es) (lowA X.K t)) (hg : Gl X x := by rfl) (hv : bootBuiltins x = some (.type T) := by decide +kernel) (hn : x ≠ "__name__" := by decide) (hdb : (x == ("__debug__" : Str)) = false := by decide)
    (he : starEach (e :: es) X.env = (false, eval e X.env) :: starEach es X.env := by rfl) (hpl : (backTo pos (starEach es X.env)).any (·.1) = false := by rfl) : PE X (.Call (.Name x p) (e :: es) [] pos) (lowE X.K (cb3 r t)) := (pe_callTy hc hg hm hv ha hn hdb he hpl).imp cb3_low
theorem RepL.one {K : PySem.W.Frag} {H : Hp} {w : U} {vs : List V} (r : RepL K H [w] vs) : ∃ v, vs = [v] ∧ Rep K H w v := by
  cases r with
  | cons a b => cases b; exact ⟨_, rfl, a⟩
theorem RepL.two {K : PySem.W.Frag} {H : Hp} {w u : U} {vs : List V} (r : RepL K H [w, u] vs) : ∃ v x, vs = [v, x] ∧ Rep K H w v ∧ Rep K H u x := by
  cases r with
  | cons a b => cases b with
    | cons c d => cases d; exact ⟨_, _, rfl, a, c⟩
def kLen : C3 := fun ws G Q => match ws with
  | [.tup xs] => Q (.int xs.length) G
  | [.wtup xs] => Q (.int xs.length) G
  | [.lit xs] => Q (.int xs.length) G
  | [.str x] => decide (x.length ≤ 100000) = true ∧ Q (.int x.length) G
  | [.ref a] => (∃ xs, G a = some (.lst xs) ∧ Q (.int xs.length) G) ∨ (∃ kvs, G a = some (.dT kvs) ∧ Q (.int kvs.length) G)
  | _ => False
theorem RepK.length {K : PySem.W.Frag} {H : Hp} {κ : Type} {us : List (κ × U)} {vs : List (κ × V)} (r : RepK K H us vs) : us.length = vs.length := Paired.length r
theorem k_len : CallR X (.builtin "len") (lowC X.K kLen) := CallR.imp (call_len.or call_len_dT) fun vs H Q h => by
  obtain ⟨ws, G, Q3, r, hh, q, p⟩ := h
  unfold kLen at q
  split at q
  · obtain ⟨v, rfl, r0⟩ := r.one
    have r := r0
    cases r with
    | tup h1 r1 => exact .inl ⟨_, _, rfl, .inr ⟨_, SqT.of h1, r1.length⟩, p.here hh (.int _) q⟩
  · obtain ⟨v, rfl, r0⟩ := r.one
    have r := r0
    cases r with
    | wtup h1 r1 => exact .inl ⟨_, _, rfl, .inr ⟨_, h1, r1.length⟩, p.here hh (.int _) q⟩
  · obtain ⟨v, rfl, r0⟩ := r.one
    have r := r0
    cases r with
    | lit h1 r1 => exact .inl ⟨_, _, rfl, .inl ⟨_, h1.sq, r1.length⟩, p.here hh (.int _) q⟩
  · obtain ⟨v, rfl, r0⟩ := r.one
    have r := r0
    cases r
    exact .inl ⟨_, _, rfl, ⟨sz q.1, rfl⟩, p.here hh (.int _) q.2⟩
  · obtain ⟨v, rfl, r0⟩ := r.one
    have r := r0
    cases r
    rcases q with ⟨xs, hg, q⟩ | ⟨kvs, hg, q⟩
    · obtain ⟨vs, h1, r1⟩ := hh _ _ hg
      exact .inl ⟨_, _, rfl, .inl ⟨_, SqL.of h1, r1.length⟩, p.here hh (.int _) q⟩
    · obtain ⟨vs, h1, r1⟩ := hh _ _ hg
      exact .inr ⟨_, _, rfl, h1, p.here hh (by rw [← RepK.length r1]; exact .int _) q⟩
  · exact q.elim
def kList : C3 := fun ws G Q => match ws with
  | [.tup xs] => ∀ p, G p = none → Q (.ref p) (gup G p (.lst xs))
  | [.wtup xs] => ∀ p, G p = none → Q (.ref p) (gup G p (.lst xs))
  | [.lit xs] => ∀ p, G p = none → Q (.ref p) (gup G p (.lst xs))
  | [.ref a] => ∃ xs, G a = some (.lst xs) ∧ ∀ p, G p = none → Q (.ref p) (gup G p (.lst xs))
  | _ => False
theorem k_list : CallR X (.type "list") (lowC X.K kList) := CallR.imp call_list_of fun vs H Q h => by
  obtain ⟨ws, G, Q3, r, hh, q, p⟩ := h
  unfold kList at q
  split at q
  · obtain ⟨v, rfl, r0⟩ := r.one
    have r := r0
    cases r with
    | tup h1 r1 => exact ⟨_, _, rfl, .inr (SqT.of h1), fun l hl => p _ _ _ _ (Keep.new hl) (hh.new hl (obj_new hl r1)) (.ref _) (q l (hh.free hl))⟩
  · obtain ⟨v, rfl, r0⟩ := r.one
    have r := r0
    cases r with
    | wtup h1 r1 => exact ⟨_, _, rfl, .inr h1, fun l hl => p _ _ _ _ (Keep.new hl) (hh.new hl (obj_new hl r1)) (.ref _) (q l (hh.free hl))⟩
  · obtain ⟨v, rfl, r0⟩ := r.one
    have r := r0
    cases r with
    | lit h1 r1 => exact ⟨_, _, rfl, .inl h1.sq, fun l hl => p _ _ _ _ (Keep.new hl) (hh.new hl (obj_new hl r1)) (.ref _) (q l (hh.free hl))⟩
  · obtain ⟨v, rfl, r0⟩ := r.one
    have r := r0
    cases r
    obtain ⟨xs, hg, q⟩ := q
    obtain ⟨vs, h1, r1⟩ := hh _ _ hg
    exact ⟨_, _, rfl, .inl (SqL.of h1), fun l hl => p _ _ _ _ (Keep.new hl) (hh.new hl (obj_new hl r1)) (.ref _) (q l (hh.free hl))⟩
  · exact q.elim
def kTup : C3 := fun ws G Q => match ws with
  | [.tup xs] => Q (.tup xs) G
  | [.wtup xs] => Q (.wtup xs) G
  | [.lit xs] => Q (.tup xs) G
  | [.ref a] => ∃ xs, G a = some (.lst xs) ∧ Q (.tup xs) G
  | _ => False
theorem k_tuple : CallR X (.type "tuple") (lowC X.K kTup) := CallR.imp call_tuple_of fun vs H Q h => by
  obtain ⟨ws, G, Q3, r, hh, q, p⟩ := h
  unfold kTup at q
  split at q
  · obtain ⟨v, rfl, r0⟩ := r.one
    have r := r0
    cases id r with
    | tup h1 r1 => exact ⟨_, _, rfl, .inr ⟨SqT.of h1, p.here hh r q⟩⟩
  · obtain ⟨v, rfl, r0⟩ := r.one
    have r := r0
    cases id r with
    | wtup h1 r1 => exact ⟨_, _, rfl, .inr ⟨h1, p.here hh r q⟩⟩
  · obtain ⟨v, rfl, r0⟩ := r.one
    have r := r0
    cases r with
    | lit h1 r1 => exact ⟨_, _, rfl, .inl ⟨h1.sq, fun l hl => p _ _ _ _ (Keep.new hl) (hh.skip hl) (.tup upd_same (r1.keep (Keep.new hl))) q⟩⟩
  · obtain ⟨v, rfl, r0⟩ := r.one
    have r := r0
    cases r
    obtain ⟨xs, hg, q⟩ := q
    obtain ⟨vs, h1, r1⟩ := hh _ _ hg
    exact ⟨_, _, rfl, .inl ⟨SqL.of h1, fun l hl => p _ _ _ _ (Keep.new hl) (hh.skip hl) (.tup upd_same (r1.keep (Keep.new hl))) q⟩⟩
  · exact q.elim
def kInt : C3 := fun ws G Q => match ws with
  | [.int i] => Q (.int i) G
  | [.bl b] => Q (.int (if b then 1 else 0)) G
  | _ => False
theorem k_int : CallR X (.type "int") (lowC X.K kInt) := CallR.imp call_int1 fun vs H Q h => by
  obtain ⟨ws, G, Q3, r, hh, q, p⟩ := h
  unfold kInt at q
  split at q
  · obtain ⟨v, rfl, r0⟩ := r.one
    have r := r0
    cases r
    exact .inl ⟨_, rfl, p.here hh (.int _) q⟩
  · obtain ⟨v, rfl, r0⟩ := r.one
    have r := r0
    cases r
    exact .inr ⟨_, rfl, p.here hh (.int _) q⟩
  · exact q.elim
def kAbs : C3 := fun ws G Q => match ws with
  | [.int i] => Q (.int (if i < 0 then -i else i)) G
  | _ => False
theorem k_abs : CallR X (.builtin "abs") (lowC X.K kAbs) := CallR.imp call_abs fun vs H Q h => by
  obtain ⟨ws, G, Q3, r, hh, q, p⟩ := h
  unfold kAbs at q
  split at q
  · obtain ⟨v, rfl, r0⟩ := r.one
    have r := r0
    cases r
    exact ⟨_, rfl, p.here hh (.int _) q⟩
  · exact q.elim
def kMin : C3 := fun ws G Q => match ws with
  | [.int i, .int j] => Q (.int (if j < i then j else i)) G
  | _ => False
theorem k_min (hc : X.calm = true) : CallR X (.builtin "min") (lowC X.K kMin) := CallR.imp (call_min2 hc) fun vs H Q h => by
  obtain ⟨ws, G, Q3, r, hh, q, p⟩ := h
  unfold kMin at q
  split at q
  · obtain ⟨v, x, rfl, r, r'⟩ := r.two
    cases r; cases r'
    exact ⟨_, _, rfl, p.here hh (.int _) q⟩
  · exact q.elim
def kSum : C3 := fun ws G Q => match ws with
  | [.ref a] => ∃ ns : List Int, G a = some (.lst (ns.map U.int)) ∧ Q (.int ns.sum) G
  | _ => False
theorem k_sum (hc : X.calm = true) : CallR X (.builtin "sum") (lowC X.K kSum) := CallR.imp (cr_sum hc) fun vs H Q h => by
  obtain ⟨ws, G, Q3, r, hh, q, p⟩ := h
  unfold kSum at q
  split at q
  · obtain ⟨v, rfl, r0⟩ := r.one
    have r := r0
    cases r
    obtain ⟨ns, hg, q⟩ := q
    obtain ⟨vs, h1, r1⟩ := hh _ _ hg
    rw [r1.of_ints] at h1
    exact ⟨_, ns, rfl, SqL.of h1, p.here hh (.int _) q⟩
  · exact q.elim
def kAll : C3 := fun ws G Q => match ws with
  | [.ref a] => ∃ ns : List Bool, G a = some (.lst (ns.map U.bl)) ∧ Q (.bl (ns.all id)) G
  | _ => False
theorem k_all (hc : X.calm = true) : CallR X (.builtin "all") (lowC X.K kAll) := CallR.imp (cr_all hc) fun vs H Q h => by
  obtain ⟨ws, G, Q3, r, hh, q, p⟩ := h
  unfold kAll at q
  split at q
  · obtain ⟨v, rfl, r0⟩ := r.one
    have r := r0
    cases r
    obtain ⟨ns, hg, q⟩ := q
    obtain ⟨vs, h1, r1⟩ := hh _ _ hg
    rw [r1.of_bls] at h1
    exact ⟨_, ns, rfl, SqL.of h1, p.here hh (.bl _) q⟩
  · exact q.elim
def kAny : C3 := fun ws G Q => match ws with
  | [.ref a] => ∃ ns : List Bool, G a = some (.lst (ns.map U.bl)) ∧ Q (.bl (ns.any id)) G
  | _ => False
theorem k_any (hc : X.calm = true) : CallR X (.builtin "any") (lowC X.K kAny) := CallR.imp (cr_any hc) fun vs H Q h => by
  obtain ⟨ws, G, Q3, r, hh, q, p⟩ := h
  unfold kAny at q
  split at q
  · obtain ⟨v, rfl, r0⟩ := r.one
    have r := r0
    cases r
    obtain ⟨ns, hg, q⟩ := q
    obtain ⟨vs, h1, r1⟩ := hh _ _ hg
    rw [r1.of_bls] at h1
    exact ⟨_, ns, rfl, SqL.of h1, p.here hh (.bl _) q⟩
  · exact q.elim
/-- isinstance(x, T), T a built-in type -/
def tyU : U → Option String
  | .non => some "NoneType"
  | .bl _ => some "bool"
  | .int _ => some "int"
  | .str _ => some "str"
  | .tup _ => some "tuple"
  | _ => none
def kIsi : C3 := fun ws G Q => match ws with
  | [x, .ty n] => ∃ t b, tyU x = some t ∧ kitB t n = some b ∧ Q (.bl b) G
  | _ => False
theorem k_isi : CallR X (.builtin "isinstance") (lowC X.K kIsi) := CallR.imp call_isi fun vs H Q h => by
  obtain ⟨ws, G, Q3, r, hh, q, p⟩ := h
  unfold kIsi at q
  split at q
  · obtain ⟨v, x, rfl, r0, r'⟩ := r.two
    have r := r0
    cases r'
    obtain ⟨t, b, ht, hb, q⟩ := q
    refine ⟨v, .ty _, .type t, .type _, b, rfl, .ty _, .base ?_, kit_ty hb, p.here hh (.bl _) q⟩
    cases r0 with
    | tup h1 r1 => cases ht; exact .tup h1
    | non => cases ht; exact .non
    | bl => cases ht; exact .bl _
    | int => cases ht; exact .int _
    | str => cases ht; exact .str _
    | ty => cases ht
    | ref => cases ht
    | wtup => cases ht
    | lit => cases ht
  · exact q.elim
/-- list(range(n)) -/
def lstRg3 (ta : TE3) : TE3 := fun σ G Q => ta σ G fun x G1 => match x with
  | .int n => decide (0 ≤ n ∧ n ≤ 100000) = true ∧ ∀ p, G1 p = none → Q (.ref p) (gup G1 p (.lst ((List.range n.toNat).map fun i => U.int (i : Nat))))
  | _ => False
theorem repL_rg {K : PySem.W.Frag} {H : Hp} (f : Nat → Int) : ∀ l : List Nat, RepL K H (l.map fun i => U.int (f i)) (l.map fun i => V.int (f i))
  | [] => .nil
  | x :: xs => .cons (.int _) (repL_rg f xs)
theorem e3listRg {p p2 pos2 : Pos} (hc : X.calm = true) (hm : X.mg "list" = none) (hm2 : X.mg "range" = none) (ha : PE X a (lowE X.K ta)) (hg : Gl X "list" := by rfl) (hg2 : Gl X "range" := by rfl) (na : starEach [a] X.env = (false, eval a X.env) :: starEach [] X.env := by rfl)
    (nb : starEach [.Call (.Name "range" p2) [a] [] pos2] X.env = (false, eval (.Call (.Name "range" p2) [a] [] pos2) X.env) :: starEach [] X.env := by rfl) : PE X (.Call (.Name "list" p) [.Call (.Name "range" p2) [a] [] pos2] [] pos) (lowE X.K (lstRg3 ta)) :=
  (pe_listRg hc hg hm (prg_1 hg2 hm2 ha na) nb).imp fun σ H Q h => by
  obtain ⟨σ3, G, Q3, hs, hh, ht, hq⟩ := h
  refine ⟨σ3, G, _, hs, hh, ht, fun x H1 w G1 k1 hh1 r q1 => ?_⟩
  split at q1
  · cases r
    rename_i n
    have hd := of_decide_eq_true q1.1
    refine ⟨n, rfl, RgOk.of_le (Int.le_refl 0) (by omega) (by omega) hd.1, fun q hq2 => hq _ _ _ _ (k1.trans (Keep.new hq2)) (hh1.new hq2 ?_) (.ref _) (q1.2 q (hh1.free hq2))⟩
    refine obj_new hq2 ?_
    unfold rgV
    have e0 : (n - 0).toNat = n.toNat := by rw [Int.sub_zero]
    rw [e0]
    have e1 : (fun i : Nat => V.int (0 + (i : Nat))) = fun i : Nat => V.int ((i : Nat) : Int) := by funext i; rw [Int.zero_add]
    rw [e1]
    exact repL_rg (fun i => ((i : Nat) : Int)) _
  · exact q1.elim

/-! ### methods of lists -/
def bmL (r : Addr → List U → G3 → K3 → Prop) (to : TE3) (t : TA3) : TE3 := fun σ G Q => to σ G fun x G1 => match x with
  | .ref l => (∃ xs, G1 l = some (.lst xs)) ∧ t σ G1 fun ws G2 => r l ws G2 Q
  | _ => False
def lowM (K : PySem.W.Frag) (r : Addr → List U → G3 → K3 → Prop) : V → List V → Hp → VK → Prop := fun x vs H Q => ∃ l ws G Q3, x = .ref l ∧ RepL K H ws vs ∧ RepH K G H ∧ r l ws G Q3 ∧ Post K (Rep K) H Q3 Q
theorem MtR.imp {id : String} {r r' : V → List V → Hp → VK → Prop} (h : MtR X id r) (i : ∀ x vs H Q, r' x vs H Q → r x vs H Q) : MtR X id r' := fun pins s σ H x xs v us Q I rx rs q => h pins s σ H x xs v us Q I rx rs (i _ _ _ _ q)
theorem e3bmL {o : Expr} {es : List Expr} {to : TE3} {t : TA3} {name : Str} {id : String} {apos cpos : Pos} {r : Addr → List U → G3 → K3 → Prop} (slot : Slot "list" name id) (hty : typeOf (.builtin id) = pure (.type "method_descriptor")) (hm : MtR X id (lowM X.K r)) (ho : PE X o (lowE X.K to)) (ha : PA X (e :: es) (lowA X.K t))
    (hbase : attributeBase o name X.env (eval o X.env) = eval o X.env := by rfl)
    (hfew : ((backTo cpos (starEach (e :: es) X.env)).all (fun x => !x.1) && (backToKw cpos (keywordEach [] X.env)).all (fun x => x.1.isSome)
      && decide ((e :: es).length + ([] : List Keyword).length + (if ([] : List Keyword).isEmpty then 0 else 1) < 30)) = true := by rfl)
    (hline : (apos.endLine == cpos.line) = true := by rfl) (hs : starEach (e :: es) X.env = (false, eval e X.env) :: starEach es X.env := by rfl) (hplain : (backTo cpos (starEach es X.env)).any (·.1) = false := by rfl) :
    PE X (.Call (.Attribute o name apos) (e :: es) [] cpos) (lowE X.K (bmL r to t)) := (pe_bm PySem.F.plainAttrs_list slot hty hm ho ha hbase hfew hline hs hplain).imp fun σ H Q h => by
  obtain ⟨σ3, G, Q3, hs, hh, ht, hq⟩ := h
  refine ⟨σ3, G, _, hs, hh, ht, fun x H1 w G1 k1 hh1 r q1 => ?_⟩
  split at q1
  · cases r
    obtain ⟨⟨xs, hg⟩, q1⟩ := q1
    obtain ⟨vs, h1, _⟩ := hh1 _ _ hg
    refine ⟨.inl ⟨rfl, vs, SqL.of h1⟩, σ3, G1, _, hs.keep k1, hh1, q1, fun ys H2 ws G2 k2 hh2 r2 q2 => ?_⟩
    exact ⟨_, ws, G2, Q3, rfl, r2, hh2, q2, hq.from (k1.trans k2)⟩
  · exact q1.elim
theorem e3bmL0 {o : Expr} {to : TE3} {name : Str} {id : String} {apos cpos : Pos} {r : Addr → List U → G3 → K3 → Prop} (slot : Slot "list" name id) (hty : typeOf (.builtin id) = pure (.type "method_descriptor")) (hm : MtR X id (lowM X.K r)) (ho : PE X o (lowE X.K to))
    (hbase : attributeBase o name X.env (eval o X.env) = eval o X.env := by rfl) (hline : (apos.endLine == cpos.line) = true := by rfl) : PE X (.Call (.Attribute o name apos) [] [] cpos) (lowE X.K (bmL r to nil3)) := (pe_bm0 PySem.F.plainAttrs_list slot hty hm ho hbase hline).imp fun σ H Q h => by
  obtain ⟨σ3, G, Q3, hs, hh, ht, hq⟩ := h
  refine ⟨σ3, G, _, hs, hh, ht, fun x H1 w G1 k1 hh1 r q1 => ?_⟩
  split at q1
  · cases r
    obtain ⟨⟨xs, hg⟩, q1⟩ := q1
    obtain ⟨vs, h1, _⟩ := hh1 _ _ hg
    exact ⟨.inl ⟨rfl, vs, SqL.of h1⟩, _, [], G1, Q3, rfl, .nil, hh1, q1, hq.from k1⟩
  · exact q1.elim
theorem RepL.dropLast {K : PySem.W.Frag} {H : Hp} {ws : List U} {vs : List V} (r : RepL K H ws vs) : RepL K H ws.dropLast vs.dropLast := by
  rw [List.dropLast_eq_take, List.dropLast_eq_take, r.length]
  exact r.take _
def mAppend (l : Addr) : List U → G3 → K3 → Prop := fun ws G Q => match ws with
  | [y] => ∃ xs, G l = some (.lst xs) ∧ decide (xs.length ≤ 99999) = true ∧ Q .non (gup G l (.lst (xs ++ [y])))
  | _ => False
theorem sl {n : Nat} (h : decide (n ≤ 99999) = true) : n < sizeLine := Nat.lt_of_le_of_lt (of_decide_eq_true h) (by decide)
theorem m_append : MtR X "list.append" (lowM X.K mAppend) := MtR.imp mt_append fun x vs H Q h => by
  obtain ⟨l, ws, G, Q3, rfl, r, hh, q, p⟩ := h
  unfold mAppend at q
  split at q
  · obtain ⟨v, rfl, r0⟩ := r.one
    have r := r0
    obtain ⟨xs, hg, hz, q⟩ := q
    obtain ⟨vs, h1, r1⟩ := hh _ _ hg
    exact ⟨l, vs, v, rfl, rfl, h1, by rw [← r1.length]; exact sl hz, p _ _ _ _ (Keep.mut h1 trivial) (hh.mut h1 trivial (obj_mut h1 trivial (r1.append (.cons r .nil)))) .non q⟩
  · exact q.elim
def mExtend (l : Addr) : List U → G3 → K3 → Prop := fun ws G Q => match ws with
  | [.ref b] => ∃ xs ys, G l = some (.lst xs) ∧ G b = some (.lst ys) ∧ decide (xs.length + ys.length ≤ 100000) = true ∧ Q .non (gup G l (.lst (xs ++ ys)))
  | _ => False
theorem m_extend : MtR X "list.extend" (lowM X.K mExtend) := MtR.imp mt_extend fun x vs H Q h => by
  obtain ⟨l, ws, G, Q3, rfl, r, hh, q, p⟩ := h
  unfold mExtend at q
  split at q
  · obtain ⟨v, rfl, r0⟩ := r.one
    have r := r0
    cases r
    obtain ⟨xs, ys, hg, hg2, hz, q⟩ := q
    obtain ⟨vs, h1, r1⟩ := hh _ _ hg
    obtain ⟨us, h2, r2⟩ := hh _ _ hg2
    exact ⟨l, _, vs, us, rfl, rfl, h1, h2, by rw [← r1.length, ← r2.length]; exact sz hz, p _ _ _ _ (Keep.mut h1 trivial) (hh.mut h1 trivial (obj_mut h1 trivial (r1.append r2))) .non q⟩
  · exact q.elim
/-- xs.pop(i), 0 <= i in bounds (or -1 ..) -/
def mPopAt (l : Addr) : List U → G3 → K3 → Prop := fun ws G Q => match ws with
  | [.int i] => ∃ xs k y, G l = some (.lst xs) ∧ decide (-100000 ≤ i ∧ i ≤ 100000) = true ∧ seqIndex? i xs.length = some k ∧ xs[k]? = some y ∧ Q y (gup G l (.lst (xs.eraseIdx k)))
  | _ => False
theorem m_popAt : MtR X "list.pop" (lowM X.K mPopAt) := MtR.imp mt_popAt fun x vs H Q h => by
  obtain ⟨l, ws, G, Q3, rfl, r, hh, q, p⟩ := h
  unfold mPopAt at q
  split at q
  · obtain ⟨v, rfl, r0⟩ := r.one
    have r := r0
    cases r
    rename_i i
    obtain ⟨xs, k, y, hg, hz, hk, hy, q⟩ := q
    have hz := of_decide_eq_true hz
    obtain ⟨vs, h1, r1⟩ := hh _ _ hg
    obtain ⟨v, hv, rv⟩ := r1.get hy
    exact ⟨l, vs, i, k, v, rfl, rfl, h1, by omega, by omega, by rw [← r1.length]; exact hk, hv, p _ _ _ _ (Keep.mut h1 trivial) (hh.mut h1 trivial (obj_mut h1 trivial (r1.eraseIdx k))) (rv.keep (Keep.mut h1 trivial)) q⟩
  · exact q.elim

/-! ### a + b of lists -/
def rCat3 : R3 := fun x y G Q => match x, y with
  | .ref a, .ref b => ∃ xs ys, G a = some (.lst xs) ∧ G b = some (.lst ys) ∧ decide (xs.length + ys.length ≤ 100000) = true ∧ ∀ p, G p = none → Q (.ref p) (gup G p (.lst (xs ++ ys)))
  | _, _ => False
theorem o_cat : OpR X (binaryOp .Add) (lowR X.K rCat3) := OpR.imp op_cat fun x y H Q q => by
  obtain ⟨a, b, G, Q3, ra, rb, hh, q, p⟩ := q
  unfold rCat3 at q
  split at q
  · cases ra; cases rb
    obtain ⟨xs, ys, hg, hg2, hz, q⟩ := q
    obtain ⟨vs, h1, r1⟩ := hh _ _ hg
    obtain ⟨us, h2, r2⟩ := hh _ _ hg2
    exact ⟨_, _, vs, us, rfl, rfl, h1, h2, by rw [← r1.length, ← r2.length]; exact sz hz, fun l hl => p _ _ _ _ (Keep.new hl) (hh.new hl (obj_new hl (r1.append r2))) (.ref _) (q l (hh.free hl))⟩
  · exact q.elim
/-- t + u of tuples, the left one not empty -/
def rCatT3 : R3 := fun x y G Q => match x, y with
  | .tup xs, .tup ys => xs ≠ [] ∧ decide (xs.length + ys.length ≤ 100000) = true ∧ Q (.tup (xs ++ ys)) G
  | _, _ => False

/-! ### statements -/
abbrev TG3 := U → S3 → G3 → (S3 → G3 → Prop) → Prop
abbrev TGs3 := List U → S3 → G3 → (S3 → G3 → Prop) → Prop
/-- vs: the slots that the target may write (none: any) -/
def Pres (vs : Option (List Nat)) (σ σ' : St) : Prop := match vs with
  | none => True
  | some vs => wipe σ' vs = wipe σ vs
theorem Pres.trans {vs : Option (List Nat)} {σ σ1 σ2 : St} (a : Pres vs σ σ1) (b : Pres vs σ1 σ2) : Pres vs σ σ2 := by
  cases vs with
  | none => trivial
  | some vs => exact Eq.trans b a
theorem Pres.refl {vs : Option (List Nat)} {σ : St} : Pres vs σ σ := by
  cases vs with
  | none => trivial
  | some vs => rfl
theorem wipe_set {i : Nat} {x : Option V} : ∀ {vs : List Nat} {σ : St}, i ∈ vs → wipe (σ.set i x) vs = wipe σ vs
  | [], _, h => by cases h
  | v :: vs, σ, h => by
    unfold wipe
    by_cases e : i ∈ vs
    · rw [wipe_set e]
    · have e2 : i = v := by
        rcases List.mem_cons.mp h with z | z
        · exact z
        · exact absurd z e
      subst e2
      have key : ∀ (ws : List Nat) (τ : St), i ∉ ws → wipe (τ.set i x) ws = (wipe τ ws).set i x := by
        intro ws
        induction ws with
        | nil => intro τ _; rfl
        | cons w ws ih =>
          intro τ hw
          unfold wipe
          rw [ih τ (fun z => hw (List.mem_cons_of_mem _ z)), List.set_comm _ _ (fun z => hw (by rw [z]; exact List.mem_cons_self))]
      rw [key vs σ e, List.set_set]
def GLow (K : PySem.W.Frag) (vs : Option (List Nat)) (g : TG) (g3 : TG3) : Prop := ∀ (w : U) (v : V) (σ3 : S3) (σ : St) (G : G3) (H : Hp) (Q3 : S3 → G3 → Prop) (Q : St → Hp → Prop), Rep K H w v → RepS K H σ3 σ → RepH K G H → g3 w σ3 G Q3 →
  (∀ σ' H' σ3' G', Keep H H' → Pres vs σ σ' → RepS K H' σ3' σ' → RepH K G' H' → Q3 σ3' G' → Q σ' H') → g v σ H Q
def GsLow (K : PySem.W.Frag) (vs : Option (List Nat)) (g : TGs) (g3 : TGs3) : Prop := ∀ (w : List U) (v : List V) (σ3 : S3) (σ : St) (G : G3) (H : Hp) (Q3 : S3 → G3 → Prop) (Q : St → Hp → Prop), RepL K H w v → RepS K H σ3 σ → RepH K G H → g3 w σ3 G Q3 →
  (∀ σ' H' σ3' G', Keep H H' → Pres vs σ σ' → RepS K H' σ3' σ' → RepH K G' H' → Q3 σ3' G' → Q σ' H') → g v σ H Q
def n3 (i : Nat) : TG3 := fun w σ G Q => Q (σ.set i (some w)) G
theorem gl_name {K : PySem.W.Frag} {i : Nat} : GLow K none (gName i) (n3 i) := fun w v σ3 σ G H Q3 Q r hs hh q k => k _ _ _ _ (Keep.refl H) trivial (hs.set i r) hh q
theorem gl_own {K : PySem.W.Frag} {i : Nat} {vs : List Nat} (h : i ∈ vs) : GLow K (some vs) (gName i) (n3 i) := fun w v σ3 σ G H Q3 Q r hs hh q k => k _ _ _ _ (Keep.refl H) (wipe_set h) (hs.set i r) hh q
def gnil3 : TGs3 := fun ws σ G Q => match ws with
  | [] => Q σ G
  | _ => False
def gcons3 (t : TG3) (u : TGs3) : TGs3 := fun ws σ G Q => match ws with
  | w :: r => t w σ G fun σ' G' => u r σ' G' Q
  | [] => False
theorem gl_nil {K : PySem.W.Frag} {vs : Option (List Nat)} : GsLow K vs gNil gnil3 := fun w v σ3 σ G H Q3 Q r hs hh q k => by
  unfold gnil3 at q
  split at q
  · cases r
    exact ⟨rfl, k _ _ _ _ (Keep.refl H) Pres.refl hs hh q⟩
  · exact q.elim
theorem gl_cons {K : PySem.W.Frag} {vs : Option (List Nat)} {t : TG} {u : TGs} {t3 : TG3} {u3 : TGs3} (ht : GLow K vs t t3) (hu : GsLow K vs u u3) : GsLow K vs (gCons t u) (gcons3 t3 u3) := fun w v σ3 σ G H Q3 Q r hs hh q k => by
  unfold gcons3 at q
  split at q
  · cases r with
    | cons r1 r2 =>
      refine ⟨_, _, rfl, ht _ _ _ _ _ _ _ _ r1 hs hh q fun σ' H' σ3' G' k1 p1 hs1 hh1 q1 => ?_⟩
      exact hu _ _ _ _ _ _ _ _ (r2.keep k1) hs1 hh1 q1 fun σ2 H2 σ32 G2 k2 p2 hs2 hh2 q2 => k _ _ _ _ (k1.trans k2) (p1.trans p2) hs2 hh2 q2
  · exact q.elim
def gtup3 (n : Nat) (t : TGs3) : TG3 := fun w σ G Q => match w with
  | .tup xs => decide (xs.length = n) = true ∧ t xs σ G Q
  | .wtup xs => decide (xs.length = n) = true ∧ t xs σ G Q
  | _ => False
theorem gl_tup {K : PySem.W.Frag} {vs : Option (List Nat)} {n : Nat} {t : TGs} {t3 : TGs3} (ht : GsLow K vs t t3) : GLow K vs (gTup K n t) (gtup3 n t3) := fun w v σ3 σ G H Q3 Q r hs hh q k => by
  unfold gtup3 at q
  split at q
  · cases r with
    | tup h1 r1 => exact ⟨_, _, rfl, SqT.of h1, by rw [← r1.length]; exact of_decide_eq_true q.1, ht _ _ _ _ _ _ _ _ r1 hs hh q.2 k⟩
  · cases r with
    | wtup h1 r1 => exact ⟨_, _, rfl, h1, by rw [← r1.length]; exact of_decide_eq_true q.1, ht _ _ _ _ _ _ _ _ r1 hs hh q.2 k⟩
  · exact q.elim
variable {W : WX} {st : Stmt} {rest : List Stmt} {t u : TS3}
def next3 : TS3 := fun D σ G => D.nx σ G
def seq3 (t u : TS3) : TS3 := fun D σ G => t { D with nx := u D } σ G
theorem ss_nil : PSs X [] (lowS X.K W next3) := pss_nil.imp fun D σ H h => by
  obtain ⟨σ3, G, D3, hs, hh, ht, hl⟩ := h
  exact hl.nx _ _ _ _ (Keep.refl H) hs hh ht
theorem ss_cons (h1 : PS X st (lowS X.K W t)) (h2 : PSs X rest (lowS X.K W u)) : PSs X (st :: rest) (lowS X.K W (seq3 t u)) := (pss_cons h1 h2).imp fun D σ H h => by
  obtain ⟨σ3, G, D3, hs, hh, ht, hl⟩ := h
  exact ⟨σ3, G, _, hs, hh, ht, ⟨fun σ' H' σ3' G' k hs' hh' q => ⟨σ3', G', D3, hs', hh', q, hl.from k⟩, hl.rt, hl.bk, hl.ct, hl.ex⟩⟩
theorem ss_one (h1 : PS X st (lowS X.K W t)) : PSs X [st] (lowS X.K W t) := pss_one h1
def brk3 : TS3 := fun D σ G => D.bk σ G
def cont3 : TS3 := fun D σ G => D.ct σ G
theorem s_pass : PS X (.Pass pos) (lowS X.K W next3) := ps_pass.imp fun D σ H h => by
  obtain ⟨σ3, G, D3, hs, hh, ht, hl⟩ := h
  exact hl.nx _ _ _ _ (Keep.refl H) hs hh ht
theorem s_break : PS X (.Break pos) (lowS X.K W brk3) := ps_break.imp fun D σ H h => by
  obtain ⟨σ3, G, D3, hs, hh, ht, hl⟩ := h
  exact hl.bk _ _ _ _ (Keep.refl H) hs hh ht
theorem s_continue : PS X (.Continue pos) (lowS X.K W cont3) := ps_continue.imp fun D σ H h => by
  obtain ⟨σ3, G, D3, hs, hh, ht, hl⟩ := h
  exact hl.ct _ _ _ _ (Keep.refl H) hs hh ht
def drop3 (te : TE3) : TS3 := fun D σ G => te σ G fun _ G1 => D.nx σ G1
theorem s_expr (he : PE X e (lowE X.K te)) (hs : swapsWith e none pos.line X.env = pure false := by rfl) : PS X (.Expr e pos) (lowS X.K W (drop3 te)) := (ps_expr he hs).imp fun D σ H h => by
  obtain ⟨σ3, G, D3, hs, hh, ht, hl⟩ := h
  exact ⟨σ3, G, _, hs, hh, ht, fun v H1 w G1 k1 hh1 r q1 => hl.nx _ _ _ _ k1 (hs.keep k1) hh1 q1⟩
def ret3 (te : TE3) : TS3 := fun D σ G => te σ G D.rt
theorem s_ret (he : PE X e (lowE X.K te)) : PS X (.Return (some e) pos) (lowS X.K W (ret3 te)) := (ps_ret he).imp fun D σ H h => by
  obtain ⟨σ3, G, D3, hs, hh, ht, hl⟩ := h
  exact ⟨σ3, G, _, hs, hh, ht, hl.rt⟩
def retN3 : TS3 := fun D _ G => D.rt .non G
theorem s_retN : PS X (.Return none pos) (lowS X.K W retN3) := ps_retN.imp fun D σ H h => by
  obtain ⟨σ3, G, D3, hs, hh, ht, hl⟩ := h
  exact hl.rt.here hh .non ht
def ifS3 (c : TT3) (t u : TS3) : TS3 := fun D σ G => c σ G fun b G1 => if b = true then t D σ G1 else u D σ G1
theorem s_if {a b : List Stmt} (hc : PT X c (lowT X.K tA)) (ha : PSs X a (lowS X.K W t)) (hb : PSs X b (lowS X.K W u)) : PS X (.If c a b pos) (lowS X.K W (ifS3 tA t u)) := (ps_if hc ha hb).imp fun D σ H h => by
  obtain ⟨σ3, G, D3, hs, hh, ht, hl⟩ := h
  refine ⟨σ3, G, _, hs, hh, ht, fun d H1 d' G1 k1 hh1 r q1 => ?_⟩
  obtain rfl : d' = d := r
  cases d' with
  | true => exact ⟨σ3, G1, D3, hs.keep k1, hh1, q1, hl.from k1⟩
  | false => exact ⟨σ3, G1, D3, hs.keep k1, hh1, q1, hl.from k1⟩
def never3 : TS3 := fun _ _ _ => False
theorem s_never : PS X st (lowS X.K W never3) := ps_never.imp fun D σ H h => by
  obtain ⟨σ3, G, D3, hs, hh, ht, hl⟩ := h
  exact ht
def asg3 (te : TE3) (g : TG3) : TS3 := fun D σ G => te σ G fun x G1 => g x σ G1 D.nx
theorem s_asg {tg : Expr} {g : TG} {g3 : TG3} (he : PE X e (lowE X.K te)) (hg : PG X tg g) (hl : GLow X.K none g g3) (hs : swapsWithSole [tg] e pos.line X.env = pure false := by rfl) (hw : swappedStores [tg] e X.env = pure none := by rfl)
    (h1 : (assignEach [tg] X.env).map (·.2) = [assign tg X.env] := by rfl) : PS X (.Assign [tg] e pos) (lowS X.K W (asg3 te g3)) := (ps_asg he hg hs hw h1).imp fun D σ H h => by
  obtain ⟨σ3, G, D3, hs, hh, ht, hle⟩ := h
  refine ⟨σ3, G, _, hs, hh, ht, fun v H1 w G1 k1 hh1 r q1 => ?_⟩
  exact hl _ _ _ _ _ _ _ _ r (hs.keep k1) hh1 q1 fun σ' H' σ3' G' k2 _ hs2 hh2 q2 => hle.nx _ _ _ _ (k1.trans k2) hs2 hh2 q2
theorem s_set {i : Nat} {x : Str} {pos' : Pos} (hN : X.N.Nodup) (he : PE X e (lowE X.K te)) (hi : X.N[i]? = some x := by rfl) (hx : Loc X.env.scope x := by first | exact Or.inl rfl | exact Or.inr rfl) (hs : swapsWith e (some (.Name x pos')) pos.line X.env = pure false := by rfl) (hf : X.fn x = true ∨ X.env.scope.names.lookup x = some .local := by first | exact .inl rfl | exact .inr rfl | assumption) :
    PS X (.Assign [.Name x pos'] e pos) (lowS X.K W (asg3 te (n3 i))) := (ps_set hN hi hx he hs hf).imp fun D σ H h => by
  obtain ⟨σ3, G, D3, hs, hh, ht, hle⟩ := h
  exact ⟨σ3, G, _, hs, hh, ht, fun v H1 w G1 k1 hh1 r q1 => hle.nx _ _ _ _ k1 ((hs.keep k1).set i r) hh1 q1⟩
/-- xs[i] = e -/
def setL3 (to ti tv : TE3) : TS3 := fun D σ G => tv σ G fun v G1 => to σ G1 fun o G2 => ti σ G2 fun i G3 => match o, i with
  | .ref l, .int k => ∃ xs j, G3 l = some (.lst xs) ∧ ixN xs.length k = some j ∧ D.nx σ (gup G3 l (.lst (xs.set j v)))
  | _, _ => False
theorem s_setL {o i : Expr} {to ti : TE3} {pos' : Pos} (ho : PE X o (lowE X.K to)) (hi : PE X i (lowE X.K ti)) (hv : PE X e (lowE X.K te))
    (ha : ∀ v, assign (.Subscript o i pos') X.env v = (do
      let ov ← holding [v] (eval o X.env)
      let iv ← holding [v, ov] (eval i X.env)
      standAt pos'
      holding [v, ov, iv] (setItem ov iv v)
      release [v, ov, iv] []) := by intro _; rfl) (hs : swapsWithSole [.Subscript o i pos'] e pos.line X.env = pure false := by rfl) (hw : swappedStores [.Subscript o i pos'] e X.env = pure none := by rfl)
    (h1 : (assignEach [.Subscript o i pos'] X.env).map (·.2) = [assign (.Subscript o i pos') X.env] := by rfl) : PS X (.Assign [.Subscript o i pos'] e pos) (lowS X.K W (setL3 to ti te)) :=
  (ps_asg hv (pg_sub ho hi set_list ha) hs hw h1).imp fun D σ H h => by
  obtain ⟨σ3, G, D3, hs, hh, ht, hle⟩ := h
  refine ⟨σ3, G, _, hs, hh, ht, fun v H1 w G1 k1 hh1 r q1 => ?_⟩
  refine ⟨σ3, G1, _, hs.keep k1, hh1, q1, fun x H2 w2 G2 k2 hh2 r2 q2 => ?_⟩
  refine ⟨σ3, G2, _, hs.keep (k1.trans k2), hh2, q2, fun y H3 w3 G3 k3 hh3 r3 q3 => ?_⟩
  split at q3
  · cases r2; cases r3
    obtain ⟨xs, j, hg, hj, q3⟩ := q3
    obtain ⟨vs, e1, rl⟩ := hh3 _ _ hg
    have k4 := Keep.mut (o := .lst (vs.set j v)) e1 trivial
    exact ⟨_, vs, _, j, rfl, rfl, e1, by rw [← rl.length]; exact hj, hle.nx _ _ _ _ (((k1.trans k2).trans k3).trans k4) (hs.keep (((k1.trans k2).trans k3).trans k4)) (hh3.mut e1 trivial (obj_mut e1 trivial (RepL.set (r.keep (k2.trans k3)) j rl))) q3⟩
  · exact q3.elim
/-- x += e of ints -/
def aug3 (i : Nat) (te : TE3) (f : Int → Int → Int) : TS3 := fun D σ G => match σ[i]? with
  | some (some (.int x)) => te σ G fun y G1 => match y with
    | .int j => D.nx (σ.set i (some (.int (f x j)))) G1
    | _ => False
  | _ => False
theorem s_aug {i : Nat} {x : Str} {pos' : Pos} {op : Operator} {f : Int → Int → Int} (hN : X.N.Nodup) (ho : PIp X op (ipI f)) (he : PE X e (lowE X.K te)) (hi : X.N[i]? = some x := by rfl) (hx : Loc X.env.scope x := by first | exact Or.inl rfl | exact Or.inr rfl) (hf : X.fn x = true ∨ X.env.scope.names.lookup x = some .local := by first | exact .inl rfl | exact .inr rfl | assumption) :
    PS X (.AugAssign (.Name x pos') op e pos) (lowS X.K W (aug3 i te f)) := (ps_aug hN hi hx he ho hf).imp fun D σ H h => by
  obtain ⟨σ3, G, D3, hs, hh, ht, hle⟩ := h
  unfold aug3 at ht
  split at ht
  · rename_i x0 e0
    obtain ⟨v, e1, r⟩ := hs.2 _ _ e0
    cases r
    refine ⟨_, e1, σ3, G, _, hs, hh, ht, fun v H1 w G1 k1 hh1 r q1 => ?_⟩
    split at q1
    · cases r
      exact ⟨_, _, rfl, rfl, hle.nx _ _ _ _ k1 ((hs.keep k1).set i (.int _)) hh1 q1⟩
    · exact q1.elim
  · exact ht.elim
end
end L3
end
section
set_option Elab.async false
set_option linter.all false
set_option maxRecDepth 100000
set_option maxHeartbeats 2000000
/-! L3: dicts, loops, comprehensions, own defs. -/
namespace L3
open PySem L2

/-! ### keys -/
def kU : Key → U
  | .inl i => .int i
  | .inr x => .str x
/-- the key that a tuple of ints and texts is -/
def keyOf : U → Option Key
  | .int i => some (.inl i)
  | .str x => some (.inr x)
  | _ => none
def keysOf : List U → Option (List Key)
  | [] => some []
  | x :: xs => match keyOf x, keysOf xs with
    | some k, some ks => some (k :: ks)
    | _, _ => none
def tkey : U → Option (List Key)
  | .tup xs => keysOf xs
  | _ => none
theorem rep_key {K : PySem.W.Frag} {H : Hp} {w : U} {v : V} {k : Key} (r : Rep K H w v) (h : keyOf w = some k) : v = kV k := by
  cases r <;> simp [keyOf] at h <;> subst h <;> rfl
theorem rep_keys {K : PySem.W.Frag} {H : Hp} : ∀ {ws : List U} {vs : List V} {ks : List Key}, RepL K H ws vs → keysOf ws = some ks → vs = ks.map kV
  | _, _, _, .nil, h => by
    simp [keysOf] at h
    subst h
    rfl
  | _, _, _, .cons (w := w) (ws := ws) r t, h => by
    unfold keysOf at h
    cases e1 : keyOf w with
    | none => rw [e1] at h; cases h
    | some k =>
      cases e2 : keysOf ws with
      | none => rw [e1, e2] at h; cases h
      | some ks =>
        rw [e1, e2] at h
        cases h
        rw [rep_key r e1, rep_keys t e2]
        rfl
theorem keyOf_kU (k : Key) : keyOf (kU k) = some k := by cases k <;> rfl
theorem keysOf_kU : ∀ ks : List Key, keysOf (ks.map kU) = some ks
  | [] => rfl
  | k :: ks => by
    rw [List.map_cons]
    unfold keysOf
    rw [keyOf_kU, keysOf_kU ks]
theorem repL_keys {K : PySem.W.Frag} {H : Hp} : ∀ ks : List Key, RepL K H (ks.map kU) (ks.map kV)
  | [] => .nil
  | .inl i :: ks => .cons (.int i) (repL_keys ks)
  | .inr x :: ks => .cons (.str x) (repL_keys ks)

section
variable {κ : Type} [DecidableEq κ]
def look (kvs : List (κ × U)) (k : κ) : Option U := (kvs.find? fun kv => decide (kv.1 = k)).map (·.2)
def put (kvs : List (κ × U)) (k : κ) (v : U) : List (κ × U) := if (look kvs k).isSome then kvs.map fun kv => if kv.1 = k then (kv.1, v) else kv else kvs ++ [(k, v)]
theorem look_nil {k : κ} : look ([] : List (κ × U)) k = none := rfl
theorem look_pos {p : κ × U} {r : List (κ × U)} {k : κ} (e : p.1 = k) : look (p :: r) k = some p.2 := by simp [look, List.find?_cons, e]
theorem look_neg {p : κ × U} {r : List (κ × U)} {k : κ} (e : ¬ p.1 = k) : look (p :: r) k = look r k := by simp [look, List.find?_cons, e]
theorem look_rep {K : PySem.W.Frag} {H : Hp} {kvs : List (κ × U)} {vs : List (κ × V)} (r : RepK K H kvs vs) (k : κ) : (look kvs k = none ∧ valV vs k = none) ∨ ∃ w v, look kvs k = some w ∧ valV vs k = some v ∧ Rep K H w v := by
  induction r with
  | nil => exact .inl ⟨rfl, rfl⟩
  | @cons p q ps qs h t ih =>
    obtain ⟨h1, h2⟩ := h
    by_cases e : p.1 = k
    · exact .inr ⟨p.2, q.2, look_pos e, valV_pos (h1.symm.trans e), h2⟩
    · rw [look_neg e, valV_neg fun z => e (h1.trans z)]
      exact ih
theorem put_rep {K : PySem.W.Frag} {H : Hp} {kvs : List (κ × U)} {vs : List (κ × V)} (r : RepK K H kvs vs) (k : κ) {w : U} {v : V} (q : Rep K H w v) : RepK K H (put kvs k w) (putK vs k v) := by
  have e : (vs.any fun kv => decide (kv.1 = k)) = (look kvs k).isSome := by
    rw [valV_any]
    rcases look_rep r k with ⟨h1, h2⟩ | ⟨a, b, h1, h2, _⟩
    · rw [h1, h2] <;> rfl
    · rw [h1, h2] <;> rfl
  unfold put putK
  rw [e]
  by_cases c : (look kvs k).isSome = true
  · rw [if_pos c, if_pos c]
    clear e c
    induction r with
    | nil => exact .nil
    | @cons p p' ps qs h t ih =>
      rw [List.map_cons, List.map_cons]
      refine .cons ?_ ih
      obtain ⟨h1, h2⟩ := h
      by_cases z : p.1 = k
      · rw [if_pos z, if_pos (h1.symm.trans z)]
        exact ⟨h1, q⟩
      · rw [if_neg z, if_neg fun y => z (h1.trans y)]
        exact ⟨h1, h2⟩
  · rw [if_neg c, if_neg c]
    exact Paired.snoc r ⟨rfl, q⟩
theorem look_put (kvs : List (κ × U)) (k j : κ) (y : U) : look (put kvs k y) j = if j = k then some y else look kvs j := by
  unfold put
  by_cases c : (look kvs k).isSome = true
  · rw [if_pos c]
    induction kvs with
    | nil => cases c
    | cons p r ih =>
      rw [List.map_cons]
      by_cases e : p.1 = k
      · rw [if_pos e]
        by_cases z : j = k
        · rw [if_pos z, look_pos (show (p.1, y).1 = j from e.trans z.symm)]
        · rw [if_neg z, look_neg (show ¬ (p.1, y).1 = j from fun q => z (q.symm.trans e)), look_neg (show ¬ p.1 = j from fun q => z (q.symm.trans e))]
          by_cases c2 : (look r k).isSome = true
          · rw [ih c2, if_neg z]
          · have key : ∀ l : List (κ × U), (look l k).isSome = false → look (l.map fun kv => if kv.1 = k then (kv.1, y) else kv) j = look l j := by
              intro l
              induction l with
              | nil => intro _; rfl
              | cons p2 r2 ih2 =>
                intro h2
                by_cases e2 : p2.1 = k
                · rw [look_pos e2] at h2; cases h2
                · rw [look_neg e2] at h2
                  rw [List.map_cons, if_neg e2]
                  by_cases e3 : p2.1 = j
                  · rw [look_pos e3, look_pos e3]
                  · rw [look_neg e3, look_neg e3, ih2 h2]
            exact key r (by simpa using c2)
      · rw [if_neg e]
        rw [look_neg e] at c
        by_cases z : p.1 = j
        · rw [look_pos z, look_pos z, if_neg fun q => e (z.trans q)]
        · rw [look_neg z, look_neg z, ih c]
  · rw [if_neg c]
    induction kvs with
    | nil =>
      show look [(k, y)] j = _
      by_cases z : j = k
      · rw [if_pos z, look_pos (show (k, y).1 = j from z.symm)]
      · rw [if_neg z, look_neg (show ¬ (k, y).1 = j from fun q => z q.symm)]
    | cons p r ih =>
      have e : ¬ p.1 = k := fun z => by rw [look_pos z] at c; exact c rfl
      rw [look_neg e] at c
      rw [List.cons_append]
      by_cases z : p.1 = j
      · rw [look_pos z, look_pos z, if_neg fun q => e (z.trans q)]
      · rw [look_neg z, look_neg z, ih c]
theorem length_put (kvs : List (κ × U)) (k : κ) (y : U) : (put kvs k y).length ≤ kvs.length + 1 := by
  unfold put
  split
  · rw [List.length_map]; omega
  · rw [List.length_append]; exact Nat.le_refl _
theorem put_new {kvs : List (κ × U)} {k : κ} (y : U) (h : look kvs k = none) : put kvs k y = kvs ++ [(k, y)] := by
  unfold put
  rw [h]
  rfl
end

section
variable {X : Cx} {a b c e : Expr} {pos : Pos} {ta tb tc te : TE3} {tA tB' : TT3} {W : WX}
/-- what a dict holds at a key; locked or not -/
def DLook (G : G3) (d : Addr) (y : U) (r : Option U) : Prop :=
  (∃ kvs k, (G d = some (.dT kvs) ∨ ∃ o vs, G d = some (.ldT o vs kvs)) ∧ tkey y = some k ∧ r = look kvs k) ∨ (∃ kvs k, (G d = some (.dK kvs) ∨ ∃ o vs, G d = some (.ldK o vs kvs)) ∧ keyOf y = some k ∧ r = look kvs k)
theorem dlook_low {K : PySem.W.Frag} {G : G3} {H : Hp} {d : Addr} {y : U} {v : V} {r : Option U} (hh : RepH K G H) (ry : Rep K H y v) (h : DLook G d y r) : ∃ o, DGet H d v o ∧ ((r = none ∧ o = none) ∨ ∃ w x, r = some w ∧ o = some x ∧ Rep K H w x) := by
  rcases h with ⟨kvs, k, hg, hk, rfl⟩ | ⟨kvs, k, hg, hk, rfl⟩
  · cases ry with
    | tup h1 rl =>
      have e := rep_keys rl hk
      subst e
      rcases hg with hg | ⟨o, vs, hg⟩
      · obtain ⟨vs, h2, rk⟩ := hh _ _ hg
        exact ⟨_, .inr ⟨vs, k, _, .inl h2, rfl, h1, rfl⟩, look_rep rk k⟩
      · obtain ⟨h2, rk⟩ := hh _ _ hg
        exact ⟨_, .inr ⟨vs, k, _, .inr ⟨o, h2⟩, rfl, h1, rfl⟩, look_rep rk k⟩
    | _ => cases hk
  · have e := rep_key ry hk
    subst e
    rcases hg with hg | ⟨o, vs, hg⟩
    · obtain ⟨vs, h2, rk⟩ := hh _ _ hg
      exact ⟨_, .inl ⟨vs, k, .inl h2, rfl, rfl⟩, look_rep rk k⟩
    · obtain ⟨h2, rk⟩ := hh _ _ hg
      exact ⟨_, .inl ⟨vs, k, .inr ⟨o, h2⟩, rfl, rfl⟩, look_rep rk k⟩
def dget3 (td ty : TE3) : TE3 := fun σ G Q => td σ G fun x G1 => ty σ G1 fun y G2 => match x with
  | .ref d => ∃ v, DLook G2 d y (some v) ∧ Q v G2
  | _ => False
theorem e3dget {o i : Expr} {td ty : TE3} (hu : X.A.units + 1 < cLine) (ho : PE X o (lowE X.K td)) (hi : PE X i (lowE X.K ty)) (hs : NoSl i := by exact fun _ _ => rfl) : PE X (.Subscript o i pos) (lowE X.K (dget3 td ty)) := (pe_dget hu ho hi hs).imp fun σ H Q h => by
  obtain ⟨σ3, G, Q3, hs, hh, ht, hq⟩ := h
  refine ⟨σ3, G, _, hs, hh, ht, fun x H1 w G1 k1 hh1 r q1 => ?_⟩
  refine ⟨σ3, G1, _, hs.keep k1, hh1, q1, fun y H2 u G2 k2 hh2 r2 q2 => ?_⟩
  split at q2
  · cases r
    obtain ⟨v, hl, q2⟩ := q2
    obtain ⟨o, hd, ho⟩ := dlook_low hh2 r2 hl
    rcases ho with ⟨z, _⟩ | ⟨w, x, e1, e2, rw⟩
    · cases z
    · cases e1
      subst e2
      exact ⟨_, x, rfl, hd, hq _ _ _ _ (k1.trans k2) hh2 rw q2⟩
  · exact q2.elim
def din3 (neg : Bool) (ty td : TE3) : TE3 := fun σ G Q => ty σ G fun y G1 => td σ G1 fun x G2 => match x with
  | .ref d => ∃ r, DLook G2 d y r ∧ Q (.bl (if neg then !r.isSome else r.isSome)) G2
  | _ => False
theorem din_low {K : PySem.W.Frag} {ty td : TE3} : ∀ σ H Q, lowE K (din3 false ty td) σ H Q → tDIn (lowE K ty) (lowE K td) σ H Q := fun σ H Q h => by
  obtain ⟨σ3, G, Q3, hs, hh, ht, hq⟩ := h
  refine ⟨σ3, G, _, hs, hh, ht, fun x H1 w G1 k1 hh1 r q1 => ?_⟩
  refine ⟨σ3, G1, _, hs.keep k1, hh1, q1, fun y H2 u G2 k2 hh2 r2 q2 => ?_⟩
  split at q2
  · cases r2
    obtain ⟨v, hl, q2⟩ := q2
    obtain ⟨o, hd, ho⟩ := dlook_low hh2 (r.keep k2) hl
    refine ⟨_, o, rfl, hd, ?_⟩
    have e : v.isSome = o.isSome := by
      rcases ho with ⟨e1, e2⟩ | ⟨w, x, e1, e2, _⟩ <;> rw [e1, e2] <;> rfl
    rw [← e]
    exact hq _ _ _ _ (k1.trans k2) hh2 (.bl _) q2
  · exact q2.elim
theorem dnotin_low {K : PySem.W.Frag} {ty td : TE3} : ∀ σ H Q, lowE K (din3 true ty td) σ H Q → tDNotIn (lowE K ty) (lowE K td) σ H Q := fun σ H Q h => by
  obtain ⟨σ3, G, Q3, hs, hh, ht, hq⟩ := h
  refine ⟨σ3, G, _, hs, hh, ht, fun x H1 w G1 k1 hh1 r q1 => ?_⟩
  refine ⟨σ3, G1, _, hs.keep k1, hh1, q1, fun y H2 u G2 k2 hh2 r2 q2 => ?_⟩
  split at q2
  · cases r2
    obtain ⟨v, hl, q2⟩ := q2
    obtain ⟨o, hd, ho⟩ := dlook_low hh2 (r.keep k2) hl
    refine ⟨_, o, rfl, hd, ?_⟩
    have e : v.isSome = o.isSome := by
      rcases ho with ⟨e1, e2⟩ | ⟨w, x, e1, e2, _⟩ <;> rw [e1, e2] <;> rfl
    rw [← e]
    exact hq _ _ _ _ (k1.trans k2) hh2 (.bl _) q2
  · exact q2.elim
theorem e3din {i o : Expr} {ty td : TE3} (hu : X.A.units + 1 < cLine) (hi : PE X i (lowE X.K ty)) (ho : PE X o (lowE X.K td)) (h1 : behindInMarks .In o = false := by rfl) : PE X (.Compare i [.In] [o] pos) (lowE X.K (din3 false ty td)) := (pe_cmp (pc_din hu hi ho) h1).imp din_low
theorem e3dnotin {i o : Expr} {ty td : TE3} (hu : X.A.units + 1 < cLine) (hi : PE X i (lowE X.K ty)) (ho : PE X o (lowE X.K td)) (h1 : behindInMarks .NotIn o = false := by rfl) : PE X (.Compare i [.NotIn] [o] pos) (lowE X.K (din3 true ty td)) := (pe_cmp (pc_dnotin hu hi ho) h1).imp dnotin_low
theorem tB_mono {t t' : TE} (h : ∀ σ H Q, t' σ H Q → t σ H Q) : ∀ σ H Q, tB t' σ H Q → tB t σ H Q := fun σ H Q q => h _ _ _ q
theorem t3din {i o : Expr} {ty td : TE3} (hu : X.A.units + 1 < cLine) (hi : PE X i (lowE X.K ty)) (ho : PE X o (lowE X.K td)) (h1 : behindInMarks .In o = false := by rfl) : PT X (.Compare i [.In] [o] pos) (lowT X.K (te3 (din3 false ty td))) :=
  (pt_cmp (pc_din hu hi ho) h1).imp fun σ H Q h => tB_mono din_low _ _ _ (te3_low _ _ _ h)
theorem t3dnotin {i o : Expr} {ty td : TE3} (hu : X.A.units + 1 < cLine) (hi : PE X i (lowE X.K ty)) (ho : PE X o (lowE X.K td)) (h1 : behindInMarks .NotIn o = false := by rfl) : PT X (.Compare i [.NotIn] [o] pos) (lowT X.K (te3 (din3 true ty td))) :=
  (pt_cmp (pc_dnotin hu hi ho) h1).imp fun σ H Q h => tB_mono dnotin_low _ _ _ (te3_low _ _ _ h)
/-- d.get(k, x) -/
def dget23 (td ty tx : TE3) : TE3 := fun σ G Q => td σ G fun x G1 => match x with
  | .ref d => ((∃ kvs, G1 d = some (.dT kvs)) ∨ ∃ kvs, G1 d = some (.dK kvs)) ∧ ty σ G1 fun y G2 => tx σ G2 fun z G3 => ∃ r, DLook G3 d y r ∧ Q (r.getD z) G3
  | _ => False
theorem e3dget2 {o e f : Expr} {td ty tx : TE3} {apos cpos : Pos} (hu : X.A.units + 1 < cLine) (ho : PE X o (lowE X.K td)) (he : PE X e (lowE X.K ty)) (hf : PE X f (lowE X.K tx)) (m : M2 X o "get" apos e f cpos) : PE X (.Call (.Attribute o "get" apos) [e, f] [] cpos) (lowE X.K (dget23 td ty tx)) :=
  (pe_dget2 hu ho he hf m).imp fun σ H Q h => by
  obtain ⟨σ3, G, Q3, hs, hh, ht, hq⟩ := h
  refine ⟨σ3, G, _, hs, hh, ht, fun x H1 w G1 k1 hh1 r q1 => ?_⟩
  split at q1
  · cases r
    obtain ⟨hd, q1⟩ := q1
    refine ⟨_, rfl, ?_, ?_⟩
    · rcases hd with ⟨kvs, hd⟩ | ⟨kvs, hd⟩
      · obtain ⟨vs, h2, _⟩ := hh1 _ _ hd
        exact .inr ⟨vs, .inl h2⟩
      · obtain ⟨vs, h2, _⟩ := hh1 _ _ hd
        exact .inl ⟨vs, .inl h2⟩
    · refine ⟨σ3, G1, _, hs.keep k1, hh1, q1, fun y H2 u G2 k2 hh2 r2 q2 => ?_⟩
      refine ⟨σ3, G2, _, hs.keep (k1.trans k2), hh2, q2, fun z H3 u3 G3 k3 hh3 r3 q3 => ?_⟩
      obtain ⟨rr, hl, q3⟩ := q3
      obtain ⟨o, hd, ho⟩ := dlook_low hh3 (r2.keep k3) hl
      refine ⟨o, hd, ?_⟩
      rcases ho with ⟨e1, e2⟩ | ⟨w, x, e1, e2, rx⟩
      · subst e1 e2
        exact hq _ _ _ _ ((k1.trans k2).trans k3) hh3 r3 q3
      · subst e1 e2
        exact hq _ _ _ _ ((k1.trans k2).trans k3) hh3 rx q3
  · exact q1.elim
/-- {} whose keys will be tuples -/
def dnewT3 : TE3 := fun _ G Q => ∀ p, G p = none → Q (.ref p) (gup G p (.dT []))
theorem e3dnewT : PE X (.Dict [] [] pos) (lowE X.K dnewT3) := pe_dnewT.imp fun σ H Q h => by
  obtain ⟨σ3, G, Q3, hs, hh, ht, hq⟩ := h
  exact fun p hp => hq _ _ _ _ (Keep.new hp) (hh.new hp (g := .dT []) ⟨[], upd_same, .nil⟩) (.ref _) (ht p (hh.free hp))
def dnewK3 : TE3 := fun _ G Q => ∀ p, G p = none → Q (.ref p) (gup G p (.dK []))
theorem e3dnewK : PE X (.Dict [] [] pos) (lowE X.K dnewK3) := pe_dnewK.imp fun σ H Q h => by
  obtain ⟨σ3, G, Q3, hs, hh, ht, hq⟩ := h
  exact fun p hp => hq _ _ _ _ (Keep.new hp) (hh.new hp (g := .dK []) ⟨[], upd_same, .nil⟩) (.ref _) (ht p (hh.free hp))
/-- d[k] = v, tuple keys -/
def dput3 (td ty tv : TE3) : TS3 := fun D σ G => tv σ G fun v G1 => td σ G1 fun x G2 => ty σ G2 fun y G3 => match x with
  | .ref d => ∃ kvs k, G3 d = some (.dT kvs) ∧ tkey y = some k ∧ decide (kvs.length ≤ 99999) = true ∧ D.nx σ (gup G3 d (.dT (put kvs k v)))
  | _ => False
theorem obj_dT {K : PySem.W.Frag} {H : Hp} {p : Addr} {u : HO} {ws : List (List Key × U)} {vs : List (List Key × V)} (h : H p = some u) (s : Soft u) (r : RepK K H ws vs) : RepO K (upd H p (.dT vs)) p (.dT ws) := ⟨vs, upd_same, RepK.keep (Keep.mut h s) r⟩
theorem s_dput {o i value : Expr} {td ty tv : TE3} {pos' : Pos} (hu : X.A.units + 1 < cLine) (ho : PE X o (lowE X.K td)) (hi : PE X i (lowE X.K ty)) (hv : PE X value (lowE X.K tv)) (hs : swapsWith value (some (.Subscript o i pos')) pos.line X.env = pure false := by rfl) :
    PS X (.Assign [.Subscript o i pos'] value pos) (lowS X.K W (dput3 td ty tv)) := (ps_dput hu ho hi hv hs).imp fun D σ H h => by
  obtain ⟨σ3, G, D3, hs, hh, ht, hle⟩ := h
  refine ⟨σ3, G, _, hs, hh, ht, fun v H1 w G1 k1 hh1 r q1 => ?_⟩
  refine ⟨σ3, G1, _, hs.keep k1, hh1, q1, fun x H2 w2 G2 k2 hh2 r2 q2 => ?_⟩
  refine ⟨σ3, G2, _, hs.keep (k1.trans k2), hh2, q2, fun y H3 w3 G3 k3 hh3 r3 q3 => ?_⟩
  split at q3
  · cases r2
    obtain ⟨kvs, k, hg, hk, hz, q3⟩ := q3
    cases r3 with
    | tup h1 rl =>
      have e := rep_keys rl hk
      subst e
      obtain ⟨vs, h2, rk⟩ := hh3 _ _ hg
      have k4 := Keep.mut (o := .dT (putK vs k v)) h2 trivial
      have kk := ((k1.trans k2).trans k3).trans k4
      refine ⟨_, _, rfl, DPut.t h2 h1 (by rw [← RepK.length rk]; exact sl hz), hle.nx _ _ _ _ kk (hs.keep kk) (hh3.mut h2 trivial (obj_dT h2 trivial (put_rep rk k (r.keep (k2.trans k3))))) q3⟩
    | _ => cases hk
  · exact q3.elim

/-! ### what a for walks -/
structure It3 where
  items : List U
  ok : G3 → Prop
structure ItLow (K : PySem.W.Frag) (H0 : Hp) (it : It3) (J : It) : Prop where
  goes : ∀ i G H, i < it.items.length → Keep H0 H → RepH K G H → it.ok G → J.go i H
  stops : ∀ G H, Keep H0 H → RepH K G H → it.ok G → J.stop it.items.length H
  yields : ∀ i G H x H', i < it.items.length → Keep H0 H → RepH K G H → it.ok G → J.yld i H x H' → Keep H H' ∧ RepH K G H' ∧ ∃ w, it.items[i]? = some w ∧ Rep K H' w x
abbrev TI3 := S3 → G3 → (It3 → G3 → Prop) → Prop
def lowI (K : PySem.W.Frag) (t : TI3) : TI := fun σ H R => ∃ σ3 G Q3, RepS K H σ3 σ ∧ RepH K G H ∧ t σ3 G Q3 ∧ ∀ J H' it G', Keep H H' → RepH K G' H' → ItLow K H' it J → Q3 it G' → R J H'
theorem _root_.L2.PI.imp {tg iter : Expr} {w w' : TI} (h : PI X tg iter w) (i : ∀ σ H R, w' σ H R → w σ H R) : PI X tg iter w' := ⟨fun pins s σ H R I q => h.run pins s σ H R I (i σ H R q)⟩
/-- over a list -/
def il3 (te : TE3) : TI3 := fun σ G R => te σ G fun x G1 => match x with
  | .ref a => ∃ xs, G1 a = some (.lst xs) ∧ R ⟨xs, fun G => G a = some (.lst xs)⟩ G1
  | .lit xs => R ⟨xs, fun _ => True⟩ G1
  | _ => False
theorem i_list {tg l : Expr} {tl : TE3} (hl : PE X l (lowE X.K tl)) : PI X tg l (lowI X.K (il3 tl)) := (pi_list hl).imp fun σ H R h => by
  obtain ⟨σ3, G, Q3, hs, hh, ht, hq⟩ := h
  refine ⟨σ3, G, _, hs, hh, ht, fun x H1 w G1 k1 hh1 r q1 => ?_⟩
  split at q1
  · cases r
    obtain ⟨xs, hg, q1⟩ := q1
    obtain ⟨vs, h1, rl⟩ := hh1 _ _ hg
    refine ⟨_, rfl, ⟨vs, SqL.of h1⟩, hq _ _ _ _ k1 hh1 ⟨fun i G' H' hi k hh' ok => ?_, fun G' H' k hh' ok => ?_, fun i G' H' x H'' hi k hh' ok y => ?_⟩ q1⟩
    · obtain ⟨us, h2, r2⟩ := hh' _ _ ok
      have hi2 : i < us.length := by rw [← r2.length]; exact hi
      exact ⟨us, us[i], SqL.of h2, by simp [hi2]⟩
    · obtain ⟨us, h2, r2⟩ := hh' _ _ ok
      exact ⟨us, SqL.of h2, Nat.le_of_eq r2.length.symm⟩
    · obtain ⟨us, h2, r2⟩ := hh' _ _ ok
      obtain ⟨e, y⟩ := y
      subst e
      obtain ⟨w, hw, rw⟩ := r2.get' (y us (SqL.of h2))
      exact ⟨Keep.refl _, hh', w, hw, rw⟩
  · cases r with
    | @lit a vs ws h1 rl =>
      refine ⟨_, rfl, ⟨vs, h1.sq⟩, hq _ _ _ _ k1 hh1 ⟨fun i G' H' hi k hh' ok => ?_, fun G' H' k hh' ok => ?_, fun i G' H' x H'' hi k hh' ok y => ?_⟩ q1⟩
      · have hi2 : i < vs.length := by rw [← rl.length]; exact hi
        exact ⟨vs, vs[i], (LitAt.keep k h1).sq, by simp [hi2]⟩
      · exact ⟨vs, (LitAt.keep k h1).sq, Nat.le_of_eq rl.length.symm⟩
      · obtain ⟨e, y⟩ := y
        subst e
        obtain ⟨w, hw, rw⟩ := (rl.keep k).get' (y vs (LitAt.keep k h1).sq)
        exact ⟨Keep.refl _, hh', w, hw, rw⟩
  · exact q1.elim
/-- over a tuple -/
def it3 (te : TE3) : TI3 := fun σ G R => te σ G fun x G1 => match x with
  | .tup xs => R ⟨xs, fun _ => True⟩ G1
  | .wtup xs => R ⟨xs, fun _ => True⟩ G1
  | _ => False
theorem i_tup {tg l : Expr} {tl : TE3} (hl : PE X l (lowE X.K tl)) : PI X tg l (lowI X.K (it3 tl)) := (pi_tup hl).imp fun σ H R h => by
  obtain ⟨σ3, G, Q3, hs, hh, ht, hq⟩ := h
  refine ⟨σ3, G, _, hs, hh, ht, fun x H1 w G1 k1 hh1 r q1 => ?_⟩
  have main : ∀ {a : Addr} {vs : List V} {ws : List U}, SqT X.K H1 a vs → RepL X.K H1 ws vs → Q3 ⟨ws, fun _ => True⟩ G1 → ∃ a', V.ref a = .ref a' ∧ (∃ xs, SqT X.K H1 a' xs) ∧ R (Itt X.K a') H1 := by
    intro a vs ws h1 rl q
    refine ⟨_, rfl, ⟨vs, h1⟩, hq _ _ _ _ k1 hh1 ⟨fun i G' H' hi k hh' ok => ?_, fun G' H' k hh' ok => ?_, fun i G' H' x H'' hi k hh' ok y => ?_⟩ q⟩
    · have hi2 : i < vs.length := by rw [← rl.length]; exact hi
      exact ⟨vs, vs[i], SqT.keep k h1, by simp [hi2]⟩
    · exact ⟨vs, SqT.keep k h1, Nat.le_of_eq rl.length.symm⟩
    · obtain ⟨e, y⟩ := y
      subst e
      obtain ⟨w, hw, rw⟩ := (rl.keep k).get' (y vs (SqT.keep k h1))
      exact ⟨Keep.refl _, hh', w, hw, rw⟩
  split at q1
  · cases r with
    | tup h1 rl => exact main (SqT.of h1) rl q1
  · cases r with
    | wtup h1 rl => exact main h1 rl q1
  · exact q1.elim
/-- over range(n), range(a, b) -/
def rgU (lo : Int) (n : Nat) : List U := (List.range n).map fun i => U.int (lo + (i : Nat))
theorem rgU_len (lo : Int) (n : Nat) : (rgU lo n).length = n := by unfold rgU; rw [List.length_map, List.length_range]
theorem rgU_get {lo : Int} {n i : Nat} (h : i < n) : (rgU lo n)[i]? = some (.int (lo + (i : Nat))) := by
  unfold rgU
  rw [List.getElem?_map, List.getElem?_range h]
  rfl
theorem rg_low {K : PySem.W.Frag} {H0 : Hp} (lo : Int) (n : Nat) : ItLow K H0 ⟨rgU lo n, fun _ => True⟩ (Itr lo n) := by
  refine ⟨fun i G H hi _ _ _ => ?_, fun G H _ _ _ => ?_, fun i G H x H' hi _ hh _ y => ?_⟩
  · have hi : i < (rgU lo n).length := hi
    rw [rgU_len] at hi; exact hi
  · show n ≤ (rgU lo n).length
    rw [rgU_len]; exact Nat.le_refl _
  · have hi : i < (rgU lo n).length := hi
    rw [rgU_len] at hi
    obtain ⟨e, y⟩ := y
    subst e y
    exact ⟨Keep.refl _, hh, _, rgU_get hi, .int _⟩
def ir1 (ta : TE3) : TI3 := fun σ G R => ta σ G fun x G1 => match x with
  | .int j => decide (-1000000000 ≤ j ∧ j ≤ 1000000000) = true ∧ R ⟨rgU 0 j.toNat, fun _ => True⟩ G1
  | _ => False
theorem i_range1 {tg a : Expr} {ta : TE3} {p pos : Pos} (hm : X.mg "range" = none) (ha : PE X a (lowE X.K ta)) (hg : Gl X "range" := by rfl) (hs : starEach [a] X.env = [(false, eval a X.env)] := by rfl) (hs2 : starEach [a] X.env = (false, eval a X.env) :: starEach [] X.env := by rfl) : PI X tg (.Call (.Name "range" p) [a] [] pos) (lowI X.K (ir1 ta)) :=
  (pi_range1 hg hm (pa_cons ha pa_nil hs2) hs).imp fun σ H R h => by
  obtain ⟨σ3, G, Q3, hs, hh, ht, hq⟩ := h
  refine ⟨σ3, G, _, hs, hh, ht, fun v H1 w G1 k1 hh1 r q1 => ?_⟩
  split at q1
  · cases r
    obtain ⟨hd, q⟩ := q1
    have hd := of_decide_eq_true hd
    exact ⟨_, rfl, by omega, by omega, hq _ _ _ _ k1 hh1 (rg_low 0 _) q⟩
  · exact q1.elim
def ir2 (ta tb : TE3) : TI3 := fun σ G R => ta σ G fun x G1 => tb σ G1 fun y G2 => match x, y with
  | .int i, .int j => decide (-1000000000 ≤ i ∧ i ≤ 1000000000 ∧ -1000000000 ≤ j ∧ j ≤ 1000000000) = true ∧ R ⟨rgU i (j - i).toNat, fun _ => True⟩ G2
  | _, _ => False
theorem i_range2 {tg a b : Expr} {ta tb : TE3} {p pos : Pos} (hm : X.mg "range" = none) (ha : PE X a (lowE X.K ta)) (hb : PE X b (lowE X.K tb)) (hg : Gl X "range" := by rfl) (hs : starEach [a, b] X.env = [(false, eval a X.env), (false, eval b X.env)] := by rfl) (hs2 : starEach [b] X.env = [(false, eval b X.env)] := by rfl)
    (hs3 : starEach [a, b] X.env = (false, eval a X.env) :: starEach [b] X.env := by rfl) (hs4 : starEach [b] X.env = (false, eval b X.env) :: starEach [] X.env := by rfl) : PI X tg (.Call (.Name "range" p) [a, b] [] pos) (lowI X.K (ir2 ta tb)) :=
  (pi_range2 hg hm (pa_cons ha (pa_cons hb pa_nil hs4) hs3) hs hs2).imp fun σ H R h => by
  obtain ⟨σ3, G, Q3, hs, hh, ht, hq⟩ := h
  refine ⟨σ3, G, _, hs, hh, ht, fun v H1 w G1 k1 hh1 r q1 => ?_⟩
  refine ⟨σ3, G1, _, hs.keep k1, hh1, q1, fun v2 H2 w2 G2 k2 hh2 r2 q2 => ?_⟩
  split at q2
  · cases r; cases r2
    obtain ⟨hd, q⟩ := q2
    have hd := of_decide_eq_true hd
    exact ⟨_, _, rfl, by omega, hq _ _ _ _ (k1.trans k2) hh2 (rg_low _ _) q⟩
  · exact q2.elim
/-- range(a, b, -1) -/
def rgD (a b : Int) : List U := (List.range (a - b).toNat).map fun i => U.int (a - (i : Nat))
theorem rgD_len (a b : Int) : (rgD a b).length = (a - b).toNat := by unfold rgD; rw [List.length_map, List.length_range]
theorem rgD_low {K : PySem.W.Frag} {H0 : Hp} (a b : Int) : ItLow K H0 ⟨rgD a b, fun _ => True⟩ (Itc a (-1) (a - b).toNat) := by
  refine ⟨fun i G H hi _ _ _ => ?_, fun G H _ _ _ => ?_, fun i G H x H' hi _ hh _ y => ?_⟩
  · have hi : i < (rgD a b).length := hi
    rw [rgD_len] at hi; exact hi
  · show (a - b).toNat ≤ (rgD a b).length
    rw [rgD_len]; exact Nat.le_refl _
  · have hi : i < (rgD a b).length := hi
    rw [rgD_len] at hi
    obtain ⟨e, y⟩ := y
    subst e y
    refine ⟨Keep.refl _, hh, .int (a - (i : Nat)), ?_, ?_⟩
    · unfold rgD
      rw [List.getElem?_map, List.getElem?_range hi]
      rfl
    · have e : a - (i : Nat) = a + (i : Nat) * (-1) := by omega
      rw [e]
      exact .int _
def irD (ta tb tc : TE3) : TI3 := fun σ G R => ta σ G fun x G1 => tb σ G1 fun y G2 => tc σ G2 fun z G3 => match x, y, z with
  | .int i, .int j, .int c => c = -1 ∧ decide (-1000000000 ≤ i ∧ i ≤ 1000000000 ∧ -1000000000 ≤ j ∧ j ≤ 1000000000) = true ∧ R ⟨rgD i j, fun _ => True⟩ G3
  | _, _, _ => False
theorem i_rangeD {tg a b c : Expr} {ta tb tc : TE3} {p pos : Pos} (hm : X.mg "range" = none) (ha : PE X a (lowE X.K ta)) (hb : PE X b (lowE X.K tb)) (hc : PE X c (lowE X.K tc)) (hi : ∀ t : TA, PA X [a, b, c] t → PI X tg (.Call (.Name "range" p) [a, b, c] [] pos) (iRng3 t))
    (hs3 : starEach [a, b, c] X.env = (false, eval a X.env) :: starEach [b, c] X.env := by rfl) (hs4 : starEach [b, c] X.env = (false, eval b X.env) :: starEach [c] X.env := by rfl) (hs5 : starEach [c] X.env = (false, eval c X.env) :: starEach [] X.env := by rfl) : PI X tg (.Call (.Name "range" p) [a, b, c] [] pos) (lowI X.K (irD ta tb tc)) :=
  (hi _ (pa_cons ha (pa_cons hb (pa_cons hc pa_nil hs5) hs4) hs3)).imp fun σ H R h => by
  obtain ⟨σ3, G, Q3, hs, hh, ht, hq⟩ := h
  refine ⟨σ3, G, _, hs, hh, ht, fun v H1 w G1 k1 hh1 r q1 => ?_⟩
  refine ⟨σ3, G1, _, hs.keep k1, hh1, q1, fun v2 H2 w2 G2 k2 hh2 r2 q2 => ?_⟩
  refine ⟨σ3, G2, _, hs.keep (k1.trans k2), hh2, q2, fun v3 H3 w3 G3 k3 hh3 r3 q3 => ?_⟩
  split at q3
  · cases r; cases r2; cases r3
    obtain ⟨hc, hd, q⟩ := q3
    subst hc
    have hd := of_decide_eq_true hd
    exact ⟨_, _, _, _, rfl, RgC.neg (by omega) (by omega) (by omega) (by omega), hq _ _ _ _ ((k1.trans k2).trans k3) hh3 (rgD_low _ _) q⟩
  · exact q3.elim
/-- the keys of a locked dict with tuple keys -/
def ikT (te : TE3) : TI3 := fun σ G R => te σ G fun x G1 => match x with
  | .ref d => ∃ o vs kvs, G1 d = some (.ldT o vs kvs) ∧ R ⟨kvs.map fun kv => .tup (kv.1.map kU), fun G => G d = some (.ldT o vs kvs)⟩ G1
  | _ => False
theorem i_keysT {tg l : Expr} {tl : TE3} (hl : PE X l (lowE X.K tl)) : PI X tg l (lowI X.K (ikT tl)) := (pi_keys hl).imp fun σ H R h => by
  obtain ⟨σ3, G, Q3, hs, hh, ht, hq⟩ := h
  refine ⟨σ3, G, _, hs, hh, ht, fun x H1 w G1 k1 hh1 r q1 => ?_⟩
  split at q1
  · cases r
    rename_i d
    obtain ⟨o, vs, kvs, hg, q1⟩ := q1
    obtain ⟨h1, rl⟩ := hh1 _ _ hg
    have hln : (kvs.map fun kv => U.tup (kv.1.map kU)).length = vs.length := by rw [List.length_map]; exact RepK.length rl
    refine ⟨d, o, rfl, .inr ⟨vs, h1, hq _ _ _ _ k1 hh1 ⟨fun i G' H' hi k hh' ok => ?_, fun G' H' k hh' ok => ?_, fun i G' H' x H'' hi k hh' ok y => ?_⟩ q1⟩⟩
    · obtain ⟨h2, r2⟩ := hh' _ _ ok
      refine ⟨h2, ?_⟩
      rw [← hln]; exact hi
    · obtain ⟨h2, r2⟩ := hh' _ _ ok
      exact ⟨h2, Nat.le_of_eq hln.symm⟩
    · obtain ⟨e, k0, v0, q0, e1, e2, e3⟩ := y
      subst e e2
      have hi2 : i < kvs.length := by
        have hi : i < (kvs.map fun kv => U.tup (kv.1.map kU)).length := hi
        rw [List.length_map] at hi; exact hi
      obtain ⟨b, hb, hbb⟩ := paired_get rl (List.getElem?_eq_getElem hi2)
      rw [e1] at hb
      cases hb
      refine ⟨Keep.refl _, hh', .tup (kvs[i].1.map kU), ?_, ?_⟩
      · show (kvs.map fun kv => U.tup (kv.1.map kU))[i]? = _
        rw [List.getElem?_map, List.getElem?_eq_getElem hi2]
        rfl
      · rw [hbb.1]
        exact .tup e3 (repL_keys k0)
  · exact q1.elim

/-! ### for -/
def for3 (wi : TI3) (g : TG3) (tb : TS3) : TS3 := fun D σ G => wi σ G fun it G1 => ∃ Pv : Nat → S3 → G3 → Prop, Pv 0 σ G1 ∧ (∀ i σ' G', i ≤ it.items.length → Pv i σ' G' → it.ok G') ∧
  (∀ i x σ' G', it.items[i]? = some x → Pv i σ' G' → g x σ' G' fun σ2 G2 => tb { D with nx := Wk2 (Pv (i + 1)), ct := Wk2 (Pv (i + 1)), bk := Wk2 D.nx } σ2 G2) ∧ ∀ σ' G', Pv it.items.length σ' G' → D.nx σ' G'
theorem s_for {tg iter : Expr} {body : List Stmt} {wi : TI3} {g : TG} {g3 : TG3} {tb : TS3} (hp : PassesOwn (model X.prog X.w) X.A X.env X.xe) (hc : X.calm = true) (hi : PI X tg iter (lowI X.K wi)) (hg : PG X tg g) (hl : GLow X.K none g g3) (hb : PSs X body (lowS X.K W tb))
    (hs : ∀ x, foldedSetIterable iter X.env x = pure x := by intro _; rfl) : PS X (.For tg iter body [] pos) (lowS X.K W (for3 wi g3 tb)) := (ps_for hp hc hi hg hb hs).imp fun D σ H h => by
  obtain ⟨σ3, G, D3, hs, hh, ht, hle⟩ := h
  refine ⟨σ3, G, _, hs, hh, ht, fun J H1 it G1 k1 hh1 il q1 => ?_⟩
  obtain ⟨Pv, p0, pok, pst, pdn⟩ := q1
  refine ⟨fun i m σ' H' => m = it.items.length - i ∧ i ≤ it.items.length ∧ ∃ σ3' G', Keep H1 H' ∧ RepS X.K H' σ3' σ' ∧ RepH X.K G' H' ∧ Pv i σ3' G', ⟨_, rfl, Nat.zero_le _, σ3, G1, Keep.refl _, hs.keep k1, hh1, p0⟩, ?_⟩
  rintro i m σ' H' ⟨rfl, hi, σ3', G', kk, hs', hh', pv⟩
  have ok := pok i σ3' G' hi pv
  by_cases hlt : i < it.items.length
  · refine .inr ⟨il.goes i G' H' hlt kk hh' ok, fun σ2 H2 => ∃ σ32 G2, Keep H1 H2 ∧ RepS X.K H2 σ32 σ2 ∧ RepH X.K G2 H2 ∧ Pv (i + 1) σ32 G2, fun σ2 H2 q => ⟨it.items.length - (i + 1), by omega, rfl, hlt, q⟩, fun x H2 y => ?_⟩
    obtain ⟨k2, hh2, w, hw, rw⟩ := il.yields i G' H' x H2 hlt kk hh' ok y
    refine hl _ _ _ _ _ _ _ _ rw (hs'.keep k2) hh2 (pst i w σ3' G' hw pv) fun σ4 H4 σ34 G4 k4 _ hs4 hh4 q4 => ?_
    have kH4 : Keep H1 H4 := (kk.trans k2).trans k4
    refine ⟨σ34, G4, _, hs4, hh4, q4, ⟨fun σ5 H5 σ35 G5 k5 hs5 hh5 ⟨σ0, G0, z1, z2, q5⟩ => ⟨σ0, G0, kH4.trans k5, hs5.sub z1, hh5.less z2, q5⟩, hle.rt.from (k1.trans kH4), fun σ5 H5 σ35 G5 k5 hs5 hh5 ⟨σ0, G0, z1, z2, q5⟩ => hle.nx _ _ _ _ ((k1.trans kH4).trans k5) (hs5.sub z1) (hh5.less z2) q5,
      fun σ5 H5 σ35 G5 k5 hs5 hh5 ⟨σ0, G0, z1, z2, q5⟩ => ⟨σ0, G0, kH4.trans k5, hs5.sub z1, hh5.less z2, q5⟩, fun c d σ5 H5 σ35 G5 k5 hs5 hh5 q5 => hle.ex _ _ _ _ _ _ ((k1.trans kH4).trans k5) hs5 hh5 q5⟩⟩
  · have e : i = it.items.length := by omega
    subst e
    exact .inl ⟨il.stops G' H' kk hh' ok, hle.nx _ _ _ _ (k1.trans kk) hs' hh' (pdn _ _ pv)⟩
/-- a dict with tuple keys is locked while the statement runs -/
def lock3 (t : TS3) : TS3 := fun D σ G => ∃ d kvs, G d = some (.dT kvs) ∧ ∀ od vs, t ⟨fun σ' G' => G' d = some (.ldT od vs kvs) ∧ D.nx σ' (gup G' d (.dT kvs)), fun v G' => G' d = some (.ldT od vs kvs) ∧ D.rt v (gup G' d (.dT kvs)),
  fun σ' G' => G' d = some (.ldT od vs kvs) ∧ D.bk σ' (gup G' d (.dT kvs)), fun σ' G' => G' d = some (.ldT od vs kvs) ∧ D.ct σ' (gup G' d (.dT kvs)), fun _ _ _ _ => False⟩ σ (gup G d (.ldT od vs kvs))
theorem s_lock {st : Stmt} {t : TS3} (h : PS X st (lowS X.K W t)) : PS X st (lowS X.K W (lock3 t)) := (ps_lock h).imp fun D σ H h => by
  obtain ⟨σ3, G, D3, hs, hh, ht, hle⟩ := h
  obtain ⟨d, kvs, hg, ht⟩ := ht
  obtain ⟨vs, h1, rk⟩ := hh _ _ hg
  refine ⟨d, .dT vs, h1, trivial, fun od => ?_⟩
  have k1 : Keep H (upd H d (.frz od (.dT vs))) := Keep.mut h1 trivial
  have back : ∀ {H' : Hp} {G' : G3}, Keep (upd H d (.frz od (.dT vs))) H' → RepH X.K G' H' → G' d = some (.ldT od vs kvs) → H' d = some (.frz od (.dT vs)) ∧ Keep H (upd H' d (.dT vs)) ∧ Keep H' (upd H' d (.dT vs)) ∧ RepH X.K (gup G' d (.dT kvs)) (upd H' d (.dT vs)) := by
    intro H' G' k hh' hg'
    obtain ⟨h2, r2⟩ := hh' _ _ hg'
    have k2 : Keep H' (upd H' d (.dT vs)) := Keep.mut h2 trivial
    exact ⟨h2, (k1.trans k).trans k2, k2, hh'.mut h2 trivial ⟨vs, upd_same, RepK.keep k2 r2⟩⟩
  refine ⟨σ3, gup G d (.ldT od vs kvs), _, hs.keep k1, hh.mut h1 trivial ⟨upd_same, RepK.keep k1 rk⟩, ht od vs, ⟨?_, ?_, ?_, ?_, ?_⟩⟩
  · intro σ' H' σ3' G' k hs' hh' q
    obtain ⟨a, b, c, e⟩ := back k hh' q.1
    exact ⟨a, hle.nx _ _ _ _ b (hs'.keep c) e q.2⟩
  · intro v H' w G' k hh' r q
    obtain ⟨a, b, c, e⟩ := back k hh' q.1
    exact ⟨a, hle.rt _ _ _ _ b e (r.keep c) q.2⟩
  · intro σ' H' σ3' G' k hs' hh' q
    obtain ⟨a, b, c, e⟩ := back k hh' q.1
    exact ⟨a, hle.bk _ _ _ _ b (hs'.keep c) e q.2⟩
  · intro σ' H' σ3' G' k hs' hh' q
    obtain ⟨a, b, c, e⟩ := back k hh' q.1
    exact ⟨a, hle.ct _ _ _ _ b (hs'.keep c) e q.2⟩
  · intro c d σ' H' σ3' G' k hs' hh' q
    exact q.elim

/-! ### comprehensions -/
def wipe3 (σ : S3) : List Nat → S3
  | [] => σ
  | v :: vs => (wipe3 σ vs).set v none
theorem RepS.wipe {K : PySem.W.Frag} {H : Hp} {σ3 : S3} {σ : L2.St} (r : RepS K H σ3 σ) : ∀ vs : List Nat, RepS K H (wipe3 σ3 vs) (L2.wipe σ vs)
  | [] => r
  | v :: vs => by
    have ih := RepS.wipe r vs
    refine ⟨by unfold wipe3 L2.wipe; rw [List.length_set, List.length_set]; exact ih.1, fun i w e => ?_⟩
    unfold wipe3 at e
    unfold L2.wipe
    by_cases h : v = i
    · subst h
      have hl : v < (wipe3 σ3 vs).length := by
        have := (List.getElem?_eq_some_iff.mp e).1
        rwa [List.length_set] at this
      rw [List.getElem?_set_self hl] at e
      cases e
    · rw [List.getElem?_set_ne h] at e
      rw [List.getElem?_set_ne h]
      exact ih.2 i w e
def yes3 : TT3 := fun _ G Q => Q true G
theorem ts3nil : PTs X [] (lowT X.K yes3) := ⟨fun pins s σ H Q I h => by
  obtain ⟨σ3, G, Q3, hs, hh, ht, hq⟩ := h
  exact pts_nil.run pins s σ H Q I (hq.here hh rfl ht)⟩
theorem ts3one {c : Expr} (h : PT X c (lowT X.K tA)) : PTs X [c] (lowT X.K tA) := pts_one h
def lc3 (wi : TI3) (g : TG3) (tt : TT3) (te : TE3) (vs : List Nat) : TE3 := fun σ G Q => wi σ G fun it G1 => ∀ L, G1 L = none → ∃ Pv : Nat → G3 → Prop, Pv 0 (gup G1 L (.lst [])) ∧ (∀ i G', i ≤ it.items.length → Pv i G' → it.ok G') ∧
  (∀ i x G', it.items[i]? = some x → Pv i G' → g x (wipe3 σ vs) G' fun σ2 G2 => tt σ2 G2 fun b G3 => if b = true then te σ2 G3 fun y G4 => ∃ acc, G4 L = some (.lst acc) ∧ decide (acc.length ≤ 99999) = true ∧ Wk1 (Pv (i + 1)) (gup G4 L (.lst (acc ++ [y]))) else Wk1 (Pv (i + 1)) G3) ∧ ∀ G', Pv it.items.length G' → Q (.ref L) G'
theorem lc3_low {K : PySem.W.Frag} {wi : TI3} {g : TG} {g3 : TG3} {tt : TT3} {vs : List Nat} (hl : GLow K (some vs) g g3) : ∀ σ H Q, lowE K (lc3 wi g3 tt te vs) σ H Q → tLc (lowI K wi) g (lowT K tt) (lowE K te) vs σ H Q := fun σ H Q h => by
  obtain ⟨σ3, G, Q3, hs, hh, ht, hq⟩ := h
  refine ⟨σ3, G, _, hs, hh, ht, fun J H1 it G1 k1 hh1 il q1 => ?_⟩
  intro L hL
  obtain ⟨Pv, p0, pok, pst, pdn⟩ := q1 L (hh1.free hL)
  have kL : Keep H1 (upd H1 L (.lst [])) := Keep.new hL
  have hsw : RepS K H1 (wipe3 σ3 vs) (wipe σ vs) := (hs.keep k1).wipe vs
  refine ⟨fun i m H' => m = it.items.length - i ∧ i ≤ it.items.length ∧ ∃ G', Keep H1 H' ∧ RepH K G' H' ∧ Pv i G', ⟨_, rfl, Nat.zero_le _, _, kL, hh1.new hL (obj_new hL .nil), p0⟩, ?_⟩
  rintro i m H' ⟨rfl, hi, G', kk, hh', pv⟩
  have ok := pok i G' hi pv
  by_cases hlt : i < it.items.length
  · refine .inr ⟨il.goes i G' H' hlt kk hh' ok, fun H2 => ∃ G2, Keep H1 H2 ∧ RepH K G2 H2 ∧ Pv (i + 1) G2, fun H2 q => ⟨it.items.length - (i + 1), by omega, rfl, hlt, q⟩, fun x H2 y => ?_⟩
    obtain ⟨k2, hh2, w, hw, rw⟩ := il.yields i G' H' x H2 hlt kk hh' ok y
    have kH2 := kk.trans k2
    refine hl _ _ _ _ _ _ _ _ rw (hsw.keep kH2) hh2 (pst i w G' hw pv) fun σ4 H4 σ34 G4 k4 pr hs4 hh4 q4 => ⟨?_, ?_⟩
    · have pr : wipe σ4 vs = wipe (wipe σ vs) vs := pr
      have ww : ∀ (us : List Nat) (τ : L2.St), (∀ u ∈ us, u ∈ vs) → wipe (wipe τ us) vs = wipe τ vs := by
        intro us
        induction us with
        | nil => intro τ _; rfl
        | cons u us ih =>
          intro τ hu
          show wipe ((wipe τ us).set u none) vs = _
          rw [wipe_set (hu u List.mem_cons_self)]
          exact ih τ fun z hz => hu z (List.mem_cons_of_mem _ hz)
      rw [pr, ww vs σ fun _ h => h]
    · refine ⟨σ34, G4, _, hs4, hh4, q4, fun b H5 b' G5 k5 hh5 eb q5 => ?_⟩
      obtain rfl : b' = b := eb
      have kH5 := (kH2.trans k4).trans k5
      cases b' with
      | false =>
        obtain ⟨G0, z, q5⟩ := q5
        exact ⟨G0, kH5, hh5.less z, q5⟩
      | true =>
        refine ⟨σ34, G5, _, hs4.keep k5, hh5, q5, fun v H6 w6 G6 k6 hh6 r6 q6 => ?_⟩
        obtain ⟨acc, ha, hz, G0, z, pv'⟩ := q6
        obtain ⟨us, h6, ru⟩ := hh6 _ _ ha
        exact ⟨us, h6, by rw [← ru.length]; exact sl hz, G0, (kH5.trans k6).trans (Keep.mut h6 trivial), (hh6.mut h6 trivial (obj_mut h6 trivial (ru.append (.cons r6 .nil)))).less z, pv'⟩
  · have e : i = it.items.length := by omega
    subst e
    exact .inl ⟨il.stops G' H' kk hh' ok, hq _ _ _ _ (k1.trans kk) hh' (.ref _) (pdn _ pv)⟩
theorem e3lc {elt tg iter : Expr} {ifs : List Expr} {scope : Scope} {own : List (Str × Nat)} {wi : TI3} {g : TG} {g3 : TG3} {tt : TT3} (hc : X.calm = true) (hN : X.N.Nodup) (hi : PI X tg iter (lowI X.K wi)) (ok : BlkOk X.N X.env.scope scope own) (hl : GLow X.K (some (own.map (·.2))) g g3)
    (hg : ∀ (s : Shared) (H : Hp) (C : Addr) (cl : List (Str × Addr)) (fp : List Addr), PG (X.blk s H scope (compEnvC scope cl C X.env) fp) tg g) (ht : ∀ (s : Shared) (H : Hp) (C : Addr) (cl : List (Str × Addr)) (fp : List Addr), PTs (X.blk s H scope (compEnvC scope cl C X.env) fp) ifs (lowT X.K tt))
    (he : ∀ (s : Shared) (H : Hp) (C : Addr) (cl : List (Str × Addr)) (fp : List Addr), PE (X.blk s H scope (compEnvC scope cl C X.env) fp) elt (lowE X.K te)) (hs : ∀ x, foldedSetIterable iter X.env x = pure x := by intro _; rfl) :
    PE X (.ListComp elt [⟨tg, iter, ifs, 0⟩] scope pos) (lowE X.K (lc3 wi g3 tt te (own.map (·.2)))) := (pe_lc hc hN hi ok hg ht he hs).imp (lc3_low hl)
theorem s_setLc {i : Nat} {y : Str} {py : Pos} {elt tg iter : Expr} {ifs : List Expr} {scope : Scope} {own : List (Str × Nat)} {spos : Pos} {wi : TI3} {g : TG} {g3 : TG3} {tt : TT3} (hc : X.calm = true) (hN : X.N.Nodup) (hyl : X.env.scope.names.lookup y = some .local)
    (hsw : swapsWith (.ListComp elt [⟨tg, iter, ifs, 0⟩] scope pos) (some (.Name y py)) spos.line X.env = pure true) (hi : PI X tg iter (lowI X.K wi)) (ok : BlkOk X.N X.env.scope scope own) (hl : GLow X.K (some (own.map (·.2))) g g3)
    (hg : ∀ (s : Shared) (H : Hp) (C : Addr) (cl : List (Str × Addr)) (fp : List Addr), PG (X.blk s H scope (compEnvC scope cl C X.env) fp) tg g) (ht : ∀ (s : Shared) (H : Hp) (C : Addr) (cl : List (Str × Addr)) (fp : List Addr), PTs (X.blk s H scope (compEnvC scope cl C X.env) fp) ifs (lowT X.K tt))
    (he : ∀ (s : Shared) (H : Hp) (C : Addr) (cl : List (Str × Addr)) (fp : List Addr), PE (X.blk s H scope (compEnvC scope cl C X.env) fp) elt (lowE X.K te)) (hy : X.N[i]? = some y := by rfl) (hs : ∀ x, foldedSetIterable iter X.env x = pure x := by intro _; rfl) :
    PS X (.Assign [.Name y py] (.ListComp elt [⟨tg, iter, ifs, 0⟩] scope pos) spos) (lowS X.K W (asg3 (lc3 wi g3 tt te (own.map (·.2))) (n3 i))) := (ps_setLc hc hN hy hyl hsw hi ok hg ht he hs).imp fun D σ H h => by
  obtain ⟨σ3, G, D3, hs, hh, ht, hle⟩ := h
  exact lc3_low hl σ H _ ⟨σ3, G, _, hs, hh, ht, fun v H1 w G1 k1 hh1 r q1 => hle.nx _ _ _ _ k1 ((hs.keep k1).set i r) hh1 q1⟩

/-! ### own defs -/
abbrev X3 := Value → Option Addr → G3 → Prop
abbrev Sp3 := List U → G3 → K3 → X3 → Prop
def no3 : X3 := fun _ _ _ => False
def lowSp (K : PySem.W.Frag) (sp : Sp3) : Sp := fun vs H Q E => ∃ ws G Q3 E3, RepL K H ws vs ∧ RepH K G H ∧ sp ws G Q3 E3 ∧ Post K (Rep K) H Q3 Q ∧ ∀ c d H' G', Keep H H' → RepH K G' H' → E3 c d G' → E c d H'
def call3 (sp : Sp3) (t : TA3) : TE3 := fun σ G Q => t σ G fun ws G1 => sp ws G1 Q no3
theorem e3call {CX : CXT} {k : Nat} {f : Addr} {fd : FuncData} {ps : List Str} {sp : Sp3} {x : Str} {p : Pos} {es : List Expr} {t : TA3} (F : FnOk X.prog X.w X.K X.mg X.base CX k f fd ps (lowSp X.K sp)) (hr : Room k X.A) (hm : X.mg x = some (.ref f)) (hk : PySem.W.keepIn X.K (.ref f) = true) (hb : Binds X.K fd ps []) (hx : Passes CX X E0)
    (ha : PA X (e :: es) (lowA X.K t)) (hg : Gl X x := by rfl) (hdb : (x == ("__debug__" : Str)) = false := by decide) (he : starEach (e :: es) X.env = (false, eval e X.env) :: starEach es X.env := by rfl) (hpl : (backTo pos (starEach es X.env)).any (·.1) = false := by rfl) :
    PE X (.Call (.Name x p) (e :: es) [] pos) (lowE X.K (call3 sp t)) := (pe_call F hr hg hm hk hb .nil hx ha hdb he hpl).imp fun σ H Q h => by
  obtain ⟨σ3, G, Q3, hs, hh, ht, hq⟩ := h
  refine ⟨σ3, G, _, hs, hh, ht, fun vs H1 ws G1 k1 hh1 r q1 => ?_⟩
  refine ⟨ws, G1, Q3, no3, by rw [List.append_nil]; exact r, hh1, q1, hq.from k1, fun c d H' G' _ _ z => z.elim⟩
def start3 (N : List Str) (ws : List U) : S3 := ws.map some ++ List.replicate (N.length - ws.length) none
theorem rep_start {K : PySem.W.Frag} {H : Hp} {N : List Str} {ws : List U} {vs : List V} (r : RepL K H ws vs) : RepS K H (start3 N ws) (L2.start N vs) := by
  unfold start3 L2.start
  refine ⟨by simp [r.length], fun i w e => ?_⟩
  by_cases h : i < ws.length
  · rw [List.getElem?_append_left (by rw [List.length_map]; exact h), List.getElem?_map] at e
    have h2 : i < vs.length := by rw [← r.length]; exact h
    cases q : ws[i]? with
    | none => rw [q] at e; cases e
    | some u =>
      rw [q] at e
      cases e
      obtain ⟨v, hv, rv⟩ := r.get q
      exact ⟨v, by rw [List.getElem?_append_left (by rw [List.length_map]; exact h2), List.getElem?_map, hv]; rfl, rv⟩
  · rw [List.getElem?_append_right (by rw [List.length_map]; omega), List.getElem?_replicate] at e
    split at e <;> cases e
end
section
variable {P : Program} {w : World} {K : PySem.W.Frag} {mg : Str → Option Value} {base : Heap}
theorem Fun_ok3 {x qual : Str} {st : Stmt} {f : Addr} {fd : FuncData} {N ps : List Str} {k : Nat} {sp : Sp3} (F : Fun K x qual st f fd) (S : FnScope N ps (defScope st)) (len : ∀ ws G Q E, sp ws G Q E → ws.length = ps.length)
    (hbody : ∀ (cdv : Value) (A : Around) (outer : List Env) (s : Shared) (H : Hp) (E : XK) (ws : List U) (G : G3) (Q : K3) (E3 : X3), Room k (A.deeper (PyProof.Rows.envOfC qual (defScope st) s.heap.objs.size f cdv)) → sp ws G Q E3 →
      ∃ t, PSs (cxOf CX0 P w K mg base N qual (defScope st) f cdv A outer s H E).nox (defBody st) (lowS K W0 t) ∧ t { nx := fun _ G' => Wk Q .non G', rt := Wk Q } (start3 N ws) G) : FnOk P w K mg base CX0 (k + 1) f fd ps (lowSp K sp) := by
  refine F.ok S (fun vs H Q E h => ?_) (fun cdv A outer s H vs Q E hr h => ?_)
  · obtain ⟨ws, G, Q3, E3, r, _, h, _⟩ := h
    rw [← r.length]
    exact len _ _ _ _ h
  · obtain ⟨ws, G, Q3, E3, r, hh, h, hq, _⟩ := h
    obtain ⟨t, ht, q⟩ := hbody cdv A outer s H E ws G Q3 E3 hr h
    refine ⟨_, ht, start3 N ws, G, _, rep_start r, hh, q, ⟨fun σ' H' σ3' G' k1 hs' hh' q' => ?_, fun v H' w G' k hh' rv ⟨G0, z, q'⟩ => hq _ _ _ _ k (hh'.less z) rv q', fun _ _ _ _ _ _ _ z => z.elim, fun _ _ _ _ _ _ _ z => z.elim, fun _ _ _ _ _ _ _ _ _ z => z.elim⟩⟩
    obtain ⟨G0, z, q'⟩ := q'
    exact hq _ _ _ _ k1 (hh'.less z) .non q'
end
/-! ### the forms one uses -/
section
/-- a statement, then the rest, with a word between them -/
def cutS (t u : TS3) : TS3 := fun D σ G => ∃ Mid : S3 → G3 → Prop, t { D with nx := Wk2 Mid } σ G ∧ ∀ σ' G', Mid σ' G' → u D σ' G'
theorem ss_cut {X : Cx} {W : WX} {st : Stmt} {rest : List Stmt} {t u : TS3} (h1 : PS X st (lowS X.K W t)) (h2 : PSs X rest (lowS X.K W u)) : PSs X (st :: rest) (lowS X.K W (cutS t u)) := (pss_cons h1 h2).imp fun D σ H h => by
  obtain ⟨σ3, G, D3, hs, hh, ⟨Mid, ht, hu⟩, hl⟩ := h
  exact ⟨σ3, G, _, hs, hh, ht, ⟨fun σ' H' σ3' G' k hs' hh' ⟨σ0, G0, z1, z2, q⟩ => ⟨σ0, G0, D3, hs'.sub z1, hh'.less z2, hu _ _ q, hl.from k⟩, hl.rt, hl.bk, hl.ct, hl.ex⟩⟩
/-- a comprehension whose element and test change nothing: f which items, v what they give -/
theorem lcL {xs : List U} {ok : G3 → Prop} {σ : S3} {G1 : G3} {Q : K3} {g : TG3} {tt : TT3} {te : TE3} {vs : List Nat} (f : U → Bool) (v : U → U) (hok : ∀ G', Sub G1 G' → ok G') (hz : xs.length ≤ 99999)
    (hs : ∀ (i : Nat) (x : U) (L : Addr) (acc : List U), xs[i]? = some x → G1 L = none → ∀ (Y : U → G3 → Prop) (N : G3 → Prop), (f x = true → ∀ G4, Sub (gup G1 L (.lst acc)) G4 → Y (v x) G4) → (f x = false → ∀ G4, Sub (gup G1 L (.lst acc)) G4 → N G4) →
      g x (wipe3 σ vs) (gup G1 L (.lst acc)) fun σ2 G2 => tt σ2 G2 fun b G3 => if b = true then te σ2 G3 Y else N G3)
    (hq : ∀ L, G1 L = none → Q (.ref L) (gup G1 L (.lst ((xs.filter f).map v)))) :
    ∀ L, G1 L = none → ∃ Pv : Nat → G3 → Prop, Pv 0 (gup G1 L (.lst [])) ∧ (∀ i G', i ≤ (It3.mk xs ok).items.length → Pv i G' → (It3.mk xs ok).ok G') ∧
  (∀ i x G', (It3.mk xs ok).items[i]? = some x → Pv i G' → g x (wipe3 σ vs) G' fun σ2 G2 => tt σ2 G2 fun b G3 => if b = true then te σ2 G3 fun y G4 => ∃ acc, G4 L = some (.lst acc) ∧ decide (acc.length ≤ 99999) = true ∧ Wk1 (Pv (i + 1)) (gup G4 L (.lst (acc ++ [y]))) else Wk1 (Pv (i + 1)) G3) ∧ ∀ G', Pv (It3.mk xs ok).items.length G' → Q (.ref L) G' := by
  intro L hL
  refine ⟨fun i G' => G' = gup G1 L (.lst (((xs.take i).filter f).map v)), rfl, fun i G' _ e => ?_, fun i x G' hx e => ?_, fun G' e => ?_⟩
  · subst e
    exact hok _ ((Sub.refl G1).new hL)
  · subst e
    have hx : xs[i]? = some x := hx
    have hi : i < xs.length := (List.getElem?_eq_some_iff.mp hx).1
    have et : xs.take (i + 1) = xs.take i ++ [x] := by rw [List.take_succ, hx]; rfl
    have hln : (((xs.take i).filter f).map v).length ≤ 99999 := by
      rw [List.length_map]
      have := List.length_filter_le f (xs.take i)
      have := List.length_take_le i xs
      omega
    refine hs i x L _ hx hL _ _ (fun h G4 z => ⟨_, z L _ gup_same, decide_eq_true hln, _, ?_, rfl⟩) fun h G4 z => ⟨_, z, ?_⟩
    · rw [et, List.filter_append, List.map_append, List.filter_cons, if_pos h]
      have := Sub.up z (p := L) (o := .lst (((xs.take i).filter f).map v ++ [v x]))
      rw [gup_gup] at this
      exact this
    · show _ = gup G1 L (.lst (((xs.take (i + 1)).filter f).map v))
      rw [et, List.filter_append, List.map_append, List.filter_cons, if_neg (by rw [h]; decide)]
      simp
  · subst e
    have e2 : xs.take (It3.mk xs ok).items.length = xs := List.take_length
    rw [e2]
    exact hq L hL
end
end L3
end
section
set_option Elab.async false
set_option linter.all false
set_option maxRecDepth 100000
set_option maxHeartbeats 2000000
/-! Dict comprehensions whose keys are tuples, with one for and with two (the proofs follow HandS.DictComp and HandS.Comp); setdefault of such dicts. -/
namespace L2
open PySem PySem.Spec PyProof.Rows
theorem compTurnD2_out (kx elt t0 i0 t1 i1 : Expr) (ifs0 ifs1 : List Expr) (scope : Scope) (pos : Pos) (it : Value) (acc : Addr) (env : Env) :
    compTurn (.DictComp kx elt [⟨t0, i0, ifs0, 0⟩, ⟨t1, i1, ifs1, 0⟩] scope pos) 0 it (.ref acc) env = (do
      standAt i0.pos
      match ← pyNext it with
      | none => pure (.done .next)
      | some v =>
        letOwnedTupleGo t0 it v
        assign t0 env v
        let mut ok := true
        for c in ifs0 do
          if ok then ok ← isTrue c env (eval c env)
        if ok then
          let x ← eval i1 env
          standAt i1.pos
          let x ← foldedSetIterable i1 env x
          let _ ← runOwn (.compStart (.DictComp kx elt [⟨t0, i0, ifs0, 0⟩, ⟨t1, i1, ifs1, 0⟩] scope pos) 1 (← holding [x] (pyIter x)) (.ref acc) env) env
        again (.compLoop (.DictComp kx elt [⟨t0, i0, ifs0, 0⟩, ⟨t1, i1, ifs1, 0⟩] scope pos) 0 it (.ref acc) env)) := by rfl
theorem compTurnD2_in (kx elt t0 i0 t1 i1 : Expr) (ifs0 ifs1 : List Expr) (scope : Scope) (pos : Pos) (it : Value) (acc : Addr) (env : Env) :
    compTurn (.DictComp kx elt [⟨t0, i0, ifs0, 0⟩, ⟨t1, i1, ifs1, 0⟩] scope pos) 1 it (.ref acc) env = (do
      standAt i1.pos
      match ← pyNext it with
      | none => pure (.done .next)
      | some v =>
        letOwnedTupleGo t1 it v
        assign t1 env v
        let mut ok := true
        for c in ifs1 do
          if ok then ok ← isTrue c env (eval c env)
        if ok then
          (do
            let kv ← eval kx env
            let vv ← holding [kv] (eval elt env)
            standAt { kx.pos with endLine := elt.pos.endLine, endCol := elt.pos.endCol }
            holding [kv, vv] (dictSet acc kv vv))
        again (.compLoop (.DictComp kx elt [⟨t0, i0, ifs0, 0⟩, ⟨t1, i1, ifs1, 0⟩] scope pos) 1 it (.ref acc) env)) := by rfl

section
variable {prog : Program} {w : World} {A : Around} {R : Result → Shared → Prop} {s : Shared} {kx elt t0 i0 t1 i1 : Expr} {ifs0 ifs1 : List Expr} {scope : Scope} {pos : Pos} {it : Value} {acc : Addr} {env : Env}
/-- the loop of the first clause -/
theorem compLoopD2_out (hs : ∀ x, foldedSetIterable i1 env x = pure x) (I : Nat → Shared → Prop)
    (turn : ∀ n s, I n s → wpAny (model prog w) A (pyNext it) (fun r s₁ => match r with
      | none => R (.ok .next) s₁
      | some v => wpAny (model prog w) A (letOwnedTupleGo t0 it v) (fun _ s₁' => wpAny (model prog w) A (assign t0 env v) (fun _ s₂ =>
          wpAny (model prog w) A (forIn ifs0 true fun c r => if r = true then do let ok ← isTrue c env (eval c env); pure (ForInStep.yield ok) else pure (ForInStep.yield r)) (fun ok s₃ =>
            if ok = true then wpAny (model prog w) A (eval i1 env) (fun x s₄ => wpAny (model prog w) A (pyIter x) (fun it1 s₅ =>
              codeAny (model prog w) A (.compStart (.DictComp kx elt [⟨t0, i0, ifs0, 0⟩, ⟨t1, i1, ifs1, 0⟩] scope pos) 1 it1 (.ref acc) env) (fun r s' => match r with
                | .ok _ => ∃ m, m < n ∧ I m s'
                | .error _ => False) s₅) (notedBy (model prog w) A env fun e s' => R (.error e) s') s₄) (notedBy (model prog w) A env fun e s' => R (.error e) s') s₃
            else ∃ m, m < n ∧ I m s₃) (notedBy (model prog w) A env fun e s' => R (.error e) s') s₂) (notedBy (model prog w) A env fun e s' => R (.error e) s') s₁') (notedBy (model prog w) A env fun e s' => R (.error e) s') s₁) (notedBy (model prog w) A env fun e s' => R (.error e) s') s)
    (n : Nat) (h : I n s) :
    codeAny (model prog w) A (.compLoop (.DictComp kx elt [⟨t0, i0, ifs0, 0⟩, ⟨t1, i1, ifs1, 0⟩] scope pos) 0 it (.ref acc) env) R s := by
  refine codeAny_loop rfl I (fun n s hI => ?_) n h
  show wpAny _ A ((compTurn (.DictComp kx elt [⟨t0, i0, ifs0, 0⟩, ⟨t1, i1, ifs1, 0⟩] scope pos) 0 it (.ref acc) env).onRaise (fun x => do noteFrame x env; theTreesLotGoes x)) _ _ s
  refine wpAny_noted ?_
  rw [compTurnD2_out]
  refine wpAny_bind (wpAny_standAt (wpAny_bind (wpAny_mono (turn n s hI) (fun r s₁ h₁ => ?_) fun _ _ h' => h')))
  cases r with
  | none => exact wpAny_pure h₁
  | some v =>
    refine wpAny_bind (wpAny_mono h₁ (fun _ s₁' h₁' => ?_) fun _ _ h' => h')
    refine wpAny_bind (wpAny_mono h₁' (fun _ s₂ h₂ => wpAny_bind (wpAny_mono h₂ (fun ok s₃ h₃ => ?_) fun _ _ h' => h')) fun _ _ h' => h')
    cases ok with
    | false => exact wpAny_pure ⟨rfl, h₃⟩
    | true =>
      refine wpAny_bind (wpAny_mono h₃ (fun x s₄ h₄ => ?_) fun _ _ h' => h')
      refine wpAny_bind (wpAny_standAt (wpAny_bind (wpAny_of_eq (hs x) (wpAny_bind (wpAny_holding (wpAny_mono h₄ (fun it1 s₅ h₅ => ?_) fun _ _ h' => h'))))))
      refine wpAny_bind (wpAny_runOwn ?_)
      rw [Around.mark_none]
      refine codeAny_mono h₅ fun r s' hr => ?_
      cases r with
      | ok f =>
        first
          | exact wpAny_pure ⟨rfl, hr⟩
          | exact wpAny_bind (wpAny_pure (wpAny_pure ⟨rfl, hr⟩))
      | error e => exact hr.elim
/-- the loop of the second -/
theorem compLoopD2_in (I : Nat → Shared → Prop)
    (turn : ∀ n s, I n s → wpAny (model prog w) A (pyNext it) (fun r s₁ => match r with
      | none => R (.ok .next) s₁
      | some v => wpAny (model prog w) A (letOwnedTupleGo t1 it v) (fun _ s₁' => wpAny (model prog w) A (assign t1 env v) (fun _ s₂ =>
          wpAny (model prog w) A (forIn ifs1 true fun c r => if r = true then do let ok ← isTrue c env (eval c env); pure (ForInStep.yield ok) else pure (ForInStep.yield r)) (fun ok s₃ =>
            if ok = true then wpAny (model prog w) A (eval kx env) (fun kv s₄ => wpAny (model prog w) A (eval elt env) (fun vv s₅ =>
              wpAny (model prog w) A (dictSet acc kv vv) (fun _ s₆ => ∃ m, m < n ∧ I m s₆) (notedBy (model prog w) A env fun e s' => R (.error e) s') s₅) (notedBy (model prog w) A env fun e s' => R (.error e) s') s₄) (notedBy (model prog w) A env fun e s' => R (.error e) s') s₃
            else ∃ m, m < n ∧ I m s₃) (notedBy (model prog w) A env fun e s' => R (.error e) s') s₂) (notedBy (model prog w) A env fun e s' => R (.error e) s') s₁') (notedBy (model prog w) A env fun e s' => R (.error e) s') s₁) (notedBy (model prog w) A env fun e s' => R (.error e) s') s)
    (n : Nat) (h : I n s) :
    codeAny (model prog w) A (.compLoop (.DictComp kx elt [⟨t0, i0, ifs0, 0⟩, ⟨t1, i1, ifs1, 0⟩] scope pos) 1 it (.ref acc) env) R s := by
  refine codeAny_loop rfl I (fun n s hI => ?_) n h
  show wpAny _ A ((compTurn (.DictComp kx elt [⟨t0, i0, ifs0, 0⟩, ⟨t1, i1, ifs1, 0⟩] scope pos) 1 it (.ref acc) env).onRaise (fun x => do noteFrame x env; theTreesLotGoes x)) _ _ s
  refine wpAny_noted ?_
  rw [compTurnD2_in]
  refine wpAny_bind (wpAny_standAt (wpAny_bind (wpAny_mono (turn n s hI) (fun r s₁ h₁ => ?_) fun _ _ h' => h')))
  cases r with
  | none => exact wpAny_pure h₁
  | some v =>
    refine wpAny_bind (wpAny_mono h₁ (fun _ s₁' h₁' => ?_) fun _ _ h' => h')
    refine wpAny_bind (wpAny_mono h₁' (fun _ s₂ h₂ => wpAny_bind (wpAny_mono h₂ (fun ok s₃ h₃ => ?_) fun _ _ h' => h')) fun _ _ h' => h')
    cases ok with
    | false => exact wpAny_pure ⟨rfl, h₃⟩
    | true =>
      exact wpAny_bind (wpAny_bind (wpAny_mono h₃ (fun kv s₄ h₄ => wpAny_bind (wpAny_holding (wpAny_mono h₄ (fun vv s₅ h₅ => wpAny_bind (wpAny_standAt (wpAny_holding (wpAny_mono h₅ (fun _ s₆ h₆ => wpAny_pure ⟨rfl, h₆⟩) fun _ _ h' => h')))) fun _ _ h' => h'))) fun _ _ h' => h'))
/-- the second clause's start -/
theorem compStartD1_ok (h0 : codeAny (model prog w) A (.compLoop (.DictComp kx elt [⟨t0, i0, ifs0, 0⟩, ⟨t1, i1, ifs1, 0⟩] scope pos) 1 it (.ref acc) env) R s)
    (h : wpAny (model prog w) A (pyIter it) (fun it' s' => codeAny (model prog w) A (.compLoop (.DictComp kx elt [⟨t0, i0, ifs0, 0⟩, ⟨t1, i1, ifs1, 0⟩] scope pos) 1 it' (.ref acc) env) R s')
      (notedBy (model prog w) A env fun x s' => R (.error x) s') s) :
    codeAny (model prog w) A (.compStart (.DictComp kx elt [⟨t0, i0, ifs0, 0⟩, ⟨t1, i1, ifs1, 0⟩] scope pos) 1 it (.ref acc) env) R s := by
  refine codeAny_of_tree ?_
  show wpAny _ _ ((compStart (.DictComp kx elt [⟨t0, i0, ifs0, 0⟩, ⟨t1, i1, ifs1, 0⟩] scope pos) 1 it (.ref acc) env).onRaise (fun x => do noteFrame x env; standAt theWindowsPlace)) _ _ s
  refine wpAny_notedAt ?_
  unfold compStart
  show wpAny _ _ (ask >>= _) _ _ s
  refine wpAny_bind (wpAny_askSetting (wpAny_ite ?_))
  split
  · first
      | exact wpAny_bind (wpAny_pure (wpAny_pure (And.intro rfl h0)))
      | exact wpAny_pure (And.intro rfl h0)
  · first
      | exact wpAny_bind (wpAny_rule (wpAny_bind (wpAny_standAt (wpAny_bind (wpAny_mono h (fun it' s' h' => wpAny_pure (And.intro rfl h')) fun _ _ x => x)))))
      | (refine wpAny_bind (wpAny_rule ?_); show wpAny _ _ (standAt i1.pos >>= _) _ _ s; exact wpAny_bind (wpAny_standAt (wpAny_bind (wpAny_mono h (fun it' s' h' => wpAny_pure (And.intro rfl h')) fun _ _ x => x))))
end


/-- d[k] = v by a comprehension, k a tuple -/
theorem d_dictSetT {X : Cx} {pins : List (Addr × Obj)} {σ : L2.St} {H : Hp} {s : Shared} {E : Value → Shared → Prop} {D b : Addr} {kvs : List (List Key × V)} {k : List Key} {v : V} {u r : Value} {Q : Unit → Shared → Prop} (hu : X.A.units + 1 < cLine) (I : Inv X pins σ H s) (hD : H D = some (.dT kvs)) (eb : H b = some (.tup (k.map kV))) (hz : kvs.length < sizeLine)
    (ry : RelV (.ref b) u) (rv : RelV v r) (h : ∀ s', Inv X pins σ (upd H D (.dT (putK kvs k v))) s' → Q () s') : wpAny (model X.prog X.w) X.A (dictSet D u r) Q E s := by
  cases (show u = Value.ref b from ry)
  obtain ⟨z, hd, xs, rel, dd⟩ := dt_of I.hok hD
  have hzx : xs.length ≤ sizeLine := by rw [← Paired.length rel]; exact z
  have hl : (putK kvs k v).length ≤ sizeLine := by have := length_putK kvs k v; omega
  refine wpAny_dictSet_heap (hsz := hzx) (show (tupleKind (mixKind X.prog X.w)).room X.A from (by show X.A.units < cLine; omega)) (key_of I.hok eb) dd fun h' dd' hs => h _ ?_
  obtain ⟨q, es, ep, hq, h2, h3, h4, _, h5⟩ := dd'
  refine d_write I (by rw [hD]; exact True.intro) hs ⟨q, hq⟩ ⟨hl, hd, _, (rel.put k eb rv).keeps fun c ys ec => ?_, q, es, ep, hq, h2, h3, h4, h5⟩
  rw [upd_ne (ne_of ec hD (fun z => nomatch z))]
  exact ec
section
variable {X : Cx}
/-- {k: v for target in iter if ..}, keys tuples -/
def tDcT (wi : TI) (g : TG) (tt : TT) (tk tv : TE) (vs : List Nat) : TE := fun σ H Q => wi σ H fun J H1 => ∀ D, H1 D = none → ∃ W : Nat → Nat → Hp → Prop, (∃ m, W 0 m (upd H1 D (.dT []))) ∧ ∀ i m H, W i m H →
  (J.stop i H ∧ Q (.ref D) H) ∨ (J.go i H ∧ ∃ Nx : Hp → Prop, (∀ H', Nx H' → ∃ m', m' < m ∧ W (i + 1) m' H') ∧ ∀ x H', J.yld i H x H' → g x (wipe σ vs) H' fun σ2 H2 => wipe σ2 vs = wipe σ vs ∧ tt σ2 H2 fun b H3 =>
    if b = true then tk σ2 H3 fun y H4 => tv σ2 H4 fun z H5 => ∃ kvs k q, y = .ref q ∧ H5 q = some (.tup (k.map kV)) ∧ H5 D = some (.dT kvs) ∧ kvs.length < sizeLine ∧ Nx (upd H5 D (.dT (putK kvs k z))) else Nx H3)
theorem dcT_core {pins : List (Addr × Obj)} {s : Shared} {σ : St} {H : Hp} {Q : VK} {kx vx tg iter : Expr} {ifs : List Expr} {scope : Scope} {own : List (Str × Nat)} {pos pos' : Pos} {wi : TI} {g : TG} {tt : TT} {tk tv : TE} {use : Option (Value → Sem Unit)} {Qf : Value → Shared → Prop}
    (hu : X.A.units + 1 < cLine) (hc : X.calm = true) (hN : X.N.Nodup) (I : Inv X pins σ H s) (hi : PI X tg iter wi) (ok : BlkOk X.N X.env.scope scope own)
    (hg : ∀ (s : Shared) (H : Hp) (C : Addr) (cl : List (Str × Addr)) (fp : List Addr), PG (X.blk s H scope (compEnvC scope cl C X.env) fp) tg g) (ht : ∀ (s : Shared) (H : Hp) (C : Addr) (cl : List (Str × Addr)) (fp : List Addr), PTs (X.blk s H scope (compEnvC scope cl C X.env) fp) ifs tt)
    (hk : ∀ (s : Shared) (H : Hp) (C : Addr) (cl : List (Str × Addr)) (fp : List Addr), PE (X.blk s H scope (compEnvC scope cl C X.env) fp) kx tk)
    (he : ∀ (s : Shared) (H : Hp) (C : Addr) (cl : List (Str × Addr)) (fp : List Addr), PE (X.blk s H scope (compEnvC scope cl C X.env) fp) vx tv) (hs : ∀ x, foldedSetIterable iter X.env x = pure x)
    (h : tDcT wi g tt tk tv (own.map (·.2)) σ H Q)
    (hRR : ∀ D C s' m H', Inv X pins σ H' s' → Q (.ref D) H' → s'.heap.Ns C m → FpOk X pins H' C → compPost (model X.prog X.w) X.A X.xe use Qf (.ref D) C (.ok .next) s') :
    wpAny (model X.prog X.w) X.A (comprehension (.DictComp kx vx [⟨tg, iter, ifs, 0⟩] scope pos) scope X.env pos' newDict false (eval iter X.env) use) Qf X.xe s := by
  have hfree : ∀ y ∈ scope.names, y.2 = .free → ∃ c, X.env.cells.lookup y.1 = some c := fun y hy e => by
    rcases ok.free y hy e with k | k
    · exact I.ok.has _ (.inl k)
    · exact I.ok.has _ (.inr k)
  refine wpAny_comprehension_free (use := use) rfl hs (closure_ok hfree) ok.kind (fun y hy e => by rw [ok.uniq y hy, e])
    (thn (hi.run pins s σ H _ I h) fun xv s1 hx => thn hx fun itv s2 h2 => ?_)
  obtain ⟨it, fp, tn, J, H2, e, I2, T, st2, f2, q⟩ := h2
  subst e
  refine wpAny_newObj_type (newEnv_comp ?_)
  generalize hD : s2.heap.objs.size = D
  have hDn : H2 D = none := I2.hok.fresh (Nat.le_of_eq hD)
  obtain ⟨W, ⟨m0, w0⟩, turn⟩ := q D hDn
  -- the new list
  generalize hs3 : ({ s2 with heap := s2.heap.push { cls := .type "dict", data := .dict #[] } } : Shared) = s3
  have I3 : Inv X pins σ (upd H2 D (.dT [])) s3 := by
    rw [← hs3]
    refine I2.laid (t' := s2.toks) (fun b o e => Heap.get?_push_of_some _ e) (Nat.le_of_eq hD) ?_
    rw [← hD]
    exact dt_empty s2.heap I2.big
  have h3 : s3.heap = s2.heap.push { cls := .type "dict", data := .dict #[] } := by rw [← hs3]
  have sz : ∀ b ∈ fp, b < s2.heap.objs.size := fun b hb => by
    obtain ⟨o, e, _⟩ := T.obj _ _ st2 b hb
    exact Heap.lt_size e
  have f3 : ∀ b ∈ fp, FpOk X pins (upd H2 D (.dT [])) b ∧ b < s3.heap.objs.size := fun b hb => by
    have hlt := sz b hb
    refine ⟨⟨?_, (f2 b hb).2⟩, by rw [h3, Heap.size_push]; exact Nat.lt_succ_of_lt hlt⟩
    rw [upd_ne (by rw [← hD]; exact Nat.ne_of_lt hlt)]
    exact (f2 b hb).1
  have st3 : tn 0 s3.heap := T.keep _ _ _ st2 fun b _ o e => by rw [h3]; exact Heap.get?_push_of_some _ e
  have I4 := block_start I3 ok hN f3
  have pg := hg s3 (upd H2 D (.dT [])) s3.heap.objs.size (cellsFrom (s3.heap.objs.size + 1) scope.names (cloFrom X.env.cells scope.names [])) fp
  have pt := ht s3 (upd H2 D (.dT [])) s3.heap.objs.size (cellsFrom (s3.heap.objs.size + 1) scope.names (cloFrom X.env.cells scope.names [])) fp
  have pk := hk s3 (upd H2 D (.dT [])) s3.heap.objs.size (cellsFrom (s3.heap.objs.size + 1) scope.names (cloFrom X.env.cells scope.names [])) fp
  have pe := he s3 (upd H2 D (.dT [])) s3.heap.objs.size (cellsFrom (s3.heap.objs.size + 1) scope.names (cloFrom X.env.cells scope.names [])) fp
  show codeAny _ _ (.compStart (.DictComp kx vx [⟨tg, iter, ifs, 0⟩] scope pos) 0 (.ref it) (.ref D) (compEnvC scope (cellsFrom (s3.heap.objs.size + 1) scope.names (cloFrom X.env.cells scope.names [])) s3.heap.objs.size X.env)) (compPost (model X.prog X.w) X.A X.xe use Qf (.ref D) s3.heap.objs.size) { s3 with heap := pushCells (s3.heap.push { cls := .type "dict", data := .dict #[] }) scope.names }
  have nfp : ∀ b ∈ fp, (upd H2 D (.dT [])) b = none := fun b hb => (f3 b hb).1.1
  generalize hce : compEnvC scope (cellsFrom (s3.heap.objs.size + 1) scope.names (cloFrom X.env.cells scope.names [])) s3.heap.objs.size X.env = ce at I4 pg pt pk pe ⊢
  have cL : ce.locals = s3.heap.objs.size := by subst hce; rfl
  generalize hH3 : upd H2 D (.dT []) = H3 at I3 I4 pg pt pk pe w0 nfp f3
  generalize hs4 : ({ s3 with heap := pushCells (s3.heap.push { cls := .type "dict", data := .dict #[] }) scope.names } : Shared) = s4 at I4 ⊢
  have st4 : tn 0 s4.heap := T.keep _ _ _ st3 fun b _ o e => by rw [← hs4]; exact pushCells_keeps _ _ _ _ (Heap.get?_push_of_some _ e)
  have stat : ∀ {σ' : St} {H' : Hp} {s' : Shared}, Inv (X.blk s3 H3 scope ce fp) [] σ' H' s' → (∀ b ∈ fp, H' b = none) → ∀ b ∈ fp, FpOk (X.blk s3 H3 scope ce fp) [] H' b := fun {σ' H' s'} I' hn b hb =>
    ⟨hn b hb, (I'.ok.exf b hb).1, I'.ok.exfs b hb, .inl hb, fun x c e => (I'.ok.exf b hb).2 x c e, fun p hp => absurd (show p ∈ ([] : List (Addr × Obj)) ++ [] from hp) (by simp)⟩
  have loop : codeAny (model X.prog X.w) X.A (.compLoop (.DictComp kx vx [⟨tg, iter, ifs, 0⟩] scope pos) 0 (.ref it) (.ref D) ce) (compPost (model X.prog X.w) X.A X.xe use Qf (.ref D) s3.heap.objs.size) s4 := by
    refine compLoop_anyD (fun n s' => ∃ i H', Inv (X.blk s3 H3 scope ce fp) [] (wipe σ (own.map (·.2))) H' s' ∧ tn i s'.heap ∧ (∀ b ∈ fp, H' b = none) ∧ W i n H') ?_ m0 ⟨0, H3, I4, st4, nfp, w0⟩
    rintro n s5 ⟨i, H5, I5, st5, n5, w5⟩
    rcases turn i n H5 w5 with ⟨stop, qq⟩ | ⟨go, Nx, hNx, step⟩
    · have td := T.done (X.blk s3 H3 scope ce fp) rfl rfl rfl hc i [] s5 _ H5 (fun _ _ => False) I5 (stat I5 n5) st5 stop
      refine thnF td fun r s6 ⟨hr, I6⟩ => ?_
      subst hr
      -- back in the def's context
      have I7 : Inv X pins σ H5 s6 := I3.call' (ch := fp) I6.os I6.base I6.hok I6.bare fun b hb => ⟨(f3 b hb).1.2.2.2.1, (f3 b hb).1.2.1, (f3 b hb).1.2.2.2.2.1, (f3 b hb).1.2.2.2.2.2⟩
      have nC : H5 s3.heap.objs.size = none := by
        have z : H5 ce.locals = none := I6.free
        rw [cL] at z
        exact z
      obtain ⟨m, hn, _⟩ := I6.loc
      have hn : s6.heap.Ns ce.locals m := hn
      rw [cL] at hn
      exact hRR D s3.heap.objs.size s6 m H5 I7 qq hn (I3.fpOk (Nat.le_refl _) nC)
    · have ti := T.item (X.blk s3 H3 scope ce fp) rfl rfl rfl hc i [] s5 _ H5 (fun _ _ => False) I5 (stat I5 n5) st5 go
      refine thnF ti fun r s6 ⟨u, hr, h6⟩ => ?_
      subst hr
      refine thnF h6 fun _ s7 ⟨x, H7, I7, r7, y7, st7, n7⟩ => ?_
      have I7' := I7.pinned (stat I7 n7) (T.obj _ _ st7)
      refine thnF (pg.run _ s7 _ H7 x u _ I7' r7 (step x H7 y7)) fun _ s8 ⟨σ8, H8, I8, hw8, q8⟩ => ?_
      refine thnF (pt.run _ s8 σ8 H8 _ I8 q8) fun b s9 ⟨H9, I9, q9⟩ => ?_
      -- the turn's end
      have fin : ∀ {s' : Shared} {H' : Hp}, Inv (X.blk s3 H3 scope ce fp) ([] ++ pinsAt fp s7.heap) σ8 H' s' → Nx H' → ∃ m, m < n ∧ ∃ i H', Inv (X.blk s3 H3 scope ce fp) [] (wipe σ (own.map (·.2))) H' s' ∧ tn i s'.heap ∧ (∀ b ∈ fp, H' b = none) ∧ W i m H' := fun {s' H'} I' nx => by
        obtain ⟨m', hm, w'⟩ := hNx H' nx
        have pin' : ∀ b ∈ fp, ∀ o, s7.heap.get? b = some o → s'.heap.get? b = some o ∧ H' b = none := fun b hb o e =>
          let z := I'.pin (b, o) (List.mem_append_right _ (List.mem_append_right _ (mem_pinsAt hb e)))
          ⟨z.1, z.2.1⟩
        have hl : (wipe σ (own.map (·.2))).length = σ8.length := by rw [← hw8, wipe_length]
        refine ⟨m', hm, i + 1, H', (I'.unpinned (pins := [])).weak hl (fun j v e => ?_), T.keep _ _ _ st7 fun b hb o e => (pin' b hb o e).1, fun b hb => ?_, w'⟩
        · rw [← hw8] at e
          exact (wipe_some e).1
        · obtain ⟨o, e, _⟩ := T.obj _ _ st7 b hb
          exact (pin' b hb o e).2
      cases b with
      | false =>
        simp only [Bool.false_eq_true, if_false] at q9 ⊢
        exact fin I9 q9
      | true =>
        simp only [if_true] at q9 ⊢
        refine thnF (pk.run _ s9 σ8 H9 _ I9 q9) fun z s10 ⟨yk, H10, I10, r10, q10⟩ => ?_
        refine thnF (pe.run _ s10 σ8 H10 _ I10 q10) fun z2 s11 ⟨yv, H11, I11, r11, kvs, k, b0, ek, eb, hD11, hz11, nx⟩ => ?_
        subst ek
        exact d_dictSetT (X := X.blk s3 H3 scope ce fp) hu I11 hD11 eb hz11 r10 r11 fun s12 I12 => fin I12 nx
  exact codeAny_compStart_dict loop (T.self X.A 0 _ _ _ st4 loop)
theorem pe_dcT {kx vx tg iter : Expr} {ifs : List Expr} {scope : Scope} {own : List (Str × Nat)} {pos : Pos} {wi : TI} {g : TG} {tt : TT} {tk tv : TE} (hu : X.A.units + 1 < cLine) (hc : X.calm = true) (hN : X.N.Nodup) (hi : PI X tg iter wi) (ok : BlkOk X.N X.env.scope scope own)
    (hg : ∀ (s : Shared) (H : Hp) (C : Addr) (cl : List (Str × Addr)) (fp : List Addr), PG (X.blk s H scope (compEnvC scope cl C X.env) fp) tg g) (ht : ∀ (s : Shared) (H : Hp) (C : Addr) (cl : List (Str × Addr)) (fp : List Addr), PTs (X.blk s H scope (compEnvC scope cl C X.env) fp) ifs tt)
    (hk : ∀ (s : Shared) (H : Hp) (C : Addr) (cl : List (Str × Addr)) (fp : List Addr), PE (X.blk s H scope (compEnvC scope cl C X.env) fp) kx tk)
    (he : ∀ (s : Shared) (H : Hp) (C : Addr) (cl : List (Str × Addr)) (fp : List Addr), PE (X.blk s H scope (compEnvC scope cl C X.env) fp) vx tv) (hs : ∀ x, foldedSetIterable iter X.env x = pure x := by intro _; rfl) :
    PE X (.DictComp kx vx [⟨tg, iter, ifs, 0⟩] scope pos) (tDcT wi g tt tk tv (own.map (·.2))) := by
  refine ⟨fun pins s σ H Q I h => ?_⟩
  rw [arm_eval_DictComp]
  refine dcT_core hu hc hN I hi ok hg ht hk he hs h fun D C s' m H' I' q hn f => ⟨m, hn, fun h'' sb => ?_⟩
  obtain ⟨f0, f1, f2, f3, f4, f5⟩ := f
  exact ⟨.ref D, H', I'.turned (t' := s'.toks) (fun b o hb e => (sb.2 b hb).trans e) f0 f1 f3 f4 f5, rfl, q⟩

/-- two fors -/
def tDc2T (wi : TI) (g : TG) (tt : TT) (wi1 : TI) (g1 : TG) (tt1 : TT) (tk te : TE) (vs vs1 : List Nat) : TE := fun σ H Q => wi σ H fun J H1 => ∀ D, H1 D = none → ∃ W : Nat → Nat → Hp → Prop, (∃ m, W 0 m (upd H1 D (.dT []))) ∧ ∀ i m H, W i m H →
  (J.stop i H ∧ Q (.ref D) H) ∨ (J.go i H ∧ ∃ Nx : Hp → Prop, (∀ H', Nx H' → ∃ m', m' < m ∧ W (i + 1) m' H') ∧ ∀ x H', J.yld i H x H' → g x (wipe σ vs) H' fun σ2 H2 => wipe σ2 vs = wipe σ vs ∧ tt σ2 H2 fun b H3 =>
    if b = true then wi1 σ2 H3 fun J1 H4 => ∃ W1 : Nat → Nat → Hp → Prop, (∃ m, W1 0 m H4) ∧ ∀ j k H, W1 j k H →
      (J1.stop j H ∧ Nx H) ∨ (J1.go j H ∧ ∃ Nx1 : Hp → Prop, (∀ H', Nx1 H' → ∃ k', k' < k ∧ W1 (j + 1) k' H') ∧ ∀ x H', J1.yld j H x H' → g1 x (wipe σ2 vs1) H' fun σ3 H5 => wipe σ3 vs1 = wipe σ2 vs1 ∧ tt1 σ3 H5 fun b H6 =>
        if b = true then tk σ3 H6 fun y H7 => te σ3 H7 fun z H8 => ∃ kvs k q, y = .ref q ∧ H8 q = some (.tup (k.map kV)) ∧ H8 D = some (.dT kvs) ∧ kvs.length < sizeLine ∧ Nx1 (upd H8 D (.dT (putK kvs k z))) else Nx1 H6)
    else Nx H3)
theorem dc2T_core {pins : List (Addr × Obj)} {s : Shared} {σ : St} {H : Hp} {Q : VK} {kx elt tg iter tg1 iter1 : Expr} {ifs ifs1 : List Expr} {scope : Scope} {own : List (Str × Nat)} {vs1 : List Nat} {pos pos' : Pos} {wi wi1 : TI} {g g1 : TG} {tt tt1 : TT} {tk te : TE} {use : Option (Value → Sem Unit)} {Qf : Value → Shared → Prop}
    (hu : X.A.units + 1 < cLine) (hc : X.calm = true) (hN : X.N.Nodup) (I : Inv X pins σ H s) (hi : PI X tg iter wi) (ok : BlkOk X.N X.env.scope scope own) (hv : ∀ i ∈ vs1, i ∈ own.map (·.2))
    (hg : ∀ (s : Shared) (H : Hp) (C : Addr) (cl : List (Str × Addr)) (fp : List Addr), PG (X.blk s H scope (compEnvC scope cl C X.env) fp) tg g) (ht : ∀ (s : Shared) (H : Hp) (C : Addr) (cl : List (Str × Addr)) (fp : List Addr), PTs (X.blk s H scope (compEnvC scope cl C X.env) fp) ifs tt)
    (hk : ∀ (s : Shared) (H : Hp) (C : Addr) (cl : List (Str × Addr)) (fp : List Addr), PE (X.blk s H scope (compEnvC scope cl C X.env) fp) kx tk)
    (he : ∀ (s : Shared) (H : Hp) (C : Addr) (cl : List (Str × Addr)) (fp : List Addr), PE (X.blk s H scope (compEnvC scope cl C X.env) fp) elt te) (hs : ∀ x, foldedSetIterable iter X.env x = pure x)
    (hi1 : ∀ (s : Shared) (H : Hp) (C : Addr) (cl : List (Str × Addr)) (fp : List Addr), PI (X.blk s H scope (compEnvC scope cl C X.env) fp) tg1 iter1 wi1)
    (hg1 : ∀ (s : Shared) (H : Hp) (C : Addr) (cl : List (Str × Addr)) (fp : List Addr), PG (X.blk s H scope (compEnvC scope cl C X.env) fp) tg1 g1)
    (ht1 : ∀ (s : Shared) (H : Hp) (C : Addr) (cl : List (Str × Addr)) (fp : List Addr), PTs (X.blk s H scope (compEnvC scope cl C X.env) fp) ifs1 tt1)
    (hs1 : ∀ env x, foldedSetIterable iter1 env x = pure x)
    (h : tDc2T wi g tt wi1 g1 tt1 tk te (own.map (·.2)) vs1 σ H Q)
    (hRR : ∀ D C s' m H', Inv X pins σ H' s' → Q (.ref D) H' → s'.heap.Ns C m → FpOk X pins H' C → compPost (model X.prog X.w) X.A X.xe use Qf (.ref D) C (.ok .next) s') :
    wpAny (model X.prog X.w) X.A (comprehension (.DictComp kx elt [⟨tg, iter, ifs, 0⟩, ⟨tg1, iter1, ifs1, 0⟩] scope pos) scope X.env pos' newDict false (eval iter X.env) use) Qf X.xe s := by
  have hfree : ∀ y ∈ scope.names, y.2 = .free → ∃ c, X.env.cells.lookup y.1 = some c := fun y hy e => by
    rcases ok.free y hy e with k | k
    · exact I.ok.has _ (.inl k)
    · exact I.ok.has _ (.inr k)
  refine wpAny_comprehension_free (use := use) rfl hs (closure_ok hfree) ok.kind (fun y hy e => by rw [ok.uniq y hy, e])
    (thn (hi.run pins s σ H _ I h) fun xv s1 hx => thn hx fun itv s2 h2 => ?_)
  obtain ⟨it, fp, tn, J, H2, e, I2, T, st2, f2, q⟩ := h2
  subst e
  refine wpAny_newObj_type (newEnv_comp ?_)
  generalize hD : s2.heap.objs.size = D
  have hDn : H2 D = none := I2.hok.fresh (Nat.le_of_eq hD)
  obtain ⟨W, ⟨m0, w0⟩, turn⟩ := q D hDn
  -- the new list
  generalize hs3 : ({ s2 with heap := s2.heap.push { cls := .type "dict", data := .dict #[] } } : Shared) = s3
  have I3 : Inv X pins σ (upd H2 D (.dT [])) s3 := by
    rw [← hs3]
    refine I2.laid (t' := s2.toks) (fun b o e => Heap.get?_push_of_some _ e) (Nat.le_of_eq hD) ?_
    rw [← hD]
    exact dt_empty s2.heap I2.big
  have h3 : s3.heap = s2.heap.push { cls := .type "dict", data := .dict #[] } := by rw [← hs3]
  have sz : ∀ b ∈ fp, b < s2.heap.objs.size := fun b hb => by
    obtain ⟨o, e, _⟩ := T.obj _ _ st2 b hb
    exact Heap.lt_size e
  have f3 : ∀ b ∈ fp, FpOk X pins (upd H2 D (.dT [])) b ∧ b < s3.heap.objs.size := fun b hb => by
    have hlt := sz b hb
    refine ⟨⟨?_, (f2 b hb).2⟩, by rw [h3, Heap.size_push]; exact Nat.lt_succ_of_lt hlt⟩
    rw [upd_ne (by rw [← hD]; exact Nat.ne_of_lt hlt)]
    exact (f2 b hb).1
  have st3 : tn 0 s3.heap := T.keep _ _ _ st2 fun b _ o e => by rw [h3]; exact Heap.get?_push_of_some _ e
  have I4 := block_start I3 ok hN f3
  have pg := hg s3 (upd H2 D (.dT [])) s3.heap.objs.size (cellsFrom (s3.heap.objs.size + 1) scope.names (cloFrom X.env.cells scope.names [])) fp
  have pt := ht s3 (upd H2 D (.dT [])) s3.heap.objs.size (cellsFrom (s3.heap.objs.size + 1) scope.names (cloFrom X.env.cells scope.names [])) fp
  have pk := hk s3 (upd H2 D (.dT [])) s3.heap.objs.size (cellsFrom (s3.heap.objs.size + 1) scope.names (cloFrom X.env.cells scope.names [])) fp
  have pe := he s3 (upd H2 D (.dT [])) s3.heap.objs.size (cellsFrom (s3.heap.objs.size + 1) scope.names (cloFrom X.env.cells scope.names [])) fp
  have pi1 := hi1 s3 (upd H2 D (.dT [])) s3.heap.objs.size (cellsFrom (s3.heap.objs.size + 1) scope.names (cloFrom X.env.cells scope.names [])) fp
  have pg1 := hg1 s3 (upd H2 D (.dT [])) s3.heap.objs.size (cellsFrom (s3.heap.objs.size + 1) scope.names (cloFrom X.env.cells scope.names [])) fp
  have pt1 := ht1 s3 (upd H2 D (.dT [])) s3.heap.objs.size (cellsFrom (s3.heap.objs.size + 1) scope.names (cloFrom X.env.cells scope.names [])) fp
  show codeAny _ _ (.compStart (.DictComp kx elt [⟨tg, iter, ifs, 0⟩, ⟨tg1, iter1, ifs1, 0⟩] scope pos) 0 (.ref it) (.ref D) (compEnvC scope (cellsFrom (s3.heap.objs.size + 1) scope.names (cloFrom X.env.cells scope.names [])) s3.heap.objs.size X.env)) (compPost (model X.prog X.w) X.A X.xe use Qf (.ref D) s3.heap.objs.size) { s3 with heap := pushCells (s3.heap.push { cls := .type "dict", data := .dict #[] }) scope.names }
  have nfp : ∀ b ∈ fp, (upd H2 D (.dT [])) b = none := fun b hb => (f3 b hb).1.1
  generalize hce : compEnvC scope (cellsFrom (s3.heap.objs.size + 1) scope.names (cloFrom X.env.cells scope.names [])) s3.heap.objs.size X.env = ce at I4 pg pt pk pe pi1 pg1 pt1 ⊢
  have cL : ce.locals = s3.heap.objs.size := by subst hce; rfl
  generalize hH3 : upd H2 D (.dT []) = H3 at I3 I4 pg pt pk pe pi1 pg1 pt1 w0 nfp f3
  generalize hs4 : ({ s3 with heap := pushCells (s3.heap.push { cls := .type "dict", data := .dict #[] }) scope.names } : Shared) = s4 at I4 ⊢
  have st4 : tn 0 s4.heap := T.keep _ _ _ st3 fun b _ o e => by rw [← hs4]; exact pushCells_keeps _ _ _ _ (Heap.get?_push_of_some _ e)
  have stat : ∀ {σ' : St} {H' : Hp} {s' : Shared}, Inv (X.blk s3 H3 scope ce fp) [] σ' H' s' → (∀ b ∈ fp, H' b = none) → ∀ b ∈ fp, FpOk (X.blk s3 H3 scope ce fp) [] H' b := fun {σ' H' s'} I' hn b hb =>
    ⟨hn b hb, (I'.ok.exf b hb).1, I'.ok.exfs b hb, .inl hb, fun x c e => (I'.ok.exf b hb).2 x c e, fun p hp => absurd (show p ∈ ([] : List (Addr × Obj)) ++ [] from hp) (by simp)⟩
  have loop : codeAny (model X.prog X.w) X.A (.compLoop (.DictComp kx elt [⟨tg, iter, ifs, 0⟩, ⟨tg1, iter1, ifs1, 0⟩] scope pos) 0 (.ref it) (.ref D) ce) (compPost (model X.prog X.w) X.A X.xe use Qf (.ref D) s3.heap.objs.size) s4 := by
    refine compLoopD2_out (hs1 ce) (fun n s' => ∃ i H', Inv (X.blk s3 H3 scope ce fp) [] (wipe σ (own.map (·.2))) H' s' ∧ tn i s'.heap ∧ (∀ b ∈ fp, H' b = none) ∧ W i n H') ?_ m0 ⟨0, H3, I4, st4, nfp, w0⟩
    rintro n s5 ⟨i, H5, I5, st5, n5, w5⟩
    rcases turn i n H5 w5 with ⟨stop, qq⟩ | ⟨go, Nx, hNx, step⟩
    · have td := T.done (X.blk s3 H3 scope ce fp) rfl rfl rfl hc i [] s5 _ H5 (fun _ _ => False) I5 (stat I5 n5) st5 stop
      refine thnF td fun r s6 ⟨hr, I6⟩ => ?_
      subst hr
      -- back in the def's context
      have I7 : Inv X pins σ H5 s6 := I3.call' (ch := fp) I6.os I6.base I6.hok I6.bare fun b hb => ⟨(f3 b hb).1.2.2.2.1, (f3 b hb).1.2.1, (f3 b hb).1.2.2.2.2.1, (f3 b hb).1.2.2.2.2.2⟩
      have nC : H5 s3.heap.objs.size = none := by
        have z : H5 ce.locals = none := I6.free
        rw [cL] at z
        exact z
      obtain ⟨m, hn, _⟩ := I6.loc
      have hn : s6.heap.Ns ce.locals m := hn
      rw [cL] at hn
      exact hRR D s3.heap.objs.size s6 m H5 I7 qq hn (I3.fpOk (Nat.le_refl _) nC)
    · have ti := T.item (X.blk s3 H3 scope ce fp) rfl rfl rfl hc i [] s5 _ H5 (fun _ _ => False) I5 (stat I5 n5) st5 go
      refine thnF ti fun r s6 ⟨u, hr, h6⟩ => ?_
      subst hr
      refine thnF h6 fun _ s7 ⟨x, H7, I7, r7, y7, st7, n7⟩ => ?_
      have I7' := I7.pinned (stat I7 n7) (T.obj _ _ st7)
      refine thnF (pg.run _ s7 _ H7 x u _ I7' r7 (step x H7 y7)) fun _ s8 ⟨σ8, H8, I8, hw8, q8⟩ => ?_
      refine thnF (pt.run _ s8 σ8 H8 _ I8 q8) fun b s9 ⟨H9, I9, q9⟩ => ?_
      -- the turn's end, from any slots that know what the block knew at its start
      have fin : ∀ {σ9 : St} {s' : Shared} {H' : Hp}, Inv (X.blk s3 H3 scope ce fp) ([] ++ pinsAt fp s7.heap) σ9 H' s' → (wipe σ (own.map (·.2))).length = σ9.length → (∀ (j : Nat) v, (wipe σ (own.map (·.2)))[j]? = some (some v) → σ9[j]? = some (some v)) → Nx H' →
          ∃ m, m < n ∧ ∃ i H', Inv (X.blk s3 H3 scope ce fp) [] (wipe σ (own.map (·.2))) H' s' ∧ tn i s'.heap ∧ (∀ b ∈ fp, H' b = none) ∧ W i m H' := fun {σ9 s' H'} I' hl hk nx => by
        obtain ⟨m', hm, w'⟩ := hNx H' nx
        have pin' : ∀ b ∈ fp, ∀ o, s7.heap.get? b = some o → s'.heap.get? b = some o ∧ H' b = none := fun b hb o e =>
          let z := I'.pin (b, o) (List.mem_append_right _ (List.mem_append_right _ (mem_pinsAt hb e)))
          ⟨z.1, z.2.1⟩
        refine ⟨m', hm, i + 1, H', (I'.unpinned (pins := [])).weak hl hk, T.keep _ _ _ st7 fun b hb o e => (pin' b hb o e).1, fun b hb => ?_, w'⟩
        obtain ⟨o, e, _⟩ := T.obj _ _ st7 b hb
        exact (pin' b hb o e).2
      have hl8 : (wipe σ (own.map (·.2))).length = σ8.length := by rw [← hw8, wipe_length]
      have hk8 : ∀ (j : Nat) v, (wipe σ (own.map (·.2)))[j]? = some (some v) → σ8[j]? = some (some v) := fun j v e => by
        rw [← hw8] at e
        exact (wipe_some e).1
      have hk9 : ∀ (j : Nat) v, (wipe σ (own.map (·.2)))[j]? = some (some v) → (wipe σ8 vs1)[j]? = some (some v) := fun j v e => by
        rw [← hw8] at e
        obtain ⟨e1, e2⟩ := wipe_some e
        rw [wipe_out fun z => e2 (hv j z)]
        exact e1
      cases b with
      | false =>
        simp only [Bool.false_eq_true, if_false] at q9 ⊢
        exact fin I9 hl8 hk8 q9
      | true =>
        simp only [if_true] at q9 ⊢
        refine thnF (pi1.run _ s9 σ8 H9 _ I9 q9) fun xv s10 hx => thnF hx fun itv s11 h11 => ?_
        obtain ⟨it1, fp1, tn1, J1, H11, e1, I11, T1, st11, f11, W1, ⟨m1, w1⟩, turn1⟩ := h11
        subst e1
        -- the inner loop
        have stat1 : ∀ {H' : Hp}, (∀ b ∈ fp1, H' b = none) → ∀ b ∈ fp1, FpOk (X.blk s3 H3 scope ce fp) ([] ++ pinsAt fp s7.heap) H' b := fun hn b hb => ⟨hn b hb, (f11 b hb).2⟩
        have loop1 : codeAny (model X.prog X.w) X.A (.compLoop (.DictComp kx elt [⟨tg, iter, ifs, 0⟩, ⟨tg1, iter1, ifs1, 0⟩] scope pos) 1 (.ref it1) (.ref D) ce)
            (fun r s' => match r with
              | .ok _ => ∃ m, m < n ∧ ∃ i H', Inv (X.blk s3 H3 scope ce fp) [] (wipe σ (own.map (·.2))) H' s' ∧ tn i s'.heap ∧ (∀ b ∈ fp, H' b = none) ∧ W i m H'
              | .error _ => False) s11 := by
          refine compLoopD2_in (fun k s' => ∃ j H', Inv (X.blk s3 H3 scope ce fp) ([] ++ pinsAt fp s7.heap) (wipe σ8 vs1) H' s' ∧ tn1 j s'.heap ∧ (∀ b ∈ fp1, H' b = none) ∧ W1 j k H') ?_ m1 ⟨0, H11, I11.weak (wipe_length _ _) (fun j v e => (wipe_some e).1), st11, fun b hb => (f11 b hb).1, w1⟩
          rintro k s12 ⟨j, H12, I12, st12, n12, w12⟩
          rcases turn1 j k H12 w12 with ⟨stop1, nx1⟩ | ⟨go1, Nx1, hNx1, step1⟩
          · refine thnF (T1.done (X.blk s3 H3 scope ce fp) rfl rfl rfl hc j _ s12 (wipe σ8 vs1) H12 (fun _ _ => False) I12 (stat1 n12) st12 stop1) fun r s13 ⟨hr, I13⟩ => ?_
            subst hr
            exact fin I13 (hl8.trans (wipe_length σ8 vs1).symm) hk9 nx1
          · refine thnF (T1.item (X.blk s3 H3 scope ce fp) rfl rfl rfl hc j _ s12 (wipe σ8 vs1) H12 (fun _ _ => False) I12 (stat1 n12) st12 go1) fun r s13 ⟨u1, hr, h13⟩ => ?_
            subst hr
            refine thnF h13 fun _ s14 ⟨x1, H14, I14, r14, y14, st14, n14⟩ => ?_
            have I14' := I14.pinned (stat1 n14) (T1.obj _ _ st14)
            refine thnF (pg1.run _ s14 (wipe σ8 vs1) H14 x1 u1 _ I14' r14 (step1 x1 H14 y14)) fun _ s15 ⟨σ15, H15, I15, hw15, q15⟩ => ?_
            refine thnF (pt1.run _ s15 σ15 H15 _ I15 q15) fun b1 s16 ⟨H16, I16, q16⟩ => ?_
            have fin1 : ∀ {s' : Shared} {H' : Hp}, Inv (X.blk s3 H3 scope ce fp) (([] ++ pinsAt fp s7.heap) ++ pinsAt fp1 s14.heap) σ15 H' s' → Nx1 H' → ∃ m, m < k ∧ ∃ j H', Inv (X.blk s3 H3 scope ce fp) ([] ++ pinsAt fp s7.heap) (wipe σ8 vs1) H' s' ∧ tn1 j s'.heap ∧ (∀ b ∈ fp1, H' b = none) ∧ W1 j m H' := fun {s' H'} I' nx => by
              obtain ⟨m', hm, w'⟩ := hNx1 H' nx
              have pin' : ∀ b ∈ fp1, ∀ o, s14.heap.get? b = some o → s'.heap.get? b = some o ∧ H' b = none := fun b hb o e =>
                let z := I'.pin (b, o) (List.mem_append_right _ (List.mem_append_right _ (mem_pinsAt hb e)))
                ⟨z.1, z.2.1⟩
              refine ⟨m', hm, j + 1, H', I'.unpinned.weak (by rw [← hw15, wipe_length]) (fun j v e => by rw [← hw15] at e; exact (wipe_some e).1), T1.keep _ _ _ st14 fun b hb o e => (pin' b hb o e).1, fun b hb => ?_, w'⟩
              obtain ⟨o, e, _⟩ := T1.obj _ _ st14 b hb
              exact (pin' b hb o e).2
            cases b1 with
            | false =>
              simp only [Bool.false_eq_true, if_false] at q16 ⊢
              exact fin1 I16 q16
            | true =>
              simp only [if_true] at q16 ⊢
              refine thnF (pk.run _ s16 σ15 H16 _ I16 q16) fun z0 s160 ⟨y0, H160, I160, r160, q160⟩ => ?_
              refine thnF (pe.run _ s160 σ15 H160 _ I160 q160) fun z s17 ⟨yv, H17, I17, r17, kvs, k0, b0, ek, eb, hD17, hz17, nx⟩ => ?_
              subst ek
              exact d_dictSetT (X := X.blk s3 H3 scope ce fp) hu I17 hD17 eb hz17 r160 r17 fun s18 I18 => fin1 I18 nx
        exact compStartD1_ok loop1 (T1.self X.A 0 _ _ _ st11 loop1)
  exact codeAny_compStart_dict loop (T.self X.A 0 _ _ _ st4 loop)
theorem pe_dc2T {kx elt tg iter tg1 iter1 : Expr} {ifs ifs1 : List Expr} {scope : Scope} {own : List (Str × Nat)} {vs1 : List Nat} {pos : Pos} {wi wi1 : TI} {g g1 : TG} {tt tt1 : TT} {tk te : TE} (hu : X.A.units + 1 < cLine) (hc : X.calm = true) (hN : X.N.Nodup) (hi : PI X tg iter wi) (ok : BlkOk X.N X.env.scope scope own) (hv : ∀ i ∈ vs1, i ∈ own.map (·.2))
    (hg : ∀ (s : Shared) (H : Hp) (C : Addr) (cl : List (Str × Addr)) (fp : List Addr), PG (X.blk s H scope (compEnvC scope cl C X.env) fp) tg g) (ht : ∀ (s : Shared) (H : Hp) (C : Addr) (cl : List (Str × Addr)) (fp : List Addr), PTs (X.blk s H scope (compEnvC scope cl C X.env) fp) ifs tt)
    (hi1 : ∀ (s : Shared) (H : Hp) (C : Addr) (cl : List (Str × Addr)) (fp : List Addr), PI (X.blk s H scope (compEnvC scope cl C X.env) fp) tg1 iter1 wi1)
    (hg1 : ∀ (s : Shared) (H : Hp) (C : Addr) (cl : List (Str × Addr)) (fp : List Addr), PG (X.blk s H scope (compEnvC scope cl C X.env) fp) tg1 g1) (ht1 : ∀ (s : Shared) (H : Hp) (C : Addr) (cl : List (Str × Addr)) (fp : List Addr), PTs (X.blk s H scope (compEnvC scope cl C X.env) fp) ifs1 tt1)
    (hk : ∀ (s : Shared) (H : Hp) (C : Addr) (cl : List (Str × Addr)) (fp : List Addr), PE (X.blk s H scope (compEnvC scope cl C X.env) fp) kx tk)
    (he : ∀ (s : Shared) (H : Hp) (C : Addr) (cl : List (Str × Addr)) (fp : List Addr), PE (X.blk s H scope (compEnvC scope cl C X.env) fp) elt te) (hs : ∀ x, foldedSetIterable iter X.env x = pure x := by intro _; rfl) (hs1 : ∀ env x, foldedSetIterable iter1 env x = pure x := by intro _ _; rfl) :
    PE X (.DictComp kx elt [⟨tg, iter, ifs, 0⟩, ⟨tg1, iter1, ifs1, 0⟩] scope pos) (tDc2T wi g tt wi1 g1 tt1 tk te (own.map (·.2)) vs1) := by
  refine ⟨fun pins s σ H Q I h => ?_⟩
  rw [arm_eval_DictComp]
  refine dc2T_core hu hc hN I hi ok hv hg ht hk he hs hi1 hg1 ht1 hs1 h fun D C s' m H' I' q hn f => ⟨m, hn, fun h'' sb => ?_⟩
  obtain ⟨f0, f1, f2, f3, f4, f5⟩ := f
  exact ⟨.ref D, H', I'.turned (t' := s'.toks) (fun b o hb e => (sb.2 b hb).trans e) f0 f1 f3 f4 f5, rfl, q⟩

end
end L2
end
section
set_option Elab.async false
set_option linter.all false
set_option maxRecDepth 100000
set_option maxHeartbeats 2000000
/-! enumerate of a tuple; setdefault of a dict with tuple keys; x is True; -x: at the hand layer's level -/
namespace L2
open PySem PySem.Spec PyProof.Rows
theorem meets_enum_tup (t0 : Addr) (items : Array Value) :
    Meets (Builtin.«enumerate.__new__» ⟨[.type "enumerate", .ref t0], []⟩) (fun _ R s => s.heap.IsTuple t0 items ∧
      R (.ok (.ret (.ref (s.heap.push { cls := .type "tuple_iterator", data := .fields #[.ref t0, .int 0 0] }).objs.size))) { s with heap := (s.heap.push { cls := .type "tuple_iterator", data := .fields #[.ref t0, .int 0 0] }).push { cls := .type "enumerate", data := .fields #[.none, .bool false, .ref s.heap.objs.size, rawInt 0, .none, .none] } }) :=
  .of_wp fun prog w A R s h => by
    obtain ⟨hp, g, d, tk, os⟩ := s
    obtain ⟨h1, h⟩ := h
    have hsub := sub_enumerate
    have q1 : ∀ {A' : Around} {E : Value → Shared → Prop} {Q : Value → Shared → Prop}, Q (.ref hp.objs.size) ⟨hp.push { cls := .type "tuple_iterator", data := .fields #[.ref t0, .int 0 0] }, g, d, tk, os⟩ → wpAny (model prog w) A' (pyIter (.ref t0)) Q E ⟨hp, g, d, tk, os⟩ :=
      fun q => (begins_tuple t0 items).iter prog w _ _ ⟨hp, g, d, tk, os⟩ _ h1 q
    wp_walk using q1
    refine wpAny_stack_any fun st => wpAny_pure ?_
    split
    · rename_i c _ _ _ _ _
      cases (c == Value.type "enumerate")
      · wp_walk using q1
        exact ⟨_, rfl, h⟩
      · wp_walk using q1
        exact ⟨_, rfl, h⟩
    · wp_walk using q1
      exact ⟨_, rfl, h⟩
theorem call_enum_tup {prog : Program} {w : World} {A : Around} {E : Value → Shared → Prop} {s : Shared} {l : Addr} {items : Array Value} {Q : Value → Shared → Prop} (hL : s.heap.IsTuple l items)
    (h : ∀ h', IsEnum h' (s.heap.objs.size + 1) s.heap.objs.size 0 .none → h'.IsTupleIter s.heap.objs.size l 0 → h'.objs.size = s.heap.objs.size + 2 →
      (∀ b o, s.heap.get? b = some o → h'.get? b = some o) → Q (.ref (s.heap.objs.size + 1)) { s with heap := h' }) :
    wpAny (model prog w) A (call (.type "enumerate") [.ref l]) Q E s := by
  refine callType_new F.called_enumerate (by decide) (F.typeCall_enumerate_1 _) (F.newCall_enumerate_1 _) (fun obj => F.args_object_init_2 obj _) F.entry_enumerate_new (meets_enum_tup l items) ⟨hL, ?_⟩
  have hz : (s.heap.push { cls := .type "tuple_iterator", data := .fields #[.ref l, .int 0 0] }).objs.size = s.heap.objs.size + 1 := Heap.size_push ..
  show _ ∧ _
  rw [hz]
  have he : IsEnum ((s.heap.push { cls := .type "tuple_iterator", data := .fields #[.ref l, .int 0 0] }).push { cls := .type "enumerate", data := .fields #[.none, .bool false, .ref s.heap.objs.size, rawInt 0, .none, .none] }) (s.heap.objs.size + 1) s.heap.objs.size 0 .none := by
    have := Heap.get?_push_size (s.heap.push { cls := .type "tuple_iterator", data := .fields #[.ref l, .int 0 0] }) (o := { cls := .type "enumerate", data := .fields #[.none, .bool false, .ref s.heap.objs.size, rawInt 0, .none, .none] }) rfl
    rw [hz] at this; exact this
  exact ⟨⟨_, he, rfl⟩, h _ he ⟨_, Heap.get?_push_of_some _ (Heap.get?_push_size _ rfl), rfl, rfl⟩ (by rw [Heap.size_push, hz]) fun b o x => Heap.get?_push_of_some _ (Heap.get?_push_of_some _ x)⟩
/-- the tuple at a, each item in a new pair -/
def IteT (K : PySem.W.Frag) (a : Addr) : It :=
  ⟨fun i H => ∃ (xs : List V) (x : V), SqT K H a xs ∧ xs[i]? = some x, fun i H v H' => ∃ T x, v = .ref T ∧ H T = none ∧ H' = upd H T (.tup [.int (i : Nat), x]) ∧ ∀ xs, SqT K H a xs → xs[i]? = some x, fun i H => ∃ xs : List V, SqT K H a xs ∧ xs.length = i⟩
theorem turn_enumT {P : Program} {w : World} {K : PySem.W.Frag} {elts : List Expr} {kk : Nat} {tpos : Pos} (a e it : Addr) :
    Turn P w K (.Tuple elts kk tpos) (IteT K a) [e, it] e (fun i h => (∃ old, IsEnum h e it ((i : Nat) : Int) old) ∧ h.IsTupleIter it a i ∧ e ≠ it ∧ a ≠ it ∧ a ≠ e) where
  mem := by simp
  obj := fun i h st b hb => by
    obtain ⟨⟨old, he⟩, ⟨o, ho, hc, hd⟩, _⟩ := st
    have e' : b = e ∨ b = it := by simpa using hb
    rcases e' with z | z
    · rw [z]; exact ⟨_, he, fun v q => nomatch q⟩
    · rw [z]; exact ⟨o, ho, fun v q => by rw [hd] at q; cases q⟩
  keep := fun i h h' st k => let ⟨⟨old, he⟩, hi, hne⟩ := st; ⟨⟨old, k e (by simp) _ he⟩, hi.at fun o q => k it (by simp) o q, hne⟩
  item := by
    intro X hP hw hK hc i pins s σ H E I hf st hg
    subst hP hw hK
    obtain ⟨⟨old, he⟩, hit, hne, hai, hae⟩ := st
    obtain ⟨xs, x, hq, hx⟩ := hg
    obtain ⟨its, rv, p, hz⟩ := I.tuple hq
    obtain ⟨u, hu, ru⟩ := rv.get hx
    have hel : e < s.heap.objs.size := Heap.lt_size he
    have hil : it < s.heap.objs.size := by obtain ⟨_, q, _⟩ := hit; exact Heap.lt_size q
    have hin : i < its.toArray.size := by
      have := (List.getElem?_eq_some_iff.mp hu).1
      simpa using this
    refine wpAny_pyNext_enum_itemD (Draws.tuple (A := X.A.in1) (I.ok.hd hc) it a hai its.toArray) he ⟨hit, (show s.heap.IsTuple a its.toArray from p)⟩ hin hne (by simp [hne, hae.symm]) fun y h' tk hy ho hit' hT hsz hk => ?_
    have hy' : y = u := by
      have hy : its.toArray[i]? = some y := hy
      simp only [List.getElem?_toArray] at hy
      rw [hu] at hy
      exact (Option.some.inj hy).symm
    subst hy'
    refine ⟨_, rfl, wpAny_letOwnedTupleGo_enum (s := { s with heap := h', toks := tk + 1 }) ho fun h'' he' sb => ?_⟩
    have hT2 : h''.get? s.heap.objs.size = some { cls := .type "tuple", data := .seq #[.int i tk, y] } := (sb.2 _ (Nat.ne_of_gt hel)).trans hT
    have new : ObjOk X.prog X.w (upd H s.heap.objs.size (.tup [.int (i : Nat), x])) h'' s.heap.objs.size (.tup [.int (i : Nat), x]) :=
      ⟨by show 2 ≤ sizeLine; decide, [.int i tk, y], .cons ⟨_, rfl⟩ (.cons ru .nil), ⟨_, hT2, rfl, _, rfl⟩⟩
    have I1 : Inv X pins σ (upd H s.heap.objs.size (.tup [.int (i : Nat), x])) { s with heap := h'', toks := tk + 1 } :=
      I.turnedNew (ch := [e, it]) (fun b ob hb q => (sb.2 b (fun z => hb (by simp [z]))).trans (hk b ob (fun z => hb (by simp [z])) (fun z => hb (by simp [z])) q)) hf (Nat.le_refl _) new
    refine ⟨.ref s.heap.objs.size, _, I1, rfl, ⟨_, x, rfl, I.hok.fresh (Nat.le_refl _), rfl, fun ys hy => by rw [I.tuple_inj hy hq]; exact hx⟩, ⟨⟨y, ?_⟩, hit'.1.at fun o q => (sb.2 it (Ne.symm hne)).trans q, hne, hai, hae⟩, fun b hb => ?_⟩
    · have e1 : ((i + 1 : Nat) : Int) = (i : Int) + 1 := by omega
      rw [e1]; exact he'
    · have hb' : b < s.heap.objs.size := by
        have e' : b = e ∨ b = it := by simpa using hb
        rcases e' with z | z
        · rw [z]; exact hel
        · rw [z]; exact hil
      rw [upd_ne (Nat.ne_of_lt hb')]
      exact (hf b hb).1
  done := by
    intro X hP hw hK hc i pins s σ H E I hf st hg
    subst hP hw hK
    obtain ⟨⟨old, he⟩, hit, hne, hai, hae⟩ := st
    obtain ⟨xs, hq, hx⟩ := hg
    obtain ⟨its, rv, p, hz⟩ := I.tuple hq
    obtain ⟨f0, f1, f2, f3, f4, f5⟩ := hf it (by simp)
    have hl := rv.length
    have ei : i = its.toArray.size := by simp; omega
    subst ei
    exact wpAny_pyNext_enum_endD (Draws.tuple (A := X.A.in1) (I.ok.hd hc) it a hai its.toArray) he ⟨hit, (show s.heap.IsTuple a its.toArray from p)⟩ fun h' eb => ⟨rfl, I.turned (t' := s.toks) (fun b o hb q => eb b o hb q) f0 f1 f3 f4 f5⟩
  self := fun A i s Q E st h => let ⟨⟨_, he⟩, _⟩ := st; wpAny_pyIter_enum he h
def iEnumT (K : PySem.W.Frag) (ta : TA) : TI := fun σ H R => ta σ H fun vs H1 => ∃ a xs, vs = [V.ref a] ∧ SqT K H1 a xs ∧ R (IteT K a) H1
theorem pi_enumT {X : Cx} {e : Expr} {ta : TA} {p pos tpos : Pos} {elts : List Expr} {kk : Nat} (hg : Gl X "enumerate") (hm : X.mg "enumerate" = none) (ha : PA X [e] ta) (hs : starEach [e] X.env = [(false, eval e X.env)] := by rfl) :
    PI X (.Tuple elts kk tpos) (.Call (.Name "enumerate" p) [e] [] pos) (iEnumT X.K ta) := by
  refine ⟨fun pins s σ H R I h => ?_⟩
  refine Call_ (ld_blt I hg hm boot_enumerate (PyProof.Rows.callWith_type1 (thn (ha.run pos pins s σ H _ I h) fun us s1 ⟨vs, H1, I1, r1, q1⟩ => ?_) hs rfl))
  obtain ⟨a, xs, ex, hq, q⟩ := q1
  subst ex
  cases r1 with
  | cons r rr =>
    cases rr
    cases r
    obtain ⟨its, rv, p', hz⟩ := I1.tuple hq
    have hal : a < s1.heap.objs.size := by obtain ⟨o, e, _⟩ := p'; exact Heap.lt_size e
    refine call_enum_tup (show s1.heap.IsTuple a its.toArray from p') fun h' he hit hsz hk => wpAny_pyIter_enum he ?_
    have I2 : Inv X pins σ H1 { s1 with heap := h' } := I1.kept (t' := s1.toks) hk
    refine ⟨s1.heap.objs.size + 1, [s1.heap.objs.size + 1, s1.heap.objs.size], _, _, H1, rfl, I2, turn_enumT a (s1.heap.objs.size + 1) s1.heap.objs.size, ⟨⟨.none, he⟩, hit, Nat.succ_ne_self _, Nat.ne_of_lt hal, Nat.ne_of_lt (Nat.lt_succ_of_lt hal)⟩, fun b hb => ?_, q⟩
    have e' : b = s1.heap.objs.size + 1 ∨ b = s1.heap.objs.size := by simpa using hb
    have hle : s1.heap.objs.size ≤ b := by
      rcases e' with z | z
      · rw [z]; exact Nat.le_add_right _ _
      · rw [z]; exact Nat.le_refl _
    exact I1.fpOk hle (I1.hok.fresh hle)
/-- d.setdefault(k, x), k a tuple -/
def tDSetdT (td ty tx : TE) : TE := fun σ H Q => td σ H fun x H1 => ∃ a, x = .ref a ∧ IsD H1 a ∧ ty σ H1 fun y H2 => tx σ H2 fun z H3 => ∃ (kvs : List (List Key × V)) (k : List Key) (b : Addr), H3 a = some (.dT kvs) ∧ y = .ref b ∧ H3 b = some (.tup (k.map kV)) ∧ kvs.length < sizeLine ∧
  (∀ v, valV kvs k = some v → Q v H3) ∧ (valV kvs k = none → Q z (upd H3 a (.dT (putK kvs k z))))
theorem d_setdT {X : Cx} {pins : List (Addr × Obj)} {σ : St} {H : Hp} {s : Shared} {a b : Addr} {u r : Value} {d : V} {k : List Key} {A : Around} {E : Value → Shared → Prop} {kvs : List (List Key × V)} {Q : Value → Shared → Prop} (hu : A.units + 1 < cLine) (I : Inv X pins σ H s) (e : H a = some (.dT kvs)) (eb : H b = some (.tup (k.map kV))) (ry : RelV (.ref b) u) (rd : RelV d r) (hl : kvs.length < sizeLine)
    (h1 : ∀ v, valV kvs k = some v → ∀ (w' : Value) (s' : Shared), Inv X pins σ H s' → RelV v w' → Q w' s') (h2 : valV kvs k = none → ∀ (w' : Value) (s' : Shared), Inv X pins σ (upd H a (.dT (putK kvs k d))) s' → RelV d w' → Q w' s') :
    wpAny (model X.prog X.w) A (call (.builtin "dict.setdefault") [.ref a, u, r]) Q E s := by
  cases (show u = Value.ref b from ry)
  obtain ⟨z, hd, xs, rel, dd⟩ := dt_of I.hok e
  have hz : xs.length ≤ sizeLine := by rw [← Paired.length rel]; exact z
  refine call_setdefault_heap (hsz := hz) (tupleKind_room_in1 hu) (key_of I.hok eb) hd dd (fun p hp => ?_) fun hn h' dd' hs => ?_
  · have q := rel.val k
    rw [hp] at q
    cases q0 : valV kvs k with
    | none =>
      rw [q0] at q
      exact (show False from q).elim
    | some v0 =>
      rw [q0] at q
      exact h1 v0 q0 _ _ (I.kept (t' := _) fun _ _ z => z) q
  · have q := rel.val k
    rw [hn] at q
    cases q0 : valV kvs k with
    | some v0 =>
      rw [q0] at q
      exact (show False from q).elim
    | none =>
      have hl2 : (putK kvs k d).length ≤ sizeLine := by
        have := length_putK kvs k d
        omega
      obtain ⟨q, es, ep, hq, e2, e3, e4, _, e5⟩ := dd'
      refine h2 q0 _ _ (d_write (t' := _) I (by rw [e]; exact True.intro) hs ⟨q, hq⟩ ⟨hl2, hd, _, (rel.put k eb rd).keeps fun c ys ec => ?_, q, es, ep, hq, e2, e3, e4, e5⟩) rd
      rw [upd_ne (ne_of ec e (fun z => nomatch z))]
      exact ec
section
variable {X : Cx} {o e f : Expr} {td ty tx : TE} {apos cpos : Pos}
theorem pe_dsetdT (hu : X.A.units + 1 < cLine) (ho : PE X o td) (he : PE X e ty) (hf : PE X f tx) (m : M2 X o "setdefault" apos e f cpos) : PE X (.Call (.Attribute o "setdefault" apos) [e, f] [] cpos) (tDSetdT td ty tx) := by
  refine ⟨fun pins s σ H Q I h => ?_⟩
  refine wpAny_Call_method m.base m.few m.line PySem.F.plainAttrs_dict PySem.F.slot_dict_setdefault PySem.F.type_dict_setdefault (thn (ho.run pins s σ H _ I h) fun u s1 ⟨x, H1, I1, rx, a, ex, d, q1⟩ => ?_)
  subst ex
  obtain rfl : u = Value.ref a := rx
  obtain ⟨t1, t2, _⟩ := isD_at I1 d
  refine ⟨t1, t2, ?_⟩
  rw [m.trees]
  refine Calls.callWith_builtin rfl (Calls.evalArgs_plain (Calls.spliced_cons (thn (he.run pins s1 σ H1 _ I1 q1) fun iv s2 ⟨y, H2, I2, ry, q2⟩ =>
    Calls.spliced_cons (thn (hf.run pins s2 σ H2 _ I2 q2) fun fv s3 ⟨z, H3, I3, rz, kvs, k, b, ea, ey, eb, hl, q3, q4⟩ => Calls.spliced_nil ?_))))
  subst ey
  exact d_setdT hu I3 ea eb ry rz hl (fun v hv w' s4 I4 rw' => ⟨v, _, I4, rw', q3 v hv⟩) fun hn w' s4 I4 rw' => ⟨z, _, I4, rw', q4 hn⟩
end
/-- x is True, x is False, x any value -/
def isTrueV (b : Bool) : V → Bool
  | .bl c => c == b
  | _ => false
def rIsBV (b : Bool) : R2 := fun x y H Q => y = .bl b ∧ Q (.bl (isTrueV b x)) H
theorem op_isBV {X : Cx} (b : Bool) : OpR X (compareOp .Is) (rIsBV b) := by
  intro pins s σ H x y v u Q I rx ry h
  obtain ⟨rfl, q⟩ := h
  cases (show u = Value.bool b from ry)
  have key : ∀ (v : Value) (c : Bool), plainIs v (.bool b) = true → (v == Value.bool b) = c → RelV x v → isTrueV b x = c → wpAny (model X.prog X.w) X.A (compareOp .Is v (.bool b)) (EP X pins σ Q) X.xe s := fun v c hp he _ hc =>
    wpAny_is_plain hp ⟨.bl (isTrueV b x), H, I, by rw [he, hc]; rfl, q⟩
  cases x with
  | non => cases (show v = Value.none from rx); exact key _ false rfl rfl rfl rfl
  | bl c => cases (show v = Value.bool c from rx); exact key _ (c == b) rfl (by cases c <;> cases b <;> rfl) rfl rfl
  | int i => obtain ⟨t, e⟩ := (show ∃ t, v = Value.int i t from rx); subst e; exact key _ false rfl rfl ⟨t, rfl⟩ rfl
  | str z => obtain ⟨t, e⟩ := (show ∃ t, v = Value.str z t from rx); subst e; exact key _ false rfl rfl ⟨t, rfl⟩ rfl
  | byt z => obtain ⟨t, e⟩ := (show ∃ t, v = Value.bytes z t from rx); subst e; exact key _ false rfl rfl ⟨t, rfl⟩ rfl
  | flt z => obtain ⟨t, e⟩ := (show ∃ t, v = Value.float z t from rx); subst e; exact key _ false rfl rfl ⟨t, rfl⟩ rfl
  | ref a => cases (show v = Value.ref a from rx); exact key _ false rfl rfl rfl rfl
  | ty n => cases (show v = Value.type n from rx); exact key _ false rfl rfl rfl rfl
end L2
end
section
set_option Elab.async false
set_option linter.all false
set_option maxRecDepth 100000
set_option maxHeartbeats 2000000
/-! L3: dict comprehensions, enumerate, setdefault, x is True, -x -/
namespace L3
open PySem L2
section
variable {X : Cx} {a b c e : Expr} {pos : Pos} {ta tb tc te : TE3} {tA tB' : TT3} {W : WX}
def un3 (g : Int → U) (ta : TE3) : TE3 := fun σ G Q => ta σ G fun x G1 => rI1 g x G1 Q
theorem e3neg (ha : PE X a (lowE X.K ta)) : PE X (.UnaryOp .USub a pos) (lowE X.K (un3 (fun i => .int (-i)) ta)) := (pe_un un_neg ha).imp fun σ H Q h => by
  obtain ⟨σ3, G, Q3, hs, hh, ht, hq⟩ := h
  refine ⟨σ3, G, _, hs, hh, ht, fun x H1 w G1 k1 hh1 r q1 => ?_⟩
  unfold rI1 at q1
  split at q1
  · cases r
    exact ⟨_, rfl, hq _ _ _ _ k1 hh1 (.int _) q1⟩
  · exact q1.elim
/-- x is True -/
def isB (b : Bool) : U → Bool
  | .bl c => c == b
  | _ => false
def rIsB3 (b : Bool) : R3 := fun x y G Q => match y with
  | .bl c => c = b ∧ Q (.bl (isB b x)) G
  | _ => False
theorem isB_eq {K : PySem.W.Frag} {H : Hp} {w : U} {v : V} {b : Bool} (r : Rep K H w v) : isTrueV b v = isB b w := by cases r <;> rfl
theorem o_isB (b : Bool) : OpR X (compareOp .Is) (lowR X.K (rIsB3 b)) := OpR.imp (op_isBV b) fun x y H Q q => by
  obtain ⟨a, b', G, Q3, ra, rb, hh, q, p⟩ := q
  unfold rIsB3 at q
  split at q
  · obtain ⟨rfl, q⟩ := q
    cases rb
    exact ⟨rfl, p.here hh (by rw [isB_eq ra]; exact .bl _) q⟩
  · exact q.elim

/-! ### enumerate -/
def enU (xs : List U) : List U := (List.range xs.length).map fun i => U.tup [.int (i : Nat), xs.getD i .non]
theorem enU_len (xs : List U) : (enU xs).length = xs.length := by unfold enU; rw [List.length_map, List.length_range]
theorem enU_get {xs : List U} {i : Nat} {x : U} (h : xs[i]? = some x) : (enU xs)[i]? = some (.tup [.int (i : Nat), x]) := by
  have hi := (List.getElem?_eq_some_iff.mp h).1
  unfold enU
  rw [List.getElem?_map, List.getElem?_range hi]
  show some (U.tup [.int (i : Nat), xs.getD i .non]) = _
  rw [List.getD_eq_getElem?_getD, h]
  rfl
def ie3 (ta : TE3) : TI3 := fun σ G R => ta σ G fun x G1 => match x with
  | .ref a => ∃ xs, G1 a = some (.lst xs) ∧ R ⟨enU xs, fun G => G a = some (.lst xs)⟩ G1
  | _ => False
theorem pair_low {K : PySem.W.Frag} {G : G3} {H H' : Hp} {T : Addr} {i : Int} {x : V} {w : U} (hh : RepH K G H) (hT : H T = none) (e : H' = upd H T (.tup [.int i, x])) (r : Rep K H w x) : Keep H H' ∧ RepH K G H' ∧ Rep K H' (.tup [.int i, w]) (.ref T) := by
  subst e
  exact ⟨Keep.new hT, hh.skip hT, .tup upd_same (.cons (.int _) (.cons (r.keep (Keep.new hT)) .nil))⟩
theorem i_enum {elts : List Expr} {kk : Nat} {tpos p : Pos} (hm : X.mg "enumerate" = none) (ha : PE X e (lowE X.K ta)) (hg : Gl X "enumerate" := by rfl) (hs : starEach [e] X.env = [(false, eval e X.env)] := by rfl) (hs2 : starEach [e] X.env = (false, eval e X.env) :: starEach [] X.env := by rfl) :
    PI X (.Tuple elts kk tpos) (.Call (.Name "enumerate" p) [e] [] pos) (lowI X.K (ie3 ta)) := (pi_enum hg hm (pa_cons ha pa_nil hs2) hs).imp fun σ H R h => by
  obtain ⟨σ3, G, Q3, hs, hh, ht, hq⟩ := h
  refine ⟨σ3, G, _, hs, hh, ht, fun v H1 w G1 k1 hh1 r q1 => ?_⟩
  split at q1
  · cases r
    rename_i a
    obtain ⟨xs, hg, q1⟩ := q1
    obtain ⟨vs, h1, rl⟩ := hh1 _ _ hg
    refine ⟨a, vs, rfl, SqL.of h1, hq _ _ _ _ k1 hh1 ⟨fun i G' H' hi k hh' ok => ?_, fun G' H' k hh' ok => ?_, fun i G' H' x H'' hi k hh' ok y => ?_⟩ q1⟩
    · have hi : i < (enU xs).length := hi
      rw [enU_len] at hi
      obtain ⟨us, h2, r2⟩ := hh' _ _ ok
      have hi2 : i < us.length := by rw [← r2.length]; exact hi
      exact ⟨us, us[i], SqL.of h2, by simp [hi2]⟩
    · obtain ⟨us, h2, r2⟩ := hh' _ _ ok
      refine ⟨us, SqL.of h2, ?_⟩
      show us.length ≤ (enU xs).length
      rw [enU_len]
      exact Nat.le_of_eq r2.length.symm
    · obtain ⟨us, h2, r2⟩ := hh' _ _ ok
      obtain ⟨T, x0, e1, e2, e3, e4⟩ := y
      subst e1
      obtain ⟨w, hw, rw⟩ := r2.get' (e4 us (SqL.of h2))
      obtain ⟨z1, z2, z3⟩ := pair_low hh' e2 e3 rw
      exact ⟨z1, z2, _, enU_get hw, z3⟩
  · exact q1.elim
/-- enumerate of a tuple -/
def ieT3 (ta : TE3) : TI3 := fun σ G R => ta σ G fun x G1 => match x with
  | .tup xs => R ⟨enU xs, fun _ => True⟩ G1
  | _ => False
theorem i_enumT {elts : List Expr} {kk : Nat} {tpos p : Pos} (hm : X.mg "enumerate" = none) (ha : PE X e (lowE X.K ta)) (hg : Gl X "enumerate" := by rfl) (hs : starEach [e] X.env = [(false, eval e X.env)] := by rfl) (hs2 : starEach [e] X.env = (false, eval e X.env) :: starEach [] X.env := by rfl) :
    PI X (.Tuple elts kk tpos) (.Call (.Name "enumerate" p) [e] [] pos) (lowI X.K (ieT3 ta)) := (pi_enumT hg hm (pa_cons ha pa_nil hs2) hs).imp fun σ H R h => by
  obtain ⟨σ3, G, Q3, hs, hh, ht, hq⟩ := h
  refine ⟨σ3, G, _, hs, hh, ht, fun v H1 w G1 k1 hh1 r q1 => ?_⟩
  split at q1
  · rename_i xs
    cases r with
    | @tup a vs ws h1 rl =>
      refine ⟨a, vs, rfl, SqT.of h1, hq _ _ _ _ k1 hh1 ⟨fun i G' H' hi k hh' ok => ?_, fun G' H' k hh' ok => ?_, fun i G' H' x H'' hi k hh' ok y => ?_⟩ q1⟩
      · have hi : i < (enU xs).length := hi
        rw [enU_len] at hi
        have hi2 : i < vs.length := by rw [← rl.length]; exact hi
        exact ⟨vs, vs[i], SqT.of (k.tup _ _ h1), by simp [hi2]⟩
      · refine ⟨vs, SqT.of (k.tup _ _ h1), ?_⟩
        show vs.length = (enU xs).length
        rw [enU_len]
        exact rl.length.symm
      · obtain ⟨T, x0, e1, e2, e3, e4⟩ := y
        subst e1
        obtain ⟨w, hw, rw⟩ := (rl.keep k).get' (e4 vs (SqT.of (k.tup _ _ h1)))
        obtain ⟨z1, z2, z3⟩ := pair_low hh' e2 e3 rw
        exact ⟨z1, z2, _, enU_get hw, z3⟩
  · exact q1.elim

/-! ### setdefault -/
def setd3 (td ty tx : TE3) : TE3 := fun σ G Q => td σ G fun x G1 => match x with
  | .ref d => (∃ kvs, G1 d = some (.dT kvs)) ∧ ty σ G1 fun y G2 => tx σ G2 fun z G3 => ∃ kvs k, G3 d = some (.dT kvs) ∧ tkey y = some k ∧ decide (kvs.length ≤ 99999) = true ∧ match look kvs k with
    | some v => Q v G3
    | none => Q z (gup G3 d (.dT (kvs ++ [(k, z)])))
  | _ => False
theorem e3setd {o e f : Expr} {td ty tx : TE3} {apos cpos : Pos} (hu : X.A.units + 1 < cLine) (ho : PE X o (lowE X.K td)) (he : PE X e (lowE X.K ty)) (hf : PE X f (lowE X.K tx)) (m : M2 X o "setdefault" apos e f cpos) : PE X (.Call (.Attribute o "setdefault" apos) [e, f] [] cpos) (lowE X.K (setd3 td ty tx)) :=
  (pe_dsetdT hu ho he hf m).imp fun σ H Q h => by
  obtain ⟨σ3, G, Q3, hs, hh, ht, hq⟩ := h
  refine ⟨σ3, G, _, hs, hh, ht, fun x H1 w G1 k1 hh1 r q1 => ?_⟩
  split at q1
  · cases r
    obtain ⟨⟨kvs, hd⟩, q1⟩ := q1
    obtain ⟨vs, h2, _⟩ := hh1 _ _ hd
    refine ⟨_, rfl, .inr ⟨vs, .inl h2⟩, ?_⟩
    refine ⟨σ3, G1, _, hs.keep k1, hh1, q1, fun y H2 u G2 k2 hh2 r2 q2 => ?_⟩
    refine ⟨σ3, G2, _, hs.keep (k1.trans k2), hh2, q2, fun z H3 u3 G3 k3 hh3 r3 q3 => ?_⟩
    obtain ⟨kvs, k, hd, hk, hz, q3⟩ := q3
    obtain ⟨vs, h4, rk⟩ := hh3 _ _ hd
    have r2' := r2.keep k3
    cases r2' with
    | tup h5 rl =>
      have e := rep_keys rl hk
      subst e
      refine ⟨vs, k, _, h4, rfl, h5, by rw [← RepK.length rk]; exact sl hz, fun v hv => ?_, fun hv => ?_⟩
      · rcases look_rep rk k with ⟨e1, e2⟩ | ⟨w0, v0, e1, e2, rv⟩
        · rw [hv] at e2; cases e2
        · rw [hv] at e2
          cases e2
          rw [e1] at q3
          exact hq _ _ _ _ ((k1.trans k2).trans k3) hh3 rv q3
      · rcases look_rep rk k with ⟨e1, e2⟩ | ⟨w0, v0, e1, e2, rv⟩
        · rw [e1] at q3
          have k4 := Keep.mut (o := .dT (putK vs k z)) h4 trivial
          have rp := put_rep rk k r3
          rw [put_new _ e1] at rp
          exact hq _ _ _ _ (((k1.trans k2).trans k3).trans k4) (hh3.mut h4 trivial (obj_dT h4 trivial rp)) (r3.keep k4) q3
        · rw [hv] at e2; cases e2
    | _ => cases hk
  · exact q1.elim

/-! ### dict comprehensions, the keys tuples -/
def dc3 (wi : TI3) (g : TG3) (tt : TT3) (tk te : TE3) (vs : List Nat) : TE3 := fun σ G Q => wi σ G fun it G1 => ∀ L, G1 L = none → ∃ Pv : Nat → G3 → Prop, Pv 0 (gup G1 L (.dT [])) ∧ (∀ i G', i ≤ it.items.length → Pv i G' → it.ok G') ∧
  (∀ i x G', it.items[i]? = some x → Pv i G' → g x (wipe3 σ vs) G' fun σ2 G2 => tt σ2 G2 fun b G3 => if b = true then tk σ2 G3 fun y G4 => te σ2 G4 fun z G5 => ∃ kvs k, tkey y = some k ∧ G5 L = some (.dT kvs) ∧ decide (kvs.length ≤ 99999) = true ∧ Wk1 (Pv (i + 1)) (gup G5 L (.dT (put kvs k z))) else Wk1 (Pv (i + 1)) G3) ∧ ∀ G', Pv it.items.length G' → Q (.ref L) G'
theorem wipe_wipe {vs : List Nat} : ∀ (us : List Nat) (τ : L2.St), (∀ u ∈ us, u ∈ vs) → wipe (wipe τ us) vs = wipe τ vs
  | [], _, _ => rfl
  | u :: us, τ, hu => by
    show wipe ((wipe τ us).set u none) vs = _
    rw [wipe_set (hu u List.mem_cons_self)]
    exact wipe_wipe us τ fun z hz => hu z (List.mem_cons_of_mem _ hz)
theorem dput_low {K : PySem.W.Frag} {G : G3} {H : Hp} {L : Addr} {y : V} {yu : U} {z : V} {zu : U} {kvs : List (List Key × U)} {k : List Key} (hh : RepH K G H) (ry : Rep K H yu y) (rz : Rep K H zu z) (hk : tkey yu = some k) (hL : G L = some (.dT kvs)) (hz : decide (kvs.length ≤ 99999) = true) :
    ∃ vs q, y = .ref q ∧ H q = some (.tup (k.map kV)) ∧ H L = some (.dT vs) ∧ vs.length < sizeLine ∧ Keep H (upd H L (.dT (putK vs k z))) ∧ RepH K (gup G L (.dT (put kvs k zu))) (upd H L (.dT (putK vs k z))) := by
  cases ry with
  | tup h1 rl =>
    have e := rep_keys rl hk
    subst e
    obtain ⟨vs, h2, rk⟩ := hh _ _ hL
    exact ⟨vs, _, rfl, h1, h2, by rw [← RepK.length rk]; exact sl hz, Keep.mut h2 trivial, hh.mut h2 trivial (obj_dT h2 trivial (put_rep rk k rz))⟩
  | _ => cases hk
theorem dc_low {K : PySem.W.Frag} {own : List (Str × Nat)} {wi : TI3} {g : TG} {g3 : TG3} {tt : TT3} {tk te : TE3} (hl : GLow K (some (own.map (·.2))) g g3) : ∀ σ H Q, lowE K (dc3 wi g3 tt tk te (own.map (·.2))) σ H Q → tDcT (lowI K wi) g (lowT K tt) (lowE K tk) (lowE K te) (own.map (·.2)) σ H Q := fun σ H Q h => by
  obtain ⟨σ3, G, Q3, hs, hh, ht, hq⟩ := h
  refine ⟨σ3, G, _, hs, hh, ht, fun J H1 it G1 k1 hh1 il q1 => ?_⟩
  intro L hL
  obtain ⟨Pv, p0, pok, pst, pdn⟩ := q1 L (hh1.free hL)
  have kL : Keep H1 (upd H1 L (.dT [])) := Keep.new hL
  have hsw : RepS K H1 (wipe3 σ3 (own.map (·.2))) (wipe σ (own.map (·.2))) := (hs.keep k1).wipe _
  refine ⟨fun i m H' => m = it.items.length - i ∧ i ≤ it.items.length ∧ ∃ G', Keep H1 H' ∧ RepH K G' H' ∧ Pv i G', ⟨_, rfl, Nat.zero_le _, _, kL, hh1.new hL (g := .dT []) ⟨[], upd_same, .nil⟩, p0⟩, ?_⟩
  rintro i m H' ⟨rfl, hi, G', kk, hh', pv⟩
  have okk := pok i G' hi pv
  by_cases hlt : i < it.items.length
  · refine .inr ⟨il.goes i G' H' hlt kk hh' okk, fun H2 => ∃ G2, Keep H1 H2 ∧ RepH K G2 H2 ∧ Pv (i + 1) G2, fun H2 q => ⟨it.items.length - (i + 1), by omega, rfl, hlt, q⟩, fun x H2 y => ?_⟩
    obtain ⟨k2, hh2, w, hw, rw⟩ := il.yields i G' H' x H2 hlt kk hh' okk y
    have kH2 := kk.trans k2
    refine hl _ _ _ _ _ _ _ _ rw (hsw.keep kH2) hh2 (pst i w G' hw pv) fun σ4 H4 σ34 G4 k4 pr hs4 hh4 q4 => ⟨?_, ?_⟩
    · have pr : wipe σ4 (own.map (·.2)) = wipe (wipe σ (own.map (·.2))) (own.map (·.2)) := pr
      rw [pr, wipe_wipe _ σ fun _ h => h]
    · refine ⟨σ34, G4, _, hs4, hh4, q4, fun b H5 b' G5 k5 hh5 eb q5 => ?_⟩
      obtain rfl : b' = b := eb
      have kH5 := (kH2.trans k4).trans k5
      cases b' with
      | false =>
        obtain ⟨G0, z, q5⟩ := q5
        exact ⟨G0, kH5, hh5.less z, q5⟩
      | true =>
        refine ⟨σ34, G5, _, hs4.keep k5, hh5, q5, fun v H6 w6 G6 k6 hh6 r6 q6 => ?_⟩
        refine ⟨σ34, G6, _, hs4.keep (k5.trans k6), hh6, q6, fun v7 H7 w7 G7 k7 hh7 r7 q7 => ?_⟩
        obtain ⟨kvs, k, hk, ha, hz, G0, z, pv'⟩ := q7
        obtain ⟨us, q0, e1, e2, e3, e4, e5, e6⟩ := dput_low hh7 (r6.keep k7) r7 hk ha hz
        exact ⟨us, k, q0, e1, e2, e3, e4, G0, ((kH5.trans k6).trans k7).trans e5, e6.less z, pv'⟩
  · have e : i = it.items.length := by omega
    subst e
    exact .inl ⟨il.stops G' H' kk hh' okk, hq _ _ _ _ (k1.trans kk) hh' (.ref _) (pdn _ pv)⟩
theorem e3dc {kx elt tg iter : Expr} {ifs : List Expr} {scope : Scope} {own : List (Str × Nat)} {wi : TI3} {g : TG} {g3 : TG3} {tt : TT3} {tk : TE3} (hu : X.A.units + 1 < cLine) (hc : X.calm = true) (hN : X.N.Nodup) (hi : PI X tg iter (lowI X.K wi)) (ok : BlkOk X.N X.env.scope scope own) (hl : GLow X.K (some (own.map (·.2))) g g3)
    (hg : ∀ (s : Shared) (H : Hp) (C : Addr) (cl : List (Str × Addr)) (fp : List Addr), PG (X.blk s H scope (compEnvC scope cl C X.env) fp) tg g) (ht : ∀ (s : Shared) (H : Hp) (C : Addr) (cl : List (Str × Addr)) (fp : List Addr), PTs (X.blk s H scope (compEnvC scope cl C X.env) fp) ifs (lowT X.K tt))
    (hk : ∀ (s : Shared) (H : Hp) (C : Addr) (cl : List (Str × Addr)) (fp : List Addr), PE (X.blk s H scope (compEnvC scope cl C X.env) fp) kx (lowE X.K tk))
    (he : ∀ (s : Shared) (H : Hp) (C : Addr) (cl : List (Str × Addr)) (fp : List Addr), PE (X.blk s H scope (compEnvC scope cl C X.env) fp) elt (lowE X.K te)) (hs : ∀ x, foldedSetIterable iter X.env x = pure x := by intro _; rfl) :
    PE X (.DictComp kx elt [⟨tg, iter, ifs, 0⟩] scope pos) (lowE X.K (dc3 wi g3 tt tk te (own.map (·.2)))) := (pe_dcT hu hc hN hi ok hg ht hk he hs).imp (dc_low hl)
/-- two fors -/
def dc23 (wi : TI3) (g : TG3) (tt : TT3) (wi1 : TI3) (g1 : TG3) (tt1 : TT3) (tk te : TE3) (vs vs1 : List Nat) : TE3 := fun σ G Q => wi σ G fun it G1 => ∀ L, G1 L = none → ∃ Pv : Nat → G3 → Prop, Pv 0 (gup G1 L (.dT [])) ∧ (∀ i G', i ≤ it.items.length → Pv i G' → it.ok G') ∧
  (∀ i x G', it.items[i]? = some x → Pv i G' → g x (wipe3 σ vs) G' fun σ2 G2 => tt σ2 G2 fun b Gb => if b = true then wi1 σ2 Gb fun it1 G4 => ∃ Pv1 : Nat → G3 → Prop, Pv1 0 G4 ∧ (∀ j G', j ≤ it1.items.length → Pv1 j G' → it1.ok G') ∧
    (∀ j x1 G', it1.items[j]? = some x1 → Pv1 j G' → g1 x1 (wipe3 σ2 vs1) G' fun σ3 G5 => tt1 σ3 G5 fun b1 G6 => if b1 = true then tk σ3 G6 fun y G7 => te σ3 G7 fun z G8 => ∃ kvs k, tkey y = some k ∧ G8 L = some (.dT kvs) ∧ decide (kvs.length ≤ 99999) = true ∧ Wk1 (Pv1 (j + 1)) (gup G8 L (.dT (put kvs k z))) else Wk1 (Pv1 (j + 1)) G6) ∧
    ∀ G', Pv1 it1.items.length G' → Wk1 (Pv (i + 1)) G' else Wk1 (Pv (i + 1)) Gb) ∧ ∀ G', Pv it.items.length G' → Q (.ref L) G'
theorem dc2_low {K : PySem.W.Frag} {own : List (Str × Nat)} {vs1 : List Nat} {wi wi1 : TI3} {g g1 : TG} {g3 g13 : TG3} {tt tt1 : TT3} {tk te : TE3} (hv : ∀ i ∈ vs1, i ∈ own.map (·.2)) (hl : GLow K (some (own.map (·.2))) g g3) (hl1 : GLow K (some vs1) g1 g13) : ∀ σ H Q, lowE K (dc23 wi g3 tt wi1 g13 tt1 tk te (own.map (·.2)) vs1) σ H Q → tDc2T (lowI K wi) g (lowT K tt) (lowI K wi1) g1 (lowT K tt1) (lowE K tk) (lowE K te) (own.map (·.2)) vs1 σ H Q := fun σ H Q h => by
  obtain ⟨σ3, G, Q3, hs, hh, ht, hq⟩ := h
  refine ⟨σ3, G, _, hs, hh, ht, fun J H1 it G1 k1 hh1 il q1 => ?_⟩
  intro L hL
  obtain ⟨Pv, p0, pok, pst, pdn⟩ := q1 L (hh1.free hL)
  have kL : Keep H1 (upd H1 L (.dT [])) := Keep.new hL
  have hsw : RepS K H1 (wipe3 σ3 (own.map (·.2))) (wipe σ (own.map (·.2))) := (hs.keep k1).wipe _
  refine ⟨fun i m H' => m = it.items.length - i ∧ i ≤ it.items.length ∧ ∃ G', Keep H1 H' ∧ RepH K G' H' ∧ Pv i G', ⟨_, rfl, Nat.zero_le _, _, kL, hh1.new hL (g := .dT []) ⟨[], upd_same, .nil⟩, p0⟩, ?_⟩
  rintro i m H' ⟨rfl, hi, G', kk, hh', pv⟩
  have okk := pok i G' hi pv
  by_cases hlt : i < it.items.length
  · refine .inr ⟨il.goes i G' H' hlt kk hh' okk, fun H2 => ∃ G2, Keep H1 H2 ∧ RepH K G2 H2 ∧ Pv (i + 1) G2, fun H2 q => ⟨it.items.length - (i + 1), by omega, rfl, hlt, q⟩, fun x H2 y => ?_⟩
    obtain ⟨k2, hh2, w, hw, rw⟩ := il.yields i G' H' x H2 hlt kk hh' okk y
    have kH2 := kk.trans k2
    refine hl _ _ _ _ _ _ _ _ rw (hsw.keep kH2) hh2 (pst i w G' hw pv) fun σ4 H4 σ34 G4 k4 pr hs4 hh4 q4 => ⟨?_, ?_⟩
    · have pr : wipe σ4 (own.map (·.2)) = wipe (wipe σ (own.map (·.2))) (own.map (·.2)) := pr
      rw [pr, wipe_wipe _ σ fun _ h => h]
    · refine ⟨σ34, G4, _, hs4, hh4, q4, fun b H5 b' G5 k5 hh5 eb q5 => ?_⟩
      obtain rfl : b' = b := eb
      have kH5 := (kH2.trans k4).trans k5
      cases b' with
      | false =>
        obtain ⟨G0, z, q5⟩ := q5
        exact ⟨G0, kH5, hh5.less z, q5⟩
      | true =>
        refine ⟨σ34, G5, _, hs4.keep k5, hh5, q5, fun J1 H6 it1 G6 k6 hh6 il1 q6 => ?_⟩
        obtain ⟨Pv1, r0, rok, rst, rdn⟩ := q6
        have kH6 := kH5.trans k6
        refine ⟨fun j m H' => m = it1.items.length - j ∧ j ≤ it1.items.length ∧ ∃ G', Keep H6 H' ∧ RepH K G' H' ∧ Pv1 j G', ⟨_, rfl, Nat.zero_le _, _, Keep.refl _, hh6, r0⟩, ?_⟩
        rintro j m2 H7 ⟨rfl, hj, G7, kk7, hh7, pv7⟩
        have okk1 := rok j G7 hj pv7
        by_cases hlt1 : j < it1.items.length
        · refine .inr ⟨il1.goes j G7 H7 hlt1 kk7 hh7 okk1, fun H2 => ∃ G2, Keep H6 H2 ∧ RepH K G2 H2 ∧ Pv1 (j + 1) G2, fun H2 q => ⟨it1.items.length - (j + 1), by omega, rfl, hlt1, q⟩, fun x8 H8 y8 => ?_⟩
          obtain ⟨k8, hh8, w8, hw8, rw8⟩ := il1.yields j G7 H7 x8 H8 hlt1 kk7 hh7 okk1 y8
          have k68 := kk7.trans k8
          have hsw1 : RepS K H8 (wipe3 σ34 vs1) (wipe σ4 vs1) := (hs4.keep ((k5.trans k6).trans k68)).wipe _
          refine hl1 _ _ _ _ _ _ _ _ rw8 hsw1 hh8 (rst j w8 G7 hw8 pv7) fun σ9 H9 σ39 G9 k9 pr9 hs9 hh9 q9 => ⟨?_, ?_⟩
          · have pr9 : wipe σ9 vs1 = wipe (wipe σ4 vs1) vs1 := pr9
            rw [pr9, wipe_wipe _ σ4 fun _ h => h]
          · refine ⟨σ39, G9, _, hs9, hh9, q9, fun c Ha c' Ga ka hha ec qa => ?_⟩
            obtain rfl : c' = c := ec
            have k6a := (k68.trans k9).trans ka
            cases c' with
            | false =>
              obtain ⟨G0, z, qa⟩ := qa
              exact ⟨G0, k6a, hha.less z, qa⟩
            | true =>
              refine ⟨σ39, Ga, _, hs9.keep ka, hha, qa, fun vb Hb wb Gb kb hhb rb qb => ?_⟩
              refine ⟨σ39, Gb, _, hs9.keep (ka.trans kb), hhb, qb, fun vc Hc wc Gc kc hhc rc qc => ?_⟩
              obtain ⟨kvs, k, hk, ha, hz, G0, z, pv'⟩ := qc
              obtain ⟨us, q0, e1, e2, e3, e4, e5, e6⟩ := dput_low hhc (rb.keep kc) rc hk ha hz
              exact ⟨us, k, q0, e1, e2, e3, e4, G0, ((k6a.trans kb).trans kc).trans e5, e6.less z, pv'⟩
        · have e : j = it1.items.length := by omega
          subst e
          obtain ⟨G0, z, pv0⟩ := rdn _ pv7
          exact .inl ⟨il1.stops G7 H7 kk7 hh7 okk1, G0, kH6.trans kk7, hh7.less z, pv0⟩
  · have e : i = it.items.length := by omega
    subst e
    exact .inl ⟨il.stops G' H' kk hh' okk, hq _ _ _ _ (k1.trans kk) hh' (.ref _) (pdn _ pv)⟩
theorem e3dc2 {kx elt tg iter tg1 iter1 : Expr} {ifs ifs1 : List Expr} {scope : Scope} {own : List (Str × Nat)} {vs1 : List Nat} {wi wi1 : TI3} {g g1 : TG} {g3 g13 : TG3} {tt tt1 : TT3} {tk : TE3} (hu : X.A.units + 1 < cLine) (hc : X.calm = true) (hN : X.N.Nodup) (hi : PI X tg iter (lowI X.K wi)) (ok : BlkOk X.N X.env.scope scope own) (hv : ∀ i ∈ vs1, i ∈ own.map (·.2))
    (hl : GLow X.K (some (own.map (·.2))) g g3) (hl1 : GLow X.K (some vs1) g1 g13)
    (hg : ∀ (s : Shared) (H : Hp) (C : Addr) (cl : List (Str × Addr)) (fp : List Addr), PG (X.blk s H scope (compEnvC scope cl C X.env) fp) tg g) (ht : ∀ (s : Shared) (H : Hp) (C : Addr) (cl : List (Str × Addr)) (fp : List Addr), PTs (X.blk s H scope (compEnvC scope cl C X.env) fp) ifs (lowT X.K tt))
    (hi1 : ∀ (s : Shared) (H : Hp) (C : Addr) (cl : List (Str × Addr)) (fp : List Addr), PI (X.blk s H scope (compEnvC scope cl C X.env) fp) tg1 iter1 (lowI X.K wi1))
    (hg1 : ∀ (s : Shared) (H : Hp) (C : Addr) (cl : List (Str × Addr)) (fp : List Addr), PG (X.blk s H scope (compEnvC scope cl C X.env) fp) tg1 g1) (ht1 : ∀ (s : Shared) (H : Hp) (C : Addr) (cl : List (Str × Addr)) (fp : List Addr), PTs (X.blk s H scope (compEnvC scope cl C X.env) fp) ifs1 (lowT X.K tt1))
    (hk : ∀ (s : Shared) (H : Hp) (C : Addr) (cl : List (Str × Addr)) (fp : List Addr), PE (X.blk s H scope (compEnvC scope cl C X.env) fp) kx (lowE X.K tk))
    (he : ∀ (s : Shared) (H : Hp) (C : Addr) (cl : List (Str × Addr)) (fp : List Addr), PE (X.blk s H scope (compEnvC scope cl C X.env) fp) elt (lowE X.K te)) (hs : ∀ x, foldedSetIterable iter X.env x = pure x := by intro _; rfl) (hs1 : ∀ env x, foldedSetIterable iter1 env x = pure x := by intro _ _; rfl) :
    PE X (.DictComp kx elt [⟨tg, iter, ifs, 0⟩, ⟨tg1, iter1, ifs1, 0⟩] scope pos) (lowE X.K (dc23 wi g3 tt wi1 g13 tt1 tk te (own.map (·.2)) vs1)) := (pe_dc2T hu hc hN hi ok hv hg ht hi1 hg1 ht1 hk he hs hs1).imp (dc2_low hv hl hl1)
end
end L3
end
section
set_option Elab.async false
set_option linter.all false
set_option maxRecDepth 100000
set_option maxHeartbeats 2000000
namespace L3
open PySem L2
theorem ifT {c : Bool} {A B : Prop} (hc : c = true) (h : A) : if c = true then A else B := by rw [if_pos hc]; exact h
theorem ifF {c : Bool} {A B : Prop} (hc : c = false) (h : B) : if c = true then A else B := by rw [hc, if_neg Bool.false_ne_true]; exact h
theorem dat_int (i : Int) : dat (.int i) = true := by simp [dat, noref, pd, SeqAt.shaped, PyData.canLay0, PyData.depth]
theorem dat_non : dat .non = true := by simp [dat, noref, pd, SeqAt.shaped, PyData.canLay0, PyData.depth]
theorem eq3_int (i j : Int) : eq3 (.int i) (.int j) = (i == j) := rfl
/-- for, with the word of its turns -/
def forK (g : TG3) (tb : TS3) (D : En3) (σ : S3) (it : It3) (G1 : G3) : Prop := ∃ Pv : Nat → S3 → G3 → Prop, Pv 0 σ G1 ∧ (∀ i σ' G', i ≤ it.items.length → Pv i σ' G' → it.ok G') ∧
  (∀ i x σ' G', it.items[i]? = some x → Pv i σ' G' → g x σ' G' fun σ2 G2 => tb { D with nx := Wk2 (Pv (i + 1)), ct := Wk2 (Pv (i + 1)), bk := Wk2 D.nx } σ2 G2) ∧ ∀ σ' G', Pv it.items.length σ' G' → D.nx σ' G'
theorem for_of {wi : TI3} {g : TG3} {tb : TS3} {D : En3} {σ : S3} {G : G3} (h : wi σ G (forK g tb D σ)) : for3 wi g tb D σ G := h
theorem forK_of {g : TG3} {tb : TS3} {D : En3} {σ : S3} {xs : List U} {ok : G3 → Prop} {G1 : G3} (n : Nat) (hn : xs.length = n) (Pv : Nat → S3 → G3 → Prop) (h0 : Pv 0 σ G1) (hok : ∀ i σ' G', i ≤ n → Pv i σ' G' → ok G')
    (hs : ∀ i x σ' G', i < n → xs[i]? = some x → Pv i σ' G' → g x σ' G' fun σ2 G2 => tb { D with nx := Wk2 (Pv (i + 1)), ct := Wk2 (Pv (i + 1)), bk := Wk2 D.nx } σ2 G2) (hd : ∀ σ' G', Pv n σ' G' → D.nx σ' G') : forK g tb D σ ⟨xs, ok⟩ G1 := by
  subst hn
  exact ⟨Pv, h0, hok, fun i x σ' G' hx hp => hs i x σ' G' (List.getElem?_eq_some_iff.mp hx).1 hx hp, hd⟩
theorem Wk2.of {P : S3 → G3 → Prop} {σ : S3} {G : G3} (h : P σ G) : Wk2 P σ G := ⟨σ, G, SubS.refl σ, Sub.refl G, h⟩
theorem Wk2.sub {P : S3 → G3 → Prop} {σ : S3} {G G' : G3} (h : P σ G) (s : Sub G G') : Wk2 P σ G' := ⟨σ, G, SubS.refl σ, s, h⟩
theorem Wk.of {Q : U → G3 → Prop} {v : U} {G : G3} (h : Q v G) : Wk Q v G := ⟨G, Sub.refl G, h⟩
theorem Wk.sub {Q : U → G3 → Prop} {v : U} {G G' : G3} (h : Q v G) (s : Sub G G') : Wk Q v G' := ⟨G, s, h⟩
/-- a comprehension, with the word of its turns -/
def lcK (g : TG3) (tt : TT3) (te : TE3) (vs : List Nat) (σ : S3) (Q : K3) (it : It3) (G1 : G3) : Prop := ∀ L, G1 L = none → ∃ Pv : Nat → G3 → Prop, Pv 0 (gup G1 L (.lst [])) ∧ (∀ i G', i ≤ it.items.length → Pv i G' → it.ok G') ∧
  (∀ i x G', it.items[i]? = some x → Pv i G' → g x (wipe3 σ vs) G' fun σ2 G2 => tt σ2 G2 fun b G3 => if b = true then te σ2 G3 fun y G4 => ∃ acc, G4 L = some (.lst acc) ∧ decide (acc.length ≤ 99999) = true ∧ Wk1 (Pv (i + 1)) (gup G4 L (.lst (acc ++ [y]))) else Wk1 (Pv (i + 1)) G3) ∧ ∀ G', Pv it.items.length G' → Q (.ref L) G'
theorem lc_of {wi : TI3} {g : TG3} {tt : TT3} {te : TE3} {vs : List Nat} {σ : S3} {G : G3} {Q : K3} (h : wi σ G (lcK g tt te vs σ Q)) : lc3 wi g tt te vs σ G Q := h
/-- a comprehension over told data whose test and element change nothing -/
theorem lcK_of {α β : Type} {g : TG3} {tt : TT3} {te : TE3} {vs : List Nat} {σ : S3} {Q : K3} {ok : G3 → Prop} {G1 : G3} (xs : List α) (u : α → U) (f : α → Bool) (v : α → β) (u2 : β → U) (hok : ∀ G', Sub G1 G' → ok G') (hz : xs.length ≤ 99999)
    (hs : ∀ (x : α), x ∈ xs → ∀ (G : G3), Sub G1 G → ∀ (Y : U → G3 → Prop) (N : G3 → Prop), (f x = true → ∀ G4, Sub G G4 → Y (u2 (v x)) G4) → (f x = false → ∀ G4, Sub G G4 → N G4) →
      g (u x) (wipe3 σ vs) G fun σ2 G2 => tt σ2 G2 fun b G3 => if b = true then te σ2 G3 Y else N G3)
    (hq : ∀ L, G1 L = none → Q (.ref L) (gup G1 L (.lst (((xs.filter f).map v).map u2)))) : lcK g tt te vs σ Q ⟨xs.map u, ok⟩ G1 := by
  intro L hL
  refine ⟨fun i G' => G' = gup G1 L (.lst ((((xs.take i).filter f).map v).map u2)), rfl, fun i G' _ e => ?_, fun i x G' hx e => ?_, fun G' e => ?_⟩
  · subst e
    exact hok _ ((Sub.refl G1).new hL)
  · subst e
    have hx : (xs.map u)[i]? = some x := hx
    rw [List.getElem?_map] at hx
    cases ex : xs[i]? with
    | none => rw [ex] at hx; cases hx
    | some x0 =>
      rw [ex] at hx
      cases hx
      have hi : i < xs.length := (List.getElem?_eq_some_iff.mp ex).1
      have et : xs.take (i + 1) = xs.take i ++ [x0] := by rw [List.take_succ, ex]; rfl
      have hln : ((((xs.take i).filter f).map v).map u2).length ≤ 99999 := by
        rw [List.length_map, List.length_map]
        have := List.length_filter_le f (xs.take i)
        have := List.length_take_le i xs
        omega
      refine hs x0 (List.mem_of_getElem? ex) _ ((Sub.refl G1).new hL) _ _ (fun h G4 z => ⟨_, z L _ gup_same, decide_eq_true hln, _, ?_, rfl⟩) fun h G4 z => ⟨_, z, ?_⟩
      · rw [et, List.filter_append, List.map_append, List.map_append, List.filter_cons, if_pos h]
        have := Sub.up z (p := L) (o := .lst ((((xs.take i).filter f).map v).map u2 ++ [u2 (v x0)]))
        rw [gup_gup] at this
        exact this
      · show _ = gup G1 L (.lst ((((xs.take (i + 1)).filter f).map v).map u2))
        rw [et, List.filter_append, List.map_append, List.map_append, List.filter_cons, if_neg (by rw [h]; decide)]
        simp
  · subst e
    have e2 : xs.take (It3.mk (xs.map u) ok).items.length = xs := by
      show xs.take (xs.map u).length = xs
      rw [List.length_map, List.take_length]
    rw [e2]
    exact hq L hL
end L3
end
section
set_option Elab.async false
set_option linter.all false
set_option maxRecDepth 100000
set_option maxHeartbeats 2000000
namespace L2
open PySem PySem.Spec PyProof.Rows
section
variable {X : Cx}
theorem sw_trueD {kx elt : Expr} {gs : List Comprehension} {scope : Scope} {pos py : Pos} {y : Str} {l : Nat} {env : Env} (hk : env.scope.kind = .function) (hy : env.scope.names.lookup y = some .local) (hl : (py.line == pos.line) = true)
    (ha : (scope.names.any fun (n, k) => n == y && (k == .local || k == .cell)) = false) : swapsWith (.DictComp kx elt gs scope pos) (some (.Name y py)) l env = pure true := by
  have ky : env.kindOf y = some .local := hy
  have hb : env.blockKind = .function := by unfold Env.blockKind; rw [hk]; rfl
  unfold swapsWith
  simp only [hb, ky, ha, Expr.pos, hl]
  rfl
theorem ps_setDcT {i : Nat} {y : Str} {py : Pos} {kx elt tg iter : Expr} {ifs : List Expr} {scope : Scope} {own : List (Str × Nat)} {pos spos : Pos} {wi : TI} {g : TG} {tt : TT} {tk te : TE} (hu : X.A.units + 1 < cLine) (hc : X.calm = true) (hN : X.N.Nodup) (hy : X.N[i]? = some y) (hyl : X.env.scope.names.lookup y = some .local)
    (hsw : swapsWith (.DictComp kx elt [⟨tg, iter, ifs, 0⟩] scope pos) (some (.Name y py)) spos.line X.env = pure true) (hi : PI X tg iter wi) (ok : BlkOk X.N X.env.scope scope own) 
    (hg : ∀ (s : Shared) (H : Hp) (C : Addr) (cl : List (Str × Addr)) (fp : List Addr), PG (X.blk s H scope (compEnvC scope cl C X.env) fp) tg g) (ht : ∀ (s : Shared) (H : Hp) (C : Addr) (cl : List (Str × Addr)) (fp : List Addr), PTs (X.blk s H scope (compEnvC scope cl C X.env) fp) ifs tt)
    (hk : ∀ (s : Shared) (H : Hp) (C : Addr) (cl : List (Str × Addr)) (fp : List Addr), PE (X.blk s H scope (compEnvC scope cl C X.env) fp) kx tk)
    (he : ∀ (s : Shared) (H : Hp) (C : Addr) (cl : List (Str × Addr)) (fp : List Addr), PE (X.blk s H scope (compEnvC scope cl C X.env) fp) elt te) (hs : ∀ x, foldedSetIterable iter X.env x = pure x := by intro _; rfl) :
    PS X (.Assign [.Name y py] (.DictComp kx elt [⟨tg, iter, ifs, 0⟩] scope pos) spos) (tAsg (tDcT wi g tt tk te (own.map (·.2))) (gName i)) := by
  refine ⟨fun pins s σ H D I h => ?_⟩
  rw [exec_Assign_Name_used _ _ _ _ hsw]
  refine wpAny_bind (wpAny_standAt (wpAny_bind ?_))
  show wpAny _ X.A (do let _ ← comprehension (.DictComp kx elt [⟨tg, iter, ifs, 0⟩] scope pos) scope X.env (firstIterPos [⟨tg, iter, ifs, 0⟩] pos) newDict false (eval iter X.env) (some (assign (.Name y py) X.env))) _ _ s
  have h : tDcT wi g tt tk te (own.map (·.2)) σ H (fun x H1 => gName i x σ H1 D.nx) := h
  refine wpAny_bind (thn (dcT_core (Qf := fun _ s' => SP X pins D .next s') hu hc hN I hi ok hg ht hk he hs h fun L C s' m H' I' q hn f => ?_) fun _ s' hq => wpAny_pure (wpAny_pure hq))
  show wpAny _ _ (assign (.Name y py) X.env (.ref L)) _ _ _
  refine wpAny_assign_Name (store_ok2 (v := V.ref L) I' hN hy (.inl hyl) rfl (fun s2 I2 ⟨a, sb, ha⟩ => ?_) (.inr hyl))
  obtain ⟨f0, f1, f2, f3, f4, f5⟩ := f
  have haC : C ≠ a := by
    rcases ha with z | z
    · rw [z]; exact f1
    · exact fun e => f4 y a z e.symm
  refine ⟨m, hn.sameBut sb haC, fun h3 sb3 => ?_⟩
  exact ⟨_, H', I2.turned (t' := s2.toks) (fun b o hb e => (sb3.2 b hb).trans e) f0 f1 f3 f4 f5, q⟩
theorem ps_setDc2T {i : Nat} {y : Str} {py : Pos} {kx elt tg iter tg1 iter1 : Expr} {ifs ifs1 : List Expr} {scope : Scope} {own : List (Str × Nat)} {vs1 : List Nat} {pos spos : Pos} {wi wi1 : TI} {g g1 : TG} {tt tt1 : TT} {tk te : TE} (hu : X.A.units + 1 < cLine) (hc : X.calm = true) (hN : X.N.Nodup) (hy : X.N[i]? = some y) (hyl : X.env.scope.names.lookup y = some .local)
    (hsw : swapsWith (.DictComp kx elt [⟨tg, iter, ifs, 0⟩, ⟨tg1, iter1, ifs1, 0⟩] scope pos) (some (.Name y py)) spos.line X.env = pure true) (hi : PI X tg iter wi) (ok : BlkOk X.N X.env.scope scope own) (hv : ∀ i ∈ vs1, i ∈ own.map (·.2)) 
    (hg : ∀ (s : Shared) (H : Hp) (C : Addr) (cl : List (Str × Addr)) (fp : List Addr), PG (X.blk s H scope (compEnvC scope cl C X.env) fp) tg g) (ht : ∀ (s : Shared) (H : Hp) (C : Addr) (cl : List (Str × Addr)) (fp : List Addr), PTs (X.blk s H scope (compEnvC scope cl C X.env) fp) ifs tt)
    (hi1 : ∀ (s : Shared) (H : Hp) (C : Addr) (cl : List (Str × Addr)) (fp : List Addr), PI (X.blk s H scope (compEnvC scope cl C X.env) fp) tg1 iter1 wi1)
    (hg1 : ∀ (s : Shared) (H : Hp) (C : Addr) (cl : List (Str × Addr)) (fp : List Addr), PG (X.blk s H scope (compEnvC scope cl C X.env) fp) tg1 g1) (ht1 : ∀ (s : Shared) (H : Hp) (C : Addr) (cl : List (Str × Addr)) (fp : List Addr), PTs (X.blk s H scope (compEnvC scope cl C X.env) fp) ifs1 tt1)
    (hk : ∀ (s : Shared) (H : Hp) (C : Addr) (cl : List (Str × Addr)) (fp : List Addr), PE (X.blk s H scope (compEnvC scope cl C X.env) fp) kx tk)
    (he : ∀ (s : Shared) (H : Hp) (C : Addr) (cl : List (Str × Addr)) (fp : List Addr), PE (X.blk s H scope (compEnvC scope cl C X.env) fp) elt te) (hs : ∀ x, foldedSetIterable iter X.env x = pure x := by intro _; rfl) (hs1 : ∀ env x, foldedSetIterable iter1 env x = pure x := by intro _ _; rfl) :
    PS X (.Assign [.Name y py] (.DictComp kx elt [⟨tg, iter, ifs, 0⟩, ⟨tg1, iter1, ifs1, 0⟩] scope pos) spos) (tAsg (tDc2T wi g tt wi1 g1 tt1 tk te (own.map (·.2)) vs1) (gName i)) := by
  refine ⟨fun pins s σ H D I h => ?_⟩
  rw [exec_Assign_Name_used _ _ _ _ hsw]
  refine wpAny_bind (wpAny_standAt (wpAny_bind ?_))
  show wpAny _ X.A (do let _ ← comprehension (.DictComp kx elt [⟨tg, iter, ifs, 0⟩, ⟨tg1, iter1, ifs1, 0⟩] scope pos) scope X.env (firstIterPos [⟨tg, iter, ifs, 0⟩, ⟨tg1, iter1, ifs1, 0⟩] pos) newDict false (eval iter X.env) (some (assign (.Name y py) X.env))) _ _ s
  have h : tDc2T wi g tt wi1 g1 tt1 tk te (own.map (·.2)) vs1 σ H (fun x H1 => gName i x σ H1 D.nx) := h
  refine wpAny_bind (thn (dc2T_core (Qf := fun _ s' => SP X pins D .next s') hu hc hN I hi ok hv hg ht hk he hs hi1 hg1 ht1 hs1 h fun L C s' m H' I' q hn f => ?_) fun _ s' hq => wpAny_pure (wpAny_pure hq))
  show wpAny _ _ (assign (.Name y py) X.env (.ref L)) _ _ _
  refine wpAny_assign_Name (store_ok2 (v := V.ref L) I' hN hy (.inl hyl) rfl (fun s2 I2 ⟨a, sb, ha⟩ => ?_) (.inr hyl))
  obtain ⟨f0, f1, f2, f3, f4, f5⟩ := f
  have haC : C ≠ a := by
    rcases ha with z | z
    · rw [z]; exact f1
    · exact fun e => f4 y a z e.symm
  refine ⟨m, hn.sameBut sb haC, fun h3 sb3 => ?_⟩
  exact ⟨_, H', I2.turned (t' := s2.toks) (fun b o hb e => (sb3.2 b hb).trans e) f0 f1 f3 f4 f5, q⟩
end
end L2
namespace L3
open PySem L2
section
variable {X : Cx}
theorem s_setDc {i : Nat} {y : Str} {py : Pos} {kx elt tg iter : Expr} {ifs : List Expr} {scope : Scope} {own : List (Str × Nat)} {pos spos : Pos} {W : WX} {wi : TI3} {g : TG} {g3 : TG3} {tt : TT3} {tk te : TE3} (hu : X.A.units + 1 < cLine) (hc : X.calm = true) (hN : X.N.Nodup) (hyl : X.env.scope.names.lookup y = some .local)
    (hsw : swapsWith (.DictComp kx elt [⟨tg, iter, ifs, 0⟩] scope pos) (some (.Name y py)) spos.line X.env = pure true) (hi : PI X tg iter (lowI X.K wi)) (ok : BlkOk X.N X.env.scope scope own) (hl : GLow X.K (some (own.map (·.2))) g g3) 
    (hg : ∀ (s : Shared) (H : Hp) (C : Addr) (cl : List (Str × Addr)) (fp : List Addr), PG (X.blk s H scope (compEnvC scope cl C X.env) fp) tg g) (ht : ∀ (s : Shared) (H : Hp) (C : Addr) (cl : List (Str × Addr)) (fp : List Addr), PTs (X.blk s H scope (compEnvC scope cl C X.env) fp) ifs (lowT X.K tt))
    (hk : ∀ (s : Shared) (H : Hp) (C : Addr) (cl : List (Str × Addr)) (fp : List Addr), PE (X.blk s H scope (compEnvC scope cl C X.env) fp) kx (lowE X.K tk))
    (he : ∀ (s : Shared) (H : Hp) (C : Addr) (cl : List (Str × Addr)) (fp : List Addr), PE (X.blk s H scope (compEnvC scope cl C X.env) fp) elt (lowE X.K te)) (hy : X.N[i]? = some y := by rfl) (hs : ∀ x, foldedSetIterable iter X.env x = pure x := by intro _; rfl) :
    PS X (.Assign [.Name y py] (.DictComp kx elt [⟨tg, iter, ifs, 0⟩] scope pos) spos) (lowS X.K W (asg3 (dc3 wi g3 tt tk te (own.map (·.2))) (n3 i))) := (ps_setDcT hu hc hN hy hyl hsw hi ok hg ht hk he hs).imp fun D σ H h => by
  obtain ⟨σ3, G, D3, hs, hh, ht, hle⟩ := h
  exact dc_low hl σ H _ ⟨σ3, G, _, hs, hh, ht, fun v H1 w G1 k1 hh1 r q1 => hle.nx _ _ _ _ k1 ((hs.keep k1).set i r) hh1 q1⟩
theorem s_setDc2 {i : Nat} {y : Str} {py : Pos} {kx elt tg iter tg1 iter1 : Expr} {ifs ifs1 : List Expr} {scope : Scope} {own : List (Str × Nat)} {vs1 : List Nat} {pos spos : Pos} {W : WX} {wi wi1 : TI3} {g g1 : TG} {g3 g13 : TG3} {tt tt1 : TT3} {tk te : TE3} (hu : X.A.units + 1 < cLine) (hc : X.calm = true) (hN : X.N.Nodup) (hyl : X.env.scope.names.lookup y = some .local)
    (hsw : swapsWith (.DictComp kx elt [⟨tg, iter, ifs, 0⟩, ⟨tg1, iter1, ifs1, 0⟩] scope pos) (some (.Name y py)) spos.line X.env = pure true) (hi : PI X tg iter (lowI X.K wi)) (ok : BlkOk X.N X.env.scope scope own) (hv : ∀ i ∈ vs1, i ∈ own.map (·.2)) (hl : GLow X.K (some (own.map (·.2))) g g3) (hl1 : GLow X.K (some vs1) g1 g13) 
    (hg : ∀ (s : Shared) (H : Hp) (C : Addr) (cl : List (Str × Addr)) (fp : List Addr), PG (X.blk s H scope (compEnvC scope cl C X.env) fp) tg g) (ht : ∀ (s : Shared) (H : Hp) (C : Addr) (cl : List (Str × Addr)) (fp : List Addr), PTs (X.blk s H scope (compEnvC scope cl C X.env) fp) ifs (lowT X.K tt))
    (hi1 : ∀ (s : Shared) (H : Hp) (C : Addr) (cl : List (Str × Addr)) (fp : List Addr), PI (X.blk s H scope (compEnvC scope cl C X.env) fp) tg1 iter1 (lowI X.K wi1))
    (hg1 : ∀ (s : Shared) (H : Hp) (C : Addr) (cl : List (Str × Addr)) (fp : List Addr), PG (X.blk s H scope (compEnvC scope cl C X.env) fp) tg1 g1) (ht1 : ∀ (s : Shared) (H : Hp) (C : Addr) (cl : List (Str × Addr)) (fp : List Addr), PTs (X.blk s H scope (compEnvC scope cl C X.env) fp) ifs1 (lowT X.K tt1))
    (hk : ∀ (s : Shared) (H : Hp) (C : Addr) (cl : List (Str × Addr)) (fp : List Addr), PE (X.blk s H scope (compEnvC scope cl C X.env) fp) kx (lowE X.K tk))
    (he : ∀ (s : Shared) (H : Hp) (C : Addr) (cl : List (Str × Addr)) (fp : List Addr), PE (X.blk s H scope (compEnvC scope cl C X.env) fp) elt (lowE X.K te)) (hy : X.N[i]? = some y := by rfl) (hs : ∀ x, foldedSetIterable iter X.env x = pure x := by intro _; rfl) (hs1 : ∀ env x, foldedSetIterable iter1 env x = pure x := by intro _ _; rfl) :
    PS X (.Assign [.Name y py] (.DictComp kx elt [⟨tg, iter, ifs, 0⟩, ⟨tg1, iter1, ifs1, 0⟩] scope pos) spos) (lowS X.K W (asg3 (dc23 wi g3 tt wi1 g13 tt1 tk te (own.map (·.2)) vs1) (n3 i))) := (ps_setDc2T hu hc hN hy hyl hsw hi ok hv hg ht hi1 hg1 ht1 hk he hs hs1).imp fun D σ H h => by
  obtain ⟨σ3, G, D3, hs, hh, ht, hle⟩ := h
  exact dc2_low hv hl hl1 σ H _ ⟨σ3, G, _, hs, hh, ht, fun v H1 w G1 k1 hh1 r q1 => hle.nx _ _ _ _ k1 ((hs.keep k1).set i r) hh1 q1⟩
end
end L3
end
section
set_option Elab.async false
set_option linter.all false
set_option maxRecDepth 100000
set_option maxHeartbeats 4000000
/-! an own exception over ValueError whose __init__ says super().__init__(x), then self.f = f -/
namespace PySem
namespace LowNS
open PySem.W PySem.Calls PyProof.Rows PySem.HandSPX
/-- the words of the text -/
structure Pl where
  (p1 p2 q1 q2 q3 q4 q5 q6 r1 r2 r3 r4 : Pos)
def iA (f : Str) (P : Pl) : Arguments := { posonlyargs := [], args := [{ arg := "self", annotation := none, pos := P.p1 }, { arg := f, annotation := none, pos := P.p2 }], vararg := none, kwonlyargs := [], kw_defaults := [], kwarg := none, defaults := [] }
def iB (f : Str) (a : Expr) (P : Pl) : List Stmt := [.Expr (.Call (.Attribute (.Call (.Name "super" P.q1) [] [] P.q2) "__init__" P.q3) [a] [] P.q5) P.q6, .Assign [.Attribute (.Name "self" P.r1) f P.r2] (.Name f P.r3) P.r4]
def iS (f : Str) : Scope := { kind := .function, names := [(PySem.Str.ofString "self", .local), (f, .local), (PySem.Str.ofString "__class__", .free), (PySem.Str.ofString "super", .globalImplicit)], isGenerator := false, isCoroutine := false, more := [] }
/-- NeedsSpare.__init__ in the text -/
abbrev nsP : Pl := ⟨⟨11, 17, 11, 21⟩, ⟨11, 23, 11, 27⟩, ⟨12, 8, 12, 13⟩, ⟨12, 8, 12, 15⟩, ⟨12, 8, 12, 24⟩, ⟨12, 25, 12, 53⟩, ⟨12, 8, 12, 54⟩, ⟨12, 8, 12, 54⟩, ⟨13, 8, 13, 12⟩, ⟨13, 8, 13, 17⟩, ⟨13, 20, 13, 24⟩, ⟨13, 8, 13, 24⟩⟩
abbrev nsE : Expr := .Constant (.str "a spare location is needed") 0 ⟨12, 25, 12, 53⟩
abbrev nsEnv (qual : Str) (f : Str) (L fI : Addr) (cda : Value) (cc : Addr) : Env := ksEnv qual (iS f) L fI cda cc
/-- what the written part says of the class, at C, and of its __init__, at fI -/
structure Txt (P : Pl) (prog : Program) (K : Frag) (mg : Str → Option Value) (qual f : Str) (a : Expr) (C fI : Addr) : Prop where
  cls : ∃ nm q N bs bm sn sub ab col dd k0 k1 k2 k3 k5, K.lookup C = some (excClassObj nm q C N bs bm true sn sub ab col dd k0 k1 k2 k3 k5 "ValueError.__new__") ∧ refsVE bm = true
  sa : findIn K (.ref C) "__setattr__" = some (some (.builtin "object.__setattr__"))
  noN : findIn K (.ref C) f = some none
  iC : findIn K (.ref C) "__init__" = some (some (.ref fI))
  tC : typeIn K (.ref fI) = some (.type "function")
  kC : keepIn K (.ref C) = true
  exC : subIn K (.ref C) (.type "BaseException") = some true
  tyC : typeIn K (.ref C) = some (.type "type")
  veC : subIn K (.ref C) (.type "ValueError") = some true
  sub : mroIn K C (.ref C) = some true
  sup : ks_superIn K C C "__init__" = some (some (.builtin "ValueError.__init__"))
  opq : nsIn K cStatics "thirdparty.any" = some none
  gS : mg "super" = none
  htop : (prog.main.scope.names.lookup ("super" : Str)).isSome = false
  fn : ∃ (oc : Value) (od : Option Addr) (kV doc pm : Value) (an : Option Addr) (cda : Addr) (ct : Value) (osl : Array (Option Value)) (cc : Addr) (ccl : Value) (cdd : Option Addr) (vs : Array Value) (ccs : Array (Option Value)) (file : Str) (tf : Tok) (cl : Value) (cld : Option Addr) (csl : Array (Option Value)),
    K.lookup fI = some ⟨oc, od, .func (ksFn "__init__" qual (iA f P) (iB f a P) (iS f) .none kV doc pm an (.ref cda) ct cc), osl⟩ ∧ codeIn K (.ref cda) qual = true ∧ K.lookup cda = some ⟨ccl, cdd, .fields vs, ccs⟩ ∧ vs[2]? = some (.str file tf) ∧ ((prog.main.file : Str) == file) = true ∧ K.lookup cc = some ⟨cl, cld, .cell (some (.ref C)), csl⟩
section
variable {prog : Program} {w : World} {A : Around} {E : Value → Shared → Prop} {h : Heap} {g : Array GenState} {d : Drawn} {t : Nat} {os : OsState}
variable {nm q : Str} {C N : Addr} {bs bm : List Value} {hdct : Bool} {sn : List Str} {sub : List Value} {ab : Bool} {col : Option Bool} {dd : Option Addr} {k0 k1 k2 k3 k5 : Option Value}
theorem call_mw {u e t0 : Addr} {rest : List Value} {Q : Value → Shared → Prop}
    (hC : h.get? C = some (excClassObj nm q C N bs bm hdct sn sub ab col dd k0 k1 k2 k3 k5 "ValueError.__new__")) (he : h.get? e = some (excO C t0)) (hu : h.get? u = some (kxs_mw "ValueError.__init__" e)) (hrest : rest.length ≤ sizeLine)
    (hq : ∀ h' t1, (∀ b o, b ≠ e → h.get? b = some o → h'.get? b = some o) → h'.get? e = some (excO C t1) → h.objs.size ≤ h'.objs.size → Q .none ⟨h', g, d, t, os⟩) :
    wpAny (model prog w) A (call (.ref u) rest) Q E ⟨h, g, d, t, os⟩ := by
  refine wpAny_call (codeAny_of_tree ?_)
  show wpAny _ A.in1 (callAny (.ref u) ⟨rest, []⟩) _ _ _
  simp only [callAny]
  refine wpAny_bind (wpAny_load hu ?_)
  simp only [kxs_mw, show (Value.type "method-wrapper" == Value.type "method" || Value.type "method-wrapper" == Value.type "builtin_function_or_method" || Value.type "method-wrapper" == Value.type "method-wrapper") = true by decide, if_true]
  refine W.KFB.if_so (by decide) ?_
  refine wpAny_bind (ESX.check_bound F.excBase_ValueError hC he rfl ?_)
  refine wpAny_bind (wpAny_pure (wpAny_pure ?_))
  refine ⟨Code.quiet_builtin _ (by decide +kernel), codeAny_builtin F.excBase_ValueError.initEntry ?_⟩
  rw [Around.under_plainId F.excBase_ValueError.init.plain _]
  wp_walk
  refine hq _ h.objs.size (fun b o hb ho => ?_) ?_ ?_
  · rw [Heap.get?_update_other _ _ (Ne.symm hb)]
    exact Heap.get?_push_of_some _ ho
  · rw [Heap.get?_update_self _ (Heap.get?_push_of_some _ he) rfl]
    rfl
  · first
      | (simp only [Heap.size_update, Heap.size_push]; exact Nat.le_succ _)
      | exact Nat.le_of_lt (by have := Heap.size_push; omega)
end
/-- what __init__ leaves of a fresh exception at x -/
structure InitEnd (h h' : Heap) (f : Str) (x C dx t1 : Addr) (v : Value) : Prop where
  keep : ∀ b o, b ≠ x → h.get? b = some o → h'.get? b = some o
  obj : h'.get? x = some { cls := .ref C, dict := some dx, data := .fields #[.ref t1, .none, .none, .none, .bool false, .none] }
  dbig : h.objs.size ≤ dx
  dne : dx ≠ x
  ns : h'.Ns1 dx (fun y => if y = f then some v else none)
theorem ldC {M : Model} {s : Shared} {env : Env} {m : Str → Option Value} {x : Str} {pos : Pos} {v : Value} {Q : Value → Shared → Prop} {A : Around} {E : Value → Shared → Prop} (hn : s.heap.Ns env.locals m) (hv : m x = some v) (h : Q v s)
    (hk : env.scope.kind = .function := by rfl) (hl : env.kindOf x = some .local := by rfl) (hd : (x == ("__debug__" : Str)) = false := by decide) :
    wpAny M A (eval (.Name x pos) env) Q E s := wpAny_Name (wpAny_loadName_local hk hl hn hv h) hd
section
variable {prog : Program} {w : World} {A : Around} {R : Result → Shared → Prop} {s : Shared} {K : Frag} {mg : Str → Option Value} {C fI : Addr} {qual : Str}
theorem ns_init (T : Txt nsP prog K mg qual "ring" nsE C fI) {x t0 : Addr} {v : Value} (X : K.In s.heap) (hlim : s.heap.NoLimit) (hgl : s.heap.Ns mainGlobals mg) (hbl : ∃ mb, s.heap.Ns builtinsNs mb ∧ ∀ x : Str, x ≠ "__name__" → mb x = bootBuiltins x)
    (hx : s.heap.get? x = some (excO C t0)) (hnx : K.lookup x = none) (hroom : A.depth < recursionLimit)
    (hq : ∀ h' tk dx t1, InitEnd s.heap h' "ring" x C dx t1 v → R (.ok (.ret .none)) { s with heap := h', toks := tk }) :
    codeAny (model prog w) A (.call (.ref fI) ⟨[.ref x, v], []⟩) R s := by
  obtain ⟨oc, od, kV, doc, pm, an, cda, ct, osl, cc, ccl, cdd, vs, ccs, file, tf, cl, cld, csl, ho, hcd, hcode, hvs, hfile, hcell⟩ := T.fn
  obtain ⟨nm, q, N, bs, bm, sn, sub, ab, col, dd, k0, k1, k2, k3, k5, hC, hbm⟩ := T.cls
  have hcl : clsIn K C = some { name := nm, bases := bs, mro := .ref C :: bm, ns := N, qualname := q, hasDict := true, slotNames := sn, subclasses := sub, abstract := ab, collection := col, hasDel := false } := by unfold clsIn; rw [hC] <;> rfl
  refine ks_codeAny_call_defAt (fd := ksFn "__init__" qual (iA "ring" nsP) (iB "ring" nsE nsP) (iS "ring") .none kV doc pm an (.ref cda) ct cc) (binds := [("self", .ref x), ("ring", v)]) hroom (X _ _ ho) rfl hlim (codeRec_of X hcd) rfl (BindsTo.of_eq (by first | rfl | with_unfolding_all rfl)) (show ∀ x ∈ (iS "ring").names, x.2 ≠ .cell by decide) (fun y hy => by
    rcases List.mem_cons.mp hy with rfl | hy
    · rfl
    · rw [List.mem_singleton.mp hy]; rfl) (fun h₁ hns k => ?_)
  have X₁ : K.In h₁ := X.keeps k
  have hx₁ := k _ _ hx
  have hxL : x ≠ s.heap.objs.size := Nat.ne_of_lt (Heap.lt_size hx)
  have hxC : x ≠ C := fun e => by
    have := X _ _ hC
    rw [← e, hx] at this
    cases this
  obtain ⟨mb, hb1, hb2⟩ := hbl
  obtain ⟨hp, g, d, tk, os⟩ := s
  refine ks_wpAt_execs_cons (ks_wpAt_Expr_any (ks_wpAt_MethodCall ?_))
  refine ks_wpAt_super_base (f := fI) (cc := cda) rfl rfl (by decide) rfl (X₁ _ _ ho) rfl rfl rfl (X₁ _ _ hcode) rfl hvs hfile T.htop ?_
  refine ks_loadName_global rfl rfl (Calls.loadGlobal_builtin (hgl.keeps k) T.gS (hb1.keeps k) ((hb2 _ (by decide)).trans (by decide +kernel)) ⟨rfl, ?_⟩)
  refine wpAny_loadName_free rfl rfl rfl ⟨_, X₁ _ _ hcell, rfl⟩ ?_
  refine wpAny_loadName_local rfl rfl hns (by first | rfl | with_unfolding_all rfl | kernel_rfl) ?_
  obtain ⟨oD, hD1, hD2⟩ : ∃ oD, h₁.get? C = some oD ∧ ∃ cd, oD.data = .cls cd := ⟨_, X₁ _ _ hC, _, rfl⟩
  obtain ⟨cdD, hD2⟩ := hD2
  refine ks_wpAny_isType_cls hD1 hD2 ⟨rfl, ?_⟩
  refine ks_wpAny_call_super hD1 hD2 hx₁ rfl (fun c e => by cases e) (looks_mroIn X₁ T.sub) (fun h₂ hso k₂ => ?_)
  have X₂ : K.In h₂ := X₁.keeps k₂
  have hx₂ := k₂ _ _ hx₁
  have hz₂ : h₁.objs.size < h₂.objs.size := Heap.lt_size hso
  have I₂ : InstAt h₂ x (excO C t0) C none := ⟨hx₂, rfl, rfl, trivial⟩
  have hsup := T.sup
  unfold ks_superIn at hsup
  rw [hcl] at hsup
  have hI : Looks (model prog w) h₂ (isInstance (.ref x) (.type "ValueError")) true := I₂.type.andThen (looks_subIn X₂ T.veC)
  refine kxs_getMethod kxs_ValueError hso (looks_opaque X₂ T.opq) ((looks_clsIn X₂ hcl).andThen .now) rfl X₂ hsup hI hxC (by decide) ?_
  have hu : (h₂.push (kxs_mw "ValueError.__init__" x)).get? h₂.objs.size = some (kxs_mw "ValueError.__init__" x) := Heap.get?_push_at rfl rfl
  have k₃ : ∀ b o, h₂.get? b = some o → (h₂.push (kxs_mw "ValueError.__init__" x)).get? b = some o := fun b o e => Heap.get?_push_of_some _ e
  refine kxs_callWith (i := "ValueError.__init__") (x := x) (by rfl) (evalArgs_plain ?_)
  refine Calls.spliced_cons (wpAny_Constant_str (k := 0) (pos := ⟨12, 25, 12, 53⟩) (Calls.spliced_nil ⟨hu, ?_⟩))
  refine call_mw (k₃ _ _ (k₂ _ _ (X₁ _ _ hC))) (k₃ _ _ hx₂) hu (by rw [sizeLine_eq]; exact (by decide : 1 ≤ 16777216)) fun h₄ t1 k₄ hx₄ hz₄ => ?_
  have kA : ∀ b o, b ≠ x → h₁.get? b = some o → h₄.get? b = some o := fun b o hb e => k₄ b o hb (k₃ _ _ (k₂ _ _ e))
  have X₄ : K.In h₄ := fun a o e => kA a o (fun z => by rw [z, hnx] at e; cases e) (X₁ a o e)
  have hns₄ := hns.at (h' := h₄) fun o e => kA _ o hxL.symm e
  have z1 : hp.objs.size < h₁.objs.size := hns.lt
  have z3 : h₂.objs.size ≤ (h₂.push (kxs_mw "ValueError.__init__" x)).objs.size := by rw [Heap.size_push]; exact Nat.le_succ _
  show wpAt _ _ _ (execs _ _) _ _ _
  refine wpAt_of_wpAny (wpAny_execs_cons (plainObj_wpAny_Assign_Attribute ?_))
  refine ldC (v := v) hns₄ (by first | rfl | with_unfolding_all rfl | kernel_rfl) (ldC (v := .ref x) hns₄ (by first | rfl | with_unfolding_all rfl | kernel_rfl) ?_)
  refine set_plain X₄ (ox := excO C t1) (od := none) ⟨hx₄, rfl, rfl, trivial⟩ T.sa ?_
  refine exc_osa X₄ hx₄ hcl (show refsVE (.ref C :: bm) = true from hbm) rfl T.noN (fun h₅ tk₅ dx k₅ dn dne hx₅ hn₅ => ?_)
  show wpAny _ _ (execs _ _) _ _ _
  exact wpAny_execs_nil (hq h₅ tk₅ dx t1 ⟨fun b o hb e => k₅ b o hb (kA b o hb (k b o e)), hx₅, Nat.le_trans (Nat.le_of_lt z1) (Nat.le_trans (Nat.le_of_lt hz₂) (Nat.le_trans z3 (Nat.le_trans hz₄ dn))), dne, hn₅⟩)
/-- a made one -/
structure OwnMade (h h' : Heap) (f : Str) (e C d : Addr) (v : Value) : Prop where
  keep : ∀ b o, h.get? b = some o → h'.get? b = some o
  new : h.objs.size ≤ e
  obj : ∃ oe vs, h'.get? e = some oe ∧ oe.cls = .ref C ∧ oe.dict = some d ∧ oe.data = .fields vs ∧ vs[1]? = some .none
  dbig : h.objs.size ≤ d
  dne : d ≠ e
  ns : h'.Ns1 d (fun y => if y = f then some v else none)
theorem one_size (v : Value) : [v].length ≤ sizeLine := by
  rw [sizeLine_eq]
  exact (by decide : 1 ≤ 16777216)
theorem ns_madeN (T : Txt nsP prog K mg qual "ring" nsE C fI) {v : Value} (X : K.In s.heap) (hlim : s.heap.NoLimit) (hgl : s.heap.Ns mainGlobals mg) (hbl : ∃ mb, s.heap.Ns builtinsNs mb ∧ ∀ x : Str, x ≠ "__name__" → mb x = bootBuiltins x) (hroom : A.depth + 1 < recursionLimit)
    (hq : ∀ h' tk e d, OwnMade s.heap h' "ring" e C d v → (∀ oe vs, h'.get? e = some oe → oe.data = .fields vs → vs[2]? = some .none) → R (.ok (.ret (.ref e))) { s with heap := h', toks := tk }) :
    codeAny (model prog w) A (.call (.ref C) ⟨[v], []⟩) R s := by
  obtain ⟨nm, q, N, bs, bm, sn, sub, ab, col, dd, k0, k1, k2, k3, k5, hC, hbm⟩ := T.cls
  obtain ⟨hp, g, dr, tk, os⟩ := s
  have k : ∀ b o, hp.get? b = some o → ((hp.push (kdv_tup [v])).push (excO C hp.objs.size)).get? b = some o := fun b o e => Heap.get?_push_of_some _ (Heap.get?_push_of_some _ e)
  have hget : ((hp.push (kdv_tup [v])).push (excO C hp.objs.size)).get? (hp.objs.size + 1) = some (excO C hp.objs.size) := by heap_get
  have hnx : K.lookup (hp.objs.size + 1) = none := by
    cases e : K.lookup (hp.objs.size + 1) with
    | none => rfl
    | some o =>
      have z : hp.get? (hp.objs.size + 1) = some o := X _ _ e
      exact absurd (Nat.lt_of_succ_lt (Heap.lt_size z)) (Nat.lt_irrefl _)
  obtain ⟨mb, hb1, hb2⟩ := hbl
  refine call_own F.excBase_ValueError (fun X => refsVE_contains X bm hbm) (X _ _ hC) (looks_findIn X T.iC) (fun self => bind_fn X self T.tC) (one_size v) ?_
  refine ns_init (s := ⟨(hp.push (kdv_tup [v])).push (excO C hp.objs.size), g, dr, tk, os⟩) T (X.keeps k) (hlim.keeps k) (hgl.keeps k) ⟨mb, hb1.keeps k, hb2⟩ hget hnx ?_ fun h' tk' dx t1 ⟨k', hx, dn, dne, hns⟩ => ?_
  · show A.depth + 1 < recursionLimit
    exact hroom
  · have old : ∀ b o, hp.get? b = some o → h'.get? b = some o := fun b o e => k' b o (Nat.ne_of_lt (Nat.lt_succ_of_lt (Heap.lt_size e))) (k b o e)
    have z : hp.objs.size + 1 + 1 ≤ dx := by
      first
        | (simpa only [Heap.size_push] using dn)
        | exact dn
        | (have q := dn; rw [Heap.size_push, Heap.size_push] at q; exact q)
    exact ⟨rfl, hq h' tk' (hp.objs.size + 1) dx ⟨old, Nat.le_succ _, ⟨_, _, hx, rfl, rfl, rfl, rfl⟩, Nat.le_trans (Nat.le_trans (Nat.le_succ _) (Nat.le_succ _)) z, dne, hns⟩ fun oe vs he ev => by
      have q := he.symm.trans hx
      cases q
      cases ev
      rfl⟩
end
end LowNS
end PySem
namespace L2
open PySem PySem.Spec PyProof.Rows
theorem relO_one {f : Str} {v : V} {v' : Value} (r : RelV v v') (y : Str) : RelO (List.lookup y [(f, v)]) (if y = f then some v' else none) := by
  by_cases hw : y = f
  · subst hw
    rw [if_pos rfl]
    have q : List.lookup y [(y, v)] = some v := by simp [List.lookup]
    rw [q]
    exact r
  · rw [if_neg hw]
    have qw : (y == f) = false := by simpa using hw
    have q2 : List.lookup y [(f, v)] = none := by simp [List.lookup, qw]
    rw [q2]
    trivial
section
variable {X : Cx} {C fI : Addr} {qual : Str}
/-- NeedsSpare(e) -/
def tMk1 (C : Addr) (f : Str) (ta : TA) : St → Hp → XK → Prop := fun σ H Q => ta σ H fun vs H1 => ∃ v, vs = [v] ∧ ∀ d, H1 d = none → Q (.ref C) (some d) (upd H1 d (.xd [(f, v)]))
end
end L2
end
section
set_option Elab.async false
set_option linter.all false
set_option maxRecDepth 100000
set_option maxHeartbeats 4000000
/-! where an exception is handled: the end of a list, all(..), a comprehension over a range -/
namespace L2H
open PySem PySem.Spec PyProof.Rows L2 HotX
section
variable {prog : Program} {w : World} {A : Around} {E : Value → Shared → Prop} {s : Shared}
theorem pyNext_list_end_hot {it l x1 : Addr} {i : Nat} {items : Array Value} {Q : Option Value → Shared → Prop} (hot : HotAt A x1 s.heap) (hxi : x1 ≠ it)
    (hit : s.heap.IsListIter it l i) (hl : s.heap.IsList l items) (hx : items[i]? = none)
    (hQ : ∀ h', Heap.ExtBut it s.heap h' → Q none { s with heap := h' }) : wpAny (model prog w) A (pyNext (.ref it)) Q E s := by
  obtain ⟨o, ho, hc, hd⟩ := id hit
  obtain ⟨ol, hol, _, nl, hdl⟩ := hl
  obtain ⟨hh, o1, vs1, h1, d1, c1⟩ := hot
  unfold pyNext
  refine wpAny_bind (wpAny_attempt (wpAny_callSpecial?_slot (name := Str.ofString "__next__") hit.typeIs slot_listiter_next
    (wpAny_call_entry slot_listiter_next hit.typeIs entry_listiter_next ?_ (args_listiter_next _))))
  show wpAny _ _ (field (.ref it) 0 >>= _) _ _ s
  refine wpAny_bind (wpAny_field ho hd (x := .ref l) rfl ?_)
  show wpAny _ _ (if (Value.ref l == Value.none) = true then _ else _) _ _ s
  rw [if_neg (show ¬ ((Value.ref l == Value.none) = true) from Bool.false_ne_true)]
  show wpAny _ _ (field (.ref it) 1 >>= _) _ _ s
  refine wpAny_bind (wpAny_field ho hd (x := .int i 0) rfl ?_)
  show wpAny _ _ (seqItems? (.ref l) >>= _) _ _ s
  refine wpAny_bind (wpAny_seqItems hol hdl ?_)
  simp only [Int.toNat_natCast, hx]
  refine wpAny_bind (wpAny_rule (wpAny_bind (wpAny_setField ho hd (by simp) ?_)))
  show wpAny _ _ (newExc (.type "StopIteration") [] >>= _) _ _ _
  refine wpAny_bind ?_
  simp only [newExc, newTuple]
  refine wpAny_bind (wpAny_newObj_type ?_ (by size_fits))
  refine wpAny_bind (m := firstArgMember _ _) (wpAny_of_eq (a := Value.none) (by first | rfl | (simp only [firstArgMember]; rfl)) ?_)
  refine wpAny_newObj_type ?_ (by size_fits)
  have hk : ∀ {b : Addr} {u : Obj}, b ≠ it → s.heap.get? b = some u → (s.heap.update it (Obj.mapFields (·.setIfInBounds 0 Value.none))).get? b = some u := fun hb e => by rw [Heap.get?_update_other _ _ (Ne.symm hb)]; exact e
  refine raiseNew_hot ⟨hh, o1, vs1, Heap.get?_push_of_some _ (Heap.get?_push_of_some _ (hk hxi h1)), d1, c1⟩ (Nat.ne_of_lt (Heap.lt_size (Heap.get?_push_of_some _ (hk hxi h1)))) (Heap.get?_push_size _ rfl) rfl (by first | (simp; done) | (simp; omega) | (simp only [Array.size_append]; simp; omega)) ?_
  refine wpAny_bind (wpAny_isInstance (T := "StopIteration") (b := true) ⟨_, Heap.get?_update_self _ (Heap.get?_push_size _ rfl) rfl, rfl⟩ isSubtype_stop ?_)
  refine wpAny_pure (hQ _ fun b u hb e => ?_)
  rw [Heap.get?_update_other _ _ (Nat.ne_of_gt (Heap.lt_size (Heap.get?_push_of_some _ (hk hb e))))]
  exact Heap.get?_push_of_some _ (Heap.get?_push_of_some _ (hk hb e))
theorem hot_in1 {x1 : Addr} {h : Heap} (c : HotAt A x1 h) : HotAt A.in1 x1 h := ⟨c.1, c.2⟩
/-- a list's walk while the exception at x1 is handled -/
theorem walks_listH (I ax x1 : Addr) (hne : ax ≠ I) (hxi : x1 ≠ I) (items : Array Value) :
    Walks prog w A I [I, ax, x1] [I] items.size (fun i v => items[i]? = some v) (fun i h => (h.IsListIter I ax i ∧ h.IsList ax items) ∧ HotAt A x1 h) where
  sub := fun b hb => by simp at hb; simp [hb]
  frame := fun _ _ _ st hk => ⟨⟨st.1.1.at fun o e => hk I (by simp) o e, st.1.2.at fun o e => hk ax (by simp) o e⟩, by
    obtain ⟨hh, o1, vs1, h1, d1, c1⟩ := st.2
    exact ⟨hh, o1, vs1, hk x1 (by simp) _ h1, d1, c1⟩⟩
  item := fun i s Q E hi st hQ => by
    refine wpAny_pyNext_list_item st.1.1 st.1.2 (x := items[i]) (by simp [hi]) fun h' hit' hs' => ?_
    obtain ⟨hh, o1, vs1, h1, d1, c1⟩ := st.2
    exact hQ _ h' s.toks (by simp [hi]) ⟨⟨hit', st.1.2.extBut hs'.extBut hne⟩, hh, o1, vs1, hs'.extBut x1 o1 hxi h1, d1, c1⟩ fun b o hb e => hs'.extBut b o (fun h => hb (by simp [h])) e
  done := fun s Q E st hQ => pyNext_list_end_hot st.2 hxi st.1.1 st.1.2 (by simp) fun h' he' => hQ h' s.toks fun b o hb e => he' b o (fun h => hb (by simp [h])) e
  self := fun _ _ _ _ st hQ => wpAny_pyIter_listiter st.1.1 hQ
end
section
variable {X : Cx}
theorem cr_allH (hc : HotC X) : CallR X (.builtin "all") (rAll X.K) := by
  intro pins s σ H vs us Q I r h
  obtain ⟨a, bs, rfl, hs, q⟩ := h
  obtain ⟨its, rv, hl, _⟩ := I.list hs
  rw [Vals.ref1 r]
  have hb := rv.bls
  obtain ⟨x1, hot⟩ := hc.at I
  have hot0 := hot
  obtain ⟨hh, o1, vs1, h1, d1, c1⟩ := hot
  refine call_all_walk (iter_any hl.isList fun s₂ e2 st hne => ?_)
  subst e2
  refine ⟨_, _, _, _, _, _, _, rfl, walks_listH (A := X.A.in1) _ a x1 hne (Nat.ne_of_lt (Heap.lt_size h1)) its.toArray, ⟨st, hh, o1, vs1, Heap.get?_push_of_some _ h1, d1, c1⟩, truth_bools hb, fun h' tk hk => ?_⟩
  refine ⟨.bl _, H, I.kept fun b o eo => hk b o (fun hmem => ?_) (Heap.get?_push_of_some _ eo), ?_, q⟩
  · rcases List.mem_cons.mp hmem with e1 | hmem
    · exact absurd (e1 ▸ Heap.lt_size eo) (Nat.lt_irrefl _)
    · cases hmem
  · show Value.bool _ = Value.bool _
    rw [← L2.all_range, hb, List.size_toArray, List.length_map]
/-- a comprehension's block that bears the handled exception -/
abbrev _root_.L2.Cx.blkH (X : Cx) (s : Shared) (H : Hp) (scope : Scope) (cenv : Env) (fp : List Addr) : Cx := { X.blk s H scope cenv fp with pn := X.pn }
theorem blockH {pins : List (Addr × Obj)} {σ σ' : L2.St} {H : Hp} {s : Shared} {g : Array GenState} {d : Drawn} {t : Nat} {os : OsState} {h' : Heap} {scope : Scope} {cenv : Env} {fp : List Addr} (I : Inv X pins σ H s) (J : Inv (X.blk s H scope cenv fp) [] σ' H ⟨h', g, d, t, os⟩)
    (k : ∀ b o, s.heap.get? b = some o → h'.get? b = some o) (hL : cenv.locals = s.heap.objs.size) : Inv (X.blkH s H scope cenv fp) [] σ' H ⟨h', g, d, t, os⟩ := by
  have ok := J.ok
  refine ⟨⟨ok.mod, ok.kind, ok.glob, ok.blt, ok.above, ok.inj, ok.has, ok.cab, ok.hd, ok.frames, ok.stk, ok.exf, ok.bs, ok.bsz, ok.noex, ok.exfs, ok.funs, ok.frf⟩, J.os, J.bare, J.base, J.loc, J.cell, J.free, J.freeC, fun p hp => ?_, J.hok, J.len⟩
  have hp : p ∈ X.pn := by
    have hp : p ∈ X.pn ++ ([] : List (Addr × Obj)) := hp
    rwa [List.append_nil] at hp
  obtain ⟨p1, p2, p3, p4, p5⟩ := I.pin p (List.mem_append_left _ hp)
  refine ⟨k _ _ p1, p2, ?_, fun hm => ?_, p5⟩
  · show p.1 ≠ cenv.locals
    rw [hL]
    exact Nat.ne_of_lt (Heap.lt_size p1)
  · have hm : p.1 ∈ frs X.stack := hm
    exact (List.mem_cons.mp (I.stkSub p.1 hm)).elim p3 p4
end

section
variable {X : Cx}
theorem lc_coreH {pins : List (Addr × Obj)} {s : Shared} {σ : St} {H : Hp} {Q : VK} {elt tg iter : Expr} {ifs : List Expr} {scope : Scope} {own : List (Str × Nat)} {pos pos' : Pos} {wi : TI} {g : TG} {tt : TT} {te : TE} {use : Option (Value → Sem Unit)} {Qf : Value → Shared → Prop}
    (hc : HotC X) (hN : X.N.Nodup) (I : Inv X pins σ H s) (hi : PIH X tg iter wi) (ok : BlkOk X.N X.env.scope scope own)
    (hg : ∀ (s : Shared) (H : Hp) (C : Addr) (cl : List (Str × Addr)) (fp : List Addr), PG (X.blkH s H scope (compEnvC scope cl C X.env) fp) tg g) (ht : ∀ (s : Shared) (H : Hp) (C : Addr) (cl : List (Str × Addr)) (fp : List Addr), PTs (X.blkH s H scope (compEnvC scope cl C X.env) fp) ifs tt)
    (he : ∀ (s : Shared) (H : Hp) (C : Addr) (cl : List (Str × Addr)) (fp : List Addr), PE (X.blkH s H scope (compEnvC scope cl C X.env) fp) elt te) (hs : ∀ x, foldedSetIterable iter X.env x = pure x)
    (h : tLc wi g tt te (own.map (·.2)) σ H Q)
    (hRR : ∀ D C s' m H', Inv X pins σ H' s' → Q (.ref D) H' → s'.heap.Ns C m → FpOk X pins H' C → compPost (model X.prog X.w) X.A X.xe use Qf (.ref D) C (.ok .next) s') :
    wpAny (model X.prog X.w) X.A (comprehension (.ListComp elt [⟨tg, iter, ifs, 0⟩] scope pos) scope X.env pos' (newList []) false (eval iter X.env) use) Qf X.xe s := by
  have hfree : ∀ y ∈ scope.names, y.2 = .free → ∃ c, X.env.cells.lookup y.1 = some c := fun y hy e => by
    rcases ok.free y hy e with k | k
    · exact I.ok.has _ (.inl k)
    · exact I.ok.has _ (.inr k)
  refine wpAny_comprehension_free (use := use) rfl hs (closure_ok hfree) ok.kind (fun y hy e => by rw [ok.uniq y hy, e])
    (thn (hi.run pins s σ H _ I h) fun xv s1 hx => thn hx fun itv s2 h2 => ?_)
  obtain ⟨it, fp, tn, J, H2, e, I2, T, st2, f2, q⟩ := h2
  subst e
  refine wpAny_newObj_type (newEnv_comp ?_) (by show 0 ≤ sizeLine; decide)
  generalize hD : s2.heap.objs.size = D
  have hDn : H2 D = none := I2.hok.fresh (Nat.le_of_eq hD)
  obtain ⟨W, ⟨m0, w0⟩, turn⟩ := q D hDn
  -- the new list
  generalize hs3 : ({ s2 with heap := s2.heap.push { cls := .type "list", data := .seq ([] : List Value).toArray } } : Shared) = s3
  have I3 : Inv X pins σ (upd H2 D (.lst [])) s3 := by
    rw [← hs3]
    refine I2.laid (t' := s2.toks) (fun b o e => Heap.get?_push_of_some _ e) (Nat.le_of_eq hD) ⟨Nat.zero_le _, [], 0, .nil, ?_⟩
    rw [← hD]
    exact Heap.get?_push_size _ rfl
  have h3 : s3.heap = s2.heap.push { cls := .type "list", data := .seq ([] : List Value).toArray } := by rw [← hs3]
  have sz : ∀ b ∈ fp, b < s2.heap.objs.size := fun b hb => by
    obtain ⟨o, e, _⟩ := T.obj _ _ st2 b hb
    exact Heap.lt_size e
  have f3 : ∀ b ∈ fp, FpOk X pins (upd H2 D (.lst [])) b ∧ b < s3.heap.objs.size := fun b hb => by
    have hlt := sz b hb
    refine ⟨⟨?_, (f2 b hb).2⟩, by rw [h3, Heap.size_push]; exact Nat.lt_succ_of_lt hlt⟩
    rw [upd_ne (by rw [← hD]; exact Nat.ne_of_lt hlt)]
    exact (f2 b hb).1
  have st3 : tn 0 s3.heap := T.keep _ _ _ st2 fun b _ o e => by rw [h3]; exact Heap.get?_push_of_some _ e
  have I4 := blockH I3 (block_start I3 ok hN f3) (fun b o e => pushCells_keeps _ _ _ _ (Heap.get?_push_of_some _ e)) rfl
  have pg := hg s3 (upd H2 D (.lst [])) s3.heap.objs.size (cellsFrom (s3.heap.objs.size + 1) scope.names (cloFrom X.env.cells scope.names [])) fp
  have pt := ht s3 (upd H2 D (.lst [])) s3.heap.objs.size (cellsFrom (s3.heap.objs.size + 1) scope.names (cloFrom X.env.cells scope.names [])) fp
  have pe := he s3 (upd H2 D (.lst [])) s3.heap.objs.size (cellsFrom (s3.heap.objs.size + 1) scope.names (cloFrom X.env.cells scope.names [])) fp
  show codeAny _ _ (.compStart (.ListComp elt [⟨tg, iter, ifs, 0⟩] scope pos) 0 (.ref it) (.ref D) (compEnvC scope (cellsFrom (s3.heap.objs.size + 1) scope.names (cloFrom X.env.cells scope.names [])) s3.heap.objs.size X.env)) (compPost (model X.prog X.w) X.A X.xe use Qf (.ref D) s3.heap.objs.size) { s3 with heap := pushCells (s3.heap.push { cls := .type "dict", data := .dict #[] }) scope.names }
  have nfp : ∀ b ∈ fp, (upd H2 D (.lst [])) b = none := fun b hb => (f3 b hb).1.1
  generalize hce : compEnvC scope (cellsFrom (s3.heap.objs.size + 1) scope.names (cloFrom X.env.cells scope.names [])) s3.heap.objs.size X.env = ce at I4 pg pt pe ⊢
  have cL : ce.locals = s3.heap.objs.size := by subst hce; rfl
  generalize hH3 : upd H2 D (.lst []) = H3 at I3 I4 pg pt pe w0 nfp f3
  generalize hs4 : ({ s3 with heap := pushCells (s3.heap.push { cls := .type "dict", data := .dict #[] }) scope.names } : Shared) = s4 at I4 ⊢
  have st4 : tn 0 s4.heap := T.keep _ _ _ st3 fun b _ o e => by rw [← hs4]; exact pushCells_keeps _ _ _ _ (Heap.get?_push_of_some _ e)
  have stat : ∀ {σ' : St} {H' : Hp} {s' : Shared}, Inv (X.blkH s3 H3 scope ce fp) [] σ' H' s' → (∀ b ∈ fp, H' b = none) → ∀ b ∈ fp, FpOk (X.blkH s3 H3 scope ce fp) [] H' b := fun {σ' H' s'} I' hn b hb =>
    ⟨hn b hb, (I'.ok.exf b hb).1, I'.ok.exfs b hb, .inl hb, fun x c e => (I'.ok.exf b hb).2 x c e, fun p hp => (f3 b hb).1.2.2.2.2.2 p (by have hp : p ∈ X.pn ++ ([] : List (Addr × Obj)) := hp; rw [List.append_nil] at hp; exact List.mem_append_left _ hp)⟩
  have hcB : HotC (X.blkH s3 H3 scope ce fp) := hc
  have loop : codeAny (model X.prog X.w) X.A (.compLoop (.ListComp elt [⟨tg, iter, ifs, 0⟩] scope pos) 0 (.ref it) (.ref D) ce) (compPost (model X.prog X.w) X.A X.xe use Qf (.ref D) s3.heap.objs.size) s4 := by
    refine compLoop_any (fun n s' => ∃ i H', Inv (X.blkH s3 H3 scope ce fp) [] (wipe σ (own.map (·.2))) H' s' ∧ tn i s'.heap ∧ (∀ b ∈ fp, H' b = none) ∧ W i n H') ?_ m0 ⟨0, H3, I4, st4, nfp, w0⟩
    rintro n s5 ⟨i, H5, I5, st5, n5, w5⟩
    rcases turn i n H5 w5 with ⟨stop, qq⟩ | ⟨go, Nx, hNx, step⟩
    · have td := T.done (X.blkH s3 H3 scope ce fp) rfl rfl rfl hcB i [] s5 _ H5 (fun _ _ => False) I5 (stat I5 n5) st5 stop
      refine thnF td fun r s6 ⟨hr, I6⟩ => ?_
      subst hr
      -- back in the def's context
      have I7 : Inv X pins σ H5 s6 := I3.call' (ch := fp) I6.os I6.base I6.hok I6.bare fun b hb => ⟨(f3 b hb).1.2.2.2.1, (f3 b hb).1.2.1, (f3 b hb).1.2.2.2.2.1, (f3 b hb).1.2.2.2.2.2⟩
      have nC : H5 s3.heap.objs.size = none := by
        have z : H5 ce.locals = none := I6.free
        rw [cL] at z
        exact z
      obtain ⟨m, hn, _⟩ := I6.loc
      have hn : s6.heap.Ns ce.locals m := hn
      rw [cL] at hn
      exact hRR D s3.heap.objs.size s6 m H5 I7 qq hn (I3.fpOk (Nat.le_refl _) nC)
    · have ti := T.item (X.blkH s3 H3 scope ce fp) rfl rfl rfl hcB i [] s5 _ H5 (fun _ _ => False) I5 (stat I5 n5) st5 go
      refine thnF ti fun r s6 ⟨u, hr, h6⟩ => ?_
      subst hr
      refine thnF h6 fun _ s7 ⟨x, H7, I7, r7, y7, st7, n7⟩ => ?_
      have I7' := I7.pinned (stat I7 n7) (T.obj _ _ st7)
      refine thnF (pg.run _ s7 _ H7 x u _ I7' r7 (step x H7 y7)) fun _ s8 ⟨σ8, H8, I8, hw8, q8⟩ => ?_
      refine thnF (pt.run _ s8 σ8 H8 _ I8 q8) fun b s9 ⟨H9, I9, q9⟩ => ?_
      -- the turn's end
      have fin : ∀ {s' : Shared} {H' : Hp}, Inv (X.blkH s3 H3 scope ce fp) ([] ++ pinsAt fp s7.heap) σ8 H' s' → Nx H' → ∃ m, m < n ∧ ∃ i H', Inv (X.blkH s3 H3 scope ce fp) [] (wipe σ (own.map (·.2))) H' s' ∧ tn i s'.heap ∧ (∀ b ∈ fp, H' b = none) ∧ W i m H' := fun {s' H'} I' nx => by
        obtain ⟨m', hm, w'⟩ := hNx H' nx
        have pin' : ∀ b ∈ fp, ∀ o, s7.heap.get? b = some o → s'.heap.get? b = some o ∧ H' b = none := fun b hb o e =>
          let z := I'.pin (b, o) (List.mem_append_right _ (List.mem_append_right _ (mem_pinsAt hb e)))
          ⟨z.1, z.2.1⟩
        have hl : (wipe σ (own.map (·.2))).length = σ8.length := by rw [← hw8, wipe_length]
        refine ⟨m', hm, i + 1, H', (I'.unpinned (pins := [])).weak hl (fun j v e => ?_), T.keep _ _ _ st7 fun b hb o e => (pin' b hb o e).1, fun b hb => ?_, w'⟩
        · rw [← hw8] at e
          exact (wipe_some e).1
        · obtain ⟨o, e, _⟩ := T.obj _ _ st7 b hb
          exact (pin' b hb o e).2
      cases b with
      | false =>
        simp only [Bool.false_eq_true, if_false] at q9 ⊢
        exact fin I9 q9
      | true =>
        simp only [if_true] at q9 ⊢
        refine thnF (pe.run _ s9 σ8 H9 _ I9 q9) fun z s10 ⟨yv, H10, I10, r10, acc, hD10, hz10, nx⟩ => ?_
        exact app_ok (X := X.blkH s3 H3 scope ce fp) I10 hD10 hz10 r10 fun s11 I11 => fin I11 nx
  exact codeAny_compStart_list loop (T.self X.A 0 _ _ _ st4 loop)
/-- as a value -/
theorem pe_lcH {elt tg iter : Expr} {ifs : List Expr} {scope : Scope} {own : List (Str × Nat)} {pos : Pos} {wi : TI} {g : TG} {tt : TT} {te : TE} (hc : HotC X) (hN : X.N.Nodup) (hi : PIH X tg iter wi) (ok : BlkOk X.N X.env.scope scope own)
    (hg : ∀ (s : Shared) (H : Hp) (C : Addr) (cl : List (Str × Addr)) (fp : List Addr), PG (X.blkH s H scope (compEnvC scope cl C X.env) fp) tg g) (ht : ∀ (s : Shared) (H : Hp) (C : Addr) (cl : List (Str × Addr)) (fp : List Addr), PTs (X.blkH s H scope (compEnvC scope cl C X.env) fp) ifs tt)
    (he : ∀ (s : Shared) (H : Hp) (C : Addr) (cl : List (Str × Addr)) (fp : List Addr), PE (X.blkH s H scope (compEnvC scope cl C X.env) fp) elt te) (hs : ∀ x, foldedSetIterable iter X.env x = pure x := by intro _; rfl) :
    PE X (.ListComp elt [⟨tg, iter, ifs, 0⟩] scope pos) (tLc wi g tt te (own.map (·.2))) := by
  refine ⟨fun pins s σ H Q I h => ?_⟩
  rw [eval_ListComp]
  refine lc_coreH hc hN I hi ok hg ht he hs h fun D C s' m H' I' q hn f => ⟨m, hn, fun h'' sb => ?_⟩
  obtain ⟨f0, f1, f2, f3, f4, f5⟩ := f
  exact ⟨.ref D, H', I'.turned (t' := s'.toks) (fun b o hb e => (sb.2 b hb).trans e) f0 f1 f3 f4 f5, rfl, q⟩
end
end L2H
end
section
set_option Elab.async false
set_option linter.all false
set_option maxRecDepth 100000
set_option maxHeartbeats 4000000
/-! L3: raising defs, try .. except .. as e, where an exception is handled -/
namespace L2N
open PySem PySem.Spec PyProof.Rows L2
theorem takes0 {X : Cx} : L2N.Takes X (fun _ _ _ _ => False) := fun _ _ x => by
  obtain ⟨_, _, _, _, _, _, _, _, _, _, _, _, _, _, _, _, z⟩ := x
  exact z.elim
section
variable {X : Cx} {C fI : Addr} {qual : Str}
theorem pmk_ns {a : Expr} {ta : TA} {p pos : Pos} {k : Nat} (T : PySem.LowNS.Txt PySem.LowNS.nsP X.prog X.K X.mg qual "ring" PySem.LowNS.nsE C fI) (gC : X.mg "NeedsSpare" = some (.ref C)) (hr : Room k X.A) (ha : PA X [a] ta) (hg : Gl X "NeedsSpare" := by rfl)
    (he : starEach (a :: []) X.env = (false, eval a X.env) :: starEach [] X.env := by rfl) (hpl : (backTo pos (starEach [] X.env)).any (·.1) = false := by rfl) :
    L2N.PMk X (.Call (.Name "NeedsSpare" p) [a] [] pos) (tMk1 C "ring" ta) := by
  intro pins s σ H Q I h
  refine wpAny_Call_Name_kw (ld_glob I hg gC ?_)
  refine PySem.W.callWith_K (h₀ := X.base) I.ok.mod.kin T.kC (thn (ha.run pos pins s σ H _ I h) fun us s1 hh => ?_) he hpl
  obtain ⟨vs, H1, I1, r1, v, ev, q1⟩ := hh
  subst ev
  refine ⟨I1.kIn, ?_⟩
  cases r1 with
  | cons rv rn =>
    rename_i v' us'
    cases rn
    show wpAny _ _ (call (.ref C) [v']) _ _ _
    have hlim := I1.nolimit
    have hgl := I1.mod.glob.keeps I1.bk
    obtain ⟨mb, hb1, hb2⟩ := I1.mod.blt
    have hbl : ∃ mb, s1.heap.Ns builtinsNs mb ∧ ∀ x : Str, x ≠ "__name__" → mb x = bootBuiltins x := ⟨mb, hb1.keeps I1.bk, hb2⟩
    obtain ⟨hp, g, dr, tk, os⟩ := s1
    refine wpAny_call (PySem.LowNS.ns_madeN T I1.kIn hlim hgl hbl (by have := hr.dp; omega) fun h' tk' e d M ctx => ?_)
    show L2N.MkP X pins σ Q (.ref e) ⟨h', g, dr, tk', os⟩
    obtain ⟨oe, fv, hoe, hc, hd, hdat, h1⟩ := M.obj
    have hns := M.ns
    obtain ⟨G', g1, g2⟩ := restrict h' fun b => decide (b ≠ e)
    have gk : ∀ b, b ≠ e → G'.get? b = h'.get? b := fun b hb => g1 b (decide_eq_true hb)
    have ge : G'.get? e = none := g2 e (by simp)
    have old : ∀ b o, hp.get? b = some o → G'.get? b = some o := fun b o q => (gk b (Nat.ne_of_lt (Nat.lt_of_lt_of_le (Heap.lt_size q) M.new))).trans (M.keep b o q)
    have ob : ObjOk X.prog X.w (upd H1 d (.xd [(("ring" : Str), v)])) G' d (.xd [(("ring" : Str), v)]) :=
      ⟨_, hns.at (fun o q => (gk d M.dne).trans q), fun f => relO_one rv f⟩
    have J : Inv X pins σ (upd H1 d (.xd [(("ring" : Str), v)])) ⟨G', g, dr, tk', os⟩ := I1.laid (t' := tk') old M.dbig ob
    refine ⟨e, oe, fv, ⟨G', g, dr, tk', os⟩, _, .ref C, some d, rfl, J, fun b o q => ?_, ge, hoe, ⟨hc, hd, fun vs ev => ctx oe vs hoe ev⟩, hdat, h1, ?_, rfl, I1.bare, raises_own T.exC T.tyC, q1 d (I1.hok.fresh M.dbig)⟩
    · by_cases hb : b = e
      · have q' : G'.get? b = some o := q
        rw [hb, ge] at q'; cases q'
      · exact (gk b hb).symm.trans q
    · rw [upd_ne (Ne.symm M.dne)]
      exact I1.hok.fresh M.new
end
end L2N
namespace L2
open PySem PySem.Spec PyProof.Rows
/-- isinstance(e, c), e the caught exception with a dict of its own -/
def rIsX (K : PySem.W.Frag) (a : Addr) (cls : Value) (d : Option Addr) : List V → Hp → VK → Prop := fun xs H Q => ∃ (D dd : Addr) (fs : List (Str × V)) (c : V) (cv : Value) (b : Bool), cls = .ref D ∧ d = some dd ∧ ExcC K D ∧ xs = [.ref a, c] ∧ (∀ u, RelV c u → u = cv) ∧ PySem.W.kitOne K (.ref D) cv = some b ∧ H dd = some (.xd fs) ∧ Q (.bl b) H
theorem call_isX {X : Cx} {a : Addr} {cls : Value} {d : Option Addr} {oe : Obj} {pn : List (Addr × Obj)} (hz : Zc cls d oe) (hf : ∃ vs, oe.data = .fields vs) : CallR (X.suite a ((a, oe) :: pn)) (.builtin "isinstance") (rIsX X.K a cls d) := by
  intro pins s σ H xs us Q I r h
  obtain ⟨D, dd, fs, c, cv, b, rfl, rfl, C, rfl, hcv, e, ea, q⟩ := h
  cases r with
  | cons rx rr =>
    cases rr with
    | cons rt rr =>
      cases rr
      cases rx
      have ec := hcv _ rt
      subst ec
      obtain ⟨hget, _⟩ := I.pin (a, oe) (List.mem_append.mpr (.inl List.mem_cons_self))
      obtain ⟨vs, hv⟩ := hf
      have hx : ObjOk X.prog X.w H s.heap dd (.xd fs) := I.hok dd _ ea
      obtain ⟨mA, hns, hr⟩ := hx
      obtain ⟨od, ho, hl⟩ := lookIn_ns hns
      have J : PySem.W.InstAt s.heap a oe D (some od) := ⟨hget, hz.1, by unfold PySem.W.notCls; rw [hv] <;> rfl, by rw [hz.2]; exact ho⟩
      have hcl : (PySem.W.clsIn X.K D).isSome = true := by
        obtain ⟨cd, hc, _⟩ := PySem.W.any_some C.hd
        rw [hc]; rfl
      exact PySem.W.kia_one (PySem.W.kitx_exc hcl C.hg C.hk C.hs C.ha C.hn C.ht C.hm) I.kIn J e (fun z => nomatch z) fun tk => ⟨.bl b, H, I.kept (t' := tk) fun _ _ z => z, rfl, q⟩
end L2
namespace L3
open PySem L2
section
variable {X : Cx} {W : WX}
/-! ### raise -/
def raise3 (C : Addr) (f : Str) (ta : TA3) : TS3 := fun D σ G => ta σ G fun ws G1 => ∃ u, ws = [u] ∧ ∀ d, G1 d = none → D.ex (.ref C) (some d) σ (gup G1 d (.xd [(f, u)]))
theorem s_raiseNS {C fI : Addr} {qual : Str} {a : Expr} {ta : TA3} {p pos pos2 : Pos} {k : Nat} (hc : X.calm = true) (T : PySem.LowNS.Txt PySem.LowNS.nsP X.prog X.K X.mg qual "ring" PySem.LowNS.nsE C fI) (gC : X.mg "NeedsSpare" = some (.ref C)) (hr : Room k X.A) (tk : L2N.Takes X W) (ha : PA X [a] (lowA X.K ta)) (hg : Gl X "NeedsSpare" := by rfl)
    (he : starEach (a :: []) X.env = (false, eval a X.env) :: starEach [] X.env := by rfl) (hpl : (backTo pos (starEach [] X.env)).any (·.1) = false := by rfl) :
    PS X (.Raise (some (.Call (.Name "NeedsSpare" p) [a] [] pos)) none pos2) (lowS X.K W (raise3 C "ring" ta)) := (L2N.ps_raise hc tk (L2N.pmk_ns T gC hr ha hg he hpl)).imp fun D σ H h => by
  obtain ⟨σ3, G, D3, hs, hh, ht, hle⟩ := h
  refine ⟨σ3, G, _, hs, hh, ht, fun vs H1 ws G1 k1 hh1 r q1 => ?_⟩
  obtain ⟨u, rfl, q1⟩ := q1
  cases r with
  | cons r1 r2 =>
    cases r2
    rename_i v
    refine ⟨v, rfl, fun d hd => ?_⟩
    have kd : Keep H1 (upd H1 d (.xd [(("ring" : Str), v)])) := Keep.new hd
    exact hle.ex _ _ _ _ _ _ (k1.trans kd) (hs.keep (k1.trans kd)) (hh1.new hd (g := .xd [("ring", u)]) ⟨_, upd_same, .cons ⟨rfl, r1.keep kd⟩ .nil⟩) (q1 d (hh1.free hd))
/-! ### x = f(..), f may raise -/
def setX3 (i : Nat) (sp : Sp3) (t : TA3) : TS3 := fun D σ G => t σ G fun ws G1 => sp ws G1 (fun v G2 => D.nx (σ.set i (some v)) G2) fun c d G2 => D.ex c d σ G2
theorem s_setX {i : Nat} {y : Str} {py : Pos} {k : Nat} {f : Addr} {fd : FuncData} {ps : List Str} {sp : Sp3} {x : Str} {p pos spos : Pos} {e : Expr} {es : List Expr} {t : TA3} (hN : X.N.Nodup) (F : FnOk X.prog X.w X.K X.mg X.base (L2N.CX X.prog X.w) k f fd ps (lowSp X.K sp)) (hr : Room k X.A) (hm : X.mg x = some (.ref f)) (hk : PySem.W.keepIn X.K (.ref f) = true) (hb : Binds X.K fd ps []) (tk : L2N.Takes X W)
    (ha : PA X (e :: es) (lowA X.K t)) (hg : Gl X x := by rfl) (hdb : (x == ("__debug__" : Str)) = false := by decide) (he : starEach (e :: es) X.env = (false, eval e X.env) :: starEach es X.env := by rfl) (hpl : (backTo pos (starEach es X.env)).any (·.1) = false := by rfl)
    (hi : X.N[i]? = some y := by rfl) (hx : Loc X.env.scope y := by first | exact Or.inl rfl | exact Or.inr rfl) (hs : swapsWith (.Call (.Name x p) (e :: es) [] pos) (some (.Name y py)) spos.line X.env = pure false := by rfl) (hf : X.fn y = true ∨ X.env.scope.names.lookup y = some .local := by first | exact .inl rfl | exact .inr rfl) :
    PS X (.Assign [.Name y py] (.Call (.Name x p) (e :: es) [] pos) spos) (lowS X.K W (setX3 i sp t)) :=
  (ps_set hN hi hx (pe_callS F hr hg hm hk hb (fun σ => L2N.passAt tk σ) ha hdb he hpl) hs hf).imp fun D σ H h => by
  obtain ⟨σ3, G, D3, hs, hh, ht, hle⟩ := h
  refine ⟨σ3, G, _, hs, hh, ht, fun vs H1 ws G1 k1 hh1 r q1 => ?_⟩
  exact ⟨ws, G1, _, _, r, hh1, q1, fun v H' w G' k hh' rv q => hle.nx _ _ _ _ (k1.trans k) ((hs.keep (k1.trans k)).set i rv) hh' q, fun c d H' G' k hh' q => hle.ex _ _ _ _ _ _ (k1.trans k) (hs.keep (k1.trans k)) hh' q⟩
/-! ### try: body, except x as n: suite (every exception of the body is the clause's) -/
theorem RepS.setN {K : PySem.W.Frag} {H : Hp} {σ3 : S3} {σ : L2.St} (r : RepS K H σ3 σ) (i : Nat) : RepS K H (σ3.set i none) (σ.set i none) := by
  refine ⟨by rw [List.length_set, List.length_set]; exact r.1, fun j u e => ?_⟩
  by_cases h : i = j
  · subst h
    have hl : i < σ3.length := by
      have := (List.getElem?_eq_some_iff.mp e).1
      rwa [List.length_set] at this
    rw [List.getElem?_set_self hl] at e
    cases e
  · rw [List.getElem?_set_ne h] at e
    obtain ⟨x, h1, h2⟩ := r.2 j u e
    exact ⟨x, by rw [List.getElem?_set_ne h]; exact h1, h2⟩
def try3 (K : PySem.W.Frag) (c : Value) (i : Nat) (tb : TS3) (ts : Addr → Value → Option Addr → TS3) : TS3 := fun D σ G => tb { D with ex := fun cls d σ' G' => PySem.W.exmOne K cls c = some true ∧ ∀ a, G' a = none → ts a cls d { nx := fun σ2 G2 => D.nx (σ2.set i none) G2, rt := D.rt, bk := fun σ2 G2 => D.bk (σ2.set i none) G2, ct := fun σ2 G2 => D.ct (σ2.set i none) G2 } (σ'.set i (some (.ref a))) G' } σ G
theorem s_try {x n : Str} {c : Value} {i : Nat} {body suite : List Stmt} {b₀ : Stmt} {np pos pos' : Pos} {tb : TS3} {ts : Addr → Value → Option Addr → TS3} (hs : X.stack = X.env :: X.outer) (hf : X.env.frame = some X.env.locals) (hN : X.N.Nodup) (hc : Names X x c)
    (hb : ∀ (W : WX) (pn : List (Addr × Obj)) (xe : Value → Shared → Prop), L2N.Takes (X.tr pn xe) W → PassesOwn (model X.prog X.w) X.A X.env xe → PSs (X.tr pn xe) body (lowS X.K W tb))
    (hsu : ∀ (a : Addr) (oe : Obj) (cls : Value) (d : Option Addr) (pn : List (Addr × Obj)), L2N.Zn cls d oe → (∃ vs, oe.data = .fields vs) → PSs (X.suite a ((a, oe) :: pn)) (b₀ :: suite) (lowS X.K W0 (ts a cls d)))
    (hi : X.N[i]? = some n := by rfl) (hln : X.env.kindOf n = some .local := by rfl) :
    PS X (.Try body [.ExceptHandler (some (.Name x np)) (some n) (b₀ :: suite) pos'] [] [] pos) (lowS X.K W (try3 X.K c i tb ts)) :=
  (L2N.ps_try_as (i := i) (tb := fun W => lowS X.K W tb) (ts := fun a cls d => lowS X.K W0 (ts a cls d)) (Wout := fun _ _ _ _ => False) hs hf hN hi hln hc L2N.takes0 hb hsu).imp fun D σ H h => by
  obtain ⟨σ3, G, D3, hs, hh, ht, hle⟩ := h
  refine ⟨σ3, G, _, hs, hh, ht, ⟨hle.nx, hle.rt, hle.bk, hle.ct, fun cls d σ' H' σ3' G' k hs' hh' q => ?_⟩⟩
  obtain ⟨hx, q⟩ := q
  refine ⟨true, hx, fun _ a na => ?_, fun z => by cases z⟩
  refine ⟨σ3'.set i (some (.ref a)), G', _, hs'.set i (.ref a), hh', q a (hh'.free na), ⟨fun σ2 H2 σ32 G2 k2 hs2 hh2 q2 => hle.nx _ _ _ _ (k.trans k2) (hs2.setN i) hh2 q2, hle.rt.from k, fun σ2 H2 σ32 G2 k2 hs2 hh2 q2 => hle.bk _ _ _ _ (k.trans k2) (hs2.setN i) hh2 q2, fun σ2 H2 σ32 G2 k2 hs2 hh2 q2 => hle.ct _ _ _ _ (k.trans k2) (hs2.setN i) hh2 q2, fun _ _ _ _ _ _ _ _ _ z => z.elim⟩⟩
/-! ### of the caught exception -/
def kIsX (K : PySem.W.Frag) (a : Addr) (cls : Value) (d : Option Addr) : C3 := fun ws G Q => ∃ (D dd : Addr) (fs : List (Str × U)) (c : U) (cv : Value) (b : Bool), cls = .ref D ∧ d = some dd ∧ ExcC K D ∧ ws = [.ref a, c] ∧ ((∃ C, c = .ref C ∧ cv = .ref C) ∨ ∃ n, c = .ty n ∧ cv = .type n) ∧ PySem.W.kitOne K (.ref D) cv = some b ∧ G dd = some (.xd fs) ∧ Q (.bl b) G
theorem k_isX {a : Addr} {cls : Value} {d : Option Addr} {oe : Obj} {pn : List (Addr × Obj)} (hz : Zc cls d oe) (hf : ∃ vs, oe.data = .fields vs) : CallR (X.suite a ((a, oe) :: pn)) (.builtin "isinstance") (lowC X.K (kIsX X.K a cls d)) := CallR.imp (call_isX hz hf) fun vs H Q h => by
  obtain ⟨ws, G, Q3, r, hh, ⟨D, dd, fs, c, cv, b, e1, e2, C, e3, ec, ek, eg, q⟩, p⟩ := h
  subst e3
  obtain ⟨us, eh, rk⟩ := hh _ _ eg
  cases r with
  | cons r1 r2 =>
    cases r1
    cases r2 with
    | cons r3 r4 =>
      cases r4
      refine ⟨D, dd, us, _, cv, b, e1, e2, C, rfl, ?_, ek, eh, p.here hh (.bl b) q⟩
      rcases ec with ⟨C', rfl, rfl⟩ | ⟨n, rfl, rfl⟩
      · cases r3; exact fun u hu => hu
      · cases r3; exact fun u hu => hu
def xf3 (a : Addr) (cls : Value) (d : Option Addr) (C : Addr) (f : Str) (te : TE3) : TE3 := fun σ G Q => te σ G fun x G1 => x = .ref a ∧ cls = .ref C ∧ ∃ dd w, d = some dd ∧ G1 dd = some (.xd [(f, w)]) ∧ Q w G1
theorem e3xf {a C : Addr} {oe : Obj} {cls : Value} {d : Option Addr} {pn : List (Addr × Obj)} {e : Expr} {te : TE3} {pos : Pos} {n : Str} (T : XfC X.K C) (hno : PySem.W.findIn X.K (.ref C) n = some none) (hz : Zc cls d oe) (hf : ∃ vs, oe.data = .fields vs) (he : PE (X.suite a ((a, oe) :: pn)) e (lowE X.K te)) (hb : attributeBase e n X.env (eval e X.env) = eval e X.env := by rfl) :
    PE (X.suite a ((a, oe) :: pn)) (.Attribute e n pos) (lowE X.K (xf3 a cls d C n te)) := (pe_xf T hno hz hf he hb).imp fun σ H Q h => by
  obtain ⟨σ3, G, Q3, hs, hh, ht, hq⟩ := h
  refine ⟨σ3, G, _, hs, hh, ht, fun x H1 w G1 k1 hh1 r q1 => ?_⟩
  obtain ⟨rfl, e1, dd, w, e2, eg, q⟩ := q1
  cases r
  obtain ⟨us, eh, rk⟩ := hh1 _ _ eg
  cases rk with
  | cons r1 r2 =>
    cases r2
    rename_i p
    obtain ⟨f', v⟩ := p
    obtain ⟨e3, rv⟩ := r1
    dsimp only at e3 rv
    subst e3
    exact ⟨rfl, e1, dd, _, v, e2, eh, by simp [List.lookup], hq _ _ _ _ k1 hh1 rv q⟩
/-! ### where an exception is handled -/
theorem _root_.L2H.PIH.imp {tg iter : Expr} {w w' : TI} (h : L2H.PIH X tg iter w) (i : ∀ σ H R, w' σ H R → w σ H R) : L2H.PIH X tg iter w' := ⟨fun pins s σ H R I q => h.run pins s σ H R I (i σ H R q)⟩
theorem i_range1H {tg a : Expr} {ta : TE3} {p pos : Pos} (hm : X.mg "range" = none) (ha : PE X a (lowE X.K ta)) (hg : Gl X "range" := by rfl) (hs : starEach [a] X.env = [(false, eval a X.env)] := by rfl) (hs2 : starEach [a] X.env = (false, eval a X.env) :: starEach [] X.env := by rfl) : L2H.PIH X tg (.Call (.Name "range" p) [a] [] pos) (lowI X.K (ir1 ta)) :=
  (L2H.pi_range1H hg hm (pa_cons ha pa_nil hs2) hs).imp fun σ H R h => by
  obtain ⟨σ3, G, Q3, hs, hh, ht, hq⟩ := h
  refine ⟨σ3, G, _, hs, hh, ht, fun v H1 w G1 k1 hh1 r q1 => ?_⟩
  split at q1
  · cases r
    obtain ⟨hd, q⟩ := q1
    have hd := of_decide_eq_true hd
    exact ⟨_, rfl, by omega, by omega, hq _ _ _ _ k1 hh1 (rg_low _ _) q⟩
  · exact q1.elim
theorem k_allH (hc : L2H.HotC X) : CallR X (.builtin "all") (lowC X.K kAll) := CallR.imp (L2H.cr_allH hc) fun vs H Q h => by
  obtain ⟨ws, G, Q3, r, hh, q, p⟩ := h
  unfold kAll at q
  split at q
  · obtain ⟨ns, hg, q⟩ := q
    obtain ⟨us, eh, rl⟩ := hh _ _ hg
    cases r with
    | cons r1 r2 =>
      cases r1
      cases r2
      rw [RepL.of_bls rl] at eh
      exact ⟨_, ns, rfl, SqL.of eh, p.here hh (.bl _) q⟩
  · exact q.elim
theorem e3lcH {elt tg iter : Expr} {ifs : List Expr} {scope : Scope} {own : List (Str × Nat)} {wi : TI3} {g : TG} {g3 : TG3} {tt : TT3} {te : TE3} {pos : Pos} (hc : L2H.HotC X) (hN : X.N.Nodup) (hi : L2H.PIH X tg iter (lowI X.K wi)) (ok : BlkOk X.N X.env.scope scope own) (hl : GLow X.K (some (own.map (·.2))) g g3)
    (hg : ∀ (s : Shared) (H : Hp) (C : Addr) (cl : List (Str × Addr)) (fp : List Addr), PG (X.blkH s H scope (compEnvC scope cl C X.env) fp) tg g) (ht : ∀ (s : Shared) (H : Hp) (C : Addr) (cl : List (Str × Addr)) (fp : List Addr), PTs (X.blkH s H scope (compEnvC scope cl C X.env) fp) ifs (lowT X.K tt))
    (he : ∀ (s : Shared) (H : Hp) (C : Addr) (cl : List (Str × Addr)) (fp : List Addr), PE (X.blkH s H scope (compEnvC scope cl C X.env) fp) elt (lowE X.K te)) (hs : ∀ x, foldedSetIterable iter X.env x = pure x := by intro _; rfl) :
    PE X (.ListComp elt [⟨tg, iter, ifs, 0⟩] scope pos) (lowE X.K (lc3 wi g3 tt te (own.map (·.2)))) := (L2H.pe_lcH hc hN hi ok hg ht he hs).imp (lc3_low hl)
theorem e3callH {k : Nat} {f : Addr} {fd : FuncData} {ps : List Str} {sp : Sp3} {x : Str} {p pos : Pos} {e : Expr} {es : List Expr} {t : TA3} (F : L2H.FnH X.prog X.w X.K X.mg X.base CX0 k f fd ps (lowSp X.K sp)) (hr : L2H.RoomH k X.A) (hc : L2H.HotC X) (hm : X.mg x = some (.ref f)) (hk : PySem.W.keepIn X.K (.ref f) = true) (hb : Binds X.K fd ps [])
    (ha : PA X (e :: es) (lowA X.K t)) (hg : Gl X x := by rfl) (hdb : (x == ("__debug__" : Str)) = false := by decide) (he : starEach (e :: es) X.env = (false, eval e X.env) :: starEach es X.env := by rfl) (hpl : (backTo pos (starEach es X.env)).any (·.1) = false := by rfl) :
    PE X (.Call (.Name x p) (e :: es) [] pos) (lowE X.K (call3 sp t)) := (L2H.pe_callH (E := fun _ => E0) F hr hc hg hm hk hb (fun σ _ _ _ _ _ _ h => h.elim) ha hdb he hpl).imp fun σ H Q h => by
  obtain ⟨σ3, G, Q3, hs, hh, ht, hq⟩ := h
  refine ⟨σ3, G, _, hs, hh, ht, fun vs H1 ws G1 k1 hh1 r q1 => ?_⟩
  exact ⟨ws, G1, Q3, no3, r, hh1, q1, hq.from k1, fun c d H' G' _ _ z => z.elim⟩
end
section
variable {P : Program} {w : World} {K : PySem.W.Frag} {mg : Str → Option Value} {base : Heap}
/-- a def that may raise -/
theorem Fun_okX3 {x qual : Str} {st : Stmt} {f : Addr} {fd : FuncData} {N ps : List Str} {k : Nat} {sp : Sp3} (F : Fun K x qual st f fd) (S : FnScope N ps (defScope st)) (len : ∀ ws G Q E, sp ws G Q E → ws.length = ps.length)
    (hbody : ∀ (cdv : Value) (A : Around) (outer : List Env) (s : Shared) (H : Hp) (E : XK) (ws : List U) (G : G3) (Q : K3) (E3 : X3), Room k (A.deeper (PyProof.Rows.envOfC qual (defScope st) s.heap.objs.size f cdv)) → sp ws G Q E3 →
      ∃ t, PSs (cxOf (L2N.CX P w) P w K mg base N qual (defScope st) f cdv A outer s H E) (defBody st) (lowS K (fun cls d _ H => E cls d H) t) ∧ t { nx := fun _ G' => Wk Q .non G', rt := Wk Q, ex := fun c d _ G' => Wk1 (E3 c d) G' } (start3 N ws) G) : FnOk P w K mg base (L2N.CX P w) (k + 1) f fd ps (lowSp K sp) := by
  obtain ⟨oc, od, kV, doc, pm, an, cdv, ct, osl, rfl, lk, hcd⟩ := F.ex
  refine fn_of lk hcd S (fun vs H Q E h => ?_) fun A outer s H vs Q E hr h => ?_
  · obtain ⟨ws, G, Q3, E3, r, _, h, _⟩ := h
    rw [← r.length]
    exact len _ _ _ _ h
  · obtain ⟨ws, G, Q3, E3, r, hh, h, hq, hE⟩ := h
    obtain ⟨t, ht, q⟩ := hbody cdv A outer s H E ws G Q3 E3 hr h
    refine ⟨_, ht, start3 N ws, G, _, rep_start r, hh, q, ⟨fun σ' H' σ3' G' k1 hs' hh' ⟨G0, z, q'⟩ => hq _ _ _ _ k1 (hh'.less z) .non q', fun v H' w G' k hh' rv ⟨G0, z, q'⟩ => hq _ _ _ _ k (hh'.less z) rv q', fun _ _ _ _ _ _ _ z => z.elim, fun _ _ _ _ _ _ _ z => z.elim, fun c d σ' H' σ3' G' k1 _ hh' ⟨G0, z, q'⟩ => hE _ _ _ _ k1 (hh'.less z) q'⟩⟩
/-- a def that is called where an exception is handled -/
theorem Fun_okH3 {x qual : Str} {st : Stmt} {f : Addr} {fd : FuncData} {N ps : List Str} {k : Nat} {sp : Sp3} (F : Fun K x qual st f fd) (S : FnScope N ps (defScope st)) (len : ∀ ws G Q E, sp ws G Q E → ws.length = ps.length)
    (hbody : ∀ (cdv : Value) (A : Around) (outer : List Env) (s : Shared) (H : Hp) (E : XK) (p : Addr × Obj) (ws : List U) (G : G3) (Q : K3) (E3 : X3), L2H.Hot1 A p → L2H.RoomH k (A.deeper (PyProof.Rows.envOfC qual (defScope st) s.heap.objs.size f cdv)) → sp ws G Q E3 →
      ∃ t, PSs (L2H.cxH CX0 P w K mg base N qual (defScope st) f cdv A outer s H E p) (defBody st) (lowS K W0 t) ∧ t { nx := fun _ G' => Wk Q .non G', rt := Wk Q } (start3 N ws) G) : L2H.FnH P w K mg base CX0 (k + 1) f fd ps (lowSp K sp) := by
  obtain ⟨oc, od, kV, doc, pm, an, cdv, ct, osl, rfl, lk, hcd⟩ := F.ex
  refine L2H.fn_ofH lk hcd S (fun vs H Q E h => ?_) fun A outer s H vs Q E p hot hr h => ?_
  · obtain ⟨ws, G, Q3, E3, r, _, h, _⟩ := h
    rw [← r.length]
    exact len _ _ _ _ h
  · obtain ⟨ws, G, Q3, E3, r, hh, h, hq, _⟩ := h
    obtain ⟨t, ht, q⟩ := hbody cdv A outer s H E p ws G Q3 E3 hot hr h
    refine ⟨_, ht, start3 N ws, G, _, rep_start r, hh, q, ⟨fun σ' H' σ3' G' k1 hs' hh' ⟨G0, z, q'⟩ => hq _ _ _ _ k1 (hh'.less z) .non q', fun v H' w G' k hh' rv ⟨G0, z, q'⟩ => hq _ _ _ _ k (hh'.less z) rv q', fun _ _ _ _ _ _ _ z => z.elim, fun _ _ _ _ _ _ _ z => z.elim, fun _ _ _ _ _ _ _ _ _ z => z.elim⟩⟩
end
end L3
end
section
set_option Elab.async false
set_option linter.all false
set_option maxRecDepth 100000
set_option maxHeartbeats 2000000
/-! a dict display with one pair whose key is a tuple; tuple + tuple; xs.index(y); tuple(range(n)) -/
namespace L2
open PySem PySem.Spec PyProof.Rows
def tDisp1T (tk tv : TE) : TE := fun σ H Q => ∀ p, H p = none → tk σ (upd H p (.dT [])) fun x H1 => tv σ H1 fun y H2 => H2 p = some (.dT []) ∧ ∃ (k : List Key) (b : Addr), x = .ref b ∧ H2 b = some (.tup (k.map kV)) ∧ Q (.ref p) (upd H2 p (.dT (putK [] k y)))
theorem pe_disp1T {X : Cx} {pos : Pos} {k v : Expr} {tk tv : TE} (hu : X.A.units + 1 < cLine) (hk : PE X k tk) (hv : PE X v tv) : PE X (.Dict [some k] [v] pos) (tDisp1T tk tv) := by
  refine ⟨fun pins s σ H Q I q => ?_⟩
  have hn := I.hok.fresh (Nat.le_refl s.heap.objs.size)
  have I1 := I.laid (a := s.heap.objs.size) (o := .dT []) (h' := s.heap.push { cls := .type "dict", data := .dict #[] }) (t' := s.toks) (fun _ _ q => Heap.get?_push_of_some _ q) (Nat.le_refl _) (dt_empty s.heap I.big)
  have P1 : PPs X pos [some k] [v] [(tk, tv)] := pps_cons hk hv pps_nil
  refine wpAny_Dict_any rfl rfl (by intro h; cases h) (show 1 ≤ 15 by decide) (thn (P1.run pins _ σ _ (fun ps H2 => match ps with
    | [(x, y)] => H2 s.heap.objs.size = some (.dT []) ∧ ∃ (k : List Key) (b : Addr), x = .ref b ∧ H2 b = some (.tup (k.map kV)) ∧ Q (.ref s.heap.objs.size) (upd H2 s.heap.objs.size (.dT (putK [] k y)))
    | _ => False) I1 (q _ hn)) fun ws s2 hh => ?_)
  obtain ⟨ps, H2, I2, rel, h2⟩ := hh
  split at h2
  · rename_i x y
    obtain ⟨e, kk, b, ex, eb, q2⟩ := h2
    subst ex
    cases rel with
    | cons r1 r2 =>
      cases r2
      rename_i p
      obtain ⟨u, r⟩ := p
      unfold storeAll
      rw [List.forIn_cons]
      exact wpAny_bind (wpAny_bind (d_dictSetT hu I2 e eb (by decide) r1.1 r1.2 fun s3 I3 => wpAny_pure (wpAny_pure ⟨.ref s.heap.objs.size, _, I3, rfl, q2⟩)))
  · exact h2.elim
end L2
namespace L3
open PySem L2
section
variable {X : Cx} {a b c e : Expr} {pos : Pos} {ta tb tc te : TE3} {tA tB' : TT3}
def disp13 (tk tv : TE3) : TE3 := fun σ G Q => ∀ p, G p = none → tk σ (gup G p (.dT [])) fun x G1 => tv σ G1 fun y G2 => G2 p = some (.dT []) ∧ ∃ k, tkey x = some k ∧ Q (.ref p) (gup G2 p (.dT [(k, y)]))
theorem e3disp1 {k v : Expr} {tk tv : TE3} (hu : X.A.units + 1 < cLine) (hk : PE X k (lowE X.K tk)) (hv : PE X v (lowE X.K tv)) : PE X (.Dict [some k] [v] pos) (lowE X.K (disp13 tk tv)) := (pe_disp1T hu hk hv).imp fun σ H Q h => by
  obtain ⟨σ3, G, Q3, hs, hh, ht, hq⟩ := h
  intro p hp
  have kp : Keep H (upd H p (.dT [])) := Keep.new hp
  refine ⟨σ3, _, _, hs.keep kp, hh.new hp (g := .dT []) ⟨[], upd_same, .nil⟩, ht p (hh.free hp), fun x H1 w1 G1 k1 hh1 r1 q1 => ?_⟩
  refine ⟨σ3, G1, _, hs.keep (kp.trans k1), hh1, q1, fun y H2 w2 G2 k2 hh2 r2 q2 => ?_⟩
  obtain ⟨hg, kk, hkk, q2⟩ := q2
  obtain ⟨vs, q, e3, e4, e5, hl, k3, hh3⟩ := dput_low hh2 (r1.keep k2) r2 hkk hg (by decide)
  obtain ⟨vs2, e6, rk⟩ := hh2 _ _ hg
  cases rk
  rw [e6] at e5
  cases e5
  exact ⟨e6, kk, q, e3, e4, hq _ _ _ _ ((kp.trans (k1.trans k2)).trans k3) hh3 (.ref _) q2⟩
/-- t + u of tuples -/
def rCatA3 : R3 := fun x y G Q => match x, y with
  | .tup xs, .tup ys => decide (xs.length + ys.length ≤ 100000) = true ∧ Q (.tup (xs ++ ys)) G
  | _, _ => False
theorem o_catA : OpR X (binaryOp .Add) (lowR X.K rCatA3) := OpR.imp op_catA fun x y H Q q => by
  obtain ⟨a, b, G, Q3, ra, rb, hh, q, p⟩ := q
  unfold rCatA3 at q
  split at q
  · obtain ⟨hz, q⟩ := q
    cases id ra with
    | tup h1 r1 =>
      cases id rb with
      | tup h2 r2 =>
        refine ⟨_, _, _, _, rfl, rfl, SqT.of h1, SqT.of h2, by rw [← r1.length, ← r2.length]; exact sz hz, fun e => ?_, fun e e2 => ?_, fun e e2 l hl => ?_⟩
        · subst e
          cases r1
          exact p.here hh rb q
        · subst e2
          cases r2
          rw [List.append_nil] at q
          exact p.here hh ra q
        · exact p _ _ _ _ (Keep.new hl) (hh.skip hl) (.tup upd_same ((r1.append r2).keep (Keep.new hl))) q
  · exact q.elim
/-- xs.index(y) -/
def mIndex (l : Addr) : List U → G3 → K3 → Prop := fun ws G Q => match ws with
  | [y] => ∃ xs j z, G l = some (.lst xs) ∧ dat (.lit xs) = true ∧ dat y = true ∧ xs[j]? = some z ∧ eq3 z y = true ∧ (∀ (m : Nat) z', m < j → xs[m]? = some z' → eq3 z' y = false) ∧ Q (.int (j : Nat)) G
  | _ => False
theorem pdL_get {xs : List U} {j : Nat} : (pdL xs)[j]? = (xs[j]?).map pd := by rw [pdL_map, List.getElem?_map]
theorem m_index (hu : X.A.units + 65 < cLine) : MtR X "list.index" (lowM X.K mIndex) := MtR.imp (mt_indexD hu) fun x vs H Q h => by
  obtain ⟨l, ws, G, Q3, rfl, r, hh, q, p⟩ := h
  unfold mIndex at q
  split at q
  · obtain ⟨v, rfl, r0⟩ := r.one
    obtain ⟨xs, j, z, hg, d1, d2, hz, he, hm, q⟩ := q
    unfold dat at d1 d2
    rw [Bool.and_eq_true] at d1 d2
    refine ⟨l, v, _, pdL xs, j, pd z, rfl, rfl, list_dp hh hg d1.1, r0.dp d2.1, d1.2, d2.2, by rw [pdL_get, hz]; rfl, he, fun m z' hmj hz' => ?_, p.here hh (.int _) q⟩
    rw [pdL_get] at hz'
    cases e : xs[m]? with
    | none => rw [e] at hz'; cases hz'
    | some z2 => rw [e] at hz'; cases hz'; exact hm m z2 hmj e
  · exact q.elim
/-- tuple(range(n)) -/
def tupRg3 (ta : TE3) : TE3 := fun σ G Q => ta σ G fun x G1 => match x with
  | .int n => decide (0 ≤ n ∧ n ≤ 100000) = true ∧ Q (.tup ((List.range n.toNat).map fun i => U.int (i : Nat))) G1
  | _ => False
theorem e3tupRg {p p2 pos2 : Pos} (hc : X.calm = true) (hm : X.mg "tuple" = none) (hm2 : X.mg "range" = none) (ha : PE X a (lowE X.K ta)) (hg : Gl X "tuple" := by rfl) (hg2 : Gl X "range" := by rfl) (na : starEach [a] X.env = (false, eval a X.env) :: starEach [] X.env := by rfl)
    (nb : starEach [.Call (.Name "range" p2) [a] [] pos2] X.env = (false, eval (.Call (.Name "range" p2) [a] [] pos2) X.env) :: starEach [] X.env := by rfl) : PE X (.Call (.Name "tuple" p) [.Call (.Name "range" p2) [a] [] pos2] [] pos) (lowE X.K (tupRg3 ta)) :=
  (pe_tupRg hc hg hm (prg_1 hg2 hm2 ha na) nb).imp fun σ H Q h => by
  obtain ⟨σ3, G, Q3, hs, hh, ht, hq⟩ := h
  refine ⟨σ3, G, _, hs, hh, ht, fun x H1 w G1 k1 hh1 r q1 => ?_⟩
  split at q1
  · cases r
    rename_i n
    have hd := of_decide_eq_true q1.1
    refine ⟨n, rfl, RgOk.of_le (Int.le_refl 0) (by omega) (by omega) hd.1, fun q hq2 => hq _ _ _ _ (k1.trans (Keep.new hq2)) (hh1.skip hq2) (.tup upd_same ?_) q1.2⟩
    unfold rgV
    have e0 : (n - 0).toNat = n.toNat := by rw [Int.sub_zero]
    rw [e0]
    have e1 : (fun i : Nat => V.int (0 + (i : Nat))) = fun i : Nat => V.int ((i : Nat) : Int) := by funext i; rw [Int.zero_add]
    rw [e1]
    exact repL_rg (fun i => ((i : Nat) : Int)) _
  · exact q1.elim
end
end L3
end
section
set_option Elab.async false
set_option linter.all false
set_option maxRecDepth 100000
set_option maxHeartbeats 4000000
/-! own classes: made (also where __init__ raises), fields, methods, static methods; expressions that may raise -/
namespace L2N
open PySem PySem.Spec PyProof.Rows L2
theorem passN {P : Program} {w : World} {X : L2.Cx} : L2.Passes (L2N.CX P w) X E0 := fun _ _ _ _ _ _ _ h => by
  obtain ⟨_, _, _, _, _, _, _, _, _, _, _, _, hE⟩ := h
  exact hE.elim
end L2N
namespace L2
open PySem PySem.Spec PyProof.Rows
section
variable {X : Cx} {CX : CXT} {k : Nat} {f C : Addr} {fd : FuncData} {ps : List Str} {sp : Sp} {E : St → XK} {x m : Str} {p pos apos : Pos} {e o : Expr} {es : List Expr} {t : TA} {ta : TE}
/-- C(e, ..), what __init__ raises wished for at the caller's slots -/
def tMakeS (C : Addr) (sp : Sp) (E : St → XK) (t : TA) : TE := fun σ H Q => t σ H fun vs H1 => ∀ x dx, H1 x = none → H1 dx = none → dx ≠ x → sp (.ref x :: vs) (upd (upd H1 dx (.own x)) x (.ins C dx [])) (fun v H2 => v = .non ∧ Q (.ref x) H2) (E σ)
theorem run_makeS {pins : List (Addr × Obj)} {σ : St} {H : Hp} {s : Shared} {Q : VK} {us : List Value} {vs : List V} (M : Mk X.K C f) (F : FnOk X.prog X.w X.K X.mg X.base CX k f fd ps sp) (hr : Room (k + 1) X.A) (hb : Binds X.K fd ps [])
    (hx : PassesAt CX X σ (E σ)) (I : Inv X pins σ H s) (r : Vals vs us)
    (h : ∀ x dx, H x = none → H dx = none → dx ≠ x → sp (.ref x :: vs) (upd (upd H dx (.own x)) x (.ins C dx [])) (fun v H2 => v = .non ∧ Q (.ref x) H2) (E σ)) :
    wpAny (model X.prog X.w) X.A (call (.ref C) us) (EP X pins σ Q) X.xe s := by
  have hq := h (s.heap.objs.size + 1) s.heap.objs.size (I.hok.fresh (Nat.le_succ _)) (I.hok.fresh (Nat.le_refl _)) (Nat.ne_of_lt (Nat.lt_succ_self _))
  have I2 := Inv.made (C := C) I
  have r2 : Vals (V.ref (s.heap.objs.size + 1) :: vs) (Value.ref (s.heap.objs.size + 1) :: us) := .cons rfl r
  have hl : (Value.ref (s.heap.objs.size + 1) :: us ++ []).length = ps.length := by
    have e := r2.length
    rw [F.len _ _ _ _ hq] at e
    rw [List.append_nil]
    exact e.symm
  have hb2 := hb { s with heap := (s.heap.push PySem.W.emptyDict).push (PySem.W.instObj C s.heap.objs.size) } (Value.ref (s.heap.objs.size + 1) :: us) I2.kIn hl
  rw [List.append_nil] at hb2
  refine wpAny_call (make_map (f := f) I.kIn M.makes M.init (beq_iff_eq.mp M.fn) (codeAny_mono (F.run _ X.stack _ _ ⟨Value.ref (s.heap.objs.size + 1) :: us, []⟩ (Value.ref (s.heap.objs.size + 1) :: us) _ _ (E σ) (hr.make C us [])
    (I2.env0.make C us []) hb2 r2 hq) fun r s' hq' => ?_))
  cases r with
  | error e => exact hx pins _ _ e s' I2 hq'
  | ok fl =>
    cases fl with
    | ret u =>
      obtain ⟨v, H', I3, rv, ev, q3⟩ := I2.after hq'
      subst ev
      exact ⟨rv, ⟨V.ref (s.heap.objs.size + 1), H', I3, rfl, q3⟩⟩
    | next => exact False.elim hq'
    | brk => exact False.elim hq'
    | cont => exact False.elim hq'
theorem pe_makeS (M : Mk X.K C f) (F : FnOk X.prog X.w X.K X.mg X.base CX k f fd ps sp) (hr : Room (k + 1) X.A) (hg : Gl X x) (hm : X.mg x = some (.ref C)) (hb : Binds X.K fd ps []) (hx : ∀ σ, PassesAt CX X σ (E σ))
    (ha : PA X (e :: es) t) (hdb : (x == ("__debug__" : Str)) = false := by decide) (he : starEach (e :: es) X.env = (false, eval e X.env) :: starEach es X.env := by rfl) (hpl : (backTo pos (starEach es X.env)).any (·.1) = false := by rfl) :
    PE X (.Call (.Name x p) (e :: es) [] pos) (tMakeS C sp E t) := by
  refine ⟨fun pins s σ H Q I h => ?_⟩
  refine wpAny_Call_Name_kw (ld_glob I hg hm ?_ hdb)
  refine PySem.W.callWith_K (h₀ := X.base) I.ok.mod.kin M.kp (thn (ha.run pos pins s σ H _ I h) fun us s1 ⟨vs, H1, I1, r, q⟩ => ⟨I1.kIn, ?_⟩) he hpl
  exact run_makeS M F hr hb (hx σ) I1 r q
/-- C.m is a static method: its record at p, its def at g -/
structure SMet (K : PySem.W.Frag) (C : Addr) (mc : Value) (m : Str) (p g : Addr) : Prop where
  at_ : PySem.W.findCls K (.ref C) mc m = some (.get (.builtin "staticmethod.__get__") (.ref p) .none (.ref C))
  rc : ∃ rest, PySem.W.recIn K p "staticmethod" = some (.ref g :: rest)
  kp : PySem.W.keepIn K (.ref g) = true
/-- C.m(e, ..) -/
def tSMeth (C : Addr) (sp : Sp) (dvs : List V) (E : St → XK) (ta : TE) (t : TA) : TE := fun σ H Q => ta σ H fun x H1 => x = .ref C ∧ t σ H1 fun vs H2 => sp (vs ++ dvs) H2 Q (E σ)
theorem pe_smeth {g pp : Addr} {mc : Value} {pl : Sem Bool} {dvs : List V} {ds : List Value} (he : PE X o ta) (r : ClX.CRead X.K C mc) (c : SMet X.K C mc m pp g) (F : FnOk X.prog X.w X.K X.mg X.base CX k g fd ps sp) (hr : Room k X.A) (hb : Binds X.K fd ps ds) (hd : Vals dvs ds) (hx : ∀ σ, PassesAt CX X σ (E σ)) (ha : PA X (e :: es) t)
    (hst : starEach (e :: es) X.env = (false, eval e X.env) :: starEach es X.env := by rfl) (hpl : (backTo pos (starEach es X.env)).any (·.1) = false := by rfl)
    (ht : eval (.Call (.Attribute o m apos) (e :: es) [] pos) X.env = (do
      let ov ← eval o X.env
      standAt apos.atName
      let (f, first) ← holding [ov] (getMethod ov m pl)
      callWith pos f first (backTo pos (starEach (e :: es) X.env)) (backToKw pos (keywordEach [] X.env))) := by rfl) :
    PE X (.Call (.Attribute o m apos) (e :: es) [] pos) (tSMeth C sp dvs E ta t) := by
  refine ⟨fun pins s σ H Q I h => ?_⟩
  refine PySem.W.methodCall_KW (pl := pl) (thn (he.run pins s σ H _ I h) fun u s1 ⟨x, H1, I1, rx, ex, q⟩ => ?_) ht
  subst ex
  obtain rfl : u = Value.ref C := rx
  obtain ⟨rest, hp⟩ := c.rc
  refine PySem.W.method_cls I1.kIn r.ga (PySem.W.cls_bind I1.kIn r.rd c.at_ (wpAny_call (PySem.W.sm_get (s := { s1 with toks := s1.toks + 1 }) I1.kIn hp (PySem.W.handed_on rfl ?_))))
  have I2 : Inv X pins σ H1 { s1 with toks := s1.toks + 1 } := I1.tok _
  refine PySem.W.callWith_K (h₀ := X.base) I2.ok.mod.kin c.kp (thn (ha.run pos pins _ σ H1 _ I2 q) fun us s3 ⟨vs, H2, I3, rv, q2⟩ => ⟨I3.kIn, ?_⟩) hst hpl
  exact run_fnSD F hr hb hd (hx σ) I3 rv q2
end
end L2
namespace L3
open PySem L2
/-! ### fields -/
def putU (f : Str) (y : U) : List (Str × U) → List (Str × U)
  | [] => [(f, y)]
  | (g, x) :: r => if g = f then (g, y) :: r else (g, x) :: putU f y r
theorem RepK.lookS {K : PySem.W.Frag} {H : Hp} {f : Str} : ∀ {us : List (Str × U)} {vs : List (Str × V)}, RepK K H us vs → (us.lookup f = none ∧ vs.lookup f = none) ∨ ∃ w v, us.lookup f = some w ∧ vs.lookup f = some v ∧ Rep K H w v
  | _, _, .nil => .inl ⟨rfl, rfl⟩
  | _, _, .cons (a := a) (b := b) r t => by
    obtain ⟨g, w⟩ := a
    obtain ⟨g', v⟩ := b
    obtain ⟨e, rv⟩ := r
    dsimp only at e rv
    subst e
    by_cases h : f = g
    · subst h
      exact .inr ⟨w, v, by simp [List.lookup], by simp [List.lookup], rv⟩
    · have hb : (f == g) = false := by simpa using h
      have := RepK.lookS (f := f) t
      simpa [List.lookup, hb] using this
theorem RepK.putS {K : PySem.W.Frag} {H : Hp} {f : Str} {w : U} {v : V} (q : Rep K H w v) : ∀ {us : List (Str × U)} {vs : List (Str × V)}, RepK K H us vs → RepK K H (putU f w us) (putF f v vs)
  | _, _, .nil => .cons ⟨rfl, q⟩ .nil
  | _, _, .cons (a := a) (b := b) r t => by
    obtain ⟨g, w'⟩ := a
    obtain ⟨g', v'⟩ := b
    obtain ⟨e, rv⟩ := r
    dsimp only at e rv
    subst e
    unfold putU putF
    by_cases h : g = f
    · rw [if_pos h, if_pos h]; exact .cons ⟨rfl, q⟩ t
    · rw [if_neg h, if_neg h]; exact .cons ⟨rfl, rv⟩ (RepK.putS q t)
section
variable {X : Cx} {W : WX} {a b c e o : Expr} {pos apos : Pos} {ta tb te to : TE3} {tA : TT3}
def fld3 (C0 : Addr) (f : Str) (te : TE3) : TE3 := fun σ G Q => te σ G fun x G1 => match x with
  | .ref a => ∃ dx fs w, G1 a = some (.ins C0 dx fs) ∧ fs.lookup f = some w ∧ Q w G1
  | _ => False
theorem e3fld {f : Str} {C0 : Addr} (c : Cls X.K C0) (n : NoAttr X.K C0 f) (he : PE X e (lowE X.K te)) (hb : attributeBase e f X.env (eval e X.env) = eval e X.env := by rfl) : PE X (.Attribute e f pos) (lowE X.K (fld3 C0 f te)) := (pe_fld he hb).imp fun σ H Q h => by
  obtain ⟨σ3, G, Q3, hs, hh, ht, hq⟩ := h
  refine ⟨σ3, G, _, hs, hh, ht, fun x H1 w G1 k1 hh1 r q1 => ?_⟩
  split at q1
  · cases r
    obtain ⟨dx, fs, u, hg, hl, q⟩ := q1
    obtain ⟨vs, e1, rk⟩ := hh1 _ _ hg
    rcases RepK.lookS (f := f) rk with ⟨z, _⟩ | ⟨w', v, z1, z2, rv⟩
    · rw [hl] at z; cases z
    · rw [hl] at z1
      cases z1
      exact ⟨_, C0, dx, vs, v, rfl, e1, c, n, z2, hq _ _ _ _ k1 hh1 rv q⟩
  · exact q1.elim
/-- o.f = e -/
def setF3 (C0 : Addr) (f : Str) (to tv : TE3) : TS3 := fun D σ G => tv σ G fun v G1 => to σ G1 fun x G2 => match x with
  | .ref a => ∃ dx fs, G2 a = some (.ins C0 dx fs) ∧ fs.length < 1000 ∧ D.nx σ (gup G2 a (.ins C0 dx (putU f v fs)))
  | _ => False
theorem s_fld {f : Str} {pos' : Pos} {C0 : Addr} (c : Cls X.K C0) (n : NoAttr X.K C0 f) (ho : PE X o (lowE X.K to)) (hv : PE X e (lowE X.K te)) (hs : swapsWith e (some (.Attribute o f pos')) pos.line X.env = pure false := by rfl) :
    PS X (.Assign [.Attribute o f pos'] e pos) (lowS X.K W (setF3 C0 f to te)) := (ps_fld ho hv hs).imp fun D σ H h => by
  obtain ⟨σ3, G, D3, hs, hh, ht, hle⟩ := h
  refine ⟨σ3, G, _, hs, hh, ht, fun v H1 w G1 k1 hh1 r q1 => ?_⟩
  refine ⟨σ3, G1, _, hs.keep k1, hh1, q1, fun x H2 w2 G2 k2 hh2 r2 q2 => ?_⟩
  split at q2
  · cases r2
    obtain ⟨dx, fs, hg, hl, q⟩ := q2
    obtain ⟨vs, e1, rk⟩ := hh2 _ _ hg
    have k3 : Keep H2 (upd H2 _ (.ins C0 dx (putF f v vs))) := Keep.mut e1 trivial
    refine ⟨_, C0, dx, vs, rfl, e1, c, n, by rw [← RepK.length rk]; exact hl, hle.nx _ _ _ _ ((k1.trans k2).trans k3) (hs.keep ((k1.trans k2).trans k3)) (hh2.mut e1 trivial (g := .ins C0 dx (putU f w fs)) ⟨_, upd_same, RepK.keep k3 (RepK.putS (r.keep k2) rk)⟩) q⟩
  · exact q2.elim
/-- o.m() of an own method -/
def meth3 (C0 : Addr) (m : Str) (sp : Sp3) (to : TE3) : TE3 := fun σ G Q => to σ G fun x G1 => match x with
  | .ref a => ∃ dx fs, G1 a = some (.ins C0 dx fs) ∧ fs.lookup m = none ∧ sp [x] G1 Q no3
  | _ => False
theorem e3meth0 {f C0 : Addr} {fd : FuncData} {ps : List Str} {sp : Sp3} {m : Str} {k : Nat} {CX : CXT} {pl : Sem Bool} (c : Cls X.K C0) (hm : Meth X.K C0 m f) (F : FnOk X.prog X.w X.K X.mg X.base CX k f fd ps (lowSp X.K sp)) (hr : Room k X.A) (hb : Binds X.K fd ps []) (hx : Passes CX X E0) (ho : PE X o (lowE X.K to))
    (ht : eval (.Call (.Attribute o m apos) [] [] pos) X.env = (do
      let ov ← eval o X.env
      standAt apos.atName
      let (f, first) ← holding [ov] (getMethod ov m pl)
      callWith pos f first [] (backToKw pos (keywordEach [] X.env))) := by rfl) :
    PE X (.Call (.Attribute o m apos) [] [] pos) (lowE X.K (meth3 C0 m sp to)) := (pe_meth0 (pl := pl) ho c hm F hr hb .nil hx ht).imp fun σ H Q h => by
  obtain ⟨σ3, G, Q3, hs, hh, ht, hq⟩ := h
  refine ⟨σ3, G, _, hs, hh, ht, fun x H1 w G1 k1 hh1 r q1 => ?_⟩
  unfold meth3 at q1
  split at q1
  · cases r
    obtain ⟨dx, fs, hg, hl, q⟩ := q1
    obtain ⟨vs, e1, rk⟩ := hh1 _ _ hg
    have hl2 : vs.lookup m = none := by
      rcases RepK.lookS (f := m) rk with ⟨_, z⟩ | ⟨w', v, z1, _⟩
      · exact z
      · rw [hl] at z1; cases z1
    exact ⟨_, dx, vs, rfl, e1, hl2, _, G1, Q3, no3, .cons (.ref _) .nil, hh1, q, hq.from k1, fun c d H' G' _ _ z => z.elim⟩
  · exact q1.elim
/-! ### expressions that may raise -/
abbrev TX3 := S3 → G3 → K3 → X3 → Prop
def lowX (K : PySem.W.Frag) (W : WX) (t : TX3) : TE := fun σ H Q => ∃ σ3 G Q3 E3, RepS K H σ3 σ ∧ RepH K G H ∧ t σ3 G Q3 E3 ∧ Post K (Rep K) H Q3 Q ∧ ∀ c d H' G', Keep H H' → RepH K G' H' → E3 c d G' → W c d σ H'
def ofX3 (te : TE3) : TX3 := fun σ G Q _ => te σ G Q
theorem x3of (he : PE X e (lowE X.K te)) : PE X e (lowX X.K W (ofX3 te)) := he.imp fun σ H Q h => by
  obtain ⟨σ3, G, Q3, E3, hs, hh, ht, hq, _⟩ := h
  exact ⟨σ3, G, Q3, hs, hh, ht, hq⟩
def callX3 (sp : Sp3) (t : TA3) : TX3 := fun σ G Q E => t σ G fun ws G1 => sp ws G1 Q E
theorem x3call {k : Nat} {f : Addr} {fd : FuncData} {ps : List Str} {sp : Sp3} {x : Str} {p : Pos} {es : List Expr} {t : TA3} (F : FnOk X.prog X.w X.K X.mg X.base (L2N.CX X.prog X.w) k f fd ps (lowSp X.K sp)) (hr : Room k X.A) (hm : X.mg x = some (.ref f)) (hk : PySem.W.keepIn X.K (.ref f) = true) (hb : Binds X.K fd ps []) (tk : L2N.Takes X W)
    (ha : PA X (e :: es) (lowA X.K t)) (hg : Gl X x := by rfl) (hdb : (x == ("__debug__" : Str)) = false := by decide) (he : starEach (e :: es) X.env = (false, eval e X.env) :: starEach es X.env := by rfl) (hpl : (backTo pos (starEach es X.env)).any (·.1) = false := by rfl) :
    PE X (.Call (.Name x p) (e :: es) [] pos) (lowX X.K W (callX3 sp t)) := (pe_callS F hr hg hm hk hb (fun σ => L2N.passAt tk σ) ha hdb he hpl).imp fun σ H Q h => by
  obtain ⟨σ3, G, Q3, E3, hs, hh, ht, hq, hE⟩ := h
  refine ⟨σ3, G, _, hs, hh, ht, fun vs H1 ws G1 k1 hh1 r q1 => ?_⟩
  exact ⟨ws, G1, _, _, r, hh1, q1, hq.from k1, fun c d H' G' k hh' q => hE _ _ _ _ (k1.trans k) hh' q⟩
def makeX3 (C : Addr) (sp : Sp3) (t : TA3) : TX3 := fun σ G Q E => t σ G fun ws G1 => ∀ x dx, G1 x = none → G1 dx = none → dx ≠ x → sp (.ref x :: ws) (gup (gup G1 dx (.own x)) x (.ins C dx [])) (fun v G2 => v = .non ∧ Q (.ref x) G2) E
theorem made_rep {K : PySem.W.Frag} {G : G3} {H : Hp} {x dx C : Addr} (hh : RepH K G H) (nx : H x = none) (ndx : H dx = none) (ne : dx ≠ x) : Keep H (upd (upd H dx (.own x)) x (.ins C dx [])) ∧ RepH K (gup (gup G dx (.own x)) x (.ins C dx [])) (upd (upd H dx (.own x)) x (.ins C dx [])) := by
  have n2 : upd H dx (.own x) x = none := by rw [upd_ne ne.symm]; exact nx
  exact ⟨(Keep.new ndx).trans (Keep.new n2), (hh.new ndx (g := .own x) upd_same).new n2 (g := .ins C dx []) ⟨[], upd_same, .nil⟩⟩
theorem x3make {k : Nat} {f C : Addr} {fd : FuncData} {ps : List Str} {sp : Sp3} {x : Str} {p : Pos} {es : List Expr} {t : TA3} (M : Mk X.K C f) (F : FnOk X.prog X.w X.K X.mg X.base (L2N.CX X.prog X.w) k f fd ps (lowSp X.K sp)) (hr : Room (k + 1) X.A) (hm : X.mg x = some (.ref C)) (hb : Binds X.K fd ps []) (tk : L2N.Takes X W)
    (ha : PA X (e :: es) (lowA X.K t)) (hg : Gl X x := by rfl) (hdb : (x == ("__debug__" : Str)) = false := by decide) (he : starEach (e :: es) X.env = (false, eval e X.env) :: starEach es X.env := by rfl) (hpl : (backTo pos (starEach es X.env)).any (·.1) = false := by rfl) :
    PE X (.Call (.Name x p) (e :: es) [] pos) (lowX X.K W (makeX3 C sp t)) := (pe_makeS M F hr hg hm hb (fun σ => L2N.passAt tk σ) ha hdb he hpl).imp fun σ H Q h => by
  obtain ⟨σ3, G, Q3, E3, hs, hh, ht, hq, hE⟩ := h
  refine ⟨σ3, G, _, hs, hh, ht, fun vs H1 ws G1 k1 hh1 r q1 => fun x dx nx ndx ne => ?_⟩
  obtain ⟨k2, hh2⟩ := made_rep (C := C) hh1 nx ndx ne
  refine ⟨_, _, _, _, .cons (.ref x) (r.keep k2), hh2, q1 x dx (hh1.free nx) (hh1.free ndx) ne, fun v H' w G' k hh' rv q => ?_, fun c d H' G' k hh' q => hE _ _ _ _ ((k1.trans k2).trans k) hh' q⟩
  obtain ⟨rfl, q⟩ := q
  cases rv
  exact ⟨rfl, hq _ _ _ _ ((k1.trans k2).trans k) hh' (.ref x) q⟩
def smethX3 (C : Addr) (sp : Sp3) (ds3 : List U) (t : TA3) : TX3 := fun σ G Q E => t σ G fun ws G1 => sp (ws ++ ds3) G1 Q E
theorem x3smeth {k : Nat} {g C pp : Addr} {mc : Value} {fd : FuncData} {ps : List Str} {sp : Sp3} {x m : Str} {p : Pos} {es : List Expr} {t : TA3} {pl : Sem Bool} {dvs : List V} {ds : List Value} {ds3 : List U} (r : ClX.CRead X.K C mc) (c : SMet X.K C mc m pp g) (F : FnOk X.prog X.w X.K X.mg X.base (L2N.CX X.prog X.w) k g fd ps (lowSp X.K sp)) (hr : Room k X.A) (hm : X.mg x = some (.ref C)) (hb : Binds X.K fd ps ds) (hd : Vals dvs ds) (hd3 : ∀ H, RepL X.K H ds3 dvs) (tk : L2N.Takes X W)
    (ha : PA X (e :: es) (lowA X.K t)) (hg : Gl X x := by rfl) (hdb : (x == ("__debug__" : Str)) = false := by decide) (hst : starEach (e :: es) X.env = (false, eval e X.env) :: starEach es X.env := by rfl) (hpl : (backTo pos (starEach es X.env)).any (·.1) = false := by rfl)
    (ht : eval (.Call (.Attribute (.Name x p) m apos) (e :: es) [] pos) X.env = (do
      let ov ← eval (.Name x p) X.env
      standAt apos.atName
      let (f, first) ← holding [ov] (getMethod ov m pl)
      callWith pos f first (backTo pos (starEach (e :: es) X.env)) (backToKw pos (keywordEach [] X.env))) := by rfl) :
    PE X (.Call (.Attribute (.Name x p) m apos) (e :: es) [] pos) (lowX X.K W (smethX3 C sp ds3 t)) := (pe_smeth (pl := pl) (e3glob hg hm hdb) r c F hr hb hd (fun σ => L2N.passAt tk σ) ha hst hpl ht).imp fun σ H Q h => by
  obtain ⟨σ3, G, Q3, E3, hs, hh, ht, hq, hE⟩ := h
  refine ⟨σ3, G, fun w G' => w = .ref C ∧ t σ3 G' fun ws G1 => sp (ws ++ ds3) G1 Q3 E3, hs, hh, ⟨rfl, ht⟩, fun x H1 w G1 k1 hh1 r q1 => ?_⟩
  obtain ⟨rfl, q1⟩ := q1
  cases r
  refine ⟨rfl, σ3, G1, _, hs.keep k1, hh1, q1, fun vs H2 ws G2 k2 hh2 r2 q2 => ?_⟩
  exact ⟨_, G2, _, _, r2.append (hd3 _), hh2, q2, hq.from (k1.trans k2), fun c d H' G' k hh' q => hE _ _ _ _ ((k1.trans k2).trans k) hh' q⟩
def ifX3 (tA : TT3) (ta tb : TX3) : TX3 := fun σ G Q E => tA σ G fun c G1 => if c = true then ta σ G1 Q E else tb σ G1 Q E
theorem x3if {t1 t2 : TX3} (hc : PT X c (lowT X.K tA)) (ha : PE X a (lowX X.K W t1)) (hb : PE X b (lowX X.K W t2)) : PE X (.IfExp c a b pos) (lowX X.K W (ifX3 tA t1 t2)) := (pe_ifExp hc ha hb).imp fun σ H Q h => by
  obtain ⟨σ3, G, Q3, E3, hs, hh, ht, hq, hE⟩ := h
  refine ⟨σ3, G, _, hs, hh, ht, fun d H1 d' G1 k1 hh1 e q1 => ?_⟩
  obtain rfl : d' = d := e
  cases d' with
  | false => exact ⟨σ3, G1, _, E3, hs.keep k1, hh1, q1, hq.from k1, fun c d H' G' k => hE c d H' G' (k1.trans k)⟩
  | true => exact ⟨σ3, G1, _, E3, hs.keep k1, hh1, q1, hq.from k1, fun c d H' G' k => hE c d H' G' (k1.trans k)⟩
def setE3 (i : Nat) (t : TX3) : TS3 := fun D σ G => t σ G (fun v G2 => D.nx (σ.set i (some v)) G2) fun c d G2 => D.ex c d σ G2
theorem s_setE {i : Nat} {y : Str} {py : Pos} {t : TX3} (hN : X.N.Nodup) (he : PE X e (lowX X.K W t)) (hi : X.N[i]? = some y := by rfl) (hx : Loc X.env.scope y := by first | exact Or.inl rfl | exact Or.inr rfl) (hs : swapsWith e (some (.Name y py)) pos.line X.env = pure false := by rfl) (hf : X.fn y = true ∨ X.env.scope.names.lookup y = some .local := by first | exact .inl rfl | exact .inr rfl) :
    PS X (.Assign [.Name y py] e pos) (lowS X.K W (setE3 i t)) := (ps_set hN hi hx he hs hf).imp fun D σ H h => by
  obtain ⟨σ3, G, D3, hs, hh, ht, hle⟩ := h
  exact ⟨σ3, G, _, _, hs, hh, ht, fun v H' w G' k hh' rv q => hle.nx _ _ _ _ k ((hs.keep k).set i rv) hh' q, fun c d H' G' k hh' q => hle.ex _ _ _ _ _ _ k (hs.keep k) hh' q⟩
def retE3 (t : TX3) : TS3 := fun D σ G => t σ G D.rt fun c d G2 => D.ex c d σ G2
theorem s_retE {t : TX3} (he : PE X e (lowX X.K W t)) : PS X (.Return (some e) pos) (lowS X.K W (retE3 t)) := (ps_ret he).imp fun D σ H h => by
  obtain ⟨σ3, G, D3, hs, hh, ht, hle⟩ := h
  exact ⟨σ3, G, _, _, hs, hh, ht, hle.rt, fun c d H' G' k hh' q => hle.ex _ _ _ _ _ _ k (hs.keep k) hh' q⟩
def exprE3 (t : TX3) : TS3 := fun D σ G => t σ G (fun _ G2 => D.nx σ G2) fun c d G2 => D.ex c d σ G2
theorem s_exprE {t : TX3} (he : PE X e (lowX X.K W t)) (hs : swapsWith e none pos.line X.env = pure false := by rfl) : PS X (.Expr e pos) (lowS X.K W (exprE3 t)) := (ps_expr he hs).imp fun D σ H h => by
  obtain ⟨σ3, G, D3, hs, hh, ht, hle⟩ := h
  exact ⟨σ3, G, _, _, hs, hh, ht, fun v H' w G' k hh' rv q => hle.nx _ _ _ _ k (hs.keep k) hh' q, fun c d H' G' k hh' q => hle.ex _ _ _ _ _ _ k (hs.keep k) hh' q⟩
/-! ### C(k = e, ..), nothing raised -/
def makeK3 (C : Addr) (n : Nat) (sp : Sp3) (g3 : List U → List U → List U) (tk : TA3) : TE3 := fun σ G Q => tk σ G fun zs G1 => decide (zs.length = n) = true ∧ ∀ x dx, G1 x = none → G1 dx = none → dx ≠ x → sp (g3 [.ref x] zs) (gup (gup G1 dx (.own x)) x (.ins C dx [])) (fun v G2 => v = .non ∧ Q (.ref x) G2) no3
theorem k3nil : PK X [] (lowA X.K nil3) := ⟨fun pos pins s σ H Q I h => by
  obtain ⟨σ3, G, Q3, hs, hh, ht, hq⟩ := h
  exact pk_nil.run pos pins s σ H Q I (hq.here hh .nil ht)⟩
theorem k3cons {kws : List Keyword} {t : TA3} {nm : Option Str} {kpos : Pos} (ha : PE X e (lowE X.K te)) (hr : PK X kws (lowA X.K t)) : PK X (⟨nm, e, kpos⟩ :: kws) (lowA X.K (cons3 te t)) := ⟨fun pos pins s σ H Q I h => by
  refine (pk_cons ha hr).run pos pins s σ H Q I ?_
  obtain ⟨σ3, G, Q3, hs, hh, ht, hq⟩ := h
  refine ⟨σ3, G, _, hs, hh, ht, fun x H1 a G1 k1 hh1 ra q1 => ?_⟩
  refine ⟨σ3, G1, _, hs.keep k1, hh1, q1, fun y H2 b G2 k2 hh2 rb q2 => ?_⟩
  exact hq _ _ _ _ (k1.trans k2) hh2 (.cons (ra.keep k2) rb) q2⟩
end
end L3
end
section
set_option Elab.async false
set_option linter.all false
set_option maxRecDepth 100000
set_option maxHeartbeats 4000000
/-! more L3 rules: constants of the module, texts, chains, while, pop(), in tuples, tuple * int, str(int), written dicts -/
namespace L2
open PySem PySem.Spec PyProof.Rows
/-- the keys of a written dict -/
def Itkw (names : List Str) : It := ⟨fun i _ => i < names.length, fun i H v H' => H' = H ∧ ∃ x, names[i]? = some x ∧ v = .str x, fun i _ => names.length ≤ i⟩
/-- the written dict at d has just these keys -/
structure KNames (K : PySem.W.Frag) (d : Addr) (names : List Str) : Prop where
  ex : ∃ (es : Array DictEntry) (n : Nat), K.lookup d = some ⟨.type "dict", none, .dict es n, #[]⟩ ∧ es.size = names.length ∧ (∀ (i : Nat) (x : Str), names[i]? = some x → ∃ en t, es[i]? = some en ∧ en.key = .str x t)
  low : (d == sysModules) = false
theorem turn_kw {P : Program} {w : World} {K : PySem.W.Frag} {tg : Expr} {d : Addr} {names : List Str} {es : Array DictEntry} {ep : Nat} (it : Addr) (hK : K.lookup d = some ⟨.type "dict", none, .dict es ep, #[]⟩) (hz : es.size = names.length) (hn : ∀ (i : Nat) (x : Str), names[i]? = some x → ∃ en t, es[i]? = some en ∧ en.key = .str x t) :
    Turn P w K tg (Itkw names) [it] it (fun i h => h.IsKeyIter it d i names.length ep) where
  mem := by simp
  obj := fun i h st b hb => by
    have e : b = it := by simpa using hb
    subst e
    obtain ⟨oi, e, c, dd⟩ := st
    exact ⟨oi, e, fun v z => by rw [dd] at z; cases z⟩
  keep := fun i h h' st k => st.at fun oi e => k it (by simp) oi e
  item := by
    intro X hP hw hK' hc i pins s σ H E I hf st hi
    subst hP hw hK'
    have hi : i < names.length := hi
    obtain ⟨f0, f1, f2, f3, f4, f5⟩ := hf it (by simp)
    have hgd := I.kIn _ _ hK
    obtain ⟨en, t, hen, hk⟩ := hn i names[i] (List.getElem?_eq_getElem hi)
    refine next_key_item st hgd rfl hz hen fun h' st' sb => ?_
    have I1 : Inv X pins σ H { s with heap := h' } := I.turned (t' := s.toks) (fun b ob hb e => (sb.2 b hb).trans e) f0 f1 f3 f4 f5
    obtain ⟨oi, e, c, dd⟩ := id st'
    exact ⟨en.key, rfl, go_of (s := { s with heap := h' }) e c dd (by decide) ⟨.str names[i], H, I1, ⟨t, hk⟩, ⟨rfl, names[i], List.getElem?_eq_getElem hi, rfl⟩, st', fun b hb => (hf b hb).1⟩⟩
  done := by
    intro X hP hw hK' hc i pins s σ H E I hf st hi
    subst hP hw hK'
    obtain ⟨f0, f1, f2, f3, f4, f5⟩ := hf it (by simp)
    exact next_key_end (I.ok.hd hc) st (I.kIn _ _ hK) rfl hz hi fun h' eb => ⟨rfl, I.turned (t' := s.toks) (fun b ob hb e => eb b ob hb e) f0 f1 f3 f4 f5⟩
  self := fun A i s Q E st h => wpAny_pyIter_keyiter st h
def iKw (d : Addr) (names : List Str) (td : TE) : TI := fun σ H R => td σ H fun x H1 => x = .ref d ∧ R (Itkw names) H1
theorem pi_kw {X : Cx} {tg e : Expr} {td : TE} {d : Addr} {names : List Str} (D : KNames X.K d names) (he : PE X e td) : PI X tg e (iKw d names td) := by
  refine ⟨fun pins s σ H R I h => ?_⟩
  refine thn (he.run pins s σ H _ I h) fun u s1 ⟨x, H1, I1, rx, ex, q⟩ => ?_
  subst ex
  obtain rfl : u = Value.ref d := rx
  obtain ⟨es, ep, hK, hz, hn⟩ := D.ex
  have hx : Obj.ExactDict ⟨.type "dict", none, .dict es ep, #[]⟩ := ⟨rfl, rfl, rfl⟩
  refine iter_keys D.low (I1.kIn _ _ hK) hx rfl (pi_one (tk := s1.toks) I1 _ (turn_kw _ hK hz hn) ⟨_, Heap.get?_push_size _ rfl, rfl, ?_⟩ q)
  rw [hz] <;> rfl
end L2
namespace L3
open PySem L2
section
variable {X : Cx} {W : WX} {a b c e : Expr} {pos : Pos} {ta tb tc te : TE3} {tA : TT3}
/-- a text, a number of the module -/
theorem e3gs {x : Str} {z : Str} (hg : Gl X x) (hm : ∃ t, X.mg x = some (.str z t)) (hd : (x == ("__debug__" : Str)) = false := by decide) : PE X (.Name x pos) (lowE X.K (c3 (.str z))) := by
  obtain ⟨t, hm⟩ := hm
  exact e3c (pe_glob (v := .str z) hg hm ⟨t, rfl⟩ hd) fun _ => .str z
theorem e3gi {x : Str} {i : Int} (hg : Gl X x) (hm : ∃ t, X.mg x = some (.int i t)) (hd : (x == ("__debug__" : Str)) = false := by decide) : PE X (.Name x pos) (lowE X.K (c3 (.int i))) := by
  obtain ⟨t, hm⟩ := hm
  exact e3c (pe_glob (v := .int i) hg hm ⟨t, rfl⟩ hd) fun _ => .int i
/-! ### texts -/
def rIxS3 : R3 := fun x y G Q => match x, y with
  | .str z, .int i => ∃ c, decide (z.length ≤ 100000) = true ∧ L2.atI z.cps.toList i = some c ∧ Q (.str ⟨#[c]⟩) G
  | _, _ => False
theorem x_ixS : IxR X (lowR X.K rIxS3) := IxR.imp ix_str fun x y H Q q => by
  obtain ⟨a, b, G, Q3, ra, rb, hh, q, p⟩ := q
  unfold rIxS3 at q
  split at q
  · cases ra; cases rb
    obtain ⟨c, hz, h, q⟩ := q
    exact ⟨_, _, c, rfl, rfl, sz hz, h, p.here hh (.str _) q⟩
  · exact q.elim
theorem e3ixS (ha : PE X a (lowE X.K ta)) (hb : PE X b (lowE X.K tb)) (hs : PlainIx b := by exact fun _ _ => rfl) : PE X (.Subscript a b pos) (lowE X.K (op3 rIxS3 ta tb)) := (pe_ix x_ixS ha hb hs).imp op3_low
def rInS3 (neg : Bool) : R3 := fun x y G Q => match x, y with
  | .str w, .str z => ∃ c, w = ⟨#[c]⟩ ∧ Q (.bl (if neg then !decide (c ∈ z.cps.toList) else decide (c ∈ z.cps.toList))) G
  | _, _ => False
theorem o_inS : OpR X (compareOp .In) (lowR X.K (rInS3 false)) := OpR.imp op_in_sign fun x y H Q q => by
  obtain ⟨a, b, G, Q3, ra, rb, hh, q, p⟩ := q
  unfold rInS3 at q
  split at q
  · cases ra; cases rb
    obtain ⟨c, rfl, q⟩ := q
    exact ⟨c, _, rfl, rfl, p.here hh (.bl _) q⟩
  · exact q.elim
theorem o_notinS : OpR X (compareOp .NotIn) (lowR X.K (rInS3 true)) := OpR.imp op_notIn_sign fun x y H Q q => by
  obtain ⟨a, b, G, Q3, ra, rb, hh, q, p⟩ := q
  unfold rInS3 at q
  split at q
  · cases ra; cases rb
    obtain ⟨c, rfl, q⟩ := q
    exact ⟨c, _, rfl, rfl, p.here hh (.bl _) q⟩
  · exact q.elim
def rAddS3 : R3 := fun x y G Q => match x, y with
  | .str i, .str j => decide (i.length + j.length ≤ 100000) = true ∧ Q (.str (i ++ j)) G
  | _, _ => False
theorem o_addS : OpR X (binaryOp .Add) (lowR X.K rAddS3) := OpR.imp op_add_str fun x y H Q q => by
  obtain ⟨a, b, G, Q3, ra, rb, hh, q, p⟩ := q
  unfold rAddS3 at q
  split at q
  · cases ra; cases rb
    exact ⟨_, _, rfl, rfl, sz q.1, p.here hh (.str _) q.2⟩
  · exact q.elim
def kStr : C3 := fun ws G Q => match ws with
  | [.int i] => i.natAbs.log2 < 1920 ∧ Q (.str (Str.ofString (toString i))) G
  | _ => False
theorem k_str : CallR X (.type "str") (lowC X.K kStr) := CallR.imp call_str_int fun vs H Q h => by
  obtain ⟨ws, G, Q3, r, hh, q, p⟩ := h
  unfold kStr at q
  split at q
  · obtain ⟨v, rfl, r0⟩ := r.one
    cases r0
    exact ⟨_, rfl, q.1, p.here hh (.str _) q.2⟩
  · exact q.elim
/-- the signs of a text -/
def sgU (z : Str) : List U := z.cps.toList.map fun c => U.str ⟨#[c]⟩
def is3 (te : TE3) : TI3 := fun σ G R => te σ G fun x G1 => match x with
  | .str z => R ⟨sgU z, fun _ => True⟩ G1
  | _ => False
theorem i_str {tg l : Expr} {tl : TE3} (hl : PE X l (lowE X.K tl)) : PI X tg l (lowI X.K (is3 tl)) := (pi_str hl).imp fun σ H R h => by
  obtain ⟨σ3, G, Q3, hs, hh, ht, hq⟩ := h
  refine ⟨σ3, G, _, hs, hh, ht, fun x H1 w G1 k1 hh1 r q1 => ?_⟩
  split at q1
  · cases r
    rename_i z
    refine ⟨z, rfl, hq _ _ _ _ k1 hh1 ⟨fun i G' H' hi k hh' ok => ?_, fun G' H' k hh' ok => ?_, fun i G' H' x H'' hi k hh' ok y => ?_⟩ q1⟩
    · show i < z.cps.size
      have : i < (sgU z).length := hi
      unfold sgU at this
      rw [List.length_map] at this
      simpa using this
    · show z.cps.size ≤ (sgU z).length
      unfold sgU
      rw [List.length_map]
      simp
    · obtain ⟨e, c, hc, ev⟩ := y
      subst e ev
      refine ⟨Keep.refl _, hh', .str ⟨#[c]⟩, ?_, .str _⟩
      show (sgU z)[i]? = _
      unfold sgU
      rw [List.getElem?_map, Array.getElem?_toList, hc]
      rfl
  · exact q1.elim
/-! ### a <= b <= c -/
def chain3 (r r' : R3) (ta tb tc : TE3) : TE3 := fun σ G Q => ta σ G fun x G1 => tb σ G1 fun y G2 => r x y G2 fun z G3 => match z with
  | .bl k => if k = true then tc σ G3 fun w G4 => r' y w G4 Q else Q (.bl false) G3
  | _ => False
theorem chain_low {K : PySem.W.Frag} {r r' : R3} : ∀ σ H Q, lowE K (chain3 r r' ta tb tc) σ H Q → tChain (lowR K r) (lowR K r') (lowE K ta) (lowE K tb) (lowE K tc) σ H Q := fun σ H Q h => by
  obtain ⟨σ3, G, Q3, hs, hh, ht, hq⟩ := h
  refine ⟨σ3, G, _, hs, hh, ht, fun x H1 a G1 k1 hh1 ra q1 => ?_⟩
  refine ⟨σ3, G1, _, hs.keep k1, hh1, q1, fun y H2 b G2 k2 hh2 rb q2 => ?_⟩
  refine ⟨a, b, G2, _, ra.keep k2, rb, hh2, q2, fun z H3 w G3 k3 hh3 rz q3 => ?_⟩
  split at q3
  · cases rz
    rename_i k
    refine ⟨k, rfl, ?_⟩
    cases k with
    | false => exact hq _ _ _ _ ((k1.trans k2).trans k3) hh3 (.bl _) q3
    | true =>
      refine ⟨σ3, G3, _, hs.keep ((k1.trans k2).trans k3), hh3, q3, fun w' H4 c G4 k4 hh4 rc q4 => ?_⟩
      exact ⟨b, c, G4, Q3, rb.keep (k3.trans k4), rc, hh4, q4, hq.from (((k1.trans k2).trans k3).trans k4)⟩
  · exact q3.elim
theorem e3chain {op op' : CmpOp} {r r' : R3} (ho : OpR X (compareOp op) (lowR X.K r)) (ho' : OpR X (compareOp op') (lowR X.K r')) (ha : PE X a (lowE X.K ta)) (hb : PE X b (lowE X.K tb)) (hc : PE X c (lowE X.K tc)) (hm : lastMarks [op, op'] [b, c] = false := by rfl) : PE X (.Compare a [op, op'] [b, c] pos) (lowE X.K (chain3 r r' ta tb tc)) := (pe_chain ho ho' ha hb hc hm).imp chain_low
theorem t3chain {op op' : CmpOp} {r r' : R3} (ho : OpR X (compareOp op) (lowR X.K r)) (ho' : OpR X (compareOp op') (lowR X.K r')) (ha : PE X a (lowE X.K ta)) (hb : PE X b (lowE X.K tb)) (hc : PE X c (lowE X.K tc)) (hm : lastMarks [op, op'] [b, c] = false := by rfl) : PT X (.Compare a [op, op'] [b, c] pos) (lowT X.K (te3 (chain3 r r' ta tb tc))) := (pt_chain ho ho' ha hb hc hm).imp fun σ H Q h => tTest_mono chain_low _ _ _ (te3_low _ _ _ h)
/-! ### while -/
def while3 (tc : TT3) (tb : TS3) : TS3 := fun D σ G => ∃ Pv : Nat → S3 → G3 → Prop, (∃ m, Pv m σ G) ∧ ∀ m σ' G', Pv m σ' G' → tc σ' G' fun b G1 => if b = true then tb { D with nx := fun σ2 G2 => ∃ m', m' < m ∧ Wk2 (Pv m') σ2 G2, ct := fun σ2 G2 => ∃ m', m' < m ∧ Wk2 (Pv m') σ2 G2, bk := D.nx } σ' G1 else D.nx σ' G1
theorem s_while {body : List Stmt} {tb : TS3} (hp : PassesOwn (model X.prog X.w) X.A X.env X.xe) (hc : PT X c (lowT X.K tA)) (hb : PSs X body (lowS X.K W tb)) : PS X (.While c body [] pos) (lowS X.K W (while3 tA tb)) := (ps_while hp hc hb).imp fun D σ H h => by
  obtain ⟨σ3, G, D3, hs, hh, ⟨Pv, ⟨m0, p0⟩, st⟩, hle⟩ := h
  refine ⟨fun m σ' H' => ∃ σ3' G', Keep H H' ∧ RepS X.K H' σ3' σ' ∧ RepH X.K G' H' ∧ Pv m σ3' G', ⟨m0, σ3, G, Keep.refl H, hs, hh, p0⟩, ?_⟩
  rintro m σ' H' ⟨σ3', G', kk, hs', hh', pv⟩
  refine ⟨σ3', G', _, hs', hh', st m σ3' G' pv, fun d H1 d' G1 k1 hh1 e q1 => ?_⟩
  obtain rfl : d' = d := e
  cases d' with
  | false => exact hle.nx _ _ _ _ (kk.trans k1) (hs'.keep k1) hh1 q1
  | true =>
    have again : ∀ σ2 H2 σ32 G2, Keep H1 H2 → RepS X.K H2 σ32 σ2 → RepH X.K G2 H2 → (∃ m', m' < m ∧ Wk2 (Pv m') σ32 G2) → ∃ m', m' < m ∧ ∃ σ3' G', Keep H H2 ∧ RepS X.K H2 σ3' σ2 ∧ RepH X.K G' H2 ∧ Pv m' σ3' G' := fun σ2 H2 σ32 G2 k2 hs2 hh2 ⟨m', hm, σ0, G0, z1, z2, q⟩ => ⟨m', hm, σ0, G0, (kk.trans k1).trans k2, hs2.sub z1, hh2.less z2, q⟩
    refine ⟨fun σ2 H2 => ∃ m', m' < m ∧ ∃ σ3' G', Keep H H2 ∧ RepS X.K H2 σ3' σ2 ∧ RepH X.K G' H2 ∧ Pv m' σ3' G', fun _ _ h => h, σ3', G1, _, hs'.keep k1, hh1, q1, ⟨again, hle.rt.from (kk.trans k1), fun σ2 H2 σ32 G2 k2 hs2 hh2 q2 => hle.nx _ _ _ _ ((kk.trans k1).trans k2) hs2 hh2 q2, again, fun c d σ2 H2 σ32 G2 k2 hs2 hh2 q2 => hle.ex _ _ _ _ _ _ ((kk.trans k1).trans k2) hs2 hh2 q2⟩⟩
/-! ### xs.pop() -/
def mPop (l : Addr) : List U → G3 → K3 → Prop := fun ws G Q => match ws with
  | [] => ∃ xs y, G l = some (.lst (xs ++ [y])) ∧ Q y (gup G l (.lst xs))
  | _ => False
theorem m_pop : MtR X "list.pop" (lowM X.K mPop) := MtR.imp mt_pop fun x vs H Q h => by
  obtain ⟨l, ws, G, Q3, rfl, r, hh, q, p⟩ := h
  unfold mPop at q
  split at q
  · cases r
    obtain ⟨xs, y, hg, q⟩ := q
    obtain ⟨vs, h1, r1⟩ := hh _ _ hg
    obtain ⟨v, hv, rv⟩ := r1.get (i := xs.length) (w := y) (by simp)
    have hl := r1.length
    rw [List.length_append, List.length_singleton] at hl
    have rd := r1.dropLast
    rw [List.dropLast_concat] at rd
    exact ⟨l, vs, v, rfl, rfl, h1, by rw [← hl]; exact hv, p _ _ _ _ (Keep.mut h1 trivial) (hh.mut h1 trivial (obj_mut h1 trivial rd)) (rv.keep (Keep.mut h1 trivial)) q⟩
  · exact q.elim
/-! ### in a tuple, a list of flat things -/
def flatU : U → Bool
  | .int _ => true
  | .str _ => true
  | _ => false
def eqF : U → U → Bool
  | .int a, .int b => a == b
  | .str a, .str b => a == b
  | _, _ => false
theorem flat_rep {K : PySem.W.Frag} {H : Hp} {w : U} {v : V} (r : Rep K H w v) (h : flatU w = true) : flatV v = true := by cases r <;> first | rfl | cases h
theorem eqF_rep {K : PySem.W.Frag} {H : Hp} {w u : U} {v x : V} (r : Rep K H w v) (q : Rep K H u x) (h : flatU w = true) (h2 : flatU u = true) : eqV v x = eqF w u := by
  cases r <;> cases h <;> cases q <;> cases h2 <;> rfl
theorem flats_rep {K : PySem.W.Frag} {H : Hp} {u : U} {x : V} (q : Rep K H u x) (h2 : flatU u = true) : ∀ {ws : List U} {vs : List V}, RepL K H ws vs → ws.all flatU = true → vs.all flatV = true ∧ inV x vs = ws.any fun y => eqF y u
  | _, _, .nil, _ => ⟨rfl, rfl⟩
  | _, _, .cons r t, h => by
    rw [List.all_cons, Bool.and_eq_true] at h
    obtain ⟨a, b⟩ := flats_rep q h2 t h.2
    refine ⟨by rw [List.all_cons, flat_rep r h.1, a]; rfl, ?_⟩
    unfold inV at b ⊢
    rw [List.any_cons, List.any_cons, b, eqF_rep r q h.1 h2]
def rInF3 (neg : Bool) : R3 := fun x y G Q => match y with
  | .tup ys => flatU x = true ∧ ys.all flatU = true ∧ Q (.bl (if neg then !(ys.any fun y => eqF y x) else ys.any fun y => eqF y x)) G
  | .wtup ys => flatU x = true ∧ ys.all flatU = true ∧ Q (.bl (if neg then !(ys.any fun y => eqF y x) else ys.any fun y => eqF y x)) G
  | .ref a => ∃ ys, G a = some (.lst ys) ∧ flatU x = true ∧ ys.all flatU = true ∧ Q (.bl (if neg then !(ys.any fun y => eqF y x) else ys.any fun y => eqF y x)) G
  | _ => False
theorem inF_low (neg : Bool) : ∀ x y H Q, lowR X.K (rInF3 neg) x y H Q → rIn X.K neg x y H Q := fun x y H Q q => by
  obtain ⟨a, b, G, Q3, ra, rb, hh, q, p⟩ := q
  unfold rInF3 at q
  split at q
  · obtain ⟨h1, h2, q⟩ := q
    cases rb with
    | tup h r =>
      obtain ⟨z1, z2⟩ := flats_rep ra h1 r h2
      exact ⟨_, _, rfl, .inr (SqT.of h), flat_rep ra h1, z1, by rw [z2]; exact p.here hh (.bl _) q⟩
  · obtain ⟨h1, h2, q⟩ := q
    cases rb with
    | wtup h r =>
      obtain ⟨z1, z2⟩ := flats_rep ra h1 r h2
      exact ⟨_, _, rfl, .inr h, flat_rep ra h1, z1, by rw [z2]; exact p.here hh (.bl _) q⟩
  · obtain ⟨ys, hg, h1, h2, q⟩ := q
    cases rb
    obtain ⟨vs, h, r⟩ := hh _ _ hg
    obtain ⟨z1, z2⟩ := flats_rep ra h1 r h2
    exact ⟨_, _, rfl, .inl (SqL.of h), flat_rep ra h1, z1, by rw [z2]; exact p.here hh (.bl _) q⟩
  · exact q.elim
theorem o_inF : OpR X (compareOp .In) (lowR X.K (rInF3 false)) := OpR.imp op_in_seq (inF_low false)
theorem o_notinF : OpR X (compareOp .NotIn) (lowR X.K (rInF3 true)) := OpR.imp op_notIn_seq (inF_low true)
/-! ### written dicts -/
structure KD (K : PySem.W.Frag) (w : World) (d : Addr) (kvs : List (Str × Int)) : Prop where
  kd : ∃ es n, KDict K w d es n
  get : ∀ x : Str, (kvs.lookup x = none → PySem.W.nsIn K d x = some none) ∧ ∀ i, kvs.lookup x = some i → ∃ t, PySem.W.nsIn K d x = some (some (.int i t))
  names : KNames K d (kvs.map (·.1))
def rInD3 (d : Addr) (kvs : List (Str × Int)) (neg : Bool) : R3 := fun x y G Q => match x with
  | .str z => y = .ref d ∧ Q (.bl (if neg then !(kvs.lookup z).isSome else (kvs.lookup z).isSome)) G
  | _ => False
theorem o_inD {d : Addr} {kvs : List (Str × Int)} (D : KD X.K X.w d kvs) : OpR X (compareOp .In) (lowR X.K (rInD3 d kvs false)) := by
  obtain ⟨es, n, hd⟩ := D.kd
  refine OpR.imp (op_in_kd hd) fun x y H Q q => ?_
  obtain ⟨a, b, G, Q3, ra, rb, hh, q, p⟩ := q
  unfold rInD3 at q
  split at q
  · rename_i z
    obtain ⟨rfl, q⟩ := q
    cases ra; cases rb
    cases e : kvs.lookup z with
    | none => rw [e] at q; exact ⟨z, none, rfl, rfl, (D.get z).1 e, p.here hh (.bl _) q⟩
    | some i =>
      obtain ⟨t, ht⟩ := (D.get z).2 i e
      rw [e] at q
      exact ⟨z, some (.int i t), rfl, rfl, ht, p.here hh (.bl _) q⟩
  · exact q.elim
theorem o_notinD {d : Addr} {kvs : List (Str × Int)} (D : KD X.K X.w d kvs) : OpR X (compareOp .NotIn) (lowR X.K (rInD3 d kvs true)) := by
  obtain ⟨es, n, hd⟩ := D.kd
  refine OpR.imp (op_notIn_kd hd) fun x y H Q q => ?_
  obtain ⟨a, b, G, Q3, ra, rb, hh, q, p⟩ := q
  unfold rInD3 at q
  split at q
  · rename_i z
    obtain ⟨rfl, q⟩ := q
    cases ra; cases rb
    cases e : kvs.lookup z with
    | none => rw [e] at q; exact ⟨z, none, rfl, rfl, (D.get z).1 e, p.here hh (.bl _) q⟩
    | some i =>
      obtain ⟨t, ht⟩ := (D.get z).2 i e
      rw [e] at q
      exact ⟨z, some (.int i t), rfl, rfl, ht, p.here hh (.bl _) q⟩
  · exact q.elim
def rIxD3 (d : Addr) (kvs : List (Str × Int)) : R3 := fun x y G Q => match y with
  | .str z => x = .ref d ∧ ∃ i, kvs.lookup z = some i ∧ Q (.int i) G
  | _ => False
theorem x_ixD {d : Addr} {kvs : List (Str × Int)} (D : KD X.K X.w d kvs) : IxR X (lowR X.K (rIxD3 d kvs)) := by
  obtain ⟨es, n, hd⟩ := D.kd
  refine IxR.imp ix_kdict fun x y H Q q => ?_
  obtain ⟨a, b, G, Q3, ra, rb, hh, q, p⟩ := q
  unfold rIxD3 at q
  split at q
  · rename_i z
    obtain ⟨rfl, i, hi, q⟩ := q
    cases ra; cases rb
    obtain ⟨t, ht⟩ := (D.get z).2 i hi
    exact ⟨d, z, .int i, rfl, rfl, ⟨es, n, _, hd.at_, hd.lit, ht, ⟨t, rfl⟩⟩, p.here hh (.int _) q⟩
  · exact q.elim
theorem e3ixD {d : Addr} {kvs : List (Str × Int)} (D : KD X.K X.w d kvs) (ha : PE X a (lowE X.K ta)) (hb : PE X b (lowE X.K tb)) (hs : PlainIx b := by exact fun _ _ => rfl) : PE X (.Subscript a b pos) (lowE X.K (op3 (rIxD3 d kvs) ta tb)) := (pe_ix (x_ixD D) ha hb hs).imp op3_low
def ikw3 (d : Addr) (names : List Str) (te : TE3) : TI3 := fun σ G R => te σ G fun x G1 => x = .ref d ∧ R ⟨names.map U.str, fun _ => True⟩ G1
theorem i_kw {tg l : Expr} {tl : TE3} {d : Addr} {names : List Str} (D : KNames X.K d names) (hl : PE X l (lowE X.K tl)) : PI X tg l (lowI X.K (ikw3 d names tl)) := (pi_kw D hl).imp fun σ H R h => by
  obtain ⟨σ3, G, Q3, hs, hh, ht, hq⟩ := h
  refine ⟨σ3, G, _, hs, hh, ht, fun x H1 w G1 k1 hh1 r q1 => ?_⟩
  obtain ⟨rfl, q1⟩ := q1
  cases r
  refine ⟨rfl, hq _ _ _ _ k1 hh1 ⟨fun i G' H' hi k hh' ok => ?_, fun G' H' k hh' ok => ?_, fun i G' H' x H'' hi k hh' ok y => ?_⟩ q1⟩
  · show i < names.length
    have : i < (names.map U.str).length := hi
    rwa [List.length_map] at this
  · show names.length ≤ (names.map U.str).length
    rw [List.length_map]
    exact Nat.le_refl _
  · obtain ⟨e, z, hz, ev⟩ := y
    subst e ev
    exact ⟨Keep.refl _, hh', .str z, by show (names.map U.str)[i]? = _; rw [List.getElem?_map, hz]; rfl, .str z⟩
end
end L3
end
section
set_option Elab.async false
set_option linter.all false
set_option maxRecDepth 100000
set_option maxHeartbeats 4000000
/-! tuple * int, any count -/
namespace L2
open PySem PySem.Spec PyProof.Rows
theorem tuple_mul1 (l : Addr) (items : Array Value) (n : Nat) (u : Tok) :
    Meets (Builtin.«tuple.__mul__» ⟨[.ref l, .int 1 u], []⟩) (fun _ R s => s.heap.IsTuple l items ∧ R (.ok (.ret (Value.ref l))) s) :=
  .of_wp fun prog w A R s h => by
    obtain ⟨hp, g, d, tk, os⟩ := s
    obtain ⟨hl, h⟩ := h
    obtain ⟨⟨cls, dd, data, sl⟩, ho, hc, n', hd⟩ := id hl
    simp only at hc hd
    subst hc hd
    have f1 := AutoSeq1.idx_int
    have c1 : (items.isEmpty || (1 : Int) == 1) = true := by simp
    wp_walk using wpAny_loadPart' ho
    repeat (first
      | (refine wpAny_ite_false (decide_eq_false (by decide)) ?_; wp_walk using wpAny_loadPart' ho)
      | (refine wpAny_ite_true (decide_eq_true (by rw [c1])) ?_; wp_walk using wpAny_loadPart' ho))
    exact ⟨_, rfl, h⟩
theorem tuple_mul0 (l : Addr) (items : Array Value) (u : Tok) (hne : items.isEmpty = false) :
    Meets (Builtin.«tuple.__mul__» ⟨[.ref l, .int 0 u], []⟩) (fun _ R s => s.heap.IsTuple l items ∧ R (.ok (.ret (Value.ref s.heap.objs.size))) { s with heap := s.heap.push { cls := Value.type "tuple", data := Data.seq #[] }, toks := s.toks }) :=
  .of_wp fun prog w A R s h => by
    obtain ⟨hp, g, d, tk, os⟩ := s
    obtain ⟨hl, h⟩ := h
    obtain ⟨⟨cls, dd, data, sl⟩, ho, hc, n', hd⟩ := id hl
    simp only at hc hd
    subst hc hd
    have f1 := AutoSeq1.idx_int
    have c1 : (items.isEmpty || (0 : Int) == 1) = false := by rw [hne]; rfl
    have c2 : (decide ((0 : Int) ≤ 0) || items.isEmpty) = true := rfl
    wp_walk using wpAny_loadPart' ho
    repeat (first
      | (refine wpAny_ite_false (decide_eq_false (by decide)) ?_; wp_walk using wpAny_loadPart' ho)
      | (refine wpAny_ite_false (decide_eq_false (by rw [c1]; exact Bool.false_ne_true)) ?_; wp_walk using wpAny_loadPart' ho)
      | (refine wpAny_ite_true (decide_eq_true (by rw [c2])) ?_; wp_walk using wpAny_loadPart' ho))
    exact ⟨_, rfl, h⟩
def rRepA (K : PySem.W.Frag) : R2 := fun x y H Q => ∃ l k xs, x = .ref l ∧ y = .int k ∧ SqT K H l xs ∧ xs ≠ [] ∧ 0 ≤ k ∧ k ≤ 1000 ∧ xs.length ≤ 1000 ∧ (k = 1 → Q (.ref l) H) ∧ (k ≠ 1 → ∀ p, H p = none → Q (.ref p) (upd H p (.tup (List.replicate k.toNat xs).flatten)))
theorem op_repA {X : Cx} : OpR X (binaryOp .Mult) (rRepA X.K) := by
  intro pins s σ H x y v u Q I rx ry h
  obtain ⟨l, k, xs, rfl, rfl, hT, hne, h1, h2, hz, q1, q2⟩ := h
  by_cases hk2 : 2 ≤ k
  · exact op_repT pins s σ H _ _ v u Q I rx ry ⟨l, k, xs, rfl, rfl, hT, hne, hk2, h2, hz, q2 (by omega)⟩
  cases rx
  obtain ⟨t, rfl⟩ := ry
  obtain ⟨its, r, hp, hs⟩ := I.tuple hT
  obtain ⟨⟨cls, dd, data, sl⟩, ho, hc, n, hd⟩ := id hp
  simp only at hc hd
  subst hc hd
  have hle : its.length = xs.length := r.length.symm
  have hi : its.toArray.isEmpty = false := by
    cases its with
    | nil => exact absurd (List.eq_nil_of_length_eq_zero hle.symm) hne
    | cons a b => rfl
  have pt : s.heap.IsTuple l its.toArray := hp
  have hk : k = 0 ∨ k = 1 := by omega
  rcases hk with rfl | rfl
  · refine wpAny_binaryOp_repeat_ref (T := "tuple") (U := "int") (by decide) ⟨_, ho, rfl⟩ (fun s' => typeIs_int s' 0 t) noFill_tuple_mul F.fills_int_mul F.slot_int_rmul repeat_tuple F.slot_int_index.lookup
      (call_meets F.slot_int_rmul (typeIs_int s 0 t) F.entry_int_rmul (F.args_int_rmul_2 _ _) (int_rmul_tuple 0 t l its.toArray n dd sl)
        ⟨ho, rfl, ⟨_, ho, rfl⟩, call_meets F.slot_tuple_mul ⟨_, ho, rfl⟩ F.entry_tuple_mul (F.args_tuple_mul_2 _ _) (tuple_mul0 l its.toArray t hi) ⟨pt, ?_⟩⟩)
    refine ⟨.ref s.heap.objs.size, _, I.laid (t' := s.toks) (o := .tup []) (fun b ob q => Heap.get?_push_of_some _ q) (Nat.le_refl _) ?_, rfl, q2 (by decide) _ (I.hok.fresh (Nat.le_refl _))⟩
    exact ⟨Nat.zero_le _, [], .nil, IsTup.new _ _⟩
  · refine wpAny_binaryOp_repeat_ref (T := "tuple") (U := "int") (by decide) ⟨_, ho, rfl⟩ (fun s' => typeIs_int s' 1 t) noFill_tuple_mul F.fills_int_mul F.slot_int_rmul repeat_tuple F.slot_int_index.lookup
      (call_meets F.slot_int_rmul (typeIs_int s 1 t) F.entry_int_rmul (F.args_int_rmul_2 _ _) (int_rmul_tuple 1 t l its.toArray n dd sl)
        ⟨ho, rfl, ⟨_, ho, rfl⟩, call_meets F.slot_tuple_mul ⟨_, ho, rfl⟩ F.entry_tuple_mul (F.args_tuple_mul_2 _ _) (tuple_mul1 l its.toArray n t) ⟨pt, ?_⟩⟩)
    exact ⟨.ref l, H, I, rfl, q1 rfl⟩
end L2
namespace L3
open PySem L2
section
variable {X : Cx} {W : WX} {a b c e : Expr} {pos : Pos} {ta tb tc te : TE3} {tA : TT3}
theorem RepL.rep {K : PySem.W.Frag} {H : Hp} {ws : List U} {vs : List V} (r : RepL K H ws vs) : ∀ n : Nat, RepL K H (List.replicate n ws).flatten (List.replicate n vs).flatten
  | 0 => .nil
  | n + 1 => by
    rw [List.replicate_succ, List.replicate_succ, List.flatten_cons, List.flatten_cons]
    exact RepL.append r (RepL.rep r n)
def rRepA3 : R3 := fun x y G Q => match x, y with
  | .tup xs, .int k => xs ≠ [] ∧ 0 ≤ k ∧ k ≤ 1000 ∧ xs.length ≤ 1000 ∧ Q (.tup (List.replicate k.toNat xs).flatten) G
  | _, _ => False
theorem o_repA : OpR X (binaryOp .Mult) (lowR X.K rRepA3) := OpR.imp op_repA fun x y H Q q => by
  obtain ⟨a, b, G, Q3, ra, rb, hh, q, p⟩ := q
  unfold rRepA3 at q
  split at q
  · obtain ⟨h1, h2, h3, h4, q⟩ := q
    cases rb
    rename_i k
    cases id ra with
    | tup hp r =>
      refine ⟨_, k, _, rfl, rfl, SqT.of hp, fun e => h1 (by subst e; cases r; rfl), h2, h3, by rw [← r.length]; exact h4, fun e => ?_, fun _ l hl => p _ _ _ _ (Keep.new hl) (hh.skip hl) (.tup upd_same ((RepL.rep r k.toNat).keep (Keep.new hl))) q⟩
      subst e
      have e1 : (List.replicate (1 : Int).toNat ‹List U›).flatten = ‹List U› := by simp
      rw [e1] at q
      exact p.here hh ra q
  · exact q.elim
end
end L3
end
section
set_option Elab.async false
set_option linter.all false
set_option maxRecDepth 100000
set_option maxHeartbeats 4000000
/-! dict comprehensions and displays with plain keys; fields of a caught exception; C(k = e, ..) -/
namespace L3
open PySem L2
section
variable {X : Cx} {W : WX} {a b c e : Expr} {pos : Pos} {ta tb tc te : TE3} {tA : TT3}
def dcK3 (wi : TI3) (g : TG3) (tt : TT3) (tk te : TE3) (vs : List Nat) : TE3 := fun σ G Q => wi σ G fun it G1 => ∀ L, G1 L = none → ∃ Pv : Nat → G3 → Prop, Pv 0 (gup G1 L (.dK [])) ∧ (∀ i G', i ≤ it.items.length → Pv i G' → it.ok G') ∧
  (∀ i x G', it.items[i]? = some x → Pv i G' → g x (wipe3 σ vs) G' fun σ2 G2 => tt σ2 G2 fun b G3 => if b = true then tk σ2 G3 fun y G4 => te σ2 G4 fun z G5 => ∃ kvs k, keyOf y = some k ∧ G5 L = some (.dK kvs) ∧ decide (kvs.length ≤ 99999) = true ∧ Wk1 (Pv (i + 1)) (gup G5 L (.dK (put kvs k z))) else Wk1 (Pv (i + 1)) G3) ∧ ∀ G', Pv it.items.length G' → Q (.ref L) G'
theorem dcK_low {K : PySem.W.Frag} {own : List (Str × Nat)} {wi : TI3} {g : TG} {g3 : TG3} {tt : TT3} {tk te : TE3} (hl : GLow K (some (own.map (·.2))) g g3) : ∀ σ H Q, lowE K (dcK3 wi g3 tt tk te (own.map (·.2))) σ H Q → tDc (lowI K wi) g (lowT K tt) (lowE K tk) (lowE K te) (own.map (·.2)) σ H Q := fun σ H Q h => by
  obtain ⟨σ3, G, Q3, hs, hh, ht, hq⟩ := h
  refine ⟨σ3, G, _, hs, hh, ht, fun J H1 it G1 k1 hh1 il q1 => ?_⟩
  intro L hL
  obtain ⟨Pv, p0, pok, pst, pdn⟩ := q1 L (hh1.free hL)
  have kL : Keep H1 (upd H1 L (.dK [])) := Keep.new hL
  have hsw : RepS K H1 (wipe3 σ3 (own.map (·.2))) (wipe σ (own.map (·.2))) := (hs.keep k1).wipe _
  refine ⟨fun i m H' => m = it.items.length - i ∧ i ≤ it.items.length ∧ ∃ G', Keep H1 H' ∧ RepH K G' H' ∧ Pv i G', ⟨_, rfl, Nat.zero_le _, _, kL, hh1.new hL (g := .dK []) ⟨[], upd_same, .nil⟩, p0⟩, ?_⟩
  rintro i m H' ⟨rfl, hi, G', kk, hh', pv⟩
  have okk := pok i G' hi pv
  by_cases hlt : i < it.items.length
  · refine .inr ⟨il.goes i G' H' hlt kk hh' okk, fun H2 => ∃ G2, Keep H1 H2 ∧ RepH K G2 H2 ∧ Pv (i + 1) G2, fun H2 q => ⟨it.items.length - (i + 1), by omega, rfl, hlt, q⟩, fun x H2 y => ?_⟩
    obtain ⟨k2, hh2, w, hw, rw⟩ := il.yields i G' H' x H2 hlt kk hh' okk y
    have kH2 := kk.trans k2
    refine hl _ _ _ _ _ _ _ _ rw (hsw.keep kH2) hh2 (pst i w G' hw pv) fun σ4 H4 σ34 G4 k4 pr hs4 hh4 q4 => ⟨?_, ?_⟩
    · have pr : wipe σ4 (own.map (·.2)) = wipe (wipe σ (own.map (·.2))) (own.map (·.2)) := pr
      rw [pr, wipe_wipe _ σ fun _ h => h]
    · refine ⟨σ34, G4, _, hs4, hh4, q4, fun b H5 b' G5 k5 hh5 eb q5 => ?_⟩
      obtain rfl : b' = b := eb
      have kH5 := (kH2.trans k4).trans k5
      cases b' with
      | false =>
        obtain ⟨G0, z, q5⟩ := q5
        exact ⟨G0, kH5, hh5.less z, q5⟩
      | true =>
        refine ⟨σ34, G5, _, hs4.keep k5, hh5, q5, fun v H6 w6 G6 k6 hh6 r6 q6 => ?_⟩
        refine ⟨σ34, G6, _, hs4.keep (k5.trans k6), hh6, q6, fun v7 H7 w7 G7 k7 hh7 r7 q7 => ?_⟩
        obtain ⟨kvs, k, hk, ha, hz, G0, z, pv'⟩ := q7
        obtain ⟨us, h2, rk⟩ := hh7 _ _ ha
        have e6 : Keep H7 (upd H7 L (.dK (putK us k v7))) := Keep.mut h2 trivial
        exact ⟨us, k, rep_key (r6.keep k7) hk, h2, by rw [← RepK.length rk]; exact sl hz, G0, ((kH5.trans k6).trans k7).trans e6, (hh7.mut h2 trivial (g := .dK (put kvs k w7)) ⟨_, upd_same, RepK.keep e6 (put_rep rk k r7)⟩).less z, pv'⟩
  · have e : i = it.items.length := by omega
    subst e
    exact .inl ⟨il.stops G' H' kk hh' okk, hq _ _ _ _ (k1.trans kk) hh' (.ref _) (pdn _ pv)⟩
theorem e3dcK {kx elt tg iter : Expr} {ifs : List Expr} {scope : Scope} {own : List (Str × Nat)} {wi : TI3} {g : TG} {g3 : TG3} {tt : TT3} {tk : TE3} (hc : X.calm = true) (hN : X.N.Nodup) (hi : PI X tg iter (lowI X.K wi)) (ok : BlkOk X.N X.env.scope scope own) (hl : GLow X.K (some (own.map (·.2))) g g3)
    (hg : ∀ (s : Shared) (H : Hp) (C : Addr) (cl : List (Str × Addr)) (fp : List Addr), PG (X.blk s H scope (compEnvC scope cl C X.env) fp) tg g) (ht : ∀ (s : Shared) (H : Hp) (C : Addr) (cl : List (Str × Addr)) (fp : List Addr), PTs (X.blk s H scope (compEnvC scope cl C X.env) fp) ifs (lowT X.K tt))
    (hk : ∀ (s : Shared) (H : Hp) (C : Addr) (cl : List (Str × Addr)) (fp : List Addr), PE (X.blk s H scope (compEnvC scope cl C X.env) fp) kx (lowE X.K tk))
    (he : ∀ (s : Shared) (H : Hp) (C : Addr) (cl : List (Str × Addr)) (fp : List Addr), PE (X.blk s H scope (compEnvC scope cl C X.env) fp) elt (lowE X.K te)) (hs : ∀ x, foldedSetIterable iter X.env x = pure x := by intro _; rfl) :
    PE X (.DictComp kx elt [⟨tg, iter, ifs, 0⟩] scope pos) (lowE X.K (dcK3 wi g3 tt tk te (own.map (·.2)))) := (pe_dc hc hN hi ok hg ht hk he hs).imp (dcK_low hl)
/-! ### {k: v, ..}, all written -/
def dispK3 (kvs : List (Key × Int)) : TE3 := fun _ G Q => ∀ p, G p = none → Q (.ref p) (gup G p (.dK (kvs.foldl (fun acc kv => put acc kv.1 (.int kv.2)) [])))
theorem merge_rep {K : PySem.W.Frag} {H : Hp} : ∀ (more : List (Key × Int)) {us : List (Key × U)} {vs : List (Key × V)}, RepK K H us vs → RepK K H (more.foldl (fun acc kv => put acc kv.1 (.int kv.2)) us) (mergeK vs (more.map fun kv => (kv.1, V.int kv.2)))
  | [], _, _, r => r
  | p :: more, _, _, r => by
    show RepK K H (more.foldl _ (put _ p.1 (.int p.2))) (mergeK (putK _ p.1 (.int p.2)) (more.map fun kv => (kv.1, V.int kv.2)))
    exact merge_rep more (put_rep r p.1 (.int p.2))
theorem pairs_consts {σ : L2.St} {Q : List (V × V) → Hp → Prop} {H : Hp} : ∀ kvs : List (Key × Int), Q (kvs.map fun kv => (kV kv.1, V.int kv.2)) H → tPairs (kvs.map fun kv => (tC (kV kv.1), tC (V.int kv.2))) σ H Q
  | [], h => h
  | p :: kvs, h => by
    show tPairs (kvs.map fun kv => (tC (kV kv.1), tC (V.int kv.2))) σ H _
    exact pairs_consts kvs h
theorem e3dispK {keys : List (Option Expr)} {values : List Expr} (kvs : List (Key × Int)) (h : PPs X pos keys values (kvs.map fun kv => (tC (kV kv.1), tC (V.int kv.2)))) (h0 : keys ≠ [] := by intro h; cases h) (hall : keys.all (·.isSome) = true := by rfl) (hl : keys.length = values.length := by rfl)
    (h15 : keys.length ≤ 15 := by decide) (hk : kvs.length ≤ 15 := by decide) : PE X (.Dict keys values pos) (lowE X.K (dispK3 kvs)) := (pe_disp h hall hl h0 h15).imp fun σ H Q h => by
  obtain ⟨σ3, G, Q3, hs, hh, ht, hq⟩ := h
  intro p hp
  refine pairs_consts kvs ⟨upd_same, kvs.map fun kv => (kv.1, V.int kv.2), by rw [List.map_map]; rfl, by rw [List.length_map]; exact hk, ?_⟩
  have e : ∀ o, upd (upd H p (.dK [])) p o = upd H p o := fun o => by funext b; unfold upd; split <;> rfl
  rw [e]
  have k1 : Keep H (upd H p (.dK (mergeK [] (kvs.map fun kv => (kv.1, V.int kv.2))))) := Keep.new hp
  exact hq _ _ _ _ k1 (hh.new hp (g := .dK _) ⟨_, upd_same, RepK.keep k1 (merge_rep kvs .nil)⟩) (.ref p) (ht p (hh.free hp))
theorem pp_c {K : Key} {i : Int} {k v : Expr} {ks : List (Option Expr)} {vs : List Expr} {kvs : List (Key × Int)} (hk : PE X k (tC (kV K))) (hv : PE X v (tC (V.int i))) (hr : PPs X pos ks vs (kvs.map fun kv => (tC (kV kv.1), tC (V.int kv.2)))) : PPs X pos (some k :: ks) (v :: vs) (((K, i) :: kvs).map fun kv => (tC (kV kv.1), tC (V.int kv.2))) := pps_cons hk hv hr
/-! ### fields of the caught exception -/
def xfm3 (a : Addr) (cls : Value) (d : Option Addr) (C : Addr) (f : Str) (te : TE3) : TE3 := fun σ G Q => te σ G fun x G1 => x = .ref a ∧ cls = .ref C ∧ ∃ dd fs w, d = some dd ∧ G1 dd = some (.xd fs) ∧ fs.lookup f = some w ∧ Q w G1
theorem e3xfm {a C : Addr} {oe : Obj} {cls : Value} {d : Option Addr} {pn : List (Addr × Obj)} {e : Expr} {te : TE3} {pos : Pos} {n : Str} (T : XfC X.K C) (hno : PySem.W.findIn X.K (.ref C) n = some none) (hz : Zc cls d oe) (hf : ∃ vs, oe.data = .fields vs) (he : PE (X.suite a ((a, oe) :: pn)) e (lowE X.K te)) (hb : attributeBase e n X.env (eval e X.env) = eval e X.env := by rfl) :
    PE (X.suite a ((a, oe) :: pn)) (.Attribute e n pos) (lowE X.K (xfm3 a cls d C n te)) := (pe_xf T hno hz hf he hb).imp fun σ H Q h => by
  obtain ⟨σ3, G, Q3, hs, hh, ht, hq⟩ := h
  refine ⟨σ3, G, _, hs, hh, ht, fun x H1 w G1 k1 hh1 r q1 => ?_⟩
  obtain ⟨rfl, e1, dd, fs, w, e2, eg, hl, q⟩ := q1
  cases r
  obtain ⟨us, eh, rk⟩ := hh1 _ _ eg
  rcases RepK.lookS (f := n) rk with ⟨z, _⟩ | ⟨w', v, z1, z2, rv⟩
  · rw [hl] at z; cases z
  · rw [hl] at z1
    cases z1
    exact ⟨rfl, e1, dd, us, v, e2, eh, z2, hq _ _ _ _ k1 hh1 rv q⟩
/-! ### C(k = e, ..) -/
theorem e3makeK {k : Nat} {f C : Addr} {fd : FuncData} {ps ks : List Str} {sp : Sp3} {x : Str} {p : Pos} {kws : List Keyword} {tk : TA3} {g : List Value → List Value → List Value} {gV : List V → List V → List V} {g3 : List U → List U → List U} (M : Mk X.K C f) (F : FnOk X.prog X.w X.K X.mg X.base (L2N.CX X.prog X.w) k f fd ps (lowSp X.K sp)) (hr : Room (k + 1) X.A) (hm : X.mg x = some (.ref C))
    (hb : KBn X.K fd ps 1 ks g gV) (hg3 : ∀ H ws vs us zs, RepL X.K H ws vs → RepL X.K H us zs → RepL X.K H (g3 ws us) (gV vs zs)) (hkw : PK X kws (lowA X.K tk)) (hg : Gl X x := by rfl)
    (hall : (backToKw pos (keywordEach kws X.env)).all (·.1.isSome) = true := by rfl) (hks : (backToKw pos (keywordEach kws X.env)).filterMap (·.1) = ks := by rfl) (hdb : (x == ("__debug__" : Str)) = false := by decide)
    (hpl : ((backTo pos (starEach [] X.env)).any (·.1) || (backToKw pos (keywordEach kws X.env)).any (·.1.isNone)) = false := by rfl) :
    PE X (.Call (.Name x p) [] kws pos) (lowE X.K (makeK3 C ks.length sp g3 tk)) := (pe_makeK0 M F hr hg hm hb L2N.passN hkw hall hks hdb hpl).imp fun σ H Q h => by
  obtain ⟨σ3, G, Q3, hs, hh, ht, hq⟩ := h
  refine ⟨σ3, G, _, hs, hh, ht, fun zs H2 ws G2 k2 hh2 r2 q2 => ⟨rfl, by rw [← r2.length]; exact of_decide_eq_true q2.1, fun x dx nx ndx ne => ?_⟩⟩
  obtain ⟨k3, hh3⟩ := made_rep (C := C) hh2 nx ndx ne
  refine ⟨_, _, _, no3, hg3 _ _ _ _ _ (.cons (.ref x) .nil) (r2.keep k3), hh3, q2.2 x dx (hh2.free nx) (hh2.free ndx) ne, fun v H' w G' k hh' rv q => ?_, fun c d H' G' k hh' q => q.elim⟩
  obtain ⟨rfl, q⟩ := q
  cases rv
  exact ⟨rfl, hq _ _ _ _ ((k2.trans k3).trans k) hh' (.ref x) q⟩
end
end L3
end
section
set_option Elab.async false
set_option linter.all false
set_option maxRecDepth 100000
set_option maxHeartbeats 4000000
set_option pp.maxSteps 300
set_option pp.deepTerms false
/-! the maker of BadMachine: super().__init__(f'{part} {at}: {why}'), three fields -/
namespace PySem
namespace LowNS
open PySem.W PySem.Calls PyProof.Rows PySem.HandSPX
def bmA : Arguments := { posonlyargs := [], args := [{ arg := "self", annotation := none, pos := ⟨13, 17, 13, 21⟩ }, { arg := "part", annotation := none, pos := ⟨13, 23, 13, 27⟩ }, { arg := "at", annotation := none, pos := ⟨13, 29, 13, 31⟩ }, { arg := "why", annotation := none, pos := ⟨13, 33, 13, 36⟩ }], vararg := none, kwonlyargs := [], kw_defaults := [], kwarg := none, defaults := [] }
abbrev bmE : Expr := .JoinedStr [.FormattedValue (.Name "part" ⟨14, 28, 14, 32⟩) (-1) none ⟨14, 27, 14, 33⟩, .Constant (.str " ") 0 ⟨14, 33, 14, 34⟩, .FormattedValue (.Name "at" ⟨14, 35, 14, 37⟩) (-1) none ⟨14, 34, 14, 38⟩, .Constant (.str ": ") 0 ⟨14, 38, 14, 40⟩, .FormattedValue (.Name "why" ⟨14, 41, 14, 44⟩) (-1) none ⟨14, 40, 14, 45⟩] ⟨14, 25, 14, 46⟩
def bmB : List Stmt := [.Expr (.Call (.Attribute (.Call (.Name "super" ⟨14, 8, 14, 13⟩) [] [] ⟨14, 8, 14, 15⟩) "__init__" ⟨14, 8, 14, 24⟩) [bmE] [] ⟨14, 8, 14, 47⟩) ⟨14, 8, 14, 47⟩,
  .Assign [.Attribute (.Name "self" ⟨15, 8, 15, 12⟩) "part" ⟨15, 8, 15, 17⟩] (.Name "part" ⟨15, 20, 15, 24⟩) ⟨15, 8, 15, 24⟩,
  .Assign [.Attribute (.Name "self" ⟨16, 8, 16, 12⟩) "at" ⟨16, 8, 16, 15⟩] (.Name "at" ⟨16, 18, 16, 20⟩) ⟨16, 8, 16, 20⟩,
  .Assign [.Attribute (.Name "self" ⟨17, 8, 17, 12⟩) "why" ⟨17, 8, 17, 16⟩] (.Name "why" ⟨17, 19, 17, 22⟩) ⟨17, 8, 17, 22⟩]
def bmS : Scope := { kind := .function, names := [(PySem.Str.ofString "self", .local), (PySem.Str.ofString "part", .local), (PySem.Str.ofString "at", .local), (PySem.Str.ofString "why", .local), (PySem.Str.ofString "__class__", .free), (PySem.Str.ofString "super", .globalImplicit)], isGenerator := false, isCoroutine := false, more := [] }
/-- what the written part says of the class, at C, and of its __init__, at fI -/
structure TxtB (prog : Program) (K : Frag) (mg : Str → Option Value) (C fI : Addr) : Prop where
  cls : ∃ nm q N bs bm sn sub ab col dd k0 k1 k2 k3 k5, K.lookup C = some (excClassObj nm q C N bs bm true sn sub ab col dd k0 k1 k2 k3 k5 "ValueError.__new__") ∧ refsVE bm = true
  sa : findIn K (.ref C) "__setattr__" = some (some (.builtin "object.__setattr__"))
  noP : findIn K (.ref C) "part" = some none
  noA : findIn K (.ref C) "at" = some none
  noW : findIn K (.ref C) "why" = some none
  iC : findIn K (.ref C) "__init__" = some (some (.ref fI))
  tC : typeIn K (.ref fI) = some (.type "function")
  kC : keepIn K (.ref C) = true
  exC : subIn K (.ref C) (.type "BaseException") = some true
  tyC : typeIn K (.ref C) = some (.type "type")
  veC : subIn K (.ref C) (.type "ValueError") = some true
  sub : mroIn K C (.ref C) = some true
  sup : ks_superIn K C C "__init__" = some (some (.builtin "ValueError.__init__"))
  opq : nsIn K cStatics "thirdparty.any" = some none
  gS : mg "super" = none
  htop : (prog.main.scope.names.lookup ("super" : Str)).isSome = false
  fn : ∃ (oc : Value) (od : Option Addr) (kV doc pm : Value) (an : Option Addr) (cda : Addr) (ct : Value) (osl : Array (Option Value)) (cc : Addr) (ccl : Value) (cdd : Option Addr) (vs : Array Value) (ccs : Array (Option Value)) (file : Str) (tf : Tok) (cl : Value) (cld : Option Addr) (csl : Array (Option Value)),
    K.lookup fI = some ⟨oc, od, .func (ksFn "__init__" "BadMachine.__init__" bmA bmB bmS .none kV doc pm an (.ref cda) ct cc), osl⟩ ∧ codeIn K (.ref cda) "BadMachine.__init__" = true ∧ K.lookup cda = some ⟨ccl, cdd, .fields vs, ccs⟩ ∧ vs[2]? = some (.str file tf) ∧ ((prog.main.file : Str) == file) = true ∧ K.lookup cc = some ⟨cl, cld, .cell (some (.ref C)), csl⟩
/-- the text that it gives on -/
structure Fit3 (p : Str) (i : Int) (y : Str) : Prop where
  lg : i.natAbs.log2 < 1920
  f1 : (Str.empty ++ p).length ≤ sizeLine
  f2 : (Str.empty ++ p ++ (" " : Str)).length ≤ sizeLine
  f3 : (Str.empty ++ p ++ (" " : Str) ++ (Str.ofString (toString i))).length ≤ sizeLine
  f4 : (Str.empty ++ p ++ (" " : Str) ++ (Str.ofString (toString i)) ++ (": " : Str)).length ≤ sizeLine
  f5 : (Str.empty ++ p ++ (" " : Str) ++ (Str.ofString (toString i)) ++ (": " : Str) ++ y).length ≤ sizeLine
  fp : p.length ≤ sizeLine
  fy : y.length ≤ sizeLine
theorem fit3_of {p : Str} {i : Int} {y : Str} (hp : p.length ≤ 100) (hy : y.length ≤ 100) (hi : i.natAbs < 1000) : Fit3 p i y := by
  have e := int_text_length_le10 (a := i) (k := 3) (by decide) (by show i.natAbs < 10 ^ 3; omega)
  have z0 : (Str.empty ++ p).length = p.length := by rw [strLen_append]; have : Str.empty.length = 0 := rfl; omega
  have z1 : (" " : Str).length = 1 := by decide +kernel
  have z2 : (": " : Str).length = 2 := by decide +kernel
  have l2 : (Str.empty ++ p ++ (" " : Str)).length ≤ 101 := by rw [strLen_append, z0, z1]; omega
  have l3 : (Str.empty ++ p ++ (" " : Str) ++ (Str.ofString (toString i))).length ≤ 110 := by rw [strLen_append, ofString_length]; omega
  have l4 : (Str.empty ++ p ++ (" " : Str) ++ (Str.ofString (toString i)) ++ (": " : Str)).length ≤ 120 := by rw [strLen_append, z2]; omega
  have l5 : (Str.empty ++ p ++ (" " : Str) ++ (Str.ofString (toString i)) ++ (": " : Str) ++ y).length ≤ 220 := by rw [strLen_append]; omega
  have z := sizeLine_eq
  refine ⟨?_, ?_, ?_, ?_, ?_, ?_, by rw [z]; omega, by rw [z]; omega⟩
  · exact Nat.lt_of_le_of_lt (Nat.log2_le_self _) (by omega)
  · rw [z0, z]; omega
  · rw [z]; exact Nat.le_trans l2 (by decide)
  · rw [z]; exact Nat.le_trans l3 (by decide)
  · rw [z]; exact Nat.le_trans l4 (by decide)
  · rw [z]; exact Nat.le_trans l5 (by decide)
def ns3 (vp va vw : Value) : Str → Option Value := fun y => if y = "why" then some vw else if y = "at" then some va else if y = "part" then some vp else none
/-- what __init__ leaves of a fresh exception at x -/
structure InitEnd3 (h h' : Heap) (x C dx t1 : Addr) (P A W : Value → Prop) : Prop where
  keep : ∀ b o, b ≠ x → h.get? b = some o → h'.get? b = some o
  obj : h'.get? x = some { cls := .ref C, dict := some dx, data := .fields #[.ref t1, .none, .none, .none, .bool false, .none] }
  dbig : h.objs.size ≤ dx
  dne : dx ≠ x
  ns : ∃ vp va vw, P vp ∧ A va ∧ W vw ∧ h'.Ns1 dx (ns3 vp va vw)
section
variable {prog : Program} {w : World} {A : Around} {R : Result → Shared → Prop} {s : Shared} {K : Frag} {mg : Str → Option Value} {C fI : Addr}
theorem bm_init (T : TxtB prog K mg C fI) {x t0 : Addr} {p y : Str} {tp ty : Tok} {i : Int} {ti : Tok} (fit : Fit3 p i y) (X : K.In s.heap) (hlim : s.heap.NoLimit) (hgl : s.heap.Ns mainGlobals mg) (hbl : ∃ mb, s.heap.Ns builtinsNs mb ∧ ∀ x : Str, x ≠ "__name__" → mb x = bootBuiltins x)
    (hx : s.heap.get? x = some (excO C t0)) (hnx : K.lookup x = none) (hroom : A.depth < recursionLimit)
    (hq : ∀ h' tk dx t1, InitEnd3 s.heap h' x C dx t1 (· = .str p tp) (· = .int i ti) (· = .str y ty) → R (.ok (.ret .none)) { s with heap := h', toks := tk }) :
    codeAny (model prog w) A (.call (.ref fI) ⟨[.ref x, .str p tp, .int i ti, .str y ty], []⟩) R s := by
  obtain ⟨oc, od, kV, doc, pm, an, cda, ct, osl, cc, ccl, cdd, vs, ccs, file, tf, cl, cld, csl, ho, hcd, hcode, hvs, hfile, hcell⟩ := T.fn
  obtain ⟨nm, q, N, bs, bm, sn, sub, ab, col, dd, k0, k1, k2, k3, k5, hC, hbm⟩ := T.cls
  have hcl : clsIn K C = some { name := nm, bases := bs, mro := .ref C :: bm, ns := N, qualname := q, hasDict := true, slotNames := sn, subclasses := sub, abstract := ab, collection := col, hasDel := false } := by unfold clsIn; rw [hC] <;> rfl
  refine ks_codeAny_call_defAt (fd := ksFn "__init__" "BadMachine.__init__" bmA bmB bmS .none kV doc pm an (.ref cda) ct cc) (binds := [("self", .ref x), ("part", .str p tp), ("at", .int i ti), ("why", .str y ty)]) hroom (X _ _ ho) rfl hlim (codeRec_of X hcd) rfl (BindsTo.of_eq (by first | rfl | with_unfolding_all rfl)) (show ∀ x ∈ bmS.names, x.2 ≠ .cell by decide) (fun y hy => by
    rcases List.mem_cons.mp hy with rfl | hy
    · rfl
    rcases List.mem_cons.mp hy with rfl | hy
    · rfl
    rcases List.mem_cons.mp hy with rfl | hy
    · rfl
    · rw [List.mem_singleton.mp hy]; rfl) (fun h₁ hns k => ?_)
  have X₁ : K.In h₁ := X.keeps k
  have hx₁ := k _ _ hx
  have hxL : x ≠ s.heap.objs.size := Nat.ne_of_lt (Heap.lt_size hx)
  have hxC : x ≠ C := fun e => by
    have := X _ _ hC
    rw [← e, hx] at this
    cases this
  obtain ⟨mb, hb1, hb2⟩ := hbl
  obtain ⟨hp, g, d, tk, os⟩ := s
  refine ks_wpAt_execs_cons (ks_wpAt_Expr_any (ks_wpAt_MethodCall ?_))
  refine ks_wpAt_super_base (f := fI) (cc := cda) rfl rfl (by decide) rfl (X₁ _ _ ho) rfl rfl rfl (X₁ _ _ hcode) rfl hvs hfile T.htop ?_
  refine ks_loadName_global rfl rfl (Calls.loadGlobal_builtin (hgl.keeps k) T.gS (hb1.keeps k) ((hb2 _ (by decide)).trans (by decide +kernel)) ⟨rfl, ?_⟩)
  refine wpAny_loadName_free rfl rfl rfl ⟨_, X₁ _ _ hcell, rfl⟩ ?_
  refine wpAny_loadName_local rfl rfl hns (by first | rfl | with_unfolding_all rfl | kernel_rfl) ?_
  obtain ⟨oD, hD1, hD2⟩ : ∃ oD, h₁.get? C = some oD ∧ ∃ cd, oD.data = .cls cd := ⟨_, X₁ _ _ hC, _, rfl⟩
  obtain ⟨cdD, hD2⟩ := hD2
  refine ks_wpAny_isType_cls hD1 hD2 ⟨rfl, ?_⟩
  refine ks_wpAny_call_super hD1 hD2 hx₁ rfl (fun c e => by cases e) (looks_mroIn X₁ T.sub) (fun h₂ hso k₂ => ?_)
  have X₂ : K.In h₂ := X₁.keeps k₂
  have hx₂ := k₂ _ _ hx₁
  have hz₂ : h₁.objs.size < h₂.objs.size := Heap.lt_size hso
  have I₂ : InstAt h₂ x (excO C t0) C none := ⟨hx₂, rfl, rfl, trivial⟩
  have hsup := T.sup
  unfold ks_superIn at hsup
  rw [hcl] at hsup
  have hI : Looks (model prog w) h₂ (isInstance (.ref x) (.type "ValueError")) true := I₂.type.andThen (looks_subIn X₂ T.veC)
  refine kxs_getMethod kxs_ValueError hso (looks_opaque X₂ T.opq) ((looks_clsIn X₂ hcl).andThen .now) rfl X₂ hsup hI hxC (by decide) ?_
  have hu : (h₂.push (kxs_mw "ValueError.__init__" x)).get? h₂.objs.size = some (kxs_mw "ValueError.__init__" x) := Heap.get?_push_at rfl rfl
  have k₃ : ∀ b o, h₂.get? b = some o → (h₂.push (kxs_mw "ValueError.__init__" x)).get? b = some o := fun b o e => Heap.get?_push_of_some _ e
  refine kxs_callWith (i := "ValueError.__init__") (x := x) (by rfl) (evalArgs_plain ?_)
  have k23 : ∀ b o, h₁.get? b = some o → (h₂.push (kxs_mw "ValueError.__init__" x)).get? b = some o := fun b o e => k₃ _ _ (k₂ _ _ e)
  have hns₃ := hns.at (h' := h₂.push (kxs_mw "ValueError.__init__" x)) fun o e => k23 _ o e
  refine Calls.spliced_cons (wpAny_JoinedStr (v₁ := .FormattedValue (.Name "part" ⟨14, 28, 14, 32⟩) (-1) none ⟨14, 27, 14, 33⟩) (v₂ := .Constant (.str " ") 0 ⟨14, 33, 14, 34⟩) (rest := [.FormattedValue (.Name "at" ⟨14, 35, 14, 37⟩) (-1) none ⟨14, 34, 14, 38⟩, .Constant (.str ": ") 0 ⟨14, 38, 14, 40⟩, .FormattedValue (.Name "why" ⟨14, 41, 14, 44⟩) (-1) none ⟨14, 40, 14, 45⟩]) (pos := ⟨14, 25, 14, 46⟩) ?_)
  refine wpAny_FormattedValue_plain (ldC (v := .str p tp) hns₃ (by first | rfl | with_unfolding_all rfl | kernel_rfl) ?_)
  refine wpAny_formatField_str (hx := fit.fp) ?_ ?_
  all_goals
    refine ⟨_, _, rfl, fit.f1, ?_⟩
    refine wpAny_Constant_str (k := 0) (pos := ⟨14, 33, 14, 34⟩) ⟨_, _, rfl, fit.f2, ?_⟩
    refine wpAny_FormattedValue_plain (ldC (v := .int i ti) hns₃ (by first | rfl | with_unfolding_all rfl | kernel_rfl) (wpAny_formatField_int fit.lg ⟨_, _, rfl, fit.f3, ?_⟩))
    refine wpAny_Constant_str (k := 0) (pos := ⟨14, 38, 14, 40⟩) ⟨_, _, rfl, fit.f4, ?_⟩
    refine wpAny_FormattedValue_plain (ldC (v := .str y ty) hns₃ (by first | rfl | with_unfolding_all rfl | kernel_rfl) ?_)
    refine wpAny_formatField_str (hx := fit.fy) ?_ ?_
    all_goals
      refine ⟨_, _, rfl, fit.f5, ?_⟩
      refine ⟨fit.f5, Calls.spliced_nil ⟨hu, ?_⟩⟩
      refine call_mw (k₃ _ _ (k₂ _ _ (X₁ _ _ hC))) (k₃ _ _ hx₂) hu (by rw [sizeLine_eq]; exact (by decide : 1 ≤ 16777216)) fun h₄ t1 k₄ hx₄ hz₄ => ?_
      have kA : ∀ b o, b ≠ x → h₁.get? b = some o → h₄.get? b = some o := fun b o hb e => k₄ b o hb (k₃ _ _ (k₂ _ _ e))
      have X₄ : K.In h₄ := fun a o e => kA a o (fun z => by rw [z, hnx] at e; cases e) (X₁ a o e)
      have hns₄ := hns.at (h' := h₄) fun o e => kA _ o hxL.symm e
      have z1 : hp.objs.size < h₁.objs.size := hns.lt
      have z3 : h₂.objs.size ≤ (h₂.push (kxs_mw "ValueError.__init__" x)).objs.size := by rw [Heap.size_push]; exact Nat.le_succ _
      show wpAt _ _ _ (execs _ _) _ _ _
      refine wpAt_of_wpAny (wpAny_execs_cons (plainObj_wpAny_Assign_Attribute ?_))
      refine ldC (v := .str p tp) hns₄ (by first | rfl | with_unfolding_all rfl | kernel_rfl) (ldC (v := .ref x) hns₄ (by first | rfl | with_unfolding_all rfl | kernel_rfl) ?_)
      refine set_plain X₄ (ox := excO C t1) (od := none) ⟨hx₄, rfl, rfl, trivial⟩ T.sa ?_
      refine exc_osa X₄ hx₄ hcl (show refsVE (.ref C :: bm) = true from hbm) rfl T.noP (fun h₅ tk₅ dx k₅ dn dne hx₅ hn₅ => ?_)
      have X₅ : K.In h₅ := fun a o e => k₅ a o (fun z => by rw [z, hnx] at e; cases e) (X₄ a o e)
      have hnd : K.lookup dx = none := by
        cases e : K.lookup dx with
        | none => rfl
        | some o => exact absurd (Heap.lt_size (X₄ _ _ e)) (Nat.not_lt.mpr dn)
      have hdL : dx ≠ hp.objs.size := fun e => by
        have := Nat.le_trans (Nat.le_trans (Nat.le_of_lt hz₂) z3) (Nat.le_trans hz₄ dn)
        omega
      have hns₅ := hns₄.at (h' := h₅) fun o e => k₅ _ o hxL.symm e
      have hw₅ : Within (fun y => if y = "part" then some (Value.str p tp) else none) ["part"] := Within.cons "part" (Value.str p tp) Within.nil
      obtain ⟨oD, esD, epD, hoD, _⟩ := hn₅.count hw₅
      show wpAny _ _ (execs _ _) _ _ _
      refine wpAny_execs_cons (plainObj_wpAny_Assign_Attribute ?_)
      refine ldC (v := .int i ti) hns₅ (by first | rfl | with_unfolding_all rfl | kernel_rfl) (ldC (v := .ref x) hns₅ (by first | rfl | with_unfolding_all rfl | kernel_rfl) ?_)
      refine set_plain X₅ (ox := { cls := .ref C, dict := some dx, data := .fields #[.ref t1, .none, .none, .none, .bool false, .none] }) (od := some oD) ⟨hx₅, rfl, rfl, hoD⟩ T.sa ?_
      refine OEX.osa_old X₅ hx₅ hn₅ hw₅ (by decide) hcl (show refsVE (.ref C :: bm) = true from hbm) rfl T.noA (fun h₆ tk₆ k₆ hn₆ => ?_)
      have X₆ : K.In h₆ := fun a o e => k₆ a o (fun z => by rw [z, hnd] at e; cases e) (X₅ a o e)
      have hx₆ := k₆ _ _ dne.symm hx₅
      have hns₆ := hns₅.at (h' := h₆) fun o e => k₆ _ o hdL.symm e
      have hw₆ := Within.cons "at" (Value.int i ti) hw₅
      obtain ⟨oD2, esD2, epD2, hoD2, _⟩ := hn₆.count hw₆
      show wpAny _ _ (execs _ _) _ _ _
      refine wpAny_execs_cons (plainObj_wpAny_Assign_Attribute ?_)
      refine ldC (v := .str y ty) hns₆ (by first | rfl | with_unfolding_all rfl | kernel_rfl) (ldC (v := .ref x) hns₆ (by first | rfl | with_unfolding_all rfl | kernel_rfl) ?_)
      refine set_plain X₆ (ox := { cls := .ref C, dict := some dx, data := .fields #[.ref t1, .none, .none, .none, .bool false, .none] }) (od := some oD2) ⟨hx₆, rfl, rfl, hoD2⟩ T.sa ?_
      refine OEX.osa_old X₆ hx₆ hn₆ hw₆ (by decide) hcl (show refsVE (.ref C :: bm) = true from hbm) rfl T.noW (fun h₇ tk₇ k₇ hn₇ => ?_)
      show wpAny _ _ (execs _ _) _ _ _
      exact wpAny_execs_nil (hq h₇ tk₇ dx t1 ⟨fun b o hb e => by
        have hbd : b ≠ dx := fun z => by
          have h1 := Heap.lt_size e
          have h2 := Nat.le_trans (Nat.le_of_lt z1) (Nat.le_trans (Nat.le_of_lt hz₂) (Nat.le_trans z3 (Nat.le_trans hz₄ dn)))
          rw [z] at h1
          exact absurd h1 (Nat.not_lt.mpr h2)
        exact k₇ b o hbd (k₆ b o hbd (k₅ b o hb (kA b o hb (k b o e)))), k₇ _ _ dne.symm hx₆, Nat.le_trans (Nat.le_of_lt z1) (Nat.le_trans (Nat.le_of_lt hz₂) (Nat.le_trans z3 (Nat.le_trans hz₄ dn))), dne, _, _, _, rfl, rfl, rfl, hn₇⟩)
/-- a made one -/
structure OwnMade3 (h h' : Heap) (e C d : Addr) (P A W : Value → Prop) : Prop where
  keep : ∀ b o, h.get? b = some o → h'.get? b = some o
  new : h.objs.size ≤ e
  obj : ∃ oe vs, h'.get? e = some oe ∧ oe.cls = .ref C ∧ oe.dict = some d ∧ oe.data = .fields vs ∧ vs[1]? = some .none
  dbig : h.objs.size ≤ d
  dne : d ≠ e
  ns : ∃ vp va vw, P vp ∧ A va ∧ W vw ∧ h'.Ns1 d (ns3 vp va vw)
theorem three_size (u v w : Value) : [u, v, w].length ≤ sizeLine := by
  rw [sizeLine_eq]
  exact (by decide : 3 ≤ 16777216)
theorem bm_madeN (T : TxtB prog K mg C fI) {p y : Str} {tp ty : Tok} {i : Int} {ti : Tok} (fit : Fit3 p i y) (X : K.In s.heap) (hlim : s.heap.NoLimit) (hgl : s.heap.Ns mainGlobals mg) (hbl : ∃ mb, s.heap.Ns builtinsNs mb ∧ ∀ x : Str, x ≠ "__name__" → mb x = bootBuiltins x) (hroom : A.depth + 1 < recursionLimit)
    (hq : ∀ h' tk e d, OwnMade3 s.heap h' e C d (· = .str p tp) (· = .int i ti) (· = .str y ty) → (∀ oe vs, h'.get? e = some oe → oe.data = .fields vs → vs[2]? = some .none) → R (.ok (.ret (.ref e))) { s with heap := h', toks := tk }) :
    codeAny (model prog w) A (.call (.ref C) ⟨[.str p tp, .int i ti, .str y ty], []⟩) R s := by
  obtain ⟨nm, q, N, bs, bm, sn, sub, ab, col, dd, k0, k1, k2, k3, k5, hC, hbm⟩ := T.cls
  obtain ⟨hp, g, dr, tk, os⟩ := s
  have k : ∀ b o, hp.get? b = some o → ((hp.push (kdv_tup [.str p tp, .int i ti, .str y ty])).push (excO C hp.objs.size)).get? b = some o := fun b o e => Heap.get?_push_of_some _ (Heap.get?_push_of_some _ e)
  have hget : ((hp.push (kdv_tup [.str p tp, .int i ti, .str y ty])).push (excO C hp.objs.size)).get? (hp.objs.size + 1) = some (excO C hp.objs.size) := by heap_get
  have hnx : K.lookup (hp.objs.size + 1) = none := by
    cases e : K.lookup (hp.objs.size + 1) with
    | none => rfl
    | some o =>
      have z : hp.get? (hp.objs.size + 1) = some o := X _ _ e
      exact absurd (Nat.lt_of_succ_lt (Heap.lt_size z)) (Nat.lt_irrefl _)
  obtain ⟨mb, hb1, hb2⟩ := hbl
  refine call_own F.excBase_ValueError (fun X => refsVE_contains X bm hbm) (X _ _ hC) (looks_findIn X T.iC) (fun self => bind_fn X self T.tC) (three_size _ _ _) ?_
  refine bm_init (fit := fit) (s := ⟨(hp.push (kdv_tup [.str p tp, .int i ti, .str y ty])).push (excO C hp.objs.size), g, dr, tk, os⟩) T (X.keeps k) (hlim.keeps k) (hgl.keeps k) ⟨mb, hb1.keeps k, hb2⟩ hget hnx ?_ fun h' tk' dx t1 ⟨k', hx, dn, dne, hns⟩ => ?_
  · show A.depth + 1 < recursionLimit
    exact hroom
  · have old : ∀ b o, hp.get? b = some o → h'.get? b = some o := fun b o e => k' b o (Nat.ne_of_lt (Nat.lt_succ_of_lt (Heap.lt_size e))) (k b o e)
    have z : hp.objs.size + 1 + 1 ≤ dx := by
      first
        | (simpa only [Heap.size_push] using dn)
        | exact dn
        | (have q := dn; rw [Heap.size_push, Heap.size_push] at q; exact q)
    exact ⟨rfl, hq h' tk' (hp.objs.size + 1) dx ⟨old, Nat.le_succ _, ⟨_, _, hx, rfl, rfl, rfl, rfl⟩, Nat.le_trans (Nat.le_trans (Nat.le_succ _) (Nat.le_succ _)) z, dne, hns⟩ fun oe vs he ev => by
      have q := he.symm.trans hx
      cases q
      cases ev
      rfl⟩
end
end LowNS
end PySem
end
section
set_option Elab.async false
set_option linter.all false
set_option maxRecDepth 100000
set_option maxHeartbeats 4000000
/-! raise BadMachine(part, at, why) -/
namespace L2
open PySem PySem.Spec PyProof.Rows
theorem relO_three {p y : Str} {i : Int} {tp ty : Tok} {ti : Tok} (f : Str) : RelO (List.lookup f [(("why" : Str), V.str y), ("at", V.int i), ("part", V.str p)]) (PySem.LowNS.ns3 (.str p tp) (.int i ti) (.str y ty) f) := by
  unfold PySem.LowNS.ns3
  by_cases h1 : f = "why"
  · subst h1
    rw [if_pos rfl]
    exact ⟨ty, rfl⟩
  rw [if_neg h1]
  have b1 : (f == ("why" : Str)) = false := by simpa using h1
  by_cases h2 : f = "at"
  · subst h2
    rw [if_pos rfl]
    simp only [List.lookup, b1]
    exact ⟨ti, rfl⟩
  rw [if_neg h2]
  have b2 : (f == ("at" : Str)) = false := by simpa using h2
  by_cases h3 : f = "part"
  · subst h3
    rw [if_pos rfl]
    simp only [List.lookup, b1, b2]
    exact ⟨tp, rfl⟩
  rw [if_neg h3]
  have b3 : (f == ("part" : Str)) = false := by simpa using h3
  simp only [List.lookup, b1, b2, b3]
  trivial
def tMkB (C : Addr) (ta : TA) : St → Hp → XK → Prop := fun σ H Q => ta σ H fun vs H1 => ∃ (p : Str) (i : Int) (y : Str), PySem.LowNS.Fit3 p i y ∧ vs = [.str p, .int i, .str y] ∧ ∀ d, H1 d = none → Q (.ref C) (some d) (upd H1 d (.xd [("why", .str y), ("at", .int i), ("part", .str p)]))
end L2
namespace L2N
open PySem PySem.Spec PyProof.Rows L2
section
variable {X : Cx} {C fI : Addr}
theorem pmk_bm {a : Expr} {es : List Expr} {ta : TA} {p pos : Pos} {k : Nat} (T : PySem.LowNS.TxtB X.prog X.K X.mg C fI) (gC : X.mg "BadMachine" = some (.ref C)) (hr : Room k X.A) (ha : PA X (a :: es) ta) (hg : Gl X "BadMachine" := by rfl)
    (he : starEach (a :: es) X.env = (false, eval a X.env) :: starEach es X.env := by rfl) (hpl : (backTo pos (starEach es X.env)).any (·.1) = false := by rfl) :
    L2N.PMk X (.Call (.Name "BadMachine" p) (a :: es) [] pos) (tMkB C ta) := by
  intro pins s σ H Q I h
  refine wpAny_Call_Name_kw (ld_glob I hg gC ?_)
  refine PySem.W.callWith_K (h₀ := X.base) I.ok.mod.kin T.kC (thn (ha.run pos pins s σ H _ I h) fun us s1 hh => ?_) he hpl
  obtain ⟨vs, H1, I1, r1, zp, i, zy, fit, ev, q1⟩ := hh
  subst ev
  refine ⟨I1.kIn, ?_⟩
  cases r1 with
  | cons rp rn =>
    cases rn with
    | cons ri rn =>
      cases rn with
      | cons ry rn =>
        cases rn
        obtain ⟨tp, rfl⟩ := rp
        obtain ⟨ti, rfl⟩ := ri
        obtain ⟨ty, rfl⟩ := ry
        show wpAny _ _ (call (.ref C) [.str zp tp, .int i ti, .str zy ty]) _ _ _
        have hlim := I1.nolimit
        have hgl := I1.mod.glob.keeps I1.bk
        obtain ⟨mb, hb1, hb2⟩ := I1.mod.blt
        have hbl : ∃ mb, s1.heap.Ns builtinsNs mb ∧ ∀ x : Str, x ≠ "__name__" → mb x = bootBuiltins x := ⟨mb, hb1.keeps I1.bk, hb2⟩
        obtain ⟨hp, g, dr, tk, os⟩ := s1
        refine wpAny_call (PySem.LowNS.bm_madeN T fit I1.kIn hlim hgl hbl (by have := hr.dp; omega) fun h' tk' e d M ctx => ?_)
        show L2N.MkP X pins σ Q (.ref e) ⟨h', g, dr, tk', os⟩
        obtain ⟨oe, fv, hoe, hc, hd, hdat, h1⟩ := M.obj
        obtain ⟨vp, va, vw, rfl, rfl, rfl, hns⟩ := M.ns
        obtain ⟨G', g1, g2⟩ := restrict h' fun b => decide (b ≠ e)
        have gk : ∀ b, b ≠ e → G'.get? b = h'.get? b := fun b hb => g1 b (decide_eq_true hb)
        have ge : G'.get? e = none := g2 e (by simp)
        have old : ∀ b o, hp.get? b = some o → G'.get? b = some o := fun b o q => (gk b (Nat.ne_of_lt (Nat.lt_of_lt_of_le (Heap.lt_size q) M.new))).trans (M.keep b o q)
        have ob : ObjOk X.prog X.w (upd H1 d (.xd [(("why" : Str), V.str zy), ("at", V.int i), ("part", V.str zp)])) G' d (.xd [(("why" : Str), V.str zy), ("at", V.int i), ("part", V.str zp)]) :=
          ⟨_, hns.at (fun o q => (gk d M.dne).trans q), fun f => relO_three f⟩
        have J : Inv X pins σ (upd H1 d (.xd [(("why" : Str), V.str zy), ("at", V.int i), ("part", V.str zp)])) ⟨G', g, dr, tk', os⟩ := I1.laid (t' := tk') old M.dbig ob
        refine ⟨e, oe, fv, ⟨G', g, dr, tk', os⟩, _, .ref C, some d, rfl, J, fun b o q => ?_, ge, hoe, ⟨hc, hd, fun vs ev => ctx oe vs hoe ev⟩, hdat, h1, ?_, rfl, I1.bare, raises_own T.exC T.tyC, q1 d (I1.hok.fresh M.dbig)⟩
        · by_cases hb : b = e
          · have q' : G'.get? b = some o := q
            rw [hb, ge] at q'; cases q'
          · exact (gk b hb).symm.trans q
        · rw [upd_ne (Ne.symm M.dne)]
          exact I1.hok.fresh M.new
end
end L2N
namespace L3
open PySem L2
section
variable {X : Cx} {W : WX}
def xB (p : Str) (i : Int) (y : Str) : GO := .xd [("why", .str y), ("at", .int i), ("part", .str p)]
def raiseB3 (C : Addr) (ta : TA3) : TS3 := fun D σ G => ta σ G fun ws G1 => ∃ (p : Str) (i : Int) (y : Str), PySem.LowNS.Fit3 p i y ∧ ws = [.str p, .int i, .str y] ∧ ∀ d, G1 d = none → D.ex (.ref C) (some d) σ (gup G1 d (xB p i y))
theorem s_raiseBM {C fI : Addr} {a : Expr} {es : List Expr} {ta : TA3} {p pos pos2 : Pos} {k : Nat} (hc : X.calm = true) (T : PySem.LowNS.TxtB X.prog X.K X.mg C fI) (gC : X.mg "BadMachine" = some (.ref C)) (hr : Room k X.A) (tk : L2N.Takes X W) (ha : PA X (a :: es) (lowA X.K ta)) (hg : Gl X "BadMachine" := by rfl)
    (he : starEach (a :: es) X.env = (false, eval a X.env) :: starEach es X.env := by rfl) (hpl : (backTo pos (starEach es X.env)).any (·.1) = false := by rfl) :
    PS X (.Raise (some (.Call (.Name "BadMachine" p) (a :: es) [] pos)) none pos2) (lowS X.K W (raiseB3 C ta)) := (L2N.ps_raise hc tk (L2N.pmk_bm T gC hr ha hg he hpl)).imp fun D σ H h => by
  obtain ⟨σ3, G, D3, hs, hh, ht, hle⟩ := h
  refine ⟨σ3, G, _, hs, hh, ht, fun vs H1 ws G1 k1 hh1 r q1 => ?_⟩
  obtain ⟨zp, i, zy, fit, rfl, q1⟩ := q1
  cases r with
  | cons r1 r2 =>
    cases r1
    cases r2 with
    | cons r3 r4 =>
      cases r3
      cases r4 with
      | cons r5 r6 =>
        cases r5
        cases r6
        refine ⟨zp, i, zy, fit, rfl, fun d hd => ?_⟩
        have kd : Keep H1 (upd H1 d (.xd [(("why" : Str), V.str zy), ("at", V.int i), ("part", V.str zp)])) := Keep.new hd
        exact hle.ex _ _ _ _ _ _ (k1.trans kd) (hs.keep (k1.trans kd)) (hh1.new hd (g := xB zp i zy) ⟨_, upd_same, .cons ⟨rfl, .str zy⟩ (.cons ⟨rfl, .int i⟩ (.cons ⟨rfl, .str zp⟩ .nil))⟩) (q1 d (hh1.free hd))
end
end L3
end
section
set_option Elab.async false
set_option linter.all false
set_option maxRecDepth 100000
set_option maxHeartbeats 2000000
/-! the words of law k20 -/
namespace K20
open PySem L2 L3
def topS (i : Nat) : Stmt := PySem.Challenge.pw_liveplaces_k20_machine_first_fault.main.body.getD i (.Pass ⟨0, 0, 0, 0⟩)
def clsS (i j : Nat) : Stmt := match topS i with
  | .ClassDef (body := b) .. => b.getD j (.Pass ⟨0, 0, 0, 0⟩)
  | s => s
/-- no built-in name is written over -/
structure Tg (mg : Str → Option Value) : Prop where
  len : mg "len" = none
  list : mg "list" = none
  tuple : mg "tuple" = none
  range : mg "range" = none
  enumerate : mg "enumerate" = none
  int : mg "int" = none
  abs : mg "abs" = none
  sum : mg "sum" = none
  all : mg "all" = none
  any : mg "any" = none
  isinstance : mg "isinstance" = none
  bool : mg "bool" = none
  str : mg "str" = none
/-- a def of the text, with its promise -/
structure Own (P : Program) (w : World) (K : PySem.W.Frag) (mg : Str → Option Value) (base : Heap) (k : Nat) (x : Str) (ps : List Str) (sp : Sp3) (f : Addr) (fd : FuncData) : Prop where
  G : FnOk P w K mg base CX0 k f fd ps (lowSp K sp)
  g : mg x = some (.ref f)
  kp : PySem.W.keepIn K (.ref f) = true
  b : Binds K fd ps []
/-! ### patterns -/
inductive Pt where
  | a (x : Str)
  | l (lo hi : Int)
  | o (op : Str) (subs : List Pt)
mutual
def uP : Pt → U
  | .a x => .str x
  | .l lo hi => .tup [.str "lit", .int lo, .int hi]
  | .o op subs => .tup (.str op :: uPs subs)
def uPs : List Pt → List U
  | [] => []
  | p :: ps => uP p :: uPs ps
end
theorem uPs_map : ∀ ps : List Pt, uPs ps = ps.map uP
  | [] => rfl
  | p :: ps => by rw [uPs, List.map_cons, uPs_map ps]
/-- its texts are texts, its depth is at most n -/
def wp : Nat → Pt → Bool
  | _, .a x => PySem.PyData.strOk x
  | _, .l _ _ => true
  | 0, .o _ _ => false
  | n + 1, .o op subs => PySem.PyData.strOk op && decide (op ≠ "lit") && decide (subs.length ≤ 6) && subs.all (wp n)
theorem lay_lit : (pd (U.str "lit")).canLay0 = true := by decide +kernel
theorem wp_lay : ∀ (n : Nat) (p : Pt), wp n p = true → noref (uP p) = true ∧ (pd (uP p)).canLay0 = true ∧ (pd (uP p)).depth ≤ n + 1
  | n, .a x, h => by
    refine ⟨by rw [uP]; rfl, ?_, by rw [uP]; exact Nat.zero_le _⟩
    have h : PySem.PyData.strOk x = true := by cases n <;> exact h
    rw [uP]; exact h
  | n, .l lo hi, h => by
    refine ⟨by rw [uP]; rfl, ?_, ?_⟩
    · rw [uP]
      show ((pd (U.str "lit")).canLay0 && ((PyData.int lo).canLay0 && ((PyData.int hi).canLay0 && true))) = true
      rw [lay_lit]
      simp [PyData.canLay0]
    · rw [uP]
      show max (0 : Nat) (max 0 (max 0 0)) + 1 ≤ n + 1
      omega
  | 0, .o op subs, h => by cases h
  | n + 1, .o op subs, h => by
    unfold wp at h
    simp only [Bool.and_eq_true, decide_eq_true_eq] at h
    obtain ⟨⟨⟨h1, h2⟩, h3⟩, h4⟩ := h
    have key : ∀ l : List Pt, l.all (wp n) = true → norefL (uPs l) = true ∧ PyData.canLayAll0 (pdL (uPs l)) = true ∧ PyData.depthAll (pdL (uPs l)) ≤ n + 1 := by
      intro l
      induction l with
      | nil => intro _; exact ⟨rfl, rfl, Nat.zero_le _⟩
      | cons p l ih =>
        intro h
        rw [List.all_cons, Bool.and_eq_true] at h
        obtain ⟨a, b, c⟩ := wp_lay n p h.1
        obtain ⟨a', b', c'⟩ := ih h.2
        rw [uPs]
        refine ⟨by rw [norefL, a, a']; rfl, by rw [pdL, PyData.canLayAll0, b, b']; rfl, ?_⟩
        rw [pdL, PyData.depthAll]
        omega
    obtain ⟨a, b, c⟩ := key subs h4
    rw [uP]
    refine ⟨?_, ?_, ?_⟩
    · show (true && norefL (uPs subs)) = true
      rw [a]; rfl
    · show (PySem.PyData.strOk op && PyData.canLayAll0 (pdL (uPs subs))) = true
      rw [b, h1]; rfl
    · show max 0 (PyData.depthAll (pdL (uPs subs))) + 1 ≤ n + 1 + 1
      omega
theorem dat_of {x : U} (a : noref x = true) (b : (pd x).canLay0 = true) (c : (pd x).depth ≤ 64) : dat x = true := by
  unfold dat SeqAt.shaped
  rw [a, b, decide_eq_true c]; rfl
theorem dat_P {n : Nat} {p : Pt} (h : wp n p = true) (hn : n ≤ 20) : dat (uP p) = true := by
  obtain ⟨a, b, c⟩ := wp_lay n p h
  exact dat_of a b (by omega)
theorem dat_s {x : Str} (h : PySem.PyData.strOk x = true) : dat (.str x) = true := dat_of rfl h (Nat.zero_le _)
theorem lays_map {α : Type} (f : α → U) (P : α → Prop) (n : Nat) (h : ∀ x, P x → noref (f x) = true ∧ (pd (f x)).canLay0 = true ∧ (pd (f x)).depth ≤ n) : ∀ xs : List α, (∀ x ∈ xs, P x) → norefL (xs.map f) = true ∧ PyData.canLayAll0 (pdL (xs.map f)) = true ∧ PyData.depthAll (pdL (xs.map f)) ≤ n
  | [], _ => ⟨rfl, rfl, Nat.zero_le _⟩
  | x :: xs, hx => by
    obtain ⟨a, b, c⟩ := h x (hx x List.mem_cons_self)
    obtain ⟨a', b', c'⟩ := lays_map f P n h xs fun y hy => hx y (List.mem_cons_of_mem _ hy)
    rw [List.map_cons]
    refine ⟨by rw [norefL, a, a']; rfl, by rw [pdL, PyData.canLayAll0, b, b']; rfl, ?_⟩
    rw [pdL, PyData.depthAll]
    omega
theorem dat_Ps {n : Nat} {ps : List Pt} (h : ∀ p ∈ ps, wp n p = true) (hn : n ≤ 20) : dat (.lit (ps.map uP)) = true := by
  obtain ⟨a, b, c⟩ := lays_map uP (fun p => wp n p = true) (n + 1) (wp_lay n) ps h
  refine dat_of a b ?_
  show PyData.depthAll (pdL (ps.map uP)) + 1 ≤ 64
  omega
theorem dat_Ss {xs : List Str} (h : ∀ x ∈ xs, PySem.PyData.strOk x = true) : dat (.lit (xs.map U.str)) = true := by
  obtain ⟨a, b, c⟩ := lays_map U.str (fun x => PySem.PyData.strOk x = true) 0 (fun x hx => ⟨rfl, hx, Nat.le_refl _⟩) xs h
  refine dat_of a b ?_
  show PyData.depthAll (pdL (xs.map U.str)) + 1 ≤ 64
  omega
theorem eq3_s (x y : Str) : eq3 (.str x) (.str y) = (x == y) := rfl
theorem any_s (x : Str) : ∀ xs : List Str, ((xs.map U.str).any fun z => eq3 z (.str x)) = decide (x ∈ xs)
  | [] => rfl
  | y :: ys => by
    rw [List.map_cons, List.any_cons, any_s x ys, eq3_s]
    by_cases h : y = x
    · subst h; simp
    · have h' : ¬ x = y := fun z => h z.symm
      simp [h, h']
/-! ### tiles -/
structure Tile where
  w : Str
  p : Pt
  b : Int
  t : Int
def uT (t : Tile) : U := .tup [.str t.w, uP t.p, .int t.b, .int t.t]
structure OkT (t : Tile) : Prop where
  w : PySem.PyData.strOk t.w = true
  wl : t.w.length ≤ 100
  p : wp 5 t.p = true
theorem lay_T {t : Tile} (h : OkT t) : noref (uT t) = true ∧ (pd (uT t)).canLay0 = true ∧ (pd (uT t)).depth ≤ 9 := by
  obtain ⟨a, b, c⟩ := wp_lay 5 t.p h.p
  refine ⟨?_, ?_, ?_⟩
  · show (true && (noref (uP t.p) && (true && (true && true)))) = true
    rw [a]; rfl
  · show (PySem.PyData.strOk t.w && ((pd (uP t.p)).canLay0 && ((PyData.int t.b).canLay0 && ((PyData.int t.t).canLay0 && true)))) = true
    rw [b, h.w]
    simp [PyData.canLay0]
  · show max 0 (max (pd (uP t.p)).depth (max 0 (max 0 0))) + 1 ≤ 9
    omega
theorem dat_Ts {ts : List Tile} (h : ∀ t ∈ ts, OkT t) : dat (.lit (ts.map uT)) = true := by
  obtain ⟨a, b, c⟩ := lays_map uT OkT 9 (fun t ht => lay_T ht) ts h
  refine dat_of a b ?_
  show PyData.depthAll (pdL (ts.map uT)) + 1 ≤ 64
  omega
def uB (b : Int × Int) : U := .tup [.int b.1, .int b.2]
/-! ### tables -/
def COUNTS : List (Str × Int) := [("const", 0), ("add", 2), ("sub", 2), ("mul", 2), ("less", 2), ("same", 2), ("both", 2), ("either", 2), ("not", 1), ("pick", 3), ("div", 2), ("rem", 2), ("ask", 0), ("say", 1), ("get", 0), ("put", 1)]
def PURE : List Str := ["const", "add", "sub", "mul", "less", "same", "both", "either", "not", "pick"]
def LETTERS : Str := "abcdefghijklmnopqrstuvwxyz"
def DIGITS : Str := "0123456789"
structure Glb (K : PySem.W.Frag) (w : World) (mg : Str → Option Value) (dC : Addr) : Prop where
  letters : ∃ t, mg "LETTERS" = some (.str LETTERS t)
  digits : ∃ t, mg "DIGITS" = some (.str DIGITS t)
  ml : ∃ t, mg "MOST_LETTERS" = some (.int 8 t)
  lp : ∃ t, mg "LEAST_PLACES" = some (.int 3 t)
  mp : ∃ t, mg "MOST_PLACES" = some (.int 12 t)
  mt : ∃ t, mg "MOST_TILES" = some (.int 40 t)
  md : ∃ t, mg "MOST_DATUM" = some (.int 4294967295 t)
  mh : ∃ t, mg "MOST_HOLES" = some (.int 3 t)
  mi : ∃ t, mg "MOST_LITS" = some (.int 2 t)
  mo : ∃ t, mg "MOST_OPERATIONS" = some (.int 4 t)
  mb : ∃ t, mg "MOST_BUSY" = some (.int 9 t)
  mw : ∃ t, mg "MOST_WAIT" = some (.int 20 t)
  bp : ∃ t, mg "BASIC_PAIRS" = some (.int 6 t)
  cg : mg "COUNTS" = some (.ref dC)
  cd : KD K w dC COUNTS
  pg : ∃ a, mg "PURE" = some (.ref a) ∧ ∀ H, SqT K H a (PURE.map V.str)
/-! ### the pool of numbers -/
def Law (s c : Addr) (G : G3) : Prop := s ≠ c ∧ ∃ (cells : List Int) (at' z : Int), G s = some (.lst [.ref c, .int at', .int z]) ∧ G c = some (.lst (cells.map U.int)) ∧ 0 ≤ at'
def Fr (s c : Addr) (G G' : G3) : Prop := ∀ b o, b ≠ s → b ≠ c → G b = some o → G' b = some o
theorem Fr.refl {s c : Addr} (G : G3) : Fr s c G G := fun _ _ _ _ h => h
theorem Fr.trans {s c : Addr} {G G1 G2 : G3} (a : Fr s c G G1) (b : Fr s c G1 G2) : Fr s c G G2 := fun x o h1 h2 h => b x o h1 h2 (a x o h1 h2 h)
end K20
end
section
set_option Elab.async false
set_option linter.all false
set_option maxRecDepth 100000
set_option maxHeartbeats 2000000
/-! small helpers (as in k39's texts) -/
namespace L3
open PySem L2
theorem Sub.mut {G G' : G3} {L : Addr} {a b : GO} (h : Sub (gup G L a) G') : Sub (gup G L b) (gup G' L b) := fun x g e => by
  by_cases hx : x = L
  · subst hx; rw [gup_same] at e ⊢; exact e
  · rw [gup_ne hx] at e ⊢; exact h x g (by rw [gup_ne hx]; exact e)
theorem Sub.base {G G' : G3} {L : Addr} {a : GO} (h : Sub (gup G L a) G') (hL : G L = none) : Sub G G' := fun x g e => h x g (by rw [gup_ne (gne_none e hL)]; exact e)
theorem Sub.at {G G' : G3} {L : Addr} {a : GO} (h : Sub (gup G L a) G') : G' L = some a := h L a gup_same
theorem gup_none {G : G3} {L V : Addr} {a : GO} (hV : G V = none) (h : V ≠ L) : gup G L a V = none := by rw [gup_ne h]; exact hV
theorem ifS_of {c : TT3} {t u : TS3} {D : En3} {σ : S3} {G : G3} (b : Bool) (h : ∀ Q : Bool → G3 → Prop, Q b G → c σ G Q) (ht : b = true → t D σ G) (hf : b = false → u D σ G) : ifS3 c t u D σ G := by
  refine h _ ?_
  cases b with
  | true => exact ht rfl
  | false => exact hf rfl
end L3
namespace K20
open PySem L2 L3
theorem atI_nat {α : Type} {xs : List α} {i : Nat} {x : α} (h : xs[i]? = some x) : L2.atI xs (i : Int) = some x := by
  have hi := (List.getElem?_eq_some_iff.mp h).1
  unfold L2.atI L2.ixN
  rw [if_pos (Int.natCast_nonneg i), if_pos (Int.ofNat_lt.mpr hi)]
  show xs[(i : Int).toNat]? = _
  rw [Int.toNat_natCast]; exact h
theorem atI_eq {α : Type} {xs : List α} {j : Int} {i : Nat} {x : α} (e : j = (i : Nat)) (h : xs[i]? = some x) : L2.atI xs j = some x := by subst e; exact atI_nat h
theorem erase_map {α β : Type} (f : α → β) : ∀ (xs : List α) (k : Nat), (xs.map f).eraseIdx k = (xs.eraseIdx k).map f
  | [], _ => rfl
  | _ :: _, 0 => rfl
  | x :: xs, k + 1 => by
    show f x :: (xs.map f).eraseIdx k = f x :: (xs.eraseIdx k).map f
    rw [erase_map f xs k]
theorem filt_all {α : Type} (xs : List α) : xs.filter (fun _ => true) = xs := List.filter_eq_self.mpr fun _ _ => rfl
theorem cut_to {α : Type} (f : α → U) (xs : List α) (k : Nat) (h : k ≤ xs.length) : cut3 (xs.map f) none (some (k : Int)) = (xs.take k).map f := by
  unfold cut3
  rw [HT.sIx_none, List.length_map, HT.sIx_nat, Nat.min_eq_left h, List.drop_zero, Nat.sub_zero, List.map_take]
theorem cut_from {α : Type} (f : α → U) (xs : List α) (k : Nat) (j : Int) (e : j = (k : Nat)) (h : k ≤ xs.length) : cut3 (xs.map f) (some j) none = (xs.drop k).map f := by
  subst e
  unfold cut3
  rw [List.length_map, HT.sIx_nat, HT.sIx_none, Nat.min_eq_left h, ← List.map_drop, List.take_of_length_le (by rw [List.length_map, List.length_drop]; exact Nat.le_refl _)]
theorem v3_of {i : Nat} {σ : S3} {w : U} {G : G3} {Q : K3} (h : σ[i]? = some (some w)) (q : Q w G) : v3 i σ G Q := by unfold v3; rw [h]; exact q
theorem it_tup {i : Nat} {σ : S3} {xs : List U} {G : G3} {R : It3 → G3 → Prop} (h : σ[i]? = some (some (.tup xs))) (q : R ⟨xs, fun _ => True⟩ G) : it3 (v3 i) σ G R := v3_of h q
theorem gnone {G : G3} {a b : Addr} {o : GO} (h : gup G a o b = none) : G b = none ∧ b ≠ a := by
  by_cases e : b = a
  · subst e
    rw [gup_same] at h
    cases h
  · rw [gup_ne e] at h
    exact ⟨h, e⟩
theorem kit_ii : kitB "int" "int" = some true := by decide
theorem kit_ib : kitB "int" "bool" = some false := by decide
theorem kit_si : kitB "str" "int" = some false := by decide
theorem kit_ss : kitB "str" "str" = some true := by decide
theorem kit_ti : kitB "tuple" "int" = some false := by decide
theorem kit_ts : kitB "tuple" "str" = some false := by decide
theorem kit_tt : kitB "tuple" "tuple" = some true := by decide
theorem all_true (n : Nat) : ((List.range n).map fun _ => true).all id = true := by
  rw [List.all_map]
  exact List.all_eq_true.mpr fun _ _ => rfl
theorem kit_st : kitB "str" "tuple" = some false := by decide
theorem kit_sb : kitB "str" "bool" = some false := by decide
theorem kit_tb : kitB "tuple" "bool" = some false := by decide
theorem kit_it : kitB "int" "tuple" = some false := by decide
theorem kit_is' : kitB "int" "str" = some false := by decide
theorem kit_bt : kitB "bool" "tuple" = some false := by decide
theorem kit_bb : kitB "bool" "bool" = some true := by decide
theorem take_s {α : Type} {xs : List α} {i : Nat} {m : α} (h : xs[i]? = some m) : xs.take (i + 1) = xs.take i ++ [m] := by rw [List.take_succ, h]; rfl
theorem Law.ns {s c p : Addr} {G : G3} (h : Law s c G) (hp : G p = none) : p ≠ s := by
  obtain ⟨_, _, _, _, h1, _⟩ := h
  exact (gne_none h1 hp).symm
theorem Law.nc {s c p : Addr} {G : G3} (h : Law s c G) (hp : G p = none) : p ≠ c := by
  obtain ⟨_, _, _, _, _, h1, _⟩ := h
  exact (gne_none h1 hp).symm
theorem Fr.free {s c p : Addr} {G G' : G3} (f : Fr s c G G') (h : Law s c G') (hp : G' p = none) : G p = none := by
  cases e : G p with
  | none => rfl
  | some o => rw [f p o (h.ns hp) (h.nc hp) e] at hp; cases hp
theorem Fr.mut {s c p : Addr} {G G' : G3} {o : GO} (f : Fr s c G G') (hp : G p = none) : Fr s c G (gup G' p o) := fun b u h1 h2 h => by
  rw [gup_ne (gne_none h hp)]; exact f b u h1 h2 h
theorem Law.mut {s c p : Addr} {G : G3} {o : GO} (h : Law s c G) (h1 : p ≠ s) (h2 : p ≠ c) : Law s c (gup G p o) := by
  obtain ⟨n, cells, at', z, a, b, e⟩ := h
  exact ⟨n, cells, at', z, by rw [gup_ne h1.symm]; exact a, by rw [gup_ne h2.symm]; exact b, e⟩
theorem mul_c {i j : Int} (h1 : -(2 ^ 64) < j) (h2 : j < 2 ^ 64) : CMul i j := .inr ⟨h1, h2⟩
theorem nz : (2147483647 : Int) ≠ 0 := by decide
/-- a list or a tuple is walked -/
def ia3 (te : TE3) : TI3 := fun σ G R => il3 te σ G R ∨ it3 te σ G R
theorem i_any {X : Cx} {tg l : Expr} {tl : TE3} (hl : PE X l (lowE X.K tl)) : PI X tg l (lowI X.K (ia3 tl)) := ⟨fun pins s σ H R I h => by
  obtain ⟨σ3, G, Q3, hs, hh, ht, hq⟩ := h
  rcases ht with ht | ht
  · exact (i_list hl).run pins s σ H R I ⟨σ3, G, Q3, hs, hh, ht, hq⟩
  · exact (i_tup hl).run pins s σ H R I ⟨σ3, G, Q3, hs, hh, ht, hq⟩⟩
end K20
end
section
set_option Elab.async false
set_option linter.all false
set_option maxRecDepth 100000
set_option maxHeartbeats 4000000
/-! a <= b <= c <= d -/
namespace L2
open PySem PySem.Spec PyProof.Rows
section
variable {X : Cx} {a b c d : Expr} {pos : Pos} {ta tb tc td : TE}
def tChain4 (r r' r'' : R2) (ta tb tc td : TE) : TE := fun σ H Q => ta σ H fun x H1 => tb σ H1 fun y H2 => r x y H2 fun z H3 => ∃ k, z = .bl k ∧
  (if k = true then tc σ H3 fun w' H4 => r' y w' H4 fun z2 H5 => ∃ k2, z2 = .bl k2 ∧ (if k2 = true then td σ H5 fun v' H6 => r'' w' v' H6 Q else Q (.bl false) H5) else Q (.bl false) H3)
theorem pe_chain4 {op op' op'' : CmpOp} {r r' r'' : R2} (ho : OpR X (compareOp op) r) (ho' : OpR X (compareOp op') r') (ho'' : OpR X (compareOp op'') r'') (ha : PE X a ta) (hb : PE X b tb) (hc : PE X c tc) (hd : PE X d td)
    (hm : lastMarks [op, op', op''] [b, c, d] = false := by with_unfolding_all rfl) : PE X (.Compare a [op, op', op''] [b, c, d] pos) (tChain4 r r' r'' ta tb tc td) := by
  refine ⟨fun pins s σ H Q I h => ?_⟩
  refine Compare_chain (thn (ha.run pins s σ H _ I h) fun v s1 ⟨x, H1, I1, r1, q1⟩ => chain_link (thn (hb.run pins s1 σ H1 _ I1 q1) fun u s2 ⟨y, H2, I2, r2, q2⟩ =>
    thn (ho pins s2 σ H2 x y v u _ I2 r1 r2 q2) fun d s3 ⟨z, H3, I3, r3, k, e, q3⟩ => ?_)) hm
  subst e
  cases r3
  refine wpAny_truthy_bool ?_
  cases k with
  | false => exact ite_ff ⟨.bl false, H3, I3, rfl, q3⟩
  | true =>
    refine ite_tt (chain_link (thn (hc.run pins s3 σ H3 _ I3 q3) fun w' s4 ⟨z', H4, I4, r4, q4⟩ => thn (ho' pins s4 σ H4 y z' u w' _ I4 r2 r4 q4) fun d2 s5 ⟨z2, H5, I5, r5, k2, e2, q5⟩ => ?_))
    subst e2
    cases r5
    refine wpAny_truthy_bool ?_
    cases k2 with
    | false => exact ite_ff ⟨.bl false, H5, I5, rfl, q5⟩
    | true => exact ite_tt (chain_last (thn (hd.run pins s5 σ H5 _ I5 q5) fun w2 s6 ⟨z6, H6, I6, r6, q6⟩ => ho'' pins s6 σ H6 z' z6 w' w2 Q I6 r4 r6 q6))
theorem pt_chain4 {op op' op'' : CmpOp} {r r' r'' : R2} (ho : OpR X (compareOp op) r) (ho' : OpR X (compareOp op') r') (ho'' : OpR X (compareOp op'') r'') (ha : PE X a ta) (hb : PE X b tb) (hc : PE X c tc) (hd : PE X d td)
    (hm : lastMarks [op, op', op''] [b, c, d] = false := by with_unfolding_all rfl) : PT X (.Compare a [op, op', op''] [b, c, d] pos) (tTest (tChain4 r r' r'' ta tb tc td)) := by
  refine ⟨fun pins s σ H Q I h => ?_⟩
  refine isTrue_chain (thn (ha.run pins s σ H _ I h) fun v s1 ⟨x, H1, I1, r1, q1⟩ => test_link (thn (hb.run pins s1 σ H1 _ I1 q1) fun u s2 ⟨y, H2, I2, r2, q2⟩ =>
    thn (ho pins s2 σ H2 x y v u _ I2 r1 r2 q2) fun d s3 ⟨z, H3, I3, r3, k, e, q3⟩ => ?_)) hm
  subst e
  cases r3
  refine wpAny_truthy_bool ?_
  cases k with
  | false =>
    obtain ⟨k', e', q'⟩ := q3
    cases e'
    exact ite_ff ⟨H3, I3, q'⟩
  | true =>
    refine ite_tt (test_link (thn (hc.run pins s3 σ H3 _ I3 q3) fun w' s4 ⟨z', H4, I4, r4, q4⟩ => thn (ho' pins s4 σ H4 y z' u w' _ I4 r2 r4 q4) fun d' s5 ⟨z2, H5, I5, r5, k2, e2, q5⟩ => ?_))
    subst e2
    cases r5
    refine wpAny_truthy_bool ?_
    cases k2 with
    | false =>
      obtain ⟨k', e', q'⟩ := q5
      cases e'
      exact ite_ff ⟨H5, I5, q'⟩
    | true =>
      refine ite_tt (test_last (thn (hd.run pins s5 σ H5 _ I5 q5) fun w2 s6 ⟨z6, H6, I6, r6, q6⟩ => thn (ho'' pins s6 σ H6 z' z6 w' w2 _ I6 r4 r6 q6) fun d3 s7 ⟨z7, H7, I7, r7, k3, e3, q7⟩ => ?_))
      subst e3
      cases r7
      exact wpAny_truthy_bool ⟨H7, I7, q7⟩
end
end L2
namespace L3
open PySem L2
section
variable {X : Cx} {W : WX} {a b c d e : Expr} {pos : Pos} {ta tb tc td te : TE3} {tA : TT3}
def chain43 (r r' r'' : R3) (ta tb tc td : TE3) : TE3 := fun σ G Q => ta σ G fun x G1 => tb σ G1 fun y G2 => r x y G2 fun z G3 => match z with
  | .bl k => if k = true then tc σ G3 fun w G4 => r' y w G4 fun z2 G5 => (match z2 with
    | .bl k2 => if k2 = true then td σ G5 fun v G6 => r'' w v G6 Q else Q (.bl false) G5
    | _ => False) else Q (.bl false) G3
  | _ => False
theorem chain4_low {K : PySem.W.Frag} {r r' r'' : R3} : ∀ σ H Q, lowE K (chain43 r r' r'' ta tb tc td) σ H Q → tChain4 (lowR K r) (lowR K r') (lowR K r'') (lowE K ta) (lowE K tb) (lowE K tc) (lowE K td) σ H Q := fun σ H Q h => by
  obtain ⟨σ3, G, Q3, hs, hh, ht, hq⟩ := h
  refine ⟨σ3, G, _, hs, hh, ht, fun x H1 a G1 k1 hh1 ra q1 => ?_⟩
  refine ⟨σ3, G1, _, hs.keep k1, hh1, q1, fun y H2 b G2 k2 hh2 rb q2 => ?_⟩
  refine ⟨a, b, G2, _, ra.keep k2, rb, hh2, q2, fun z H3 w G3 k3 hh3 rz q3 => ?_⟩
  split at q3
  · cases rz
    rename_i k
    refine ⟨k, rfl, ?_⟩
    cases k with
    | false => exact hq _ _ _ _ ((k1.trans k2).trans k3) hh3 (.bl _) q3
    | true =>
      refine ⟨σ3, G3, _, hs.keep ((k1.trans k2).trans k3), hh3, q3, fun w' H4 c G4 k4 hh4 rc q4 => ?_⟩
      refine ⟨b, c, G4, _, rb.keep (k3.trans k4), rc, hh4, q4, fun z2 H5 u2 G5 k5 hh5 rz2 q5 => ?_⟩
      split at q5
      · cases rz2
        rename_i k2'
        refine ⟨k2', rfl, ?_⟩
        have kk := (((k1.trans k2).trans k3).trans k4).trans k5
        cases k2' with
        | false => exact hq _ _ _ _ kk hh5 (.bl _) q5
        | true =>
          refine ⟨σ3, G5, _, hs.keep kk, hh5, q5, fun v' H6 d G6 k6 hh6 rd q6 => ?_⟩
          exact ⟨c, d, G6, Q3, rc.keep (k5.trans k6), rd, hh6, q6, hq.from (kk.trans k6)⟩
      · exact q5.elim
  · exact q3.elim
theorem e3chain4 {op op' op'' : CmpOp} {r r' r'' : R3} (ho : OpR X (compareOp op) (lowR X.K r)) (ho' : OpR X (compareOp op') (lowR X.K r')) (ho'' : OpR X (compareOp op'') (lowR X.K r'')) (ha : PE X a (lowE X.K ta)) (hb : PE X b (lowE X.K tb)) (hc : PE X c (lowE X.K tc)) (hd : PE X d (lowE X.K td)) (hm : lastMarks [op, op', op''] [b, c, d] = false := by rfl) : PE X (.Compare a [op, op', op''] [b, c, d] pos) (lowE X.K (chain43 r r' r'' ta tb tc td)) := (pe_chain4 ho ho' ho'' ha hb hc hd hm).imp chain4_low
theorem t3chain4 {op op' op'' : CmpOp} {r r' r'' : R3} (ho : OpR X (compareOp op) (lowR X.K r)) (ho' : OpR X (compareOp op') (lowR X.K r')) (ho'' : OpR X (compareOp op'') (lowR X.K r'')) (ha : PE X a (lowE X.K ta)) (hb : PE X b (lowE X.K tb)) (hc : PE X c (lowE X.K tc)) (hd : PE X d (lowE X.K td)) (hm : lastMarks [op, op', op''] [b, c, d] = false := by rfl) : PT X (.Compare a [op, op', op''] [b, c, d] pos) (lowT X.K (te3 (chain43 r r' r'' ta tb tc td))) := (pt_chain4 ho ho' ho'' ha hb hc hd hm).imp fun σ H Q h => tTest_mono chain4_low _ _ _ (te3_low _ _ _ h)
end
end L3
end
section
set_option Elab.async false
set_option linter.all false
set_option maxRecDepth 100000
set_option maxHeartbeats 2000000
namespace K20
open PySem L2 L3
theorem e3gpure {X : Cx} {x : Str} {pos : Pos} (hg : Gl X x) (hm : ∃ a, X.mg x = some (.ref a) ∧ ∀ H, SqT X.K H a (PURE.map V.str)) (hd : (x == ("__debug__" : Str)) = false := by decide) : PE X (.Name x pos) (lowE X.K (c3 (.wtup (PURE.map U.str)))) := by
  obtain ⟨a, hm, hs⟩ := hm
  refine e3c (pe_glob (v := .ref a) hg hm rfl hd) fun H => .wtup (hs H) ?_
  unfold PURE
  exact .cons (.str _) (.cons (.str _) (.cons (.str _) (.cons (.str _) (.cons (.str _) (.cons (.str _) (.cons (.str _) (.cons (.str _) (.cons (.str _) (.cons (.str _) .nil)))))))))
def inL (c : Nat) : Bool := decide (c ∈ LETTERS.cps.toList)
def inD (c : Nat) : Bool := decide (c ∈ DIGITS.cps.toList)
def isW (x : Str) : Bool := match x.cps.toList with
  | [] => false
  | c :: cs => decide ((c :: cs).length ≤ 8) && (inL c && (c :: cs).all fun c => inL c || inD c)
def partOk (p : Pt) (top : Bool) : Bool := match p with
  | .a _ => false
  | .l lo hi => decide (0 ≤ lo ∧ lo ≤ hi ∧ hi ≤ 4294967295)
  | .o op subs => decide (op ≠ "const") && (match COUNTS.lookup op with
    | some k => decide ((subs.length : Int) = k)
    | none => false) && (top || decide (op ∈ PURE))
def timing (b t : Int) : Str := if ¬ (1 ≤ b ∧ b ≤ 9) then "busy" else if ¬ (b ≤ t ∧ t ≤ 20) then "wait" else ""
def plainP (op : Str) : Pt := if op = "const" then .l 0 4294967295 else .o op (List.replicate ((COUNTS.lookup op).getD 0).toNat (.a "_"))
theorem len_cps (x : Str) : x.length = x.cps.toList.length := by rw [Array.length_toList]; rfl
theorem str_empty {x : Str} : (x == ("" : Str)) = x.cps.toList.isEmpty := by
  have e : (("" : Str)).cps.toList = [] := by decide +kernel
  obtain ⟨⟨l⟩⟩ := x
  cases l with
  | nil => decide +kernel
  | cons c cs =>
    show _ = false
    refine beq_eq_false_iff_ne.mpr fun h => ?_
    have : ((⟨⟨c :: cs⟩⟩ : Str)).cps.toList = [] := by rw [h]; exact e
    cases this
section
variable {P : Program} {w : World} {K : PySem.W.Frag} {mg : Str → Option Value} {base : Heap}
abbrev s_is_word : Stmt := topS 10
abbrev is_word_N : List Str := ["text", "char"]
theorem sc_is_word : FnScope is_word_N ["text"] (defScope s_is_word) := ⟨rfl, rfl, rfl, by decide +kernel, rfl, by decide +kernel, by decide +kernel⟩
abbrev s_is_pure : Stmt := topS 11
abbrev is_pure_N : List Str := ["operation"]
theorem sc_is_pure : FnScope is_pure_N ["operation"] (defScope s_is_pure) := ⟨rfl, rfl, rfl, by decide +kernel, rfl, by decide +kernel, by decide +kernel⟩
abbrev s_part_ok : Stmt := topS 23
abbrev part_ok_N : List Str := ["part", "top"]
theorem sc_part_ok : FnScope part_ok_N ["part", "top"] (defScope s_part_ok) := ⟨rfl, rfl, rfl, by decide +kernel, rfl, by decide +kernel, by decide +kernel⟩
abbrev s_timing_fault : Stmt := topS 27
abbrev timing_fault_N : List Str := ["busy", "wait"]
theorem sc_timing_fault : FnScope timing_fault_N ["busy", "wait"] (defScope s_timing_fault) := ⟨rfl, rfl, rfl, by decide +kernel, rfl, by decide +kernel, by decide +kernel⟩
abbrev s_plain_pattern : Stmt := topS 26
abbrev plain_pattern_N : List Str := ["operation"]
theorem sc_plain_pattern : FnScope plain_pattern_N ["operation"] (defScope s_plain_pattern) := ⟨rfl, rfl, rfl, by decide +kernel, rfl, by decide +kernel, by decide +kernel⟩
def spIW : Sp3 := fun ws G Q _ => ∃ (x : Str), ws = [.str x] ∧ PySem.PyData.strOk x = true ∧ x.length ≤ 1000 ∧ Q (.bl (isW x)) G
theorem ok_iw {f dC : Addr} {fd : FuncData} (F : Fun K "is_word" "is_word" s_is_word f fd) (T : Tg mg) (Gb : Glb K w mg dC) : FnOk P w K mg base CX0 1 f fd ["text"] (lowSp K spIW) := by
  refine Fun_ok3 F sc_is_word (fun ws G Q E h => by obtain ⟨_, rfl, _⟩ := h; rfl) (fun cdv A outer s H E ws G Q E3 hr h => ?_)
  have hu64 := hr.units
  obtain ⟨x, rfl, hx, hl, hq⟩ := h
  refine ⟨_, (ss_cons (s_if (PW.pt (w3or (t3cmp (o_eq hu64) (e3v 0) e3str) (w3or (t3cmp o_gt (e3B k_len T.len (a3cons (e3v 0) a3nil)) (e3gi rfl Gb.ml)) (w3or1 (t3cmp o_notinS (e3ixS (e3v 0) e3int) (e3gs rfl Gb.letters) rfl)))))
      (ss_one (s_ret e3bl))
      ss_nil)
      (ss_cons (s_for PassesOwn.never rfl (i_str (e3v 0)) (pg_name (i := 1) sc_is_word.nd rfl (by first | exact Or.inl rfl | exact Or.inr rfl)) gl_name
      (ss_one (s_if (PW.pt (w3and (t3cmp o_notinS (e3v 1) (e3gs rfl Gb.letters) rfl) (w3and1 (t3cmp o_notinS (e3v 1) (e3gs rfl Gb.digits) rfl))))
        (ss_one (s_ret e3bl))
        ss_nil)))
      (ss_one (s_ret e3bl)))), ?_⟩
  refine ⟨dat_s hx, dat_s (by decide +kernel), ?_⟩
  have hlc := len_cps x
  obtain hc | ⟨c, cs, hc⟩ : x.cps.toList = [] ∨ ∃ c cs, x.cps.toList = c :: cs := by
    cases x.cps.toList with
    | nil => exact .inl rfl
    | cons c cs => exact .inr ⟨c, cs, rfl⟩
  · refine ifT (by rw [if_neg Bool.false_ne_true, eq3_s, str_empty, hc]; rfl) ?_
    have e : isW x = false := by unfold isW; rw [hc]
    rw [e] at hq
    exact Wk.of hq
  refine ifF (by rw [if_neg Bool.false_ne_true, eq3_s, str_empty, hc]; rfl) ?_
  refine ⟨decide_eq_true (by omega), ?_⟩
  by_cases h8 : x.length ≤ 8
  · refine ifF (decide_eq_false (by omega)) ?_
    refine ⟨c, decide_eq_true (by omega), (by rw [hc]; exact atI_eq (i := 0) rfl rfl), c, rfl, ?_⟩
    by_cases hL : inL c = true
    · refine ifF (by rw [if_pos rfl]; show (!inL c) = false; rw [hL]; rfl) ?_
      have e : isW x = x.cps.toList.all fun c => inL c || inD c := by
        unfold isW
        rw [hc]
        dsimp only
        rw [decide_eq_true (by rw [← hc, ← hlc]; exact h8), hL]
        rfl
      rw [e] at hq
      try dsimp only [seq3, asg3, n3, v3, drop3, ret3, next3, List.set_cons_zero, List.set_cons_succ, List.getElem?_cons_zero, List.getElem?_cons_succ, start3, List.map_cons, List.map_nil, List.length_cons, List.length_nil, List.replicate, List.cons_append, List.nil_append, Nat.reduceSub, Nat.reduceAdd]
      refine for_of ?_
      refine v3_of rfl ?_
      refine forK_of x.cps.toList.length (by unfold sgU; rw [List.length_map]) (fun i σ G' => ∃ z, σ = [some (.str x), z] ∧ G' = G ∧ ∀ j c, j < i → x.cps.toList[j]? = some c → (inL c || inD c) = true) ⟨_, rfl, rfl, fun j _ h => by omega⟩ (fun _ _ _ _ _ => trivial) ?_ ?_
      · rintro i y σ' G' hi hy ⟨z, rfl, rfl, hall⟩
        have hci : x.cps.toList[i]? = some x.cps.toList[i] := List.getElem?_eq_getElem hi
        generalize x.cps.toList[i] = ci at hci
        unfold sgU at hy
        rw [List.getElem?_map, hci] at hy
        cases hy
        have no : (inL ci || inD ci) = false → Wk Q (.bl false) G' := fun h => by
          have : (x.cps.toList.all fun c => inL c || inD c) = false := by
            rw [List.all_eq_false]
            exact ⟨ci, List.mem_of_getElem? hci, by rw [h]; exact Bool.false_ne_true⟩
          rw [this] at hq
          exact Wk.of hq
        have yes : (inL ci || inD ci) = true → Wk2 (fun σ G2 => ∃ z, σ = [some (.str x), z] ∧ G2 = G' ∧ ∀ j c, j < i + 1 → x.cps.toList[j]? = some c → (inL c || inD c) = true) [some (.str x), some (.str ⟨#[ci]⟩)] G' := fun h => Wk2.of ⟨_, rfl, rfl, fun j c' hj hc' => by
          rcases Nat.lt_succ_iff_lt_or_eq.mp hj with hj | rfl
          · exact hall j c' hj hc'
          · rw [hci] at hc'; cases hc'; exact h⟩
        refine ⟨ci, rfl, ?_⟩
        cases h1 : inL ci with
        | true =>
          refine ifF (by rw [if_pos rfl]; show (!inL ci) = false; rw [h1]; rfl) ?_
          exact yes (by rw [h1]; rfl)
        | false =>
          refine ifT (by rw [if_pos rfl]; show (!inL ci) = true; rw [h1]; rfl) ?_
          refine ⟨ci, rfl, ?_⟩
          cases h2 : inD ci with
          | true =>
            refine ifF (by rw [if_pos rfl]; show (!inD ci) = false; rw [h2]; rfl) ?_
            exact yes (by rw [h1, h2]; rfl)
          | false =>
            refine ifT (by rw [if_pos rfl]; show (!inD ci) = true; rw [h2]; rfl) ?_
            exact no (by rw [h1, h2]; rfl)
      · rintro σ' G' ⟨z, rfl, rfl, hall⟩
        have : (x.cps.toList.all fun c => inL c || inD c) = true := by
          rw [List.all_eq_true]
          intro c' hc'
          obtain ⟨j, hj, e⟩ := List.mem_iff_getElem.mp hc'
          exact hall j c' hj (by rw [List.getElem?_eq_getElem hj, e])
        rw [this] at hq
        exact Wk.of hq
    · have hL : inL c = false := by simpa using hL
      refine ifT (by rw [if_pos rfl]; show (!inL c) = true; rw [hL]; rfl) ?_
      have e : isW x = false := by
        unfold isW
        rw [hc]
        dsimp only
        rw [hL]
        simp
      rw [e] at hq
      exact Wk.of hq
  · refine ifT (decide_eq_true (by omega)) ?_
    have e : isW x = false := by
      unfold isW
      rw [hc]
      dsimp only
      rw [decide_eq_false (by rw [← hc, ← hlc]; exact h8)]
      rfl
    rw [e] at hq
    exact Wk.of hq
def spIP : Sp3 := fun ws G Q _ => ∃ (x : Str), ws = [.str x] ∧ Q (.bl (decide (x ∈ PURE))) G
theorem pure_any (x : Str) : ∀ ys : List Str, ((ys.map U.str).any fun y => eqF y (.str x)) = decide (x ∈ ys)
  | [] => rfl
  | y :: ys => by
    rw [List.map_cons, List.any_cons, pure_any x ys]
    show ((y == x) || _) = _
    by_cases h : y = x
    · subst h; simp
    · have h' : ¬ x = y := fun z => h z.symm
      simp [h, h']
theorem flat_all : ∀ ys : List Str, (ys.map U.str).all flatU = true
  | [] => rfl
  | y :: ys => by rw [List.map_cons, List.all_cons, flat_all ys]; rfl
theorem ok_ip {f dC : Addr} {fd : FuncData} (F : Fun K "is_pure" "is_pure" s_is_pure f fd) (Gb : Glb K w mg dC) : FnOk P w K mg base CX0 1 f fd ["operation"] (lowSp K spIP) := by
  refine Fun_ok3 F sc_is_pure (fun ws G Q E h => by obtain ⟨_, rfl, _⟩ := h; rfl) (fun cdv A outer s H E ws G Q E3 hr h => ?_)
  obtain ⟨x, rfl, hq⟩ := h
  refine ⟨_, (ss_one (s_ret (e3cmp o_inF (e3v 0) (e3gpure rfl Gb.pg) rfl))), ?_⟩
  refine ⟨rfl, flat_all _, ?_⟩
  rw [if_neg Bool.false_ne_true, pure_any]
  exact Wk.of hq
def spPO : Sp3 := fun ws G Q _ => ∃ (p : Pt) (top : Bool) (n : Nat), ws = [uP p, .bl top] ∧ wp n p = true ∧ (∀ x, p ≠ .a x) ∧ Q (.bl (partOk p top)) G
theorem ok_po {f fp dC : Addr} {fd fdp : FuncData} (F : Fun K "part_ok" "part_ok" s_part_ok f fd) (T : Tg mg) (Gb : Glb K w mg dC) (O_is_pure : Own P w K mg base 1 "is_pure" ["operation"] spIP fp fdp) : FnOk P w K mg base CX0 2 f fd ["part", "top"] (lowSp K spPO) := by
  refine Fun_ok3 F sc_part_ok (fun ws G Q E h => by obtain ⟨_, _, _, rfl, _⟩ := h; rfl) (fun cdv A outer s H E ws G Q E3 hr h => ?_)
  have hu64 := hr.units
  have hr_is_pure : Room 1 _ := hr
  obtain ⟨p, top, n, rfl, hw, hna, hq⟩ := h
  have dl : dat (.str "lit") = true := dat_s (by decide +kernel)
  refine ⟨_, (ss_cons (s_if (t3cmp (o_eq hu64) (e3ix (e3v 0) e3int) e3str)
      (ss_one (s_ret (e3and (e3cmp (o_eq hu64) (e3B k_len T.len (a3cons (e3v 0) a3nil)) e3int) (e3one (e3chain4 o_le o_le o_le e3int (e3ix (e3v 0) e3int) (e3ix (e3v 0) e3int) (e3gi rfl Gb.md))))))
      ss_nil)
      (ss_cons (s_if (PW.pt (w3or (t3cmp (o_eq hu64) (e3ix (e3v 0) e3int) e3str) (w3or (t3cmp (o_notinD Gb.cd) (e3ix (e3v 0) e3int) (e3glob rfl Gb.cg) rfl) (w3or1 (t3cmp (o_ne hu64) (e3op o_sub (e3B k_len T.len (a3cons (e3v 0) a3nil)) e3int) (e3ixD Gb.cd (e3glob rfl Gb.cg) (e3ix (e3v 0) e3int)))))))
      (ss_one (s_ret e3bl))
      ss_nil)
      (ss_one (s_ret (e3or (e3v 1) (e3one (e3call O_is_pure.G hr_is_pure O_is_pure.g O_is_pure.kp O_is_pure.b pass0 (a3cons (e3ix (e3v 0) e3int) a3nil)))))))), ?_⟩
  cases p with
  | a x => exact absurd rfl (hna x)
  | l lo hi =>
    refine ⟨.str "lit", rfl, dl, dl, ?_⟩
    refine ifT (by rw [if_neg Bool.false_ne_true, eq3_s]; rfl) ?_
    refine ⟨dat_int _, dat_int _, ?_⟩
    refine ifT (by rfl) ?_
    refine ⟨.int lo, rfl, ?_⟩
    have fin : ∀ b, b = partOk (.l lo hi) top → Wk Q (.bl b) G := fun b e => by rw [e]; exact Wk.of hq
    by_cases h1 : (0 : Int) ≤ lo
    · refine ifT (decide_eq_true h1) ⟨.int hi, rfl, ?_⟩
      by_cases h2 : lo ≤ hi
      · refine ifT (decide_eq_true h2) ?_
        refine fin _ ?_
        show _ = decide _
        simp [h1, h2]
      · refine ifF (decide_eq_false h2) (fin _ ?_)
        show _ = decide _
        simp [h2]
    · refine ifF (decide_eq_false h1) (fin _ ?_)
      show _ = decide _
      simp [h1]
  | o op subs =>
    have hw2 : PySem.PyData.strOk op = true ∧ op ≠ "lit" ∧ subs.length ≤ 6 := by
      cases n with
      | zero => cases hw
      | succ n =>
        unfold wp at hw
        simp only [Bool.and_eq_true, decide_eq_true_eq] at hw
        exact ⟨hw.1.1.1, hw.1.1.2, hw.1.2⟩
    obtain ⟨hs, hnl, hsl⟩ := hw2
    have fin : ∀ b, b = partOk (.o op subs) top → Wk Q (.bl b) G := fun b e => by rw [e]; exact Wk.of hq
    rw [uP]
    refine ⟨.str op, atI_eq (i := 0) rfl rfl, dat_s hs, dl, ?_⟩
    refine ifF (by rw [if_neg Bool.false_ne_true, eq3_s]; exact beq_eq_false_iff_ne.mpr hnl) ?_
    refine ⟨.str op, atI_eq (i := 0) rfl rfl, dat_s hs, dat_s (by decide +kernel), ?_⟩
    by_cases hc : op = "const"
    · refine ifT (by rw [if_neg Bool.false_ne_true, eq3_s, hc]; rfl) (fin _ ?_)
      unfold partOk
      simp [hc]
    · refine ifF (by rw [if_neg Bool.false_ne_true, eq3_s]; exact beq_eq_false_iff_ne.mpr hc) ?_
      refine ⟨.str op, atI_eq (i := 0) rfl rfl, rfl, ?_⟩
      cases hk : COUNTS.lookup op with
      | none =>
        refine ifT (by rw [if_pos rfl]; rfl) (fin _ ?_)
        unfold partOk
        simp [hk]
      | some k =>
        refine ifF (by rw [if_pos rfl]; rfl) ?_
        refine ⟨.str op, atI_eq (i := 0) rfl rfl, rfl, k, hk, dat_int _, dat_int _, ?_⟩
        have ek : eq3 (.int ((((U.str op) :: uPs subs).length : Nat) - 1 : Int)) (.int k) = decide ((subs.length : Int) = k) := by
          rw [eq3_int, List.length_cons, uPs_map, List.length_map]
          have : (((subs.length + 1 : Nat) : Int) - 1) = (subs.length : Int) := by omega
          rw [this]
          by_cases h : (subs.length : Int) = k
          · simp [h]
          · simp [h]
        by_cases hz : (subs.length : Int) = k
        · refine ifF (by rw [if_pos rfl, ek, decide_eq_true hz]; rfl) ?_
          cases top with
          | true =>
            refine (fin true ?_ : Wk Q (.bl true) G)
            unfold partOk
            simp [hk, hz, hc]
          | false =>
            refine ⟨.str op, atI_eq (i := 0) rfl rfl, op, rfl, fin _ ?_⟩
            unfold partOk
            simp [hk, hz, hc]
        · refine ifT (by rw [if_pos rfl, ek, decide_eq_false hz]; rfl) (fin _ ?_)
          unfold partOk
          simp [hk, hz]
def spTF : Sp3 := fun ws G Q _ => ∃ (b t : Int), ws = [.int b, .int t] ∧ Q (.str (timing b t)) G
theorem ok_tf {f dC : Addr} {fd : FuncData} (F : Fun K "timing_fault" "timing_fault" s_timing_fault f fd) (Gb : Glb K w mg dC) : FnOk P w K mg base CX0 1 f fd ["busy", "wait"] (lowSp K spTF) := by
  refine Fun_ok3 F sc_timing_fault (fun ws G Q E h => by obtain ⟨_, _, rfl, _⟩ := h; rfl) (fun cdv A outer s H E ws G Q E3 hr h => ?_)
  obtain ⟨b, t, rfl, hq⟩ := h
  refine ⟨_, (ss_cons (s_if (t3not (t3chain o_le o_le e3int (e3v 0) (e3gi rfl Gb.mb)))
      (ss_one (s_ret e3str))
      ss_nil)
      (ss_cons (s_if (t3not (t3chain o_le o_le (e3v 0) (e3v 1) (e3gi rfl Gb.mw)))
      (ss_one (s_ret e3str))
      ss_nil)
      (ss_one (s_ret e3str)))), ?_⟩
  have fin : ∀ x, x = timing b t → Wk Q (.str x) G := fun x e => by rw [e]; exact Wk.of hq
  have second : (1 ≤ b ∧ b ≤ 9) → _ := fun hb => hb
  by_cases h1 : (1 : Int) ≤ b
  · refine ifT (decide_eq_true h1) ?_
    by_cases h2 : b ≤ 9
    · refine ifF (by rw [decide_eq_true h2]; rfl) ?_
      by_cases h3 : b ≤ t
      · refine ifT (decide_eq_true h3) ?_
        by_cases h4 : t ≤ 20
        · refine ifF (by rw [decide_eq_true h4]; rfl) (fin _ ?_)
          unfold timing
          rw [if_neg (fun h => h ⟨h1, h2⟩), if_neg (fun h => h ⟨h3, h4⟩)]
        · refine ifT (by rw [decide_eq_false h4]; rfl) (fin _ ?_)
          unfold timing
          rw [if_neg (fun h => h ⟨h1, h2⟩), if_pos (fun h => h4 h.2)]
      · refine ifF (decide_eq_false h3) ?_
        refine fin _ ?_
        unfold timing
        rw [if_neg (fun h => h ⟨h1, h2⟩), if_pos (fun h => h3 h.1)]
    · refine ifT (by rw [decide_eq_false h2]; rfl) (fin _ ?_)
      unfold timing
      rw [if_pos (fun h => h2 h.2)]
  · refine ifF (decide_eq_false h1) ?_
    refine fin _ ?_
    unfold timing
    rw [if_pos (fun h => h1 h.1)]
def spPP : Sp3 := fun ws G Q _ => ∃ (op : Str) (k : Int), ws = [.str op] ∧ PySem.PyData.strOk op = true ∧ COUNTS.lookup op = some k ∧ 0 ≤ k ∧ k ≤ 6 ∧ Q (uP (plainP op)) G
theorem uPs_rep (n : Nat) : uPs (List.replicate n (.a "_")) = (List.replicate n [U.str "_"]).flatten := by
  induction n with
  | zero => rfl
  | succ n ih => rw [List.replicate_succ, List.replicate_succ, uPs, List.flatten_cons, ih, uP]; rfl
theorem ok_pp {f dC : Addr} {fd : FuncData} (F : Fun K "plain_pattern" "plain_pattern" s_plain_pattern f fd) (Gb : Glb K w mg dC) : FnOk P w K mg base CX0 1 f fd ["operation"] (lowSp K spPP) := by
  refine Fun_ok3 F sc_plain_pattern (fun ws G Q E h => by obtain ⟨_, _, rfl, _⟩ := h; rfl) (fun cdv A outer s H E ws G Q E3 hr h => ?_)
  have hu64 := hr.units
  obtain ⟨op, k, rfl, hs, hk, h0, h6, hq⟩ := h
  refine ⟨_, (ss_cons (s_if (t3cmp (o_eq hu64) (e3v 0) e3str)
      (ss_one (s_ret (e3tup (a3cons e3str (a3cons e3int (a3cons (e3gi rfl Gb.md) a3nil))))))
      ss_nil)
      (ss_one (s_ret (e3op o_catA (e3tup (a3cons (e3v 0) a3nil)) (e3op o_repA (e3tup (a3cons e3str a3nil)) (e3ixD Gb.cd (e3glob rfl Gb.cg) (e3v 0))))))), ?_⟩
  refine ⟨dat_s hs, dat_s (by decide +kernel), ?_⟩
  by_cases hc : op = "const"
  · refine ifT (by rw [if_neg Bool.false_ne_true, eq3_s, hc]; rfl) ?_
    refine ⟨rfl, ?_⟩
    unfold plainP at hq
    rw [if_pos hc, uP] at hq
    exact Wk.of hq
  · refine ifF (by rw [if_neg Bool.false_ne_true, eq3_s]; exact beq_eq_false_iff_ne.mpr hc) ?_
    refine ⟨rfl, rfl, rfl, k, hk, List.cons_ne_nil _ _, h0, by omega, (show 1 ≤ 1000 by decide), ?_⟩
    have e : uP (plainP op) = .tup (U.str op :: (List.replicate k.toNat [U.str "_"]).flatten) := by
      unfold plainP
      rw [if_neg hc, hk, uP, uPs_rep]
      rfl
    rw [e] at hq
    refine ⟨decide_eq_true ?_, Wk.of hq⟩
    rw [← uPs_rep, uPs_map, List.length_map, List.length_replicate]
    show 1 + _ ≤ _
    omega
end
end K20
end
section
set_option Elab.async false
set_option linter.all false
set_option maxRecDepth 100000
set_option maxHeartbeats 2000000
namespace K20
open PySem L2 L3
abbrev T3 := Int × Int × Int
def addO : Option T3 → Option T3 → Option T3
  | some a, some b => some (a.1 + b.1, a.2.1 + b.2.1, a.2.2 + b.2.2)
  | _, _ => none
theorem addO_comm (a b : Option T3) : addO a b = addO b a := by
  cases a <;> cases b <;> simp [addO, Int.add_comm]
theorem addO_assoc (a b c : Option T3) : addO (addO a b) c = addO a (addO b c) := by
  cases a <;> cases b <;> cases c <;> simp [addO, Int.add_assoc]
theorem addO_none (a : Option T3) : addO a none = none := by cases a <;> rfl
theorem addO_zero (a : Option T3) : addO a (some (0, 0, 0)) = a := by cases a <;> simp [addO]
theorem addO_push (h l o : Int) (A B : Option T3) : addO (some (h, l, o + 1)) (addO A B) = addO (addO (some (h, l, o)) A) (addO (some (0, 0, 1)) B) := by
  cases A <;> cases B <;> simp [addO] <;> omega
def sumP : Nat → Bool → Pt → Option T3
  | _, top, .a x => if x = "_" ∧ top = false then some (1, 0, 0) else none
  | _, top, .l lo hi => if partOk (.l lo hi) top = true then some (0, 1, 0) else none
  | 0, _, .o _ _ => none
  | n + 1, top, .o op subs => if partOk (.o op subs) top = true then addO (some (0, 0, 1)) (subs.foldr (fun p acc => addO (sumP n false p) acc) (some (0, 0, 0))) else none
def uC : Option T3 → U
  | none => .non
  | some a => .tup [.int a.1, .int a.2.1, .int a.2.2]
mutual
def sz : Pt → Nat
  | .a _ => 1
  | .l _ _ => 1
  | .o _ subs => 1 + szs subs
def szs : List Pt → Nat
  | [] => 0
  | p :: ps => sz p + szs ps
end
theorem sz_pos (p : Pt) : 1 ≤ sz p := by cases p <;> unfold sz <;> omega
theorem wp_sz : ∀ (n : Nat) (p : Pt), wp n p = true → sz p ≤ 7 ^ n
  | n, .a x, _ => by unfold sz; exact Nat.one_le_pow _ _ (by decide)
  | n, .l lo hi, _ => by unfold sz; exact Nat.one_le_pow _ _ (by decide)
  | 0, .o op subs, h => by cases h
  | n + 1, .o op subs, h => by
    unfold wp at h
    simp only [Bool.and_eq_true, decide_eq_true_eq] at h
    obtain ⟨⟨_, h3⟩, h4⟩ := h
    have key : ∀ l : List Pt, l.all (wp n) = true → szs l ≤ l.length * 7 ^ n := by
      intro l
      induction l with
      | nil => intro _; exact Nat.zero_le _
      | cons p l ih =>
        intro h
        rw [List.all_cons, Bool.and_eq_true] at h
        have h1 := wp_sz n p h.1
        have h2 := ih h.2
        rw [szs, List.length_cons, Nat.succ_mul]
        omega
    have h5 := key subs h4
    have h6 : subs.length * 7 ^ n ≤ 6 * 7 ^ n := Nat.mul_le_mul_right _ h3
    have h7 : 1 ≤ 7 ^ n := Nat.one_le_pow _ _ (by decide)
    rw [sz, Nat.pow_succ]
    omega
/-- what is left to be looked at -/
abbrev En := Nat × Pt × Bool
def uE (e : En) : U := .tup [uP e.2.1, .bl e.2.2]
def val (e : En) : Option T3 := sumP e.1 e.2.2 e.2.1
def tot (st : List En) : Option T3 := st.foldr (fun e acc => addO (val e) acc) (some (0, 0, 0))
theorem tot_append (a b : List En) : tot (a ++ b) = addO (tot a) (tot b) := by
  induction a with
  | nil =>
    show tot b = addO (some (0, 0, 0)) (tot b)
    rw [addO_comm, addO_zero]
  | cons e a ih =>
    show addO (val e) (tot (a ++ b)) = addO (addO (val e) (tot a)) (tot b)
    rw [ih, addO_assoc]
theorem tot_one (e : En) : tot [e] = val e := addO_zero _
theorem tot_subs (n : Nat) : ∀ subs : List Pt, tot (subs.map fun p => (n, p, false)) = subs.foldr (fun p acc => addO (sumP n false p) acc) (some (0, 0, 0))
  | [] => rfl
  | p :: ps => by
    show addO (sumP n false p) (tot (ps.map fun p => (n, p, false))) = _
    rw [tot_subs n ps]
    rfl
def szE (st : List En) : Nat := (st.map fun e => sz e.2.1).sum
theorem szE_append (a b : List En) : szE (a ++ b) = szE a + szE b := by unfold szE; rw [List.map_append, List.sum_append]
theorem szE_len : ∀ st : List En, st.length ≤ szE st
  | [] => Nat.zero_le _
  | e :: st => by
    have h1 := szE_len st
    have h2 := sz_pos e.2.1
    show st.length + 1 ≤ sz e.2.1 + szE st
    omega
theorem szE_subs (n : Nat) : ∀ subs : List Pt, szE (subs.map fun p => (n, p, false)) = szs subs
  | [] => rfl
  | p :: ps => by
    show sz p + szE (ps.map fun p => (n, p, false)) = _
    rw [szE_subs n ps, szs]
theorem snoc_cases {α : Type} : ∀ l : List α, l = [] ∨ ∃ a b, l = a ++ [b]
  | [] => .inl rfl
  | x :: l => .inr ⟨_, _, (List.dropLast_concat_getLast (List.cons_ne_nil x l)).symm⟩
section
variable {P : Program} {w : World} {K : PySem.W.Frag} {mg : Str → Option Value} {base : Heap}
abbrev s_pattern_counts : Stmt := topS 24
abbrev pattern_counts_N : List Str := ["pattern", "holes", "lits", "operations", "left", "part", "top", "sub"]
theorem sc_pattern_counts : FnScope pattern_counts_N ["pattern"] (defScope s_pattern_counts) := ⟨rfl, rfl, rfl, by decide +kernel, rfl, by decide +kernel, by decide +kernel⟩
abbrev s_pattern_ok : Stmt := topS 25
abbrev pattern_ok_N : List Str := ["pattern"]
theorem sc_pattern_ok : FnScope pattern_ok_N ["pattern"] (defScope s_pattern_ok) := ⟨rfl, rfl, rfl, by decide +kernel, rfl, by decide +kernel, by decide +kernel⟩
def spPC : Sp3 := fun ws G Q _ => ∃ (p : Pt) (n : Nat), ws = [uP p] ∧ wp n p = true ∧ n ≤ 5 ∧ Q (uC (sumP n true p)) G
theorem ok_pc {f fp : Addr} {fd fdp : FuncData} (F : Fun K "pattern_counts" "pattern_counts" s_pattern_counts f fd) (T : Tg mg) (O_part_ok : Own P w K mg base 2 "part_ok" ["part", "top"] spPO fp fdp) : FnOk P w K mg base CX0 3 f fd ["pattern"] (lowSp K spPC) := by
  refine Fun_ok3 F sc_pattern_counts (fun ws G Q E h => by obtain ⟨_, _, rfl, _⟩ := h; rfl) (fun cdv A outer s H E ws G Q E3 hr h => ?_)
  have hu64 := hr.units
  have hr_part_ok : Room 2 _ := hr
  obtain ⟨p0, n0, rfl, hw0, hn0, hq⟩ := h
  have dl : dat (.str "lit") = true := dat_s (by decide +kernel)
  have du : dat (.str "_") = true := dat_s (by decide +kernel)
  have hsz : sz p0 ≤ 16807 := Nat.le_trans (wp_sz n0 p0 hw0) (Nat.le_trans (Nat.pow_le_pow_right (by decide) hn0) (by decide))
  refine ⟨_, (ss_cons (s_asg (e3tup (a3cons e3int (a3cons e3int (a3cons e3int a3nil)))) (pg_tup (n := 3) rfl (pgs_cons (pg_name (i := 1) sc_pattern_counts.nd rfl (by first | exact Or.inl rfl | exact Or.inr rfl)) (pgs_cons (pg_name (i := 2) sc_pattern_counts.nd rfl (by first | exact Or.inl rfl | exact Or.inr rfl)) (pgs_cons (pg_name (i := 3) sc_pattern_counts.nd rfl (by first | exact Or.inl rfl | exact Or.inr rfl)) pgs_nil)))) (gl_tup (gl_cons gl_name (gl_cons gl_name (gl_cons gl_name gl_nil)))))
      (ss_cons (s_set (i := 4) sc_pattern_counts.nd (e3lst (a3cons (e3tup (a3cons (e3v 0) (a3cons e3bl a3nil))) a3nil)))
      (ss_cons (s_while PassesOwn.never (t3tru (e3v 4))
      (ss_cons (s_asg (e3bmL0 PySem.F.slot_list_pop PySem.F.type_list_pop m_pop (e3v 4)) (pg_tup (n := 2) rfl (pgs_cons (pg_name (i := 5) sc_pattern_counts.nd rfl (by first | exact Or.inl rfl | exact Or.inr rfl)) (pgs_cons (pg_name (i := 6) sc_pattern_counts.nd rfl (by first | exact Or.inl rfl | exact Or.inr rfl)) pgs_nil))) (gl_tup (gl_cons gl_name (gl_cons gl_name gl_nil))))
        (ss_one (s_if (PW.pt (w3and (t3cmp (o_eq hu64) (e3v 5) e3str) (w3and1 (t3not (t3val (e3v 6))))))
        (ss_one (s_aug (i := 1) sc_pattern_counts.nd ip_add e3int))
        (ss_one (s_if (PW.pt (w3or (t3not (t3val (e3B k_isi T.isinstance (a3cons (e3v 5) (a3cons (e3ty (n := "tuple") rfl T.tuple (by decide +kernel)) a3nil))))) (w3or1 (t3not (t3val (e3call O_part_ok.G hr_part_ok O_part_ok.g O_part_ok.kp O_part_ok.b pass0 (a3cons (e3v 5) (a3cons (e3v 6) a3nil))))))))
          (ss_one (s_ret e3non))
          (ss_one (s_if (t3cmp (o_eq hu64) (e3ix (e3v 5) e3int) e3str)
            (ss_one (s_aug (i := 2) sc_pattern_counts.nd ip_add e3int))
            (ss_cons (s_aug (i := 3) sc_pattern_counts.nd ip_add e3int)
              (ss_one (s_expr (e3bmL PySem.F.slot_list_extend PySem.F.type_list_extend m_extend (e3v 4) (a3cons (e3lc (own := [("sub", 7)]) rfl sc_pattern_counts.nd (i_tup (e3sl (e3v 5) (o3some e3int) o3none)) (blkOk_by (N := pattern_counts_N) (sc := defScope s_pattern_counts) (by decide +kernel)) (gl_own (by decide)) (fun _ _ _ _ _ => (pg_name (i := 7) sc_pattern_counts.nd rfl (by first | exact Or.inl rfl | exact Or.inr rfl))) (fun _ _ _ _ _ => ts3nil) (fun _ _ _ _ _ => (e3tup (a3cons (e3v 7) (a3cons e3bl a3nil))))) a3nil)))))))))))))
      (ss_one (s_ret (e3tup (a3cons (e3v 1) (a3cons (e3v 2) (a3cons (e3v 3) a3nil))))))))), ?_⟩
  refine ⟨rfl, rfl, ?_⟩
  refine ⟨rfl, rfl, fun L hL => ?_⟩
  generalize hR : sumP n0 true p0 = R at hq
  try dsimp only [seq3, asg3, n3, v3, drop3, ret3, next3, List.set_cons_zero, List.set_cons_succ, List.getElem?_cons_zero, List.getElem?_cons_succ, start3, List.map_cons, List.map_nil, List.length_cons, List.length_nil, List.replicate, List.cons_append, List.nil_append, Nat.reduceSub, Nat.reduceAdd]
  refine ⟨fun m σ G' => ∃ (st : List En) (h l o : Int) (z5 z6 z7 : Option U), σ = [some (uP p0), some (.int h), some (.int l), some (.int o), some (.ref L), z5, z6, z7] ∧ L3.Sub G G' ∧ G' L = some (.lst (st.map uE)) ∧ (∀ e ∈ st, wp e.1 e.2.1 = true ∧ e.1 ≤ 5) ∧ addO (some (h, l, o)) (tot st) = R ∧ szE st = m ∧ m ≤ 16807,
    ⟨_, [(n0, p0, true)], 0, 0, 0, _, _, _, rfl, Sub.new (Sub.refl G) hL, gup_same, fun e he => by rw [List.mem_singleton.mp he]; exact ⟨hw0, hn0⟩, by rw [tot_one, addO_comm, addO_zero]; exact hR, rfl, by show sz p0 + 0 ≤ _; omega⟩, ?_⟩
  rintro m σ' G' ⟨st, h, l, o, z5, z6, z7, rfl, hs, hst, hwp, htot, hm, hmb⟩
  refine ⟨_, hst, ?_⟩
  rcases snoc_cases st with rfl | ⟨st, e, rfl⟩
  · refine ifF rfl ?_
    refine ⟨rfl, Wk.sub ?_ hs⟩
    have : R = some (h, l, o) := by rw [← htot]; exact addO_zero _
    rw [this] at hq
    exact hq
  refine ifT (by simp) ?_
  rw [List.map_append] at hst
  refine ⟨⟨_, hst⟩, _, uE e, hst, rfl, ?_⟩
  obtain ⟨n, p, top⟩ := e
  obtain ⟨hwe, hne⟩ := hwp (n, p, top) (List.mem_append_right _ (List.mem_singleton.mpr rfl))
  have hwe : wp n p = true := hwe
  have hne : n ≤ 5 := hne
  have hwp' : ∀ e ∈ st, wp e.1 e.2.1 = true ∧ e.1 ≤ 5 := fun e he => hwp e (List.mem_append_left _ he)
  have htot' : addO (addO (some (h, l, o)) (tot st)) (sumP n top p) = R := by
    rw [← htot, tot_append, tot_one, addO_assoc]
    rfl
  have hm' : szE st + sz p = m := by
    rw [← hm, szE_append]
    show _ = szE st + (sz p + 0)
    omega
  have hzp := sz_pos p
  have hs1 : L3.Sub G (gup G' L (.lst (st.map uE))) := Sub.new hs hL
  have hL1 : gup G' L (.lst (st.map uE)) L = some (.lst (st.map uE)) := gup_same
  generalize gup G' L (.lst (st.map uE)) = G1 at hs1 hL1 ⊢
  have bad : sumP n top p = none → Wk Q .non G1 := fun hn => by
    rw [hn, addO_none] at htot'
    rw [← htot'] at hq
    exact Wk.sub hq hs1
  have dp : dat (uP p) = true := dat_P hwe (by omega)
  refine ⟨dp, du, ?_⟩
  cases p with
  | a x =>
    have hv : sumP n top (.a x) = if x = "_" ∧ top = false then some (1, 0, 0) else none := by cases n <;> rfl
    have notTup : (x = "_" → top = true) → _ := fun h => h
    by_cases hx : x = "_"
    · refine ifT (by rw [if_neg Bool.false_ne_true, uP, eq3_s, hx]; rfl) ?_
      cases top with
      | false =>
        rw [hv, if_pos ⟨hx, rfl⟩] at htot'
        refine ⟨szE st, by rw [← hm']; omega, ?_⟩
        refine Wk2.of ⟨st, h + 1, l, o, _, _, _, rfl, hs1, hL1, hwp', ?_, rfl, by omega⟩
        rw [← htot', addO_assoc, addO_comm (tot st), ← addO_assoc]
        simp [addO]
      | true =>
        refine ⟨"str", false, rfl, kit_st, ?_⟩
        exact bad (by rw [hv, if_neg (fun h => by cases h.2)])
    · refine ifF (by rw [if_neg Bool.false_ne_true, uP, eq3_s]; exact beq_eq_false_iff_ne.mpr hx) ?_
      refine ⟨"str", false, rfl, kit_st, ?_⟩
      exact bad (by rw [hv, if_neg (fun h => hx h.1)])
  | l lo hi =>
    have hv : sumP n top (.l lo hi) = if partOk (.l lo hi) top = true then some (0, 1, 0) else none := by cases n <;> rfl
    refine ifF (by rw [if_neg Bool.false_ne_true, uP]; rfl) ?_
    refine ⟨"tuple", true, rfl, kit_tt, ?_⟩
    refine ⟨.l lo hi, top, n, rfl, hwe, (fun x => by intro h; cases h), ?_⟩
    cases hb : partOk (.l lo hi) top with
    | false => exact bad (by rw [hv, if_neg (by rw [hb]; exact Bool.false_ne_true)])
    | true =>
      rw [hv, if_pos hb] at htot'
      refine ⟨.str "lit", rfl, dl, dl, ?_⟩
      refine ifT (by rfl) ?_
      refine ⟨szE st, by omega, ?_⟩
      refine Wk2.of ⟨st, h, l + 1, o, _, _, _, rfl, hs1, hL1, hwp', ?_, rfl, by omega⟩
      rw [← htot', addO_assoc, addO_comm (tot st), ← addO_assoc]
      simp [addO]
  | o op subs =>
    cases n with
    | zero => cases hwe
    | succ n =>
      have hw2 := hwe
      unfold wp at hw2
      simp only [Bool.and_eq_true, decide_eq_true_eq] at hw2
      obtain ⟨⟨⟨hso, hnl⟩, hsl⟩, hsub⟩ := hw2
      have hv : sumP (n + 1) top (.o op subs) = if partOk (.o op subs) top = true then addO (some (0, 0, 1)) (subs.foldr (fun p acc => addO (sumP n false p) acc) (some (0, 0, 0))) else none := rfl
      refine ifF (by rw [if_neg Bool.false_ne_true, uP]; rfl) ?_
      refine ⟨"tuple", true, by rw [uP]; rfl, kit_tt, ?_⟩
      refine ⟨.o op subs, top, n + 1, rfl, hwe, (fun x => by intro h; cases h), ?_⟩
      cases hb : partOk (.o op subs) top with
      | false => exact bad (by rw [hv, if_neg (by rw [hb]; exact Bool.false_ne_true)])
      | true =>
        rw [hv, if_pos hb, ← tot_subs] at htot'
        have hzs : sz (.o op subs) = 1 + szs subs := by rw [sz]
        rw [hzs] at hm'
        have eU : uP (.o op subs) = .tup (U.str op :: subs.map uP) := by rw [uP, uPs_map]
        rw [eU]
        refine ⟨.str op, atI_eq (i := 0) rfl rfl, dat_s hso, dl, ?_⟩
        refine ifF (by rw [if_neg Bool.false_ne_true, eq3_s]; exact beq_eq_false_iff_ne.mpr hnl) ?_
        refine ⟨⟨_, hL1⟩, ?_⟩
        refine lc_of ?_
        have ec : cut3 (U.str op :: subs.map uP) (some 1) none = subs.map uP := by
          unfold cut3
          rw [show (some (1 : Int)) = some ((1 : Nat) : Int) from rfl, HT.sIx_nat, HT.sIx_none, Nat.min_eq_left (by rw [List.length_cons]; omega)]
          show (subs.map uP).take _ = _
          rw [List.take_of_length_le (by rw [List.length_cons]; omega)]
        refine ⟨by rw [show (some (1 : Int)) = some ((1 : Nat) : Int) from rfl, HT.sIx_nat, Nat.min_eq_left (by rw [List.length_cons]; omega)]; omega, ?_⟩
        rw [ec]
        refine lcK_of subs uP (fun _ => true) (fun p => p) (fun p => U.tup [uP p, .bl false]) (fun _ _ => trivial) (by omega) (fun y hy G' hs Y N hy' hn => ⟨rfl, hy' rfl _ (Sub.refl _)⟩) fun L2 hL2 => ?_
        rw [filt_all, List.map_id']
        have n12 := gne_none hL1 hL2
        have e2 : gup G1 L2 (.lst (subs.map fun p => U.tup [uP p, .bl false])) L = some (.lst (st.map uE)) := by rw [gup_ne n12]; exact hL1
        refine ⟨_, _, e2, gup_same, decide_eq_true (by rw [List.length_map, List.length_map]; have := szE_len st; omega), ?_⟩
        have hs2 : L3.Sub G (gup G1 L2 (.lst (subs.map fun p => U.tup [uP p, .bl false]))) := Sub.new hs1 (hs1.free hL2)
        generalize gup G1 L2 (.lst (subs.map fun p => U.tup [uP p, .bl false])) = G2 at hs2 ⊢
        refine ⟨szE (st ++ subs.map fun p => (n, p, false)), by rw [szE_append, szE_subs]; omega, ?_⟩
        refine Wk2.of ⟨st ++ subs.map fun p => (n, p, false), h, l, o + 1, _, _, _, rfl, Sub.new hs2 hL, ?_, ?_, ?_, rfl, by rw [szE_append, szE_subs]; omega⟩
        · rw [gup_same, List.map_append, List.map_map]
          rfl
        · intro e he
          rcases List.mem_append.mp he with he | he
          · exact hwp' e he
          · obtain ⟨q, hq2, rfl⟩ := List.mem_map.mp he
            exact ⟨List.all_eq_true.mp hsub q hq2, by show n ≤ 5; omega⟩
        · rw [tot_append, ← htot']
          exact addO_push _ _ _ _ _
def spPK : Sp3 := fun ws G Q _ => ∃ (p : Pt) (n : Nat), ws = [uP p] ∧ wp n p = true ∧ n ≤ 5 ∧ Q (.bl (sumP n true p).isSome) G
theorem ok_pk {f fp : Addr} {fd fdp : FuncData} (F : Fun K "pattern_ok" "pattern_ok" s_pattern_ok f fd) (O_pattern_counts : Own P w K mg base 3 "pattern_counts" ["pattern"] spPC fp fdp) : FnOk P w K mg base CX0 4 f fd ["pattern"] (lowSp K spPK) := by
  refine Fun_ok3 F sc_pattern_ok (fun ws G Q E h => by obtain ⟨_, _, rfl, _⟩ := h; rfl) (fun cdv A outer s H E ws G Q E3 hr h => ?_)
  have hr_pattern_counts : Room 3 _ := hr
  obtain ⟨p, n, rfl, hw, hn, hq⟩ := h
  refine ⟨_, (ss_one (s_ret (e3cmp o_notN (e3call O_pattern_counts.G hr_pattern_counts O_pattern_counts.g O_pattern_counts.kp O_pattern_counts.b pass0 (a3cons (e3v 0) a3nil)) e3non))), ?_⟩
  refine ⟨p, n, rfl, hw, hn, ?_⟩
  cases e : sumP n true p with
  | none => rw [e] at hq; exact Wk.of hq
  | some a => rw [e] at hq; exact Wk.of hq
end
end K20
end
section
set_option Elab.async false
set_option linter.all false
set_option maxRecDepth 100000
set_option maxHeartbeats 2000000
namespace K20
open PySem L2 L3
/-- the tiles, as a tuple or as a list -/
def TL (x : U) (ts : List Tile) (G : G3) : Prop := x = .tup (ts.map uT) ∨ ∃ a, x = .ref a ∧ G a = some (.lst (ts.map uT))
theorem TL.sub {x : U} {ts : List Tile} {G G' : G3} (h : TL x ts G) (s : L3.Sub G G') : TL x ts G' := by
  rcases h with h | ⟨a, h1, h2⟩
  · exact .inl h
  · exact .inr ⟨a, h1, s _ _ h2⟩
theorem rIx_any {x : U} {ts : List Tile} {G : G3} {Q : K3} {j : Int} {i : Nat} {t : Tile} (hx : TL x ts G) (e : j = (i : Nat)) (h : ts[i]? = some t) (q : Q (uT t) G) : rIx3 x (.int j) G Q := by
  have ha : L2.atI (ts.map uT) j = some (uT t) := atI_eq e (by rw [List.getElem?_map, h]; rfl)
  rcases hx with rfl | ⟨a, rfl, hg⟩
  · exact ⟨_, ha, q⟩
  · exact ⟨_, _, hg, ha, q⟩
theorem len_any {x : U} {ts : List Tile} {G : G3} {Q : K3} (hx : TL x ts G) (q : Q (.int (ts.length : Nat)) G) : kLen [x] G Q := by
  rcases hx with rfl | ⟨a, rfl, hg⟩
  · show Q (.int ((ts.map uT).length : Nat)) G
    rw [List.length_map]; exact q
  · refine .inl ⟨_, hg, ?_⟩
    rw [List.length_map]; exact q
/-- the tiles are walked -/
theorem ia_any {i : Nat} {σ : S3} {x : U} {ts : List Tile} {G : G3} {R : It3 → G3 → Prop} (h : σ[i]? = some (some x)) (hx : TL x ts G) (q : ∀ ok : G3 → Prop, (∀ G', L3.Sub G G' → ok G') → R ⟨ts.map uT, ok⟩ G) : ia3 (v3 i) σ G R := by
  rcases hx with rfl | ⟨a, rfl, hg⟩
  · exact .inr (v3_of h (q _ fun _ _ => trivial))
  · exact .inl (v3_of h ⟨_, hg, q _ fun G' s => s _ _ hg⟩)
theorem lcAny {i : Nat} {σ : S3} {x : U} {ts : List Tile} {G : G3} {g : TG3} {tt : TT3} {te : TE3} {vs : List Nat} {Q : K3} (h0 : σ[0]? = some (some x)) (h1 : σ[1]? = some (some (.int (i : Nat)))) (hx : TL x ts G) (hi : i < ts.length)
    (h : ∀ (ok : G3 → Prop) (G1 : G3), L3.Sub G G1 → (∀ G', L3.Sub G1 G' → ok G') → lcK g tt te vs σ Q ⟨(ts.take i).map uT, ok⟩ G1) : lc3 (ia3 (sl3 (v3 0) noPart3 (part3 (v3 1)))) g tt te vs σ G Q := by
  refine lc_of ?_
  rcases hx with rfl | ⟨a, rfl, hg⟩
  · refine .inr ?_
    unfold it3 sl3
    refine v3_of h0 ?_
    unfold noPart3 part3
    refine v3_of h1 ⟨?_, ?_⟩
    · rw [List.length_map, HT.sIx_nat, Nat.min_eq_left (by omega)]
      omega
    · rw [cut_to uT ts i (by omega)]
      exact h _ _ (Sub.refl _) fun _ _ => trivial
  · refine .inl ?_
    unfold il3 sl3
    refine v3_of h0 ?_
    unfold noPart3 part3
    refine v3_of h1 ⟨_, hg, fun p hp => ?_⟩
    rw [cut_to uT ts i (by omega)]
    exact ⟨_, gup_same, h _ _ (Sub.new (Sub.refl G) hp) fun G' s => s _ _ gup_same⟩
def big (a : T3) : Bool := decide (3 < a.1) || (decide (2 < a.2.1) || decide (4 < a.2.2))
def faultOf (t : Tile) (inb : Bool) : Str := if isW t.w = false ∨ inb = true then "word" else match sumP 5 true t.p with
  | none => "pattern"
  | some a => if big a = true then "size" else timing t.b t.t
def tfault (ts : List Tile) (i : Nat) : Str := if i = 40 then "count" else match ts[i]? with
  | none => ""
  | some t => faultOf t (decide (t.w ∈ (ts.take i).map (·.w)))
theorem timing_ok (b t : Int) : PySem.PyData.strOk (timing b t) = true ∧ (timing b t).length ≤ 10 := by
  unfold timing
  split
  · decide +kernel
  · split
    · decide +kernel
    · decide +kernel
theorem faultOf_ok (t : Tile) (b : Bool) : PySem.PyData.strOk (faultOf t b) = true ∧ (faultOf t b).length ≤ 10 := by
  unfold faultOf
  split
  · decide +kernel
  · split
    · decide +kernel
    · split
      · decide +kernel
      · exact timing_ok _ _
theorem tfault_ok (ts : List Tile) (i : Nat) : PySem.PyData.strOk (tfault ts i) = true ∧ (tfault ts i).length ≤ 10 := by
  unfold tfault
  split
  · decide +kernel
  · split
    · decide +kernel
    · exact faultOf_ok _ _
def opsAll : List Str := COUNTS.map (·.1)
theorem ops_ok : ∀ op ∈ opsAll, ∃ k, COUNTS.lookup op = some k ∧ 0 ≤ k ∧ k ≤ 6 ∧ PySem.PyData.strOk op = true ∧ op ≠ "lit" := by
  intro op h
  have h : op ∈ (["const", "add", "sub", "mul", "less", "same", "both", "either", "not", "pick", "div", "rem", "ask", "say", "get", "put"] : List Str) := h
  simp only [List.mem_cons, List.not_mem_nil, or_false] at h
  rcases h with rfl | rfl | rfl | rfl | rfl | rfl | rfl | rfl | rfl | rfl | rfl | rfl | rfl | rfl | rfl | rfl <;> exact ⟨_, rfl, by decide, by decide, by decide +kernel, by decide +kernel⟩
theorem wp_plain {op : Str} (h : op ∈ opsAll) : wp 1 (plainP op) = true := by
  obtain ⟨k, hk, h0, h6, hs, hl⟩ := ops_ok op h
  unfold plainP
  split
  · rfl
  · rw [hk]
    show (PySem.PyData.strOk op && decide (op ≠ "lit") && decide ((List.replicate k.toNat (Pt.a "_")).length ≤ 6) && (List.replicate k.toNat (Pt.a "_")).all (wp 0)) = true
    rw [hs, decide_eq_true hl, List.length_replicate, decide_eq_true (by omega)]
    rw [List.all_eq_true.mpr]
    · rfl
    · intro x hx
      rw [List.eq_of_mem_replicate hx]
      show PySem.PyData.strOk "_" = true
      decide +kernel
def hasP (ts : List Tile) (op : Str) : Bool := (ts.map (·.p)).any fun z => eq3 (uP z) (uP (plainP op))
def lacks (ts : List Tile) : Bool := !(opsAll.all (hasP ts))
section
variable {P : Program} {w : World} {K : PySem.W.Frag} {mg : Str → Option Value} {base : Heap}
abbrev s_tile_fault : Stmt := topS 28
abbrev tile_fault_N : List Str := ["tiles", "at", "word", "pattern", "busy", "wait", "holes", "lits", "operations", "tile"]
theorem sc_tile_fault : FnScope tile_fault_N ["tiles", "at"] (defScope s_tile_fault) := ⟨rfl, rfl, rfl, by decide +kernel, rfl, by decide +kernel, by decide +kernel⟩
abbrev s_lacks_tile : Stmt := topS 29
abbrev lacks_tile_N : List Str := ["tiles", "patterns", "tile", "operation"]
theorem sc_lacks_tile : FnScope lacks_tile_N ["tiles"] (defScope s_lacks_tile) := ⟨rfl, rfl, rfl, by decide +kernel, rfl, by decide +kernel, by decide +kernel⟩
abbrev s_check_machine : Stmt := topS 30
abbrev check_machine_N : List Str := ["places", "tiles", "basic", "exchange", "at", "why", "busy", "wait", "pair"]
theorem sc_check_machine : FnScope check_machine_N ["places", "tiles", "basic", "exchange"] (defScope s_check_machine) := ⟨rfl, rfl, rfl, by decide +kernel, rfl, by decide +kernel, by decide +kernel⟩
def spTFa : Sp3 := fun ws G Q _ => ∃ (x : U) (ts : List Tile) (i : Nat) (t : Tile), ws = [x, .int (i : Nat)] ∧ TL x ts G ∧ ts[i]? = some t ∧ (∀ t ∈ ts, OkT t) ∧ ts.length ≤ 100 ∧ Q (.str (tfault ts i)) G
theorem ok_tfa {f f1 f2 f3 f4 dC : Addr} {fd fd1 fd2 fd3 fd4 : FuncData} (F : Fun K "tile_fault" "tile_fault" s_tile_fault f fd) (T : Tg mg) (Gb : Glb K w mg dC) (O_is_word : Own P w K mg base 1 "is_word" ["text"] spIW f1 fd1) (O_pattern_ok : Own P w K mg base 4 "pattern_ok" ["pattern"] spPK f2 fd2) (O_pattern_counts : Own P w K mg base 3 "pattern_counts" ["pattern"] spPC f3 fd3) (O_timing_fault : Own P w K mg base 1 "timing_fault" ["busy", "wait"] spTF f4 fd4) : FnOk P w K mg base CX0 5 f fd ["tiles", "at"] (lowSp K spTFa) := by
  refine Fun_ok3 F sc_tile_fault (fun ws G Q E h => by obtain ⟨_, _, _, _, rfl, _⟩ := h; rfl) (fun cdv A outer s H E ws G Q E3 hr h => ?_)
  have hu64 := hr.units
  have hu65 : (A.deeper (PyProof.Rows.envOfC "tile_fault" (defScope s_tile_fault) s.heap.objs.size f cdv)).units + 65 < cLine := by have := hr.un; omega
  have hr_is_word : Room 1 _ := hr.mono (by decide)
  have hr_pattern_ok : Room 4 _ := hr
  have hr_pattern_counts : Room 3 _ := hr.mono (by decide)
  have hr_timing_fault : Room 1 _ := hr.mono (by decide)
  obtain ⟨x, ts, i, t, rfl, hx, ht, hok, hlen, hq⟩ := h
  have hi := (List.getElem?_eq_some_iff.mp ht).1
  have hot := hok t (List.mem_of_getElem? ht)
  refine ⟨_, (ss_cons (s_if (t3cmp (o_eq hu64) (e3v 1) (e3gi rfl Gb.mt))
      (ss_one (s_ret e3str))
      ss_nil)
      (ss_cons (s_asg (e3ix (e3v 0) (e3v 1)) (pg_tup (n := 4) rfl (pgs_cons (pg_name (i := 2) sc_tile_fault.nd rfl (by first | exact Or.inl rfl | exact Or.inr rfl)) (pgs_cons (pg_name (i := 3) sc_tile_fault.nd rfl (by first | exact Or.inl rfl | exact Or.inr rfl)) (pgs_cons (pg_name (i := 4) sc_tile_fault.nd rfl (by first | exact Or.inl rfl | exact Or.inr rfl)) (pgs_cons (pg_name (i := 5) sc_tile_fault.nd rfl (by first | exact Or.inl rfl | exact Or.inr rfl)) pgs_nil))))) (gl_tup (gl_cons gl_name (gl_cons gl_name (gl_cons gl_name (gl_cons gl_name gl_nil))))))
      (ss_cut (s_if (PW.pt (w3or (t3not (t3val (e3call O_is_word.G hr_is_word O_is_word.g O_is_word.kp O_is_word.b pass0 (a3cons (e3v 2) a3nil)))) (w3or1 (t3cmp (o_in hu65) (e3v 2) (e3lc (own := [("tile", 9)]) rfl sc_tile_fault.nd (i_any (e3sl (e3v 0) o3none (o3some (e3v 1)))) (blkOk_by (N := tile_fault_N) (sc := defScope s_tile_fault) (by decide +kernel)) (gl_own (by decide)) (fun _ _ _ _ _ => (pg_name (i := 9) sc_tile_fault.nd rfl (by first | exact Or.inl rfl | exact Or.inr rfl))) (fun _ _ _ _ _ => ts3nil) (fun _ _ _ _ _ => (e3ix (e3v 9) e3int))) rfl))))
      (ss_one (s_ret e3str))
      ss_nil)
      (ss_cons (s_if (t3not (t3val (e3call O_pattern_ok.G hr_pattern_ok O_pattern_ok.g O_pattern_ok.kp O_pattern_ok.b pass0 (a3cons (e3v 3) a3nil))))
      (ss_one (s_ret e3str))
      ss_nil)
      (ss_cons (s_asg (e3call O_pattern_counts.G hr_pattern_counts O_pattern_counts.g O_pattern_counts.kp O_pattern_counts.b pass0 (a3cons (e3v 3) a3nil)) (pg_tup (n := 3) rfl (pgs_cons (pg_name (i := 6) sc_tile_fault.nd rfl (by first | exact Or.inl rfl | exact Or.inr rfl)) (pgs_cons (pg_name (i := 7) sc_tile_fault.nd rfl (by first | exact Or.inl rfl | exact Or.inr rfl)) (pgs_cons (pg_name (i := 8) sc_tile_fault.nd rfl (by first | exact Or.inl rfl | exact Or.inr rfl)) pgs_nil)))) (gl_tup (gl_cons gl_name (gl_cons gl_name (gl_cons gl_name gl_nil)))))
      (ss_cons (s_if (PW.pt (w3or (t3cmp o_gt (e3v 6) (e3gi rfl Gb.mh)) (w3or (t3cmp o_gt (e3v 7) (e3gi rfl Gb.mi)) (w3or1 (t3cmp o_gt (e3v 8) (e3gi rfl Gb.mo))))))
      (ss_one (s_ret e3str))
      ss_nil)
      (ss_one (s_ret (e3call O_timing_fault.G hr_timing_fault O_timing_fault.g O_timing_fault.kp O_timing_fault.b pass0 (a3cons (e3v 4) (a3cons (e3v 5) a3nil))))))))))), ?_⟩
  refine ⟨dat_int _, dat_int _, ?_⟩
  by_cases h40 : i = 40
  · refine ifT (by rw [if_neg Bool.false_ne_true, eq3_int, h40]; rfl) ?_
    unfold tfault at hq
    rw [if_pos h40] at hq
    exact Wk.of hq
  refine ifF (by rw [if_neg Bool.false_ne_true, eq3_int]; simp; omega) ?_
  have ef : tfault ts i = faultOf t (decide (t.w ∈ (ts.take i).map (·.w))) := by
    unfold tfault
    rw [if_neg h40, ht]
  rw [ef] at hq
  try dsimp only [retN3, ret3, next3, seq3, asg3, n3, v3, c3, drop3, ret3, next3, te3, op3, ifS3, cb3, cons3, nil3, call3, lst3, tup3, un3, List.set_cons_zero, List.set_cons_succ, List.getElem?_cons_zero, List.getElem?_cons_succ, start3, List.map_cons, List.map_nil, List.length_cons, List.length_nil, List.replicate, List.cons_append, List.nil_append, Nat.reduceSub, Nat.reduceAdd]
  refine rIx_any hx rfl ht ?_
  refine ⟨rfl, ?_⟩
  refine ⟨fun σ' G' => σ' = [some x, some (.int (i : Nat)), some (.str t.w), some (uP t.p), some (.int t.b), some (.int t.t), none, none, none, none] ∧ L3.Sub G G' ∧ isW t.w = true ∧ t.w ∉ (ts.take i).map (·.w), ?_, ?_⟩
  · refine ⟨t.w, rfl, hot.w, by have := hot.wl; omega, ?_⟩
    have word : (isW t.w = false ∨ decide (t.w ∈ (ts.take i).map (·.w)) = true) → ∀ G', L3.Sub G G' → Wk Q (.str "word") G' := fun h G' s => by
      unfold faultOf at hq
      rw [if_pos h] at hq
      exact Wk.sub hq s
    by_cases hw : isW t.w = true
    · refine ifF (by rw [hw]; rfl) ?_
      try dsimp only [retN3, ret3, next3, seq3, asg3, n3, v3, c3, drop3, ret3, next3, te3, op3, ifS3, cb3, cons3, nil3, call3, lst3, tup3, un3, List.set_cons_zero, List.set_cons_succ, List.getElem?_cons_zero, List.getElem?_cons_succ, start3, List.map_cons, List.map_nil, List.length_cons, List.length_nil, List.replicate, List.cons_append, List.nil_append, Nat.reduceSub, Nat.reduceAdd]
      refine lcAny rfl rfl hx hi fun ok G1 s1 hok1 => ?_
      refine lcK_of (ts.take i) uT (fun _ => true) (fun t => t.w) U.str hok1 (by rw [List.length_take]; omega) (fun y hy G' hs Y N hy' hn => ⟨.str y.w, rfl, hy' rfl _ (Sub.refl _)⟩) fun L hL => ?_
      rw [filt_all]
      have hws : ∀ z ∈ (ts.take i).map (·.w), PySem.PyData.strOk z = true := fun z hz => by
        obtain ⟨t', ht', rfl⟩ := List.mem_map.mp hz
        exact (hok t' (List.mem_of_mem_take ht')).w
      refine ⟨_, gup_same, dat_s hot.w, dat_Ss hws, ?_⟩
      by_cases hin : t.w ∈ (ts.take i).map (·.w)
      · refine ifT (by rw [if_neg Bool.false_ne_true, any_s]; exact decide_eq_true hin) ?_
        exact word (.inr (decide_eq_true hin)) _ (Sub.new s1 (s1.free hL))
      · refine ifF (by rw [if_neg Bool.false_ne_true, any_s]; exact decide_eq_false hin) ?_
        exact Wk2.of ⟨rfl, Sub.new s1 (s1.free hL), hw, hin⟩
    · have hw : isW t.w = false := by simpa using hw
      refine ifT (by rw [hw]; rfl) ?_
      exact word (.inl hw) _ (Sub.refl _)
  · rintro σ' G' ⟨rfl, hs, hw, hin⟩
    have hsum : faultOf t (decide (t.w ∈ (ts.take i).map (·.w))) = match sumP 5 true t.p with
      | none => ("pattern" : Str)
      | some a => if big a = true then "size" else timing t.b t.t := by
      unfold faultOf
      rw [if_neg (fun h => by
        rcases h with h | h
        · rw [hw] at h; cases h
        · exact hin (of_decide_eq_true h))]
    rw [hsum] at hq
    try dsimp only [seq3, asg3, n3, v3, drop3, ret3, next3, List.set_cons_zero, List.set_cons_succ, List.getElem?_cons_zero, List.getElem?_cons_succ, start3, List.map_cons, List.map_nil, List.length_cons, List.length_nil, List.replicate, List.cons_append, List.nil_append, Nat.reduceSub, Nat.reduceAdd]
    refine ⟨t.p, 5, rfl, hot.p, Nat.le_refl _, ?_⟩
    cases hsp : sumP 5 true t.p with
    | none =>
      rw [hsp] at hq
      exact Wk.sub hq hs
    | some a =>
      rw [hsp] at hq
      dsimp only at hq
      refine ⟨t.p, 5, rfl, hot.p, Nat.le_refl _, ?_⟩
      rw [hsp]
      refine ⟨rfl, ?_⟩
      have size : big a = true → Wk Q (.str "size") G' := fun h => by rw [if_pos h] at hq; exact Wk.sub hq hs
      by_cases h1 : (3 : Int) < a.1
      · refine ifT (decide_eq_true h1) ?_
        exact size (by unfold big; rw [decide_eq_true h1]; rfl)
      refine ifF (decide_eq_false h1) ?_
      by_cases h2 : (2 : Int) < a.2.1
      · refine ifT (decide_eq_true h2) ?_
        exact size (by unfold big; rw [decide_eq_true h2]; simp)
      refine ifF (decide_eq_false h2) ?_
      by_cases h3 : (4 : Int) < a.2.2
      · refine ifT (decide_eq_true h3) ?_
        exact size (by unfold big; rw [decide_eq_true h3]; simp)
      refine ifF (decide_eq_false h3) ?_
      rw [if_neg (by unfold big; rw [decide_eq_false h1, decide_eq_false h2, decide_eq_false h3]; decide)] at hq
      exact ⟨_, _, rfl, Wk.sub hq hs⟩
def spLT : Sp3 := fun ws G Q _ => ∃ (x : U) (ts : List Tile), ws = [x] ∧ TL x ts G ∧ (∀ t ∈ ts, OkT t) ∧ ts.length ≤ 100 ∧ Q (.bl (lacks ts)) G
theorem ok_lt {f f1 dC : Addr} {fd fd1 : FuncData} (F : Fun K "lacks_tile" "lacks_tile" s_lacks_tile f fd) (T : Tg mg) (Gb : Glb K w mg dC) (O_plain_pattern : Own P w K mg base 1 "plain_pattern" ["operation"] spPP f1 fd1) : FnOk P w K mg base CX0 2 f fd ["tiles"] (lowSp K spLT) := by
  refine Fun_ok3 F sc_lacks_tile (fun ws G Q E h => by obtain ⟨_, _, rfl, _⟩ := h; rfl) (fun cdv A outer s H E ws G Q E3 hr h => ?_)
  have hu64 := hr.units
  have hu65 : (A.deeper (PyProof.Rows.envOfC "lacks_tile" (defScope s_lacks_tile) s.heap.objs.size f cdv)).units + 65 < cLine := by have := hr.un; omega
  have hr_plain_pattern : Room 1 _ := hr
  obtain ⟨x, ts, rfl, hx, hok, hlen, hq⟩ := h
  refine ⟨_, (ss_cons (s_set (i := 1) sc_lacks_tile.nd (e3lc (own := [("tile", 2)]) rfl sc_lacks_tile.nd (i_any (e3v 0)) (blkOk_by (N := lacks_tile_N) (sc := defScope s_lacks_tile) (by decide +kernel)) (gl_own (by decide)) (fun _ _ _ _ _ => (pg_name (i := 2) sc_lacks_tile.nd rfl (by first | exact Or.inl rfl | exact Or.inr rfl))) (fun _ _ _ _ _ => ts3nil) (fun _ _ _ _ _ => (e3ix (e3v 2) e3int))))
      (ss_one (s_ret (e3not (e3B (k_all rfl) T.all (a3cons (e3lc (own := [("operation", 3)]) rfl sc_lacks_tile.nd (i_kw Gb.cd.names (e3glob rfl Gb.cg)) (blkOk_by (N := lacks_tile_N) (sc := defScope s_lacks_tile) (by decide +kernel)) (gl_own (by decide)) (fun _ _ _ _ _ => (pg_name (i := 3) sc_lacks_tile.nd rfl (by first | exact Or.inl rfl | exact Or.inr rfl))) (fun _ _ _ _ _ => ts3nil) (fun _ _ _ _ _ => (e3cmp (o_in hu65) (e3call O_plain_pattern.G hr_plain_pattern O_plain_pattern.g O_plain_pattern.kp O_plain_pattern.b pass0 (a3cons (e3v 3) a3nil)) (e3v 1) rfl))) a3nil)))))), ?_⟩
  try dsimp only [seq3, asg3, n3, v3, drop3, ret3, next3, List.set_cons_zero, List.set_cons_succ, List.getElem?_cons_zero, List.getElem?_cons_succ, start3, List.map_cons, List.map_nil, List.length_cons, List.length_nil, List.replicate, List.cons_append, List.nil_append, Nat.reduceSub, Nat.reduceAdd]
  refine lc_of ?_
  refine ia_any rfl hx fun ok hok1 => ?_
  refine lcK_of ts uT (fun _ => true) (fun t => t.p) uP hok1 (by omega) (fun y hy G' hs Y N hy' hn => ⟨uP y.p, rfl, hy' rfl _ (Sub.refl _)⟩) fun L hL => ?_
  rw [filt_all]
  have s1 : L3.Sub G (gup G L (.lst ((ts.map (·.p)).map uP))) := Sub.new (Sub.refl G) hL
  have hL1 : gup G L (.lst ((ts.map (·.p)).map uP)) L = some (.lst ((ts.map (·.p)).map uP)) := gup_same
  generalize gup G L (.lst ((ts.map (·.p)).map uP)) = G1 at s1 hL1 ⊢
  have hps : ∀ p ∈ ts.map (·.p), wp 5 p = true := fun p hp => by
    obtain ⟨t, ht, rfl⟩ := List.mem_map.mp hp
    exact (hok t ht).p
  unfold notV3
  try dsimp only [retN3, ret3, next3, seq3, asg3, n3, v3, c3, drop3, ret3, next3, te3, op3, ifS3, cb3, cons3, nil3, call3, lst3, tup3, un3, List.set_cons_zero, List.set_cons_succ, List.getElem?_cons_zero, List.getElem?_cons_succ, start3, List.map_cons, List.map_nil, List.length_cons, List.length_nil, List.replicate, List.cons_append, List.nil_append, Nat.reduceSub, Nat.reduceAdd]
  refine lc_of ?_
  refine ⟨rfl, ?_⟩
  refine lcK_of opsAll U.str (fun _ => true) (hasP ts) U.bl (fun _ _ => trivial) (by decide) (fun y hy G' hs Y N hy' hn => ?_) fun L2 hL2 => ?_
  · obtain ⟨k, hk, h0, h6, hso, hl⟩ := ops_ok y hy
    refine ⟨y, k, rfl, hso, hk, h0, h6, ?_⟩
    refine ⟨_, hs _ _ hL1, dat_P (wp_plain hy) (by decide), dat_Ps hps (by decide), ?_⟩
    rw [if_neg Bool.false_ne_true, List.any_map]
    exact hy' rfl _ (Sub.refl _)
  rw [filt_all]
  refine ⟨_, gup_same, ?_⟩
  rw [List.all_map]
  exact Wk.sub hq (Sub.new s1 (s1.free hL2))
end
end K20
end
section
set_option Elab.async false
set_option linter.all false
set_option maxRecDepth 100000
set_option maxHeartbeats 2000000
namespace K20
open PySem L2 L3
/-- the first fault of a row of looks -/
def firstF (f : Nat → Str) (n : Nat) : Option (Nat × Str) := ((List.range n).find? fun i => decide (f i ≠ "")).map fun i => (i, f i)
theorem first_none {f : Nat → Str} {n : Nat} (h : ∀ j, j < n → f j = "") : firstF f n = none := by
  unfold firstF
  rw [List.find?_eq_none.mpr]
  · rfl
  · intro j hj e
    exact of_decide_eq_true e (h j (List.mem_range.mp hj))
theorem first_at {f : Nat → Str} {n i : Nat} (hi : i < n) (h : ∀ j, j < i → f j = "") (hf : f i ≠ "") : firstF f n = some (i, f i) := by
  unfold firstF
  rw [List.find?_range_eq_some.mpr ⟨decide_eq_true hf, List.mem_range.mpr hi, fun j hj => by rw [h j hj]; rfl⟩]
  rfl
abbrev Flt := Str × Int × Str
def basicF (bs : List (Int × Int)) (i : Nat) : Str := match bs[i]? with
  | none => ""
  | some b => timing b.1 b.2
def faultM (pl : Int) (ts : List Tile) (bs : List (Int × Int)) (ex : Int) : Option Flt :=
  if ¬ (3 ≤ pl ∧ pl ≤ 12) then some ("places", -1, "range")
  else match firstF (tfault ts) ts.length with
    | some (i, y) => some ("tiles", (i : Nat), y)
    | none => if lacks ts = true then some ("tiles", (ts.length : Nat), "lacks")
      else if bs.length ≠ 6 then some ("basic", -1, "count")
      else match firstF (basicF bs) bs.length with
        | some (i, y) => some ("basic", (i : Nat), y)
        | none => if ¬ (ex = 0 ∨ ex = 1) then some ("exchange", -1, "flag")
          else if ex = 0 ∧ pl = 3 then some ("places", -1, "spare") else none
structure BmT (P : Program) (K : PySem.W.Frag) (mg : Str → Option Value) (C fI : Addr) : Prop where
  txt : PySem.LowNS.TxtB P K mg C fI
  gC : mg "BadMachine" = some (.ref C)
section
variable {P : Program} {w : World} {K : PySem.W.Frag} {mg : Str → Option Value} {base : Heap}
def spCM (C : Addr) : Sp3 := fun ws G Q E => ∃ (x : U) (ts : List Tile) (pl ex : Int) (bs : List (Int × Int)), ws = [.int pl, x, .tup (bs.map uB), .int ex] ∧ TL x ts G ∧ (∀ t ∈ ts, OkT t) ∧ ts.length ≤ 100 ∧ bs.length ≤ 20 ∧
  (∀ p i y, faultM pl ts bs ex = some (p, i, y) → ∀ d, G d = none → E (.ref C) (some d) (gup G d (xB p i y))) ∧ (faultM pl ts bs ex = none → Q .non G)
theorem ok_cm {C fI f f1 f2 f3 dC : Addr} {fd fd1 fd2 fd3 : FuncData} (BM : BmT P K mg C fI) (F : Fun K "check_machine" "check_machine" s_check_machine f fd) (T : Tg mg) (Gb : Glb K w mg dC) (O_tile_fault : Own P w K mg base 5 "tile_fault" ["tiles", "at"] spTFa f1 fd1) (O_lacks_tile : Own P w K mg base 2 "lacks_tile" ["tiles"] spLT f2 fd2) (O_timing_fault : Own P w K mg base 1 "timing_fault" ["busy", "wait"] spTF f3 fd3) : FnOk P w K mg base (L2N.CX P w) 6 f fd ["places", "tiles", "basic", "exchange"] (lowSp K (spCM C)) := by
  refine Fun_okX3 F sc_check_machine (fun ws G Q E h => by obtain ⟨_, _, _, _, _, rfl, _⟩ := h; rfl) (fun cdv A outer s H E ws G Q E3 hr h => ?_)
  have hu64 := hr.units
  have hr_tile_fault : Room 5 _ := hr
  have hr_lacks_tile : Room 2 _ := hr.mono (by decide)
  have hr_timing_fault : Room 1 _ := hr.mono (by decide)
  obtain ⟨x, ts, pl, ex, bs, rfl, hx, hok, hlen, hbl, hE, hq⟩ := h
  refine ⟨_, (ss_cons (s_if (t3not (t3chain o_le o_le (e3gi rfl Gb.lp) (e3v 0) (e3gi rfl Gb.mp)))
      (ss_one (s_raiseBM rfl BM.txt BM.gC hr (L2N.takes_of rfl rfl rfl rfl) (a3cons e3str (a3cons (e3neg e3int) (a3cons e3str a3nil)))))
      ss_nil)
      (ss_cons (s_for (passes_of rfl) rfl (i_range1 T.range (e3B k_len T.len (a3cons (e3v 1) a3nil))) (pg_name (i := 4) sc_check_machine.nd rfl (by first | exact Or.inl rfl | exact Or.inr rfl)) gl_name
      (ss_cons (s_set (i := 5) sc_check_machine.nd (e3call O_tile_fault.G hr_tile_fault O_tile_fault.g O_tile_fault.kp O_tile_fault.b pass0 (a3cons (e3v 1) (a3cons (e3v 4) a3nil))))
        (ss_one (s_if (t3cmp (o_ne hu64) (e3v 5) e3str)
        (ss_one (s_raiseBM rfl BM.txt BM.gC hr (L2N.takes_of rfl rfl rfl rfl) (a3cons e3str (a3cons (e3v 4) (a3cons (e3v 5) a3nil)))))
        ss_nil))))
      (ss_cons (s_if (t3val (e3call O_lacks_tile.G hr_lacks_tile O_lacks_tile.g O_lacks_tile.kp O_lacks_tile.b pass0 (a3cons (e3v 1) a3nil)))
      (ss_one (s_raiseBM rfl BM.txt BM.gC hr (L2N.takes_of rfl rfl rfl rfl) (a3cons e3str (a3cons (e3B k_len T.len (a3cons (e3v 1) a3nil)) (a3cons e3str a3nil)))))
      ss_nil)
      (ss_cons (s_if (PW.pt (w3or (t3cmp (o_ne hu64) (e3B k_len T.len (a3cons (e3v 2) a3nil)) (e3gi rfl Gb.bp)) (w3or1 (t3val (e3B (k_any rfl) T.any (a3cons (e3lc (own := [("pair", 8)]) rfl sc_check_machine.nd (i_tup (e3v 2)) (blkOk_by (N := check_machine_N) (sc := defScope s_check_machine) (by decide +kernel)) (gl_own (by decide)) (fun _ _ _ _ _ => (pg_name (i := 8) sc_check_machine.nd rfl (by first | exact Or.inl rfl | exact Or.inr rfl))) (fun _ _ _ _ _ => ts3nil) (fun _ _ _ _ _ => (e3cmp (o_ne hu64) (e3B k_len T.len (a3cons (e3v 8) a3nil)) e3int))) a3nil))))))
      (ss_one (s_raiseBM rfl BM.txt BM.gC hr (L2N.takes_of rfl rfl rfl rfl) (a3cons e3str (a3cons (e3neg e3int) (a3cons e3str a3nil)))))
      ss_nil)
      (ss_cons (s_for (passes_of rfl) rfl (i_enumT T.enumerate (e3v 2)) (pg_tup (n := 2) rfl (pgs_cons (pg_name (i := 4) sc_check_machine.nd rfl (by first | exact Or.inl rfl | exact Or.inr rfl)) (pgs_cons (pg_tup (n := 2) rfl (pgs_cons (pg_name (i := 6) sc_check_machine.nd rfl (by first | exact Or.inl rfl | exact Or.inr rfl)) (pgs_cons (pg_name (i := 7) sc_check_machine.nd rfl (by first | exact Or.inl rfl | exact Or.inr rfl)) pgs_nil))) pgs_nil))) (gl_tup (gl_cons gl_name (gl_cons (gl_tup (gl_cons gl_name (gl_cons gl_name gl_nil))) gl_nil)))
      (ss_cons (s_set (i := 5) sc_check_machine.nd (e3call O_timing_fault.G hr_timing_fault O_timing_fault.g O_timing_fault.kp O_timing_fault.b pass0 (a3cons (e3v 6) (a3cons (e3v 7) a3nil))))
        (ss_one (s_if (t3cmp (o_ne hu64) (e3v 5) e3str)
        (ss_one (s_raiseBM rfl BM.txt BM.gC hr (L2N.takes_of rfl rfl rfl rfl) (a3cons e3str (a3cons (e3v 4) (a3cons (e3v 5) a3nil)))))
        ss_nil))))
      (ss_cons (s_if (t3cmp o_notinF (e3v 3) (e3tup (a3cons e3int (a3cons e3int a3nil))) rfl)
      (ss_one (s_raiseBM rfl BM.txt BM.gC hr (L2N.takes_of rfl rfl rfl rfl) (a3cons e3str (a3cons (e3neg e3int) (a3cons e3str a3nil)))))
      ss_nil)
      (ss_one (s_if (PW.pt (w3and (t3cmp (o_eq hu64) (e3v 3) e3int) (w3and1 (t3cmp (o_eq hu64) (e3v 0) (e3gi rfl Gb.lp)))))
      (ss_one (s_raiseBM rfl BM.txt BM.gC hr (L2N.takes_of rfl rfl rfl rfl) (a3cons e3str (a3cons (e3neg e3int) (a3cons e3str a3nil)))))
      ss_nil)))))))), ?_⟩
  have raise : ∀ {G1 : G3} {p : Str} {i : Int} {y : Str}, L3.Sub G G1 → faultM pl ts bs ex = some (p, i, y) → ∀ d, G1 d = none → Wk1 (E3 (.ref C) (some d)) (gup G1 d (xB p i y)) := fun s e d hd => ⟨_, Sub.up s, hE _ _ _ e d (s.free hd)⟩
  have fit : ∀ {p : Str} {i : Int} {y : Str}, p.length ≤ 100 → y.length ≤ 100 → i.natAbs < 1000 → PySem.LowNS.Fit3 p i y := fun a b c => PySem.LowNS.fit3_of a b c
  have one : ¬ (3 ≤ pl ∧ pl ≤ 12) → faultM pl ts bs ex = some (("places" : Str), (-1 : Int), ("range" : Str)) := fun h => by unfold faultM; rw [if_pos h]
  have lenp : ("places" : Str).length ≤ 100 ∧ ("range" : Str).length ≤ 100 ∧ ("tiles" : Str).length ≤ 100 ∧ ("lacks" : Str).length ≤ 100 ∧ ("basic" : Str).length ≤ 100 ∧ ("count" : Str).length ≤ 100 ∧ ("exchange" : Str).length ≤ 100 ∧ ("flag" : Str).length ≤ 100 ∧ ("spare" : Str).length ≤ 100 := by decide +kernel
  obtain ⟨l1, l2, l3, l4, l5, l6, l7, l8, l9⟩ := lenp
  by_cases h1 : (3 : Int) ≤ pl
  rotate_left
  · refine ifF (decide_eq_false h1) ?_
    exact ⟨_, _, _, fit l1 l2 (by decide), rfl, fun d hd => raise (Sub.refl _) (one fun h => h1 h.1) d hd⟩
  refine ifT (decide_eq_true h1) ?_
  by_cases h2 : pl ≤ 12
  rotate_left
  · refine ifT (by rw [decide_eq_false h2]; rfl) ?_
    exact ⟨_, _, _, fit l1 l2 (by decide), rfl, fun d hd => raise (Sub.refl _) (one fun h => h2 h.2) d hd⟩
  refine ifF (by rw [decide_eq_true h2]; rfl) ?_
  have e1 : faultM pl ts bs ex = match firstF (tfault ts) ts.length with
    | some (i, y) => some ((("tiles", (i : Nat), y)) : Flt)
    | none => if lacks ts = true then some ("tiles", (ts.length : Nat), "lacks")
      else if bs.length ≠ 6 then some ("basic", -1, "count")
      else match firstF (basicF bs) bs.length with
        | some (i, y) => some ("basic", (i : Nat), y)
        | none => if ¬ (ex = 0 ∨ ex = 1) then some ("exchange", -1, "flag")
          else if ex = 0 ∧ pl = 3 then some ("places", -1, "spare") else none := by
    unfold faultM
    rw [if_neg (fun h => h ⟨h1, h2⟩)]
  try dsimp only [seq3, asg3, n3, v3, drop3, ret3, next3, List.set_cons_zero, List.set_cons_succ, List.getElem?_cons_zero, List.getElem?_cons_succ, start3, List.map_cons, List.map_nil, List.length_cons, List.length_nil, List.replicate, List.cons_append, List.nil_append, Nat.reduceSub, Nat.reduceAdd]
  refine for_of ?_
  unfold ir1
  try dsimp only [retN3, ret3, next3, seq3, asg3, n3, v3, c3, drop3, ret3, next3, te3, op3, ifS3, cb3, cons3, nil3, call3, lst3, tup3, un3, List.set_cons_zero, List.set_cons_succ, List.getElem?_cons_zero, List.getElem?_cons_succ, start3, List.map_cons, List.map_nil, List.length_cons, List.length_nil, List.replicate, List.cons_append, List.nil_append, Nat.reduceSub, Nat.reduceAdd]
  refine len_any hx ?_
  refine ⟨decide_eq_true (by omega), ?_⟩
  refine forK_of ts.length (by rw [rgU_len]; rfl) (fun i σ G' => ∃ z4 z5, σ = [some (.int pl), some x, some (.tup (bs.map uB)), some (.int ex), z4, z5, none, none, none] ∧ L3.Sub G G' ∧ ∀ j, j < i → tfault ts j = "") ⟨_, _, rfl, Sub.refl _, fun j h => by omega⟩ (fun _ _ _ _ _ => trivial) ?_ ?_
  · rintro i y σ' G' hi hy ⟨z4, z5, rfl, hs, hall⟩
    have hy' : y = .int ((i : Nat) : Int) := by
      rw [rgU_get (by exact hi)] at hy
      cases hy
      rw [Int.zero_add]
    subst hy'
    have ht : ts[i]? = some ts[i] := List.getElem?_eq_getElem hi
    refine ⟨x, ts, i, _, rfl, hx.sub hs, ht, hok, hlen, ?_⟩
    have hfo := tfault_ok ts i
    refine ⟨dat_s hfo.1, dat_s (by decide +kernel), ?_⟩
    by_cases hf : tfault ts i = ""
    · refine ifF (by rw [if_pos rfl, eq3_s, hf]; rfl) ?_
      refine Wk2.of ⟨_, _, rfl, hs, fun j hj => ?_⟩
      rcases Nat.lt_succ_iff_lt_or_eq.mp hj with hj | rfl
      · exact hall j hj
      · exact hf
    · refine ifT (by rw [if_pos rfl, eq3_s]; simpa using hf) ?_
      refine ⟨_, _, _, fit l3 (by have := hfo.2; omega) (by show i < 1000; omega), rfl, fun d hd => raise hs ?_ d hd⟩
      rw [e1, first_at hi hall hf]
  rintro σ' G' ⟨z4, z5, rfl, hs, hall⟩
  rw [first_none hall] at e1
  dsimp only at e1
  refine ⟨x, ts, rfl, hx.sub hs, hok, hlen, ?_⟩
  by_cases hlk : lacks ts = true
  · refine ifT hlk ?_
    rw [if_pos hlk] at e1
    unfold raiseB3
    try dsimp only [retN3, ret3, next3, seq3, asg3, n3, v3, c3, drop3, ret3, next3, te3, op3, ifS3, cb3, cons3, nil3, call3, lst3, tup3, un3, List.set_cons_zero, List.set_cons_succ, List.getElem?_cons_zero, List.getElem?_cons_succ, start3, List.map_cons, List.map_nil, List.length_cons, List.length_nil, List.replicate, List.cons_append, List.nil_append, Nat.reduceSub, Nat.reduceAdd]
    refine len_any (hx.sub hs) ?_
    exact ⟨_, _, _, fit l3 l4 (by show ts.length < 1000; omega), rfl, fun d hd => raise hs e1 d hd⟩
  have hlk' : lacks ts = false := by simpa using hlk
  refine ifF hlk' ?_
  rw [if_neg hlk] at e1
  refine ⟨dat_int _, dat_int _, ?_⟩
  by_cases hb6 : bs.length = 6
  rotate_left
  · refine ifT (by rw [if_pos rfl, eq3_int, List.length_map]; simp; omega) ?_
    rw [if_pos hb6] at e1
    exact ⟨_, _, _, fit l5 l6 (by decide), rfl, fun d hd => raise hs e1 d hd⟩
  refine ifF (by rw [if_pos rfl, eq3_int, List.length_map, hb6]; rfl) ?_
  rw [if_neg (fun h => h hb6)] at e1
  try dsimp only [retN3, ret3, next3, seq3, asg3, n3, v3, c3, drop3, ret3, next3, te3, op3, ifS3, cb3, cons3, nil3, call3, lst3, tup3, un3, List.set_cons_zero, List.set_cons_succ, List.getElem?_cons_zero, List.getElem?_cons_succ, start3, List.map_cons, List.map_nil, List.length_cons, List.length_nil, List.replicate, List.cons_append, List.nil_append, Nat.reduceSub, Nat.reduceAdd]
  refine lc_of ?_
  refine it_tup rfl ?_
  refine lcK_of bs uB (fun _ => true) (fun _ => false) U.bl (fun _ _ => trivial) (by omega) (fun y hy G' hs Y N hy' hn => ⟨dat_int _, dat_int _, hy' rfl _ (Sub.refl _)⟩) fun L hL => ?_
  rw [filt_all]
  refine ⟨_, gup_same, ?_⟩
  have s2 : L3.Sub G (gup G' L (.lst ((bs.map fun _ => false).map U.bl))) := Sub.new hs (hs.free hL)
  generalize gup G' L (.lst ((bs.map fun _ => false).map U.bl)) = G2 at s2 ⊢
  refine ifF (by rw [List.any_map, List.any_eq_false]; intro b hb e; cases e) ?_
  try dsimp only [seq3, asg3, n3, v3, drop3, ret3, next3, List.set_cons_zero, List.set_cons_succ, List.getElem?_cons_zero, List.getElem?_cons_succ, start3, List.map_cons, List.map_nil, List.length_cons, List.length_nil, List.replicate, List.cons_append, List.nil_append, Nat.reduceSub, Nat.reduceAdd]
  refine for_of ?_
  refine v3_of rfl ?_
  refine forK_of bs.length (by rw [enU_len, List.length_map]) (fun i σ G' => ∃ z4 z5 z6 z7, σ = [some (.int pl), some x, some (.tup (bs.map uB)), some (.int ex), z4, z5, z6, z7, none] ∧ L3.Sub G G' ∧ ∀ j, j < i → basicF bs j = "") ⟨_, _, _, _, rfl, s2, fun j h => by omega⟩ (fun _ _ _ _ _ => trivial) ?_ ?_
  · rintro i y σ' G' hi hy ⟨z4, z5, z6, z7, rfl, hs, hall⟩
    have ht : bs[i]? = some bs[i] := List.getElem?_eq_getElem hi
    generalize bs[i] = b at ht
    have hy' : y = .tup [.int (i : Nat), uB b] := by
      rw [enU_get (x := uB b) (by rw [List.getElem?_map, ht]; rfl)] at hy
      cases hy; rfl
    subst hy'
    have ebf : basicF bs i = timing b.1 b.2 := by unfold basicF; rw [ht]
    refine ⟨rfl, rfl, b.1, b.2, rfl, ?_⟩
    rw [← ebf]
    have hfo := timing_ok b.1 b.2
    rw [← ebf] at hfo
    refine ⟨dat_s hfo.1, dat_s (by decide +kernel), ?_⟩
    by_cases hf : basicF bs i = ""
    · refine ifF (by rw [if_pos rfl, eq3_s, hf]; rfl) ?_
      refine Wk2.of ⟨_, _, _, _, rfl, hs, fun j hj => ?_⟩
      rcases Nat.lt_succ_iff_lt_or_eq.mp hj with hj | rfl
      · exact hall j hj
      · exact hf
    · refine ifT (by rw [if_pos rfl, eq3_s]; simpa using hf) ?_
      refine ⟨_, _, _, fit l5 (by have := hfo.2; omega) (by show i < 1000; omega), rfl, fun d hd => raise hs ?_ d hd⟩
      rw [e1, first_at hi hall hf]
  rintro σ' G' ⟨z4, z5, z6, z7, rfl, hs, hall⟩
  rw [first_none hall] at e1
  dsimp only at e1
  refine ⟨rfl, rfl, rfl, ?_⟩
  have eany : ([U.int 0, U.int 1].any fun y => eqF y (.int ex)) = decide (ex = 0 ∨ ex = 1) := by
    show (((0 : Int) == ex) || (((1 : Int) == ex) || false)) = _
    by_cases a : ex = 0
    · subst a; rfl
    · by_cases b : ex = 1
      · subst b; rfl
      · have a' : ¬ (0 : Int) = ex := fun e => a e.symm
        have b' : ¬ (1 : Int) = ex := fun e => b e.symm
        simp [a, b, a', b']
  by_cases hex : ex = 0 ∨ ex = 1
  rotate_left
  · refine ifT (by rw [if_pos rfl, eany, decide_eq_false hex]; rfl) ?_
    rw [if_pos hex] at e1
    exact ⟨_, _, _, fit l7 l8 (by decide), rfl, fun d hd => raise hs e1 d hd⟩
  refine ifF (by rw [if_pos rfl, eany, decide_eq_true hex]; rfl) ?_
  rw [if_neg (fun h => h hex)] at e1
  refine ⟨dat_int _, dat_int _, ?_⟩
  have done : ¬ (ex = 0 ∧ pl = 3) → Wk Q .non G' := fun h => by
    rw [if_neg h] at e1
    exact Wk.sub (hq e1) hs
  by_cases h0 : ex = 0
  · refine ifT (by rw [if_neg Bool.false_ne_true, eq3_int, h0]; rfl) ?_
    refine ⟨dat_int _, dat_int _, ?_⟩
    by_cases h3 : pl = 3
    · refine ifT (by rw [if_neg Bool.false_ne_true, eq3_int, h3]; rfl) ?_
      rw [if_pos ⟨h0, h3⟩] at e1
      exact ⟨_, _, _, fit l1 l9 (by decide), rfl, fun d hd => raise hs e1 d hd⟩
    · refine ifF (by rw [if_neg Bool.false_ne_true, eq3_int]; simpa using h3) ?_
      exact done fun h => h3 h.2
  · refine ifF (by rw [if_neg Bool.false_ne_true, eq3_int]; simpa using h0) ?_
    exact done fun h => h0 h.1
end
end K20
end
section
set_option Elab.async false
set_option linter.all false
set_option maxRecDepth 100000
set_option maxHeartbeats 4000000
/-! a def with defaults that may raise -/
namespace L3
open PySem L2
section
variable {P : Program} {w : World} {K : PySem.W.Frag} {mg : Str → Option Value} {base : Heap}
theorem Fun_okX3D {x qual : Str} {st : Stmt} {f : Addr} {fd : FuncData} {N ps : List Str} {k : Nat} {sp : Sp3} {dvs : List V} {kws : List (Str × V)} (F : FunD K x qual (defArgs st) (defBody st) (defScope st) dvs kws f fd) (S : FnScope N ps (defScope st)) (len : ∀ ws G Q E, sp ws G Q E → ws.length = ps.length)
    (hbody : ∀ (cdv : Value) (A : Around) (outer : List Env) (s : Shared) (H : Hp) (E : XK) (ws : List U) (G : G3) (Q : K3) (E3 : X3), Room k (A.deeper (PyProof.Rows.envOfC qual (defScope st) s.heap.objs.size f cdv)) → sp ws G Q E3 →
      ∃ t, PSs (cxOf (L2N.CX P w) P w K mg base N qual (defScope st) f cdv A outer s H E) (defBody st) (lowS K (fun cls d _ H => E cls d H) t) ∧ t { nx := fun _ G' => Wk Q .non G', rt := Wk Q, ex := fun c d _ G' => Wk1 (E3 c d) G' } (start3 N ws) G) : FnOk P w K mg base (L2N.CX P w) (k + 1) f fd ps (lowSp K sp) := by
  refine F.ok S (fun vs H Q E h => ?_) (fun cdv A outer s H vs Q E hr h => ?_)
  · obtain ⟨ws, G, Q3, E3, r, _, h, _⟩ := h
    rw [← r.length]
    exact len _ _ _ _ h
  · obtain ⟨ws, G, Q3, E3, r, hh, h, hq, hE⟩ := h
    obtain ⟨t, ht, q⟩ := hbody cdv A outer s H E ws G Q3 E3 hr h
    refine ⟨_, ht, start3 N ws, G, _, rep_start r, hh, q, ⟨fun σ' H' σ3' G' k1 hs' hh' ⟨G0, z, q'⟩ => hq _ _ _ _ k1 (hh'.less z) .non q', fun v H' w G' k hh' rv ⟨G0, z, q'⟩ => hq _ _ _ _ k (hh'.less z) rv q', fun _ _ _ _ _ _ _ z => z.elim, fun _ _ _ _ _ _ _ z => z.elim, fun c d σ' H' σ3' G' k1 _ hh' ⟨G0, z, q'⟩ => hE _ _ _ _ k1 (hh'.less z) q'⟩⟩
end
end L3
end
section
set_option Elab.async false
set_option linter.all false
set_option maxRecDepth 100000
set_option maxHeartbeats 2000000
namespace K20
open PySem L2 L3
/-- the class Machine -/
structure McT (K : PySem.W.Frag) (mg : Str → Option Value) (CM fI fP fL pp : Addr) (mc : Value) : Prop where
  cls : Cls K CM
  no_places : NoAttr K CM "places"
  no_tiles : NoAttr K CM "tiles"
  no_basic : NoAttr K CM "basic"
  no_exchange : NoAttr K CM "exchange"
  no_usable : NoAttr K CM "usable"
  no_tile_number : NoAttr K CM "tile_number"
  mak : Mk K CM fI
  parts : Meth K CM "parts" fP
  rd : ClX.CRead K CM mc
  sm : SMet K CM mc "plain" pp fL
  gM : mg "Machine" = some (.ref CM)
def usab (pl ex : Int) : Int := if ex = 1 then pl else pl - 1
def fieldsOf (pl : Int) (ts : List Tile) (bs : List (Int × Int)) (ex : Int) (nums : U) : List (Str × U) := [("places", .int pl), ("tiles", .tup (ts.map uT)), ("basic", .tup (bs.map uB)), ("exchange", .int ex), ("usable", .int (usab pl ex)), ("tile_number", nums)]
theorem tup_any {x : U} {ts : List Tile} {G : G3} {Q : K3} (hx : TL x ts G) (q : Q (.tup (ts.map uT)) G) : kTup [x] G Q := by
  rcases hx with rfl | ⟨a, rfl, hg⟩
  · exact q
  · exact ⟨_, hg, q⟩
theorem put1 {f : Str} {y : U} : ∀ {fs : List (Str × U)}, (∀ p ∈ fs, p.1 ≠ f) → putU f y fs = fs ++ [(f, y)]
  | [], _ => rfl
  | (g, x) :: r, h => by
    unfold putU
    rw [if_neg (h (g, x) List.mem_cons_self), put1 fun p hp => h p (List.mem_cons_of_mem _ hp)]
    rfl
theorem num_step {CM a dx : Addr} {G : G3} {σ : S3} {fs : List (Str × U)} {ts : List Tile} {Q3 : K3} (h0 : σ[0]? = some (some (.ref a))) (hg : G a = some (.ins CM dx fs)) (hf : fs.lookup ("tiles" : Str) = some (.tup (ts.map uT))) (hts : ts.length ≤ 100) (h : ∀ L kvs, G L = none → Q3 (.ref L) (gup G L (.dK kvs)))
    (hl : σ.length = 7 := by rfl) : dcK3 (ieT3 (fld3 CM "tiles" (v3 0))) (gtup3 2 (gcons3 (n3 5) (gcons3 (n3 6) gnil3))) yes3 (op3 rIx3 (v3 6) (c3 (.int 0))) (v3 5) [5, 6] σ G Q3 := by
  unfold dcK3 ieT3 fld3
  refine v3_of h0 ⟨dx, fs, _, hg, hf, fun L hL => ?_⟩
  refine ⟨fun i G' => ∃ kvs : List (Key × U), G' = gup G L (.dK kvs) ∧ kvs.length ≤ i, ⟨[], rfl, Nat.le_refl _⟩, fun _ _ _ _ => trivial, ?_, fun G' hp => ?_⟩
  · rintro i x G' hx ⟨kvs, rfl, hk⟩
    have hx : (enU (ts.map uT))[i]? = some x := hx
    have hi : i < (ts.map uT).length := by
      have := (List.getElem?_eq_some_iff.mp hx).1
      rwa [enU_len] at this
    have hi2 : i < ts.length := by rwa [List.length_map] at hi
    have ht : ts[i]? = some ts[i] := List.getElem?_eq_getElem hi2
    generalize ts[i] = t at ht
    rw [enU_get (x := uT t) (by rw [List.getElem?_map, ht]; rfl)] at hx
    cases hx
    have hw : (wipe3 σ [5, 6]).length = 7 := by
      unfold wipe3 wipe3 wipe3
      rw [List.length_set, List.length_set]
      exact hl
    refine ⟨rfl, ?_⟩
    dsimp only [gcons3, n3, gnil3, yes3, op3]
    refine ifT rfl ?_
    refine v3_of (w := uT t) ?_ ?_
    · show (((wipe3 σ [5, 6]).set 5 _).set 6 _)[6]? = _
      rw [List.getElem?_set_self (by rw [List.length_set, hw]; decide)]
    refine ⟨.str t.w, rfl, ?_⟩
    refine v3_of (w := .int (i : Nat)) ?_ ?_
    · show (((wipe3 σ [5, 6]).set 5 _).set 6 _)[5]? = _
      rw [List.getElem?_set_ne (by decide), List.getElem?_set_self (by rw [hw]; decide)]
    refine ⟨kvs, .inr t.w, rfl, gup_same, decide_eq_true (by omega), ?_⟩
    refine ⟨_, Sub.refl _, put kvs (.inr t.w) (.int (i : Nat)), by rw [gup_gup], ?_⟩
    have := length_put kvs (.inr t.w) (.int (i : Nat))
    omega
  · obtain ⟨kvs, rfl, hk⟩ := hp
    exact h L kvs hL
section
variable {P : Program} {w : World} {K : PySem.W.Frag} {mg : Str → Option Value} {base : Heap}
abbrev s_Machine_init : Stmt := clsS 31 0
abbrev Machine_init_N : List Str := ["self", "places", "tiles", "basic", "exchange", "number", "tile"]
theorem sc_Machine_init : FnScope Machine_init_N ["self", "places", "tiles", "basic", "exchange"] (defScope s_Machine_init) := ⟨rfl, rfl, rfl, by decide +kernel, rfl, by decide +kernel, by decide +kernel⟩
abbrev s_Machine_parts : Stmt := clsS 31 1
abbrev Machine_parts_N : List Str := ["self"]
theorem sc_Machine_parts : FnScope Machine_parts_N ["self"] (defScope s_Machine_parts) := ⟨rfl, rfl, rfl, by decide +kernel, rfl, by decide +kernel, by decide +kernel⟩
abbrev s_Machine_plain : Stmt := clsS 31 2
abbrev Machine_plain_N : List Str := ["places", "wait", "tiles", "operation"]
theorem sc_Machine_plain : FnScope Machine_plain_N ["places", "wait"] (defScope s_Machine_plain) := ⟨rfl, rfl, rfl, by decide +kernel, rfl, by decide +kernel, by decide +kernel⟩
def spIn (C CM : Addr) : Sp3 := fun ws G Q E => ∃ (s dx : Addr) (x : U) (ts : List Tile) (pl ex : Int) (bs : List (Int × Int)), ws = [.ref s, .int pl, x, .tup (bs.map uB), .int ex] ∧ G s = some (.ins CM dx []) ∧ TL x ts G ∧ (∀ t ∈ ts, OkT t) ∧ ts.length ≤ 100 ∧ bs.length ≤ 20 ∧
  (∀ p i y, faultM pl ts bs ex = some (p, i, y) → ∀ d, G d = none → E (.ref C) (some d) (gup G d (xB p i y))) ∧
  (faultM pl ts bs ex = none → ∀ G' nums, (∀ b o, b ≠ s → G b = some o → G' b = some o) → G' s = some (.ins CM dx (fieldsOf pl ts bs ex nums)) → Q .non G')
theorem ok_in {C CM fP fL pp f f1 : Addr} {mc : Value} {fd fd1 : FuncData} (Mc : McT K mg CM f fP fL pp mc) (F : Fun K "__init__" "Machine.__init__" s_Machine_init f fd) (T : Tg mg) (G1 : FnOk P w K mg base (L2N.CX P w) 6 f1 fd1 ["places", "tiles", "basic", "exchange"] (lowSp K (spCM C))) (g1 : mg "check_machine" = some (.ref f1)) (k1 : PySem.W.keepIn K (.ref f1) = true) (b1 : Binds K fd1 ["places", "tiles", "basic", "exchange"] []) : FnOk P w K mg base (L2N.CX P w) 7 f fd ["self", "places", "tiles", "basic", "exchange"] (lowSp K (spIn C CM)) := by
  refine Fun_okX3 F sc_Machine_init (fun ws G Q E h => by obtain ⟨_, _, _, _, _, _, _, rfl, _⟩ := h; rfl) (fun cdv A outer s H E ws G Q E3 hr h => ?_)
  have hu64 := hr.units
  have hr1 : Room 6 _ := hr
  obtain ⟨a, dx, x, ts, pl, ex, bs, rfl, ha, hx, hok, hlen, hbl, hE, hq⟩ := h
  refine ⟨_, (ss_cons (s_exprE (x3call G1 hr1 g1 k1 b1 (L2N.takes_of rfl rfl rfl rfl) (a3cons (e3v 1) (a3cons (e3v 2) (a3cons (e3v 3) (a3cons (e3v 4) a3nil))))))
      (ss_cons (s_fld Mc.cls Mc.no_places (e3v 0) (e3v 1))
      (ss_cons (s_fld Mc.cls Mc.no_tiles (e3v 0) (e3T k_tuple T.tuple (a3cons (e3v 2) a3nil)))
      (ss_cons (s_fld Mc.cls Mc.no_basic (e3v 0) (e3T k_tuple T.tuple (a3cons (e3v 3) a3nil)))
      (ss_cons (s_fld Mc.cls Mc.no_exchange (e3v 0) (e3v 4))
      (ss_cons (s_fld Mc.cls Mc.no_usable (e3v 0) (e3if (t3cmp (o_eq hu64) (e3v 4) e3int) (e3v 1) (e3op o_sub (e3v 1) e3int)))
      (ss_one (s_fld Mc.cls Mc.no_tile_number (e3v 0) (e3dcK (own := [("number", 5), ("tile", 6)]) rfl sc_Machine_init.nd (i_enumT T.enumerate (e3fld Mc.cls Mc.no_tiles (e3v 0))) (blkOk_by (N := Machine_init_N) (sc := defScope s_Machine_init) (by decide +kernel)) (gl_tup (gl_cons (gl_own (by decide)) (gl_cons (gl_own (by decide)) gl_nil))) (fun _ _ _ _ _ => (pg_tup (n := 2) rfl (pgs_cons (pg_name (i := 5) sc_Machine_init.nd rfl (by first | exact Or.inl rfl | exact Or.inr rfl)) (pgs_cons (pg_name (i := 6) sc_Machine_init.nd rfl (by first | exact Or.inl rfl | exact Or.inr rfl)) pgs_nil)))) (fun _ _ _ _ _ => ts3nil) (fun _ _ _ _ _ => (e3ix (e3v 6) e3int)) (fun _ _ _ _ _ => (e3v 5))))))))))), ?_⟩
  have wk : ∀ {p : Str} {i : Int} {y : Str}, faultM pl ts bs ex = some (p, i, y) → ∀ d, G d = none → Wk1 (E3 (.ref C) (some d)) (gup G d (xB p i y)) := fun e d hd => ⟨_, Sub.refl _, hE _ _ _ e d hd⟩
  refine ⟨x, ts, pl, ex, bs, rfl, hx, hok, hlen, hbl, fun p i y e d hd => wk e d hd, fun hnone => ?_⟩
  have hq := hq hnone
  try dsimp only [seq3, asg3, n3, v3, drop3, ret3, next3, List.set_cons_zero, List.set_cons_succ, List.getElem?_cons_zero, List.getElem?_cons_succ, start3, List.map_cons, List.map_nil, List.length_cons, List.length_nil, List.replicate, List.cons_append, List.nil_append, Nat.reduceSub, Nat.reduceAdd]
  refine ⟨dx, _, ha, by decide, ?_⟩
  have s1 : gup G a (.ins CM dx [("places", .int pl)]) a = some (.ins CM dx [("places", .int pl)]) := gup_same
  have fr : ∀ o b u, b ≠ a → G b = some u → gup G a o b = some u := fun o b u h e => by rw [gup_ne h]; exact e
  have hxa : ∀ G' : G3, (∀ b u, b ≠ a → G b = some u → G' b = some u) → TL x ts G' := fun G' h => by
    rcases hx with rfl | ⟨c, rfl, hc⟩
    · exact .inl rfl
    · refine .inr ⟨c, rfl, h c _ (fun e => ?_) hc⟩
      rw [e, ha] at hc
      cases hc
  unfold setF3
  try dsimp only [retN3, ret3, next3, seq3, asg3, n3, v3, c3, drop3, ret3, next3, te3, op3, ifS3, cb3, cons3, nil3, call3, lst3, tup3, un3, List.set_cons_zero, List.set_cons_succ, List.getElem?_cons_zero, List.getElem?_cons_succ, start3, List.map_cons, List.map_nil, List.length_cons, List.length_nil, List.replicate, List.cons_append, List.nil_append, Nat.reduceSub, Nat.reduceAdd]
  refine tup_any (hxa _ (fr _)) ?_
  have nm : ("places" : Str) ≠ "tiles" ∧ ("places" : Str) ≠ "basic" ∧ ("places" : Str) ≠ "exchange" ∧ ("places" : Str) ≠ "usable" ∧ ("places" : Str) ≠ "tile_number" ∧ ("tiles" : Str) ≠ "basic" ∧ ("tiles" : Str) ≠ "exchange" ∧ ("tiles" : Str) ≠ "usable" ∧ ("tiles" : Str) ≠ "tile_number" ∧ ("basic" : Str) ≠ "exchange" ∧ ("basic" : Str) ≠ "usable" ∧ ("basic" : Str) ≠ "tile_number" ∧ ("exchange" : Str) ≠ "usable" ∧ ("exchange" : Str) ≠ "tile_number" ∧ ("usable" : Str) ≠ "tile_number" := by decide +kernel
  obtain ⟨n1, n2, n3', n4, n5, n6, n7, n8, n9, n10, n11, n12, n13, n14, n15⟩ := nm
  have p2 : ∀ v, putU "tiles" v (putU "places" (.int pl) []) = ([("places", .int pl), ("tiles", v)] : List (Str × U)) := fun v => by simp only [putU, if_neg n1]
  have p3 : ∀ v u, putU "basic" u [("places", .int pl), ("tiles", v)] = ([("places", .int pl), ("tiles", v), ("basic", u)] : List (Str × U)) := fun v u => by simp only [putU, if_neg n2, if_neg n6]
  have p4 : ∀ v u t, putU "exchange" t [("places", .int pl), ("tiles", v), ("basic", u)] = ([("places", .int pl), ("tiles", v), ("basic", u), ("exchange", t)] : List (Str × U)) := fun v u t => by simp only [putU, if_neg n3', if_neg n7, if_neg n10]
  have p5 : ∀ v u t r, putU "usable" r [("places", .int pl), ("tiles", v), ("basic", u), ("exchange", t)] = ([("places", .int pl), ("tiles", v), ("basic", u), ("exchange", t), ("usable", r)] : List (Str × U)) := fun v u t r => by simp only [putU, if_neg n4, if_neg n8, if_neg n11, if_neg n13]
  have p6 : ∀ v u t r q, putU "tile_number" q [("places", .int pl), ("tiles", v), ("basic", u), ("exchange", t), ("usable", r)] = ([("places", .int pl), ("tiles", v), ("basic", u), ("exchange", t), ("usable", r), ("tile_number", q)] : List (Str × U)) := fun v u t r q => by simp only [putU, if_neg n5, if_neg n9, if_neg n12, if_neg n14, if_neg n15]
  have lkT : ∀ v (r : List (Str × U)), List.lookup ("tiles" : Str) (("places", .int pl) :: ("tiles", v) :: r) = some v := fun v r => by
    have b : (("tiles" : Str) == ("places" : Str)) = false := beq_eq_false_iff_ne.mpr (Ne.symm n1)
    simp [List.lookup, b]
  refine ⟨dx, _, gup_same, (show 1 < 1000 by decide), ?_⟩
  rw [gup_gup, p2]
  refine ⟨dx, _, gup_same, (show 2 < 1000 by decide), ?_⟩
  rw [gup_gup, p3]
  refine ⟨dx, _, gup_same, (show 3 < 1000 by decide), ?_⟩
  rw [gup_gup, p4]
  refine ⟨dat_int _, dat_int _, ?_⟩
  have fin : ∀ us, us = usab pl ex → ∀ L kvs, gup G a (.ins CM dx [("places", .int pl), ("tiles", .tup (ts.map uT)), ("basic", .tup (bs.map uB)), ("exchange", .int ex), ("usable", .int us)]) L = none → Wk Q .non (gup (gup (gup G a (.ins CM dx [("places", .int pl), ("tiles", .tup (ts.map uT)), ("basic", .tup (bs.map uB)), ("exchange", .int ex), ("usable", .int us)])) L (.dK kvs)) a (.ins CM dx (putU "tile_number" (.ref L) [("places", .int pl), ("tiles", .tup (ts.map uT)), ("basic", .tup (bs.map uB)), ("exchange", .int ex), ("usable", .int us)]))) := fun us hus L kvs hL => by
    rw [p6]
    refine Wk.of (hq _ (.ref L) (fun b o hb e => ?_) ?_)
    · rw [gup_ne hb]
      have hGL := (gnone hL).1
      rw [gup_ne (gne_none e hGL), gup_ne hb]
      exact e
    · rw [gup_same]
      unfold fieldsOf
      rw [hus]
  by_cases h1 : ex = 1
  · refine ifT (by rw [if_neg Bool.false_ne_true, eq3_int, h1]; rfl) ?_
    refine ⟨dx, _, gup_same, (show 4 < 1000 by decide), ?_⟩
    rw [gup_gup, p5]
    refine num_step rfl gup_same (lkT _ _) hlen fun L kvs hL => ?_
    have nL := (gnone hL).2
    exact ⟨dx, _, (gup_ne nL.symm).trans gup_same, (show 5 < 1000 by decide), fin pl (by unfold usab; rw [if_pos h1]) L kvs hL⟩
  · refine ifF (by rw [if_neg Bool.false_ne_true, eq3_int]; simpa using h1) ?_
    refine ⟨dx, _, gup_same, (show 4 < 1000 by decide), ?_⟩
    rw [gup_gup, p5]
    refine num_step rfl gup_same (lkT _ _) hlen fun L kvs hL => ?_
    have nL := (gnone hL).2
    exact ⟨dx, _, (gup_ne nL.symm).trans gup_same, (show 5 < 1000 by decide), fin (pl - 1) (by unfold usab; rw [if_neg h1]) L kvs hL⟩
def spPa (CM : Addr) : Sp3 := fun ws G Q _ => ∃ (s dx : Addr) (ts : List Tile) (pl ex : Int) (bs : List (Int × Int)) (nums : U), ws = [.ref s] ∧ G s = some (.ins CM dx (fieldsOf pl ts bs ex nums)) ∧ Q (.tup [.int pl, .tup (ts.map uT), .tup (bs.map uB), .int ex]) G
theorem fields_look (pl : Int) (ts : List Tile) (bs : List (Int × Int)) (ex : Int) (nums : U) : (fieldsOf pl ts bs ex nums).lookup ("places" : Str) = some (.int pl) ∧ (fieldsOf pl ts bs ex nums).lookup ("tiles" : Str) = some (.tup (ts.map uT)) ∧ (fieldsOf pl ts bs ex nums).lookup ("basic" : Str) = some (.tup (bs.map uB)) ∧ (fieldsOf pl ts bs ex nums).lookup ("exchange" : Str) = some (.int ex) ∧ (fieldsOf pl ts bs ex nums).lookup ("usable" : Str) = some (.int (usab pl ex)) ∧ (fieldsOf pl ts bs ex nums).lookup ("parts" : Str) = none := by
  have b : (("tiles" : Str) == ("places" : Str)) = false ∧ (("basic" : Str) == ("places" : Str)) = false ∧ (("basic" : Str) == ("tiles" : Str)) = false ∧ (("exchange" : Str) == ("places" : Str)) = false ∧ (("exchange" : Str) == ("tiles" : Str)) = false ∧ (("exchange" : Str) == ("basic" : Str)) = false ∧ (("usable" : Str) == ("places" : Str)) = false ∧ (("usable" : Str) == ("tiles" : Str)) = false ∧ (("usable" : Str) == ("basic" : Str)) = false ∧ (("usable" : Str) == ("exchange" : Str)) = false := by decide +kernel
  have c : (("parts" : Str) == ("places" : Str)) = false ∧ (("parts" : Str) == ("tiles" : Str)) = false ∧ (("parts" : Str) == ("basic" : Str)) = false ∧ (("parts" : Str) == ("exchange" : Str)) = false ∧ (("parts" : Str) == ("usable" : Str)) = false ∧ (("parts" : Str) == ("tile_number" : Str)) = false := by decide +kernel
  obtain ⟨b1, b2, b3, b4, b5, b6, b7, b8, b9, b10⟩ := b
  obtain ⟨c1, c2, c3, c4, c5, c6⟩ := c
  unfold fieldsOf
  refine ⟨?_, ?_, ?_, ?_, ?_, ?_⟩ <;> simp [List.lookup, b1, b2, b3, b4, b5, b6, b7, b8, b9, b10, c1, c2, c3, c4, c5, c6]
theorem ok_pa {CM fI fL pp f : Addr} {mc : Value} {fd : FuncData} (Mc : McT K mg CM fI f fL pp mc) (F : Fun K "parts" "Machine.parts" s_Machine_parts f fd) : FnOk P w K mg base CX0 1 f fd ["self"] (lowSp K (spPa CM)) := by
  refine Fun_ok3 F sc_Machine_parts (fun ws G Q E h => by obtain ⟨_, _, _, _, _, _, _, rfl, _⟩ := h; rfl) (fun cdv A outer s H E ws G Q E3 hr h => ?_)
  obtain ⟨a, dx, ts, pl, ex, bs, nums, rfl, ha, hq⟩ := h
  obtain ⟨l1, l2, l3, l4, l5, l6⟩ := fields_look pl ts bs ex nums
  refine ⟨_, (ss_one (s_ret (e3tup (a3cons (e3fld Mc.cls Mc.no_places (e3v 0)) (a3cons (e3fld Mc.cls Mc.no_tiles (e3v 0)) (a3cons (e3fld Mc.cls Mc.no_basic (e3v 0)) (a3cons (e3fld Mc.cls Mc.no_exchange (e3v 0)) a3nil))))))), ?_⟩
  exact ⟨dx, _, _, ha, l1, dx, _, _, ha, l2, dx, _, _, ha, l3, dx, _, _, ha, l4, rfl, Wk.of hq⟩
def plainTs (wt : Int) : List Tile := opsAll.map fun op => ⟨op, plainP op, 1, wt⟩
theorem wp_mono : ∀ (n : Nat) (p : Pt), wp n p = true → wp (n + 1) p = true
  | n, .a x, h => by cases n <;> exact h
  | n, .l _ _, h => by cases n <;> exact h
  | 0, .o _ _, h => by cases h
  | n + 1, .o op subs, h => by
    unfold wp at h ⊢
    simp only [Bool.and_eq_true, decide_eq_true_eq] at h ⊢
    exact ⟨h.1, List.all_eq_true.mpr fun p hp => wp_mono n p (List.all_eq_true.mp h.2 p hp)⟩
theorem ops_len : ∀ op ∈ opsAll, op.length ≤ 100 := by decide +kernel
theorem plain_ok (wt : Int) : ∀ t ∈ plainTs wt, OkT t := fun t ht => by
  obtain ⟨op, hop, rfl⟩ := List.mem_map.mp ht
  obtain ⟨k, hk, h0, h6, hs, hl⟩ := ops_ok op hop
  exact ⟨hs, ops_len op hop, wp_mono 4 _ (wp_mono 3 _ (wp_mono 2 _ (wp_mono 1 _ (wp_plain hop))))⟩
def ones : List (Int × Int) := List.replicate 6 (1, 1)
def spPl (C CM : Addr) : Sp3 := fun ws G Q E => ∃ (pl wt : Int), ws = [.int pl, .int wt] ∧
  (∀ p i y, faultM pl (plainTs wt) ones 1 = some (p, i, y) → ∀ d, G d = none → E (.ref C) (some d) (gup G d (xB p i y))) ∧
  (faultM pl (plainTs wt) ones 1 = none → ∀ a dx nums G', L3.Sub G G' → G' a = some (.ins CM dx (fieldsOf pl (plainTs wt) ones 1 nums)) → Q (.ref a) G')
theorem ok_pl {C CM fP f f1 f2 pp dC : Addr} {mc : Value} {fd fd1 fd2 : FuncData} (Mc : McT K mg CM f1 fP f pp mc) (F : FunD K "plain" "Machine.plain" (defArgs s_Machine_plain) (defBody s_Machine_plain) (defScope s_Machine_plain) [V.int 1] [] f fd) (T : Tg mg) (Gb : Glb K w mg dC) (G1 : FnOk P w K mg base (L2N.CX P w) 7 f1 fd1 ["self", "places", "tiles", "basic", "exchange"] (lowSp K (spIn C CM))) (b1 : Binds K fd1 ["self", "places", "tiles", "basic", "exchange"] []) (O_plain_pattern : Own P w K mg base 1 "plain_pattern" ["operation"] spPP f2 fd2) : FnOk P w K mg base (L2N.CX P w) 9 f fd ["places", "wait"] (lowSp K (spPl C CM)) := by
  refine Fun_okX3D F sc_Machine_plain (fun ws G Q E h => by obtain ⟨_, _, rfl, _⟩ := h; rfl) (fun cdv A outer s H E ws G Q E3 hr h => ?_)
  have hr1 : Room 8 _ := hr
  have hr_plain_pattern : Room 1 _ := hr.mono (by decide)
  obtain ⟨pl, wt, rfl, hE, hq⟩ := h
  refine ⟨_, (ss_cons (s_setLc (i := 2) (own := [("operation", 3)]) rfl sc_Machine_plain.nd rfl (sw_true rfl rfl rfl (by decide +kernel)) (i_kw Gb.cd.names (e3glob rfl Gb.cg)) (blkOk_by (N := Machine_plain_N) (sc := defScope s_Machine_plain) (by decide +kernel)) (gl_own (by decide)) (fun _ _ _ _ _ => (pg_name (i := 3) sc_Machine_plain.nd rfl (by first | exact Or.inl rfl | exact Or.inr rfl))) (fun _ _ _ _ _ => ts3nil) (fun _ _ _ _ _ => (e3tup (a3cons (e3v 3) (a3cons (e3call O_plain_pattern.G hr_plain_pattern O_plain_pattern.g O_plain_pattern.kp O_plain_pattern.b pass0 (a3cons (e3v 3) a3nil)) (a3cons e3int (a3cons (e3v 1) a3nil)))))))
      (ss_one (s_retE (x3make Mc.mak G1 hr1 Mc.gM b1 (L2N.takes_of rfl rfl rfl rfl) (a3cons (e3v 0) (a3cons (e3v 2) (a3cons (e3op o_repA (e3tup (a3cons (e3tup (a3cons e3int (a3cons e3int a3nil))) a3nil)) (e3gi rfl Gb.bp)) (a3cons e3int a3nil)))))))), ?_⟩
  try dsimp only [retN3, ret3, next3, seq3, asg3, n3, v3, c3, drop3, ret3, next3, te3, op3, ifS3, cb3, cons3, nil3, call3, lst3, tup3, un3, List.set_cons_zero, List.set_cons_succ, List.getElem?_cons_zero, List.getElem?_cons_succ, start3, List.map_cons, List.map_nil, List.length_cons, List.length_nil, List.replicate, List.cons_append, List.nil_append, Nat.reduceSub, Nat.reduceAdd]
  refine lc_of ?_
  refine ⟨rfl, ?_⟩
  refine lcK_of opsAll U.str (fun _ => true) (fun op => (⟨op, plainP op, 1, wt⟩ : Tile)) uT (fun _ _ => trivial) (by decide) (fun y hy G' hs Y N hy' hn => ?_) fun L hL => ?_
  · obtain ⟨k, hk, h0, h6, hso, hl⟩ := ops_ok y hy
    exact ⟨y, k, rfl, hso, hk, h0, h6, rfl, hy' rfl _ (Sub.refl _)⟩
  rw [filt_all]
  have s1 : L3.Sub G (gup G L (.lst ((plainTs wt).map uT))) := Sub.new (Sub.refl G) hL
  have hL1 : gup G L (.lst ((plainTs wt).map uT)) L = some (.lst ((plainTs wt).map uT)) := gup_same
  show retE3 _ _ _ (gup G L (.lst ((plainTs wt).map uT)))
  generalize gup G L (.lst ((plainTs wt).map uT)) = G2 at s1 hL1 ⊢
  unfold retE3 makeX3
  try dsimp only [retN3, ret3, next3, seq3, asg3, n3, v3, c3, drop3, ret3, next3, te3, op3, ifS3, cb3, cons3, nil3, call3, lst3, tup3, un3, List.set_cons_zero, List.set_cons_succ, List.getElem?_cons_zero, List.getElem?_cons_succ, start3, List.map_cons, List.map_nil, List.length_cons, List.length_nil, List.replicate, List.cons_append, List.nil_append, Nat.reduceSub, Nat.reduceAdd]
  refine ⟨rfl, rfl, List.cons_ne_nil _ _, by decide, by decide, (show 1 ≤ 1000 by decide), fun a dx na ndx ne => ?_⟩
  have s2 : L3.Sub G (gup (gup G2 dx (.own a)) a (.ins CM dx [])) := Sub.new (Sub.new s1 (s1.free ndx)) (s1.free na)
  refine ⟨a, dx, .ref L, plainTs wt, pl, 1, ones, rfl, gup_same, .inr ⟨L, rfl, ?_⟩, plain_ok wt, by unfold plainTs; rw [List.length_map]; decide, by decide, fun p i y e d hd => ?_, fun e G' nums fr hG => ?_⟩
  · rw [gup_ne (gne_none hL1 na), gup_ne (gne_none hL1 ndx)]
    exact hL1
  · exact ⟨_, Sub.up s2, hE p i y e d (s2.free hd)⟩
  · refine ⟨rfl, Wk.of (hq e a dx nums G' (fun b o h => ?_) hG)⟩
    exact fr b o (fun e2 => by have := s1.free na; rw [e2, this] at h; cases h) (s2 b o h)
end
end K20
end
section
set_option Elab.async false
set_option linter.all false
set_option maxRecDepth 100000
set_option maxHeartbeats 4000000
/-! // by a wide divisor -/
namespace L3
open PySem L2
section
variable {X : Cx}
theorem o_fdivW : OpR X (binaryOp .FloorDiv) (lowR X.K (rI3 CDivW fun i j => .int (i / j))) := opI3 op_fdivW fun _ _ _ => .int _
theorem e3call0 {CX : CXT} {k : Nat} {f : Addr} {fd : FuncData} {ps : List Str} {sp : Sp3} {x : Str} {p pos : Pos} (F : FnOk X.prog X.w X.K X.mg X.base CX k f fd ps (lowSp X.K sp)) (hr : Room k X.A) (hm : X.mg x = some (.ref f)) (hk : PySem.W.keepIn X.K (.ref f) = true) (hb : Binds X.K fd ps []) (hx : Passes CX X E0)
    (hg : Gl X x := by rfl) (hdb : (x == ("__debug__" : Str)) = false := by decide) :
    PE X (.Call (.Name x p) [] [] pos) (lowE X.K (call3 sp nil3)) := (pe_call0 F hr hg hm hk hb .nil hx hdb).imp fun σ H Q h => by
  obtain ⟨σ3, G, Q3, hs, hh, ht, hq⟩ := h
  exact ⟨[], G, Q3, no3, .nil, hh, ht, hq, fun c d H' G' _ _ z => z.elim⟩
end
end L3
end
section
set_option Elab.async false
set_option linter.all false
set_option maxRecDepth 100000
set_option maxHeartbeats 2000000
namespace K20
open PySem L2 L3
theorem cat_of {a b : Addr} {xs ys : List U} {G : G3} {Q : K3} (ha : G a = some (.lst xs)) (hb : G b = some (.lst ys)) (hl : xs.length + ys.length ≤ 1000) (h : ∀ p, G p = none → Q (.ref p) (gup G p (.lst (xs ++ ys)))) : rCat3 (.ref a) (.ref b) G Q := ⟨xs, ys, ha, hb, decide_eq_true (by omega), h⟩
/-- a list and a written one -/
theorem cat_lit {a : Addr} {xs ys : List U} {G : G3} {Q : K3} (ha : G a = some (.lst xs)) (hl : xs.length + ys.length ≤ 1000) (h : ∀ p G1, G p = none → L3.Sub (gup G p (.lst (xs ++ ys))) G1 → Q (.ref p) G1) : ∀ q, G q = none → rCat3 (.ref a) (.ref q) (gup G q (.lst ys)) Q := fun q hq => by
  refine cat_of (by rw [gup_ne (gne_none ha hq)]; exact ha) gup_same hl fun p hp => ?_
  obtain ⟨h1, h2⟩ := gnone hp
  refine h p _ h1 fun b o hb => ?_
  by_cases e : b = p
  · subst e; rw [gup_same] at hb ⊢; exact hb
  · rw [gup_ne e] at hb ⊢
    rw [gup_ne (gne_none hb hq)]
    exact hb
section
variable {P : Program} {w : World} {K : PySem.W.Frag} {mg : Str → Option Value} {base : Heap}
abbrev s_law_take : Stmt := topS 34
abbrev law_take_N : List Str := ["pool", "m", "cells", "at", "c", "mixed"]
theorem sc_law_take : FnScope law_take_N ["pool", "m"] (defScope s_law_take) := ⟨rfl, rfl, rfl, by decide +kernel, rfl, by decide +kernel, by decide +kernel⟩
abbrev s_law_state : Stmt := topS 33
abbrev law_state_N : List Str := ["script", "cells", "c"]
theorem sc_law_state : FnScope law_state_N ["script"] (defScope s_law_state) := ⟨rfl, rfl, rfl, by decide +kernel, rfl, by decide +kernel, by decide +kernel⟩
abbrev s_law_pick : Stmt := topS 35
abbrev law_pick_N : List Str := ["pool", "row"]
theorem sc_law_pick : FnScope law_pick_N ["pool", "row"] (defScope s_law_pick) := ⟨rfl, rfl, rfl, by decide +kernel, rfl, by decide +kernel, by decide +kernel⟩
abbrev s_law_count : Stmt := topS 37
abbrev law_count_N : List Str := ["op"]
theorem sc_law_count : FnScope law_count_N ["op"] (defScope s_law_count) := ⟨rfl, rfl, rfl, by decide +kernel, rfl, by decide +kernel, by decide +kernel⟩
abbrev s_law_ops : Stmt := topS 39
abbrev law_ops_N : List Str := ["pure"]
theorem sc_law_ops : FnScope law_ops_N [] (defScope s_law_ops) := ⟨rfl, rfl, rfl, by decide +kernel, rfl, by decide +kernel, by decide +kernel⟩
def spTake : Sp3 := fun ws G Q _ => ∃ (s c : Addr) (m : Int), ws = [.ref s, .int m] ∧ Law s c G ∧ 0 < m ∧ m ≤ 4294967295 ∧ ∀ (v : Int) (G' : G3), 0 ≤ v → v < m → Law s c G' → Fr s c G G' → Q (.int v) G'
theorem ok_take {f : Addr} {fd : FuncData} (F : Fun K "_law_take" "_law_take" s_law_take f fd) (T : Tg mg) : FnOk P w K mg base CX0 1 f fd ["pool", "m"] (lowSp K spTake) := by
  refine Fun_ok3 F sc_law_take (fun ws G Q E h => by obtain ⟨_, _, _, rfl, _⟩ := h; rfl) (fun cdv A outer s H E ws G Q E3 hr h => ?_)
  obtain ⟨s, c, m, rfl, ⟨nsc, cells, at', z, hs, hc, h0⟩, hm, hm2, hq⟩ := h
  refine ⟨_, (ss_cons (s_set (i := 2) sc_law_take.nd (e3ix (e3v 0) e3int))
      (ss_cons (s_set (i := 3) sc_law_take.nd (e3ix (e3v 0) e3int))
      (ss_cons (s_if (t3cmp o_lt (e3v 3) (e3B k_len T.len (a3cons (e3v 2) a3nil)))
      (ss_cons (s_set (i := 4) sc_law_take.nd (e3ix (e3v 2) (e3v 3)))
        (ss_cons (s_if (t3cmp o_ge (e3v 4) (e3op o_pow e3int e3int))
        (ss_cons (s_setL (e3v 2) (e3v 3) (e3op o_fdivW (e3v 4) (e3v 1)))
          (ss_one (s_ret (e3op o_mod (e3T k_int T.int (a3cons (e3v 4) a3nil)) (e3v 1)))))
        ss_nil)
        (ss_cons (s_setL (e3v 0) e3int (e3op o_add (e3v 3) e3int))
        (ss_cons (s_set (i := 5) sc_law_take.nd (e3op o_add (e3op o_mul (e3op o_mod (e3T k_int T.int (a3cons (e3op o_add (e3op o_mul (e3v 4) e3int) e3int) a3nil)) e3int) e3int) (e3v 3)))
        (ss_one (s_ret (e3op o_mod (e3op o_fdiv (e3op o_mod (e3T k_int T.int (a3cons (e3v 5) a3nil)) e3int) e3int) (e3v 1))))))))
      ss_nil)
      (ss_cons (s_setL (e3v 0) e3int (e3op o_mod (e3T k_int T.int (a3cons (e3op o_add (e3op o_mul (e3ix (e3v 0) e3int) e3int) e3int) a3nil)) e3int))
      (ss_one (s_ret (e3op o_mod (e3op o_fdiv (e3T k_int T.int (a3cons (e3ix (e3v 0) e3int) a3nil)) e3int) (e3v 1)))))))), ?_⟩
  have hm0 : m ≠ 0 := by omega
  have fin : ∀ (x : Int) (G' : G3), Law s c G' → Fr s c G G' → Wk Q (.int (x.fmod m)) G' := fun x G' hl hf => Wk.of (hq _ _ (Int.fmod_nonneg_of_pos x hm) (Int.fmod_lt_of_pos x hm) hl hf)
  refine ⟨_, .ref c, hs, rfl, _, .int at', hs, rfl, .inl ⟨_, hc, ?_⟩⟩
  by_cases hat : at' < (cells.length : Int)
  · have hx : cells[at'.toNat]? = some cells[at'.toNat] := List.getElem?_eq_getElem (by omega)
    generalize cells[at'.toNat] = x at hx
    have hix : L2.atI (cells.map U.int) at' = some (.int x) := atI_eq (i := at'.toNat) (by omega) (by rw [List.getElem?_map, hx]; rfl)
    have hixN : L2.ixN (cells.map U.int).length at' = some at'.toNat := by
      unfold L2.ixN; rw [if_pos h0, if_pos (by rw [List.length_map]; exact hat)]
    refine ifT (decide_eq_true (by rw [List.length_map]; exact hat)) ⟨_, .int x, hc, hix, ⟨by decide, by decide, by decide⟩, ?_⟩
    by_cases hbig : (10 : Int) ^ (18 : Int).toNat ≤ x
    · refine ifT (decide_eq_true hbig) ⟨wide_div (b := 32) hm (by omega) (by decide) (by decide), _, _, hc, hixN, hm0, ?_⟩
      refine fin _ _ ⟨nsc, cells.set at'.toNat (x / m), at', z, by rw [gup_ne nsc]; exact hs, by rw [gup_same, List.map_set], h0⟩ fun b o h1 h2 h => by rw [gup_ne h2]; exact h
    · refine ifF (decide_eq_false hbig) ⟨_, 1, hs, rfl, mul_c (by decide) (by decide), nz, mul_c (by decide) (by decide), nz, ⟨by decide, by decide⟩, hm0, ?_⟩
      refine fin _ _ ⟨nsc, cells, at' + 1, z, gup_same, by rw [gup_ne nsc.symm]; exact hc, by omega⟩ fun b o h1 h2 h => by rw [gup_ne h1]; exact h
  · refine ifF (decide_eq_false (by rw [List.length_map]; exact hat)) ⟨_, .int z, hs, rfl, mul_c (by decide) (by decide), nz, _, 2, hs, rfl, ?_⟩
    refine ⟨_, .int ((z * 48271 + 7).fmod 2147483647), gup_same, rfl, ⟨by decide, by decide⟩, hm0, ?_⟩
    refine fin _ _ ⟨nsc, cells, at', _, gup_same, by rw [gup_ne nsc.symm]; exact hc, h0⟩ fun b o h1 h2 h => by rw [gup_ne h1]; exact h
def spState : Sp3 := fun ws G Q _ => ∃ (x : U) (ns : List Int), ws = [x] ∧ (x = .lit (ns.map U.int) ∨ ∃ a, x = .ref a ∧ G a = some (.lst (ns.map U.int))) ∧ ns.length ≤ 63 ∧
  ∀ (s c : Addr) (cells : List Int) (z : Int), s ≠ c → G s = none → G c = none → Q (.ref s) (gup (gup G c (.lst (cells.map U.int))) s (.lst [.ref c, .int 0, .int z]))
theorem cut_n (ns : List Int) (n : Nat) : cut3 (ns.map U.int) none (some (n : Int)) = (ns.take n).map U.int := by
  unfold cut3
  rw [HT.sIx_none, HT.sIx_nat, List.drop_zero, Nat.sub_zero, ← List.map_take, List.length_map]
  by_cases h : n ≤ ns.length
  · rw [Nat.min_eq_left h]
  · rw [Nat.min_eq_right (by omega), List.take_of_length_le (Nat.le_refl _), List.take_of_length_le (by omega)]
theorem ok_state {f : Addr} {fd : FuncData} (F : Fun K "_law_state" "_law_state" s_law_state f fd) (T : Tg mg) : FnOk P w K mg base CX0 1 f fd ["script"] (lowSp K spState) := by
  refine Fun_ok3 F sc_law_state (fun ws G Q E h => by obtain ⟨_, _, rfl, _⟩ := h; rfl) (fun cdv A outer s H E ws G Q E3 hr h => ?_)
  obtain ⟨x, ns, rfl, hx, hlen, hq⟩ := h
  rcases hx with rfl | ⟨a, rfl, ha⟩
  · refine ⟨_, (ss_cons (s_setLc (i := 1) (own := [("c", 2)]) rfl sc_law_state.nd rfl (sw_true rfl rfl rfl (by decide +kernel)) (i_list (e3sl (e3v 0) o3none (o3some e3int))) (blkOk_by (N := law_state_N) (sc := defScope s_law_state) (by decide +kernel)) (gl_own (by decide)) (fun _ _ _ _ _ => (pg_name (i := 2) sc_law_state.nd rfl (by first | exact Or.inl rfl | exact Or.inr rfl))) (fun _ _ _ _ _ => ts3nil) (fun _ _ _ _ _ => (e3B k_abs T.abs (a3cons (e3T k_int T.int (a3cons (e3v 2) a3nil)) a3nil))))
        (ss_one (s_ret (e3lst (a3cons (e3v 1) (a3cons e3int (a3cons (e3op o_mod (e3B (k_sum rfl) T.sum (a3cons (e3lc (own := [("c", 2)]) rfl sc_law_state.nd (i_list (e3v 1)) (blkOk_by (N := law_state_N) (sc := defScope s_law_state) (by decide +kernel)) (gl_own (by decide)) (fun _ _ _ _ _ => (pg_name (i := 2) sc_law_state.nd rfl (by first | exact Or.inl rfl | exact Or.inr rfl))) (fun _ _ _ _ _ => ts3nil) (fun _ _ _ _ _ => (e3op o_mod (e3T k_int T.int (a3cons (e3v 2) a3nil)) e3int))) a3nil)) e3int) a3nil))))))), ?_⟩
    try dsimp only [retN3, ret3, next3, seq3, asg3, n3, v3, c3, drop3, ret3, next3, te3, op3, ifS3, cb3, cons3, nil3, call3, lst3, tup3, un3, List.set_cons_zero, List.set_cons_succ, List.getElem?_cons_zero, List.getElem?_cons_succ, start3, List.map_cons, List.map_nil, List.length_cons, List.length_nil, List.replicate, List.cons_append, List.nil_append, Nat.reduceSub, Nat.reduceAdd]
    refine lc_of ?_
    refine fun p hp => ?_
    rw [show (some (63 : Int)) = some ((63 : Nat) : Int) from rfl, cut_n]
    refine ⟨_, gup_same, ?_⟩
    refine lcK_of (ns.take 63) U.int (fun _ => true) (fun i => if i < 0 then -i else i) U.int (fun G' s => s _ _ gup_same) (by rw [List.length_take]; omega) (fun y hy G' hs Y N hy hn => hy rfl _ (Sub.refl _)) fun c hc => ?_
    have hcl : (((ns.take 63).filter fun _ => true).map (fun i : Int => if i < 0 then -i else i)).length ≤ 63 := by rw [List.length_map, filt_all, List.length_take]; omega
    generalize ((ns.take 63).filter fun _ => true).map (fun i : Int => if i < 0 then -i else i) = cells at hcl ⊢
    have hcp : c ≠ p := (gne_none gup_same hc).symm
    have hGc : G c = none := by rw [gup_ne hcp] at hc; exact hc
    refine lc_of ?_
    refine ⟨_, gup_same, ?_⟩
    refine lcK_of cells U.int (fun _ => true) (fun i => i.fmod 2147483647) U.int (fun G' s => s _ _ gup_same) (by omega) (fun y hy G' hs Y N hy hn => ⟨nz, hy rfl _ (Sub.refl _)⟩) fun L hL => ?_
    refine ⟨_, gup_same, nz, rfl, fun s hs => ?_⟩
    have nsc : s ≠ c := fun e => by
      subst e
      rw [gup_ne (gne_none gup_same hL), gup_same] at hs
      cases hs
    have nsL : s ≠ L := fun e => by subst e; rw [gup_same] at hs; cases hs
    have nsp : s ≠ p := fun e => by
      subst e
      rw [gup_ne nsL, gup_ne nsc, gup_same] at hs
      cases hs
    have hGs : G s = none := by rw [gup_ne nsL, gup_ne nsc, gup_ne nsp] at hs; exact hs
    refine Wk.sub (hq s c cells _ nsc hGs hGc) (Sub.up (Sub.new (Sub.up (Sub.new (Sub.refl G) hp)) ?_))
    have ncL : c ≠ L := gne_none gup_same hL
    have : gup (gup G p (.lst ((ns.take 63).map U.int))) c (.lst (cells.map U.int)) L = none := hL
    rw [gup_ne ncL.symm] at this ⊢
    by_cases hLp : L = p
    · subst hLp; exact hp
    · rw [gup_ne hLp] at this; exact this
  · refine ⟨_, (ss_cons (s_setLc (i := 1) (own := [("c", 2)]) rfl sc_law_state.nd rfl (sw_true rfl rfl rfl (by decide +kernel)) (i_list (e3sl (e3v 0) o3none (o3some e3int))) (blkOk_by (N := law_state_N) (sc := defScope s_law_state) (by decide +kernel)) (gl_own (by decide)) (fun _ _ _ _ _ => (pg_name (i := 2) sc_law_state.nd rfl (by first | exact Or.inl rfl | exact Or.inr rfl))) (fun _ _ _ _ _ => ts3nil) (fun _ _ _ _ _ => (e3B k_abs T.abs (a3cons (e3T k_int T.int (a3cons (e3v 2) a3nil)) a3nil))))
        (ss_one (s_ret (e3lst (a3cons (e3v 1) (a3cons e3int (a3cons (e3op o_mod (e3B (k_sum rfl) T.sum (a3cons (e3lc (own := [("c", 2)]) rfl sc_law_state.nd (i_list (e3v 1)) (blkOk_by (N := law_state_N) (sc := defScope s_law_state) (by decide +kernel)) (gl_own (by decide)) (fun _ _ _ _ _ => (pg_name (i := 2) sc_law_state.nd rfl (by first | exact Or.inl rfl | exact Or.inr rfl))) (fun _ _ _ _ _ => ts3nil) (fun _ _ _ _ _ => (e3op o_mod (e3T k_int T.int (a3cons (e3v 2) a3nil)) e3int))) a3nil)) e3int) a3nil))))))), ?_⟩
    try dsimp only [retN3, ret3, next3, seq3, asg3, n3, v3, c3, drop3, ret3, next3, te3, op3, ifS3, cb3, cons3, nil3, call3, lst3, tup3, un3, List.set_cons_zero, List.set_cons_succ, List.getElem?_cons_zero, List.getElem?_cons_succ, start3, List.map_cons, List.map_nil, List.length_cons, List.length_nil, List.replicate, List.cons_append, List.nil_append, Nat.reduceSub, Nat.reduceAdd]
    refine lc_of ?_
    refine ⟨_, ha, fun p hp => ?_⟩
    rw [show (some (63 : Int)) = some ((63 : Nat) : Int) from rfl, cut_n]
    refine ⟨_, gup_same, ?_⟩
    refine lcK_of (ns.take 63) U.int (fun _ => true) (fun i => if i < 0 then -i else i) U.int (fun G' s => s _ _ gup_same) (by rw [List.length_take]; omega) (fun y hy G' hs Y N hy hn => hy rfl _ (Sub.refl _)) fun c hc => ?_
    have hcl : (((ns.take 63).filter fun _ => true).map (fun i : Int => if i < 0 then -i else i)).length ≤ 63 := by rw [List.length_map, filt_all, List.length_take]; omega
    generalize ((ns.take 63).filter fun _ => true).map (fun i : Int => if i < 0 then -i else i) = cells at hcl ⊢
    have hcp : c ≠ p := (gne_none gup_same hc).symm
    have hGc : G c = none := by rw [gup_ne hcp] at hc; exact hc
    refine lc_of ?_
    refine ⟨_, gup_same, ?_⟩
    refine lcK_of cells U.int (fun _ => true) (fun i => i.fmod 2147483647) U.int (fun G' s => s _ _ gup_same) (by omega) (fun y hy G' hs Y N hy hn => ⟨nz, hy rfl _ (Sub.refl _)⟩) fun L hL => ?_
    refine ⟨_, gup_same, nz, rfl, fun s hs => ?_⟩
    have nsc : s ≠ c := fun e => by
      subst e
      rw [gup_ne (gne_none gup_same hL), gup_same] at hs
      cases hs
    have nsL : s ≠ L := fun e => by subst e; rw [gup_same] at hs; cases hs
    have nsp : s ≠ p := fun e => by
      subst e
      rw [gup_ne nsL, gup_ne nsc, gup_same] at hs
      cases hs
    have hGs : G s = none := by rw [gup_ne nsL, gup_ne nsc, gup_ne nsp] at hs; exact hs
    refine Wk.sub (hq s c cells _ nsc hGs hGc) (Sub.up (Sub.new (Sub.up (Sub.new (Sub.refl G) hp)) ?_))
    have ncL : c ≠ L := gne_none gup_same hL
    have : gup (gup G p (.lst ((ns.take 63).map U.int))) c (.lst (cells.map U.int)) L = none := hL
    rw [gup_ne ncL.symm] at this ⊢
    by_cases hLp : L = p
    · subst hLp; exact hp
    · rw [gup_ne hLp] at this; exact this
def spPick : Sp3 := fun ws G Q _ => ∃ (s c b : Addr) (xs : List U), ws = [.ref s, .ref b] ∧ Law s c G ∧ G b = some (.lst xs) ∧ b ≠ s ∧ b ≠ c ∧ xs ≠ [] ∧ xs.length ≤ 1000 ∧ ∀ (x : U) (G' : G3), x ∈ xs → Law s c G' → Fr s c G G' → Q x G'
theorem ok_pick {f f1 : Addr} {fd fd1 : FuncData} (F : Fun K "_law_pick" "_law_pick" s_law_pick f fd) (T : Tg mg) (O_law_take : Own P w K mg base 1 "_law_take" ["pool", "m"] spTake f1 fd1) : FnOk P w K mg base CX0 2 f fd ["pool", "row"] (lowSp K spPick) := by
  refine Fun_ok3 F sc_law_pick (fun ws G Q E h => by obtain ⟨_, _, _, _, rfl, _⟩ := h; rfl) (fun cdv A outer s H E ws G Q E3 hr h => ?_)
  have hr_law_take : Room 1 _ := hr
  obtain ⟨s, c, b, xs, rfl, hL, hb, nb1, nb2, hne, hlen, hq⟩ := h
  have hpos : 0 < xs.length := List.length_pos_iff.mpr hne
  refine ⟨_, (ss_one (s_ret (e3ix (e3v 1) (e3call O_law_take.G hr_law_take O_law_take.g O_law_take.kp O_law_take.b pass0 (a3cons (e3v 0) (a3cons (e3B k_len T.len (a3cons (e3v 1) a3nil)) a3nil)))))), ?_⟩
  refine .inl ⟨_, hb, ?_⟩
  refine ⟨s, c, _, rfl, hL, by omega, by omega, fun v G' h0 h1 hL' fr => ?_⟩
  have hx : xs[v.toNat]? = some xs[v.toNat] := List.getElem?_eq_getElem (by omega)
  have hm := List.mem_of_getElem? hx
  refine ⟨_, _, fr b _ nb1 nb2 hb, atI_eq (i := v.toNat) (by omega) hx, Wk.of (hq _ _ hm hL' fr)⟩
/-- what _law_count answers -/
def cntL : List (Key × Int) := [(.inr "const", 0), (.inr "ask", 0), (.inr "get", 0), (.inr "not", 1), (.inr "say", 1), (.inr "put", 1), (.inr "pick", 3)]
def cntK : List (Key × U) := [(.inr "const", .int 0), (.inr "ask", .int 0), (.inr "get", .int 0), (.inr "not", .int 1), (.inr "say", .int 1), (.inr "put", .int 1), (.inr "pick", .int 3)]
def opsL : List Str := ["add", "sub", "mul", "less", "same", "both", "either", "not", "pick", "div", "rem", "ask", "say", "get", "put"]
def cnt (op : Str) : Nat := if op ∈ (["const", "ask", "get"] : List Str) then 0 else if op ∈ (["not", "say", "put"] : List Str) then 1 else if op = "pick" then 3 else 2
def spCount : Sp3 := fun ws G Q _ => ∃ (op : Str), ws = [.str op] ∧ Q (.int (cnt op : Nat)) G
theorem cnt_look (op : Str) : ((look cntK (.inr op)).getD (.int 2)) = .int (cnt op : Nat) := by
  have d : ("const" : Str) ≠ "ask" ∧ ("const" : Str) ≠ "get" := by decide +kernel
  unfold cntK cnt
  by_cases h1 : op = "const"
  · subst h1; rfl
  rw [look_neg (fun z => h1 (by cases z; rfl))]
  by_cases h2 : op = "ask"
  · subst h2; rfl
  rw [look_neg (fun z => h2 (by cases z; rfl))]
  by_cases h3 : op = "get"
  · subst h3; rfl
  rw [look_neg (fun z => h3 (by cases z; rfl)), if_neg (by simp [h1, h2, h3])]
  by_cases h4 : op = "not"
  · subst h4; rfl
  rw [look_neg (fun z => h4 (by cases z; rfl))]
  by_cases h5 : op = "say"
  · subst h5; rfl
  rw [look_neg (fun z => h5 (by cases z; rfl))]
  by_cases h6 : op = "put"
  · subst h6; rfl
  rw [look_neg (fun z => h6 (by cases z; rfl)), if_neg (by simp [h4, h5, h6])]
  by_cases h7 : op = "pick"
  · subst h7; rfl
  rw [look_neg (fun z => h7 (by cases z; rfl)), if_neg h7]
  rfl
theorem ok_count {f : Addr} {fd : FuncData} (F : Fun K "_law_count" "_law_count" s_law_count f fd) (T : Tg mg) : FnOk P w K mg base CX0 1 f fd ["op"] (lowSp K spCount) := by
  refine Fun_ok3 F sc_law_count (fun ws G Q E h => by obtain ⟨_, rfl, _⟩ := h; rfl) (fun cdv A outer s H E ws G Q E3 hr h => ?_)
  have hu : (A.deeper (PyProof.Rows.envOfC "_law_count" (defScope s_law_count) s.heap.objs.size f cdv)).units + 1 < cLine := by have := hr.un; omega
  obtain ⟨op, rfl, hq⟩ := h
  refine ⟨_, (ss_one (s_ret (e3dget2 hu (e3dispK cntL (pp_c (K := .inr "const") (i := 0) pe_str pe_int (pp_c (K := .inr "ask") (i := 0) pe_str pe_int (pp_c (K := .inr "get") (i := 0) pe_str pe_int (pp_c (K := .inr "not") (i := 1) pe_str pe_int (pp_c (K := .inr "say") (i := 1) pe_str pe_int (pp_c (K := .inr "put") (i := 1) pe_str pe_int (pp_c (K := .inr "pick") (i := 3) pe_str pe_int pps_nil)))))))) (e3v 0) e3int ⟨rfl, rfl, rfl, rfl⟩))), ?_⟩
  intro p hp
  have e : cntL.foldl (fun acc kv => put acc kv.1 (.int kv.2)) [] = cntK := rfl
  rw [e]
  refine ⟨.inr ⟨_, gup_same⟩, _, .inr ⟨cntK, .inr op, .inl gup_same, rfl, rfl⟩, ?_⟩
  rw [cnt_look]
  exact Wk.sub hq (Sub.new (Sub.refl G) hp)
def spOps : Sp3 := fun ws G Q _ => ws = [] ∧ ∀ L, G L = none → Q (.ref L) (gup G L (.lst (opsL.map U.str)))
theorem ok_ops {f : Addr} {fd : FuncData} (F : Fun K "_law_ops" "_law_ops" s_law_ops f fd) : FnOk P w K mg base CX0 1 f fd [] (lowSp K spOps) := by
  refine Fun_ok3 F sc_law_ops (fun ws G Q E h => by obtain ⟨rfl, _⟩ := h; rfl) (fun cdv A outer s H E ws G Q E3 hr h => ?_)
  obtain ⟨rfl, hq⟩ := h
  refine ⟨_, (ss_cons (s_set (i := 0) sc_law_ops.nd (e3lst (a3cons e3str (a3cons e3str (a3cons e3str (a3cons e3str (a3cons e3str (a3cons e3str (a3cons e3str (a3cons e3str (a3cons e3str a3nil)))))))))))
      (ss_one (s_ret (e3op o_cat (e3v 0) (e3lst (a3cons e3str (a3cons e3str (a3cons e3str (a3cons e3str (a3cons e3str (a3cons e3str a3nil))))))))))), ?_⟩
  refine ⟨rfl, fun p hp => ?_⟩
  refine ⟨rfl, cat_lit gup_same (by decide) fun L G1 hL s1 => ?_⟩
  exact Wk.sub (hq L (Sub.free (Sub.new (Sub.refl G) hp) hL)) ((Sub.up (Sub.new (Sub.refl G) hp)).trans s1)
end
end K20
end
section
set_option Elab.async false
set_option linter.all false
set_option maxRecDepth 100000
set_option maxHeartbeats 2000000
namespace K20
open PySem L2 L3
def PlainU : Nat → U → Prop
  | _, .int _ => True
  | _, .bl _ => True
  | _, .str x => dat (.str x) = true
  | n + 1, .tup xs => xs.length ≤ 90000 ∧ ∀ x ∈ xs, PlainU n x
  | _, _ => False
theorem plain_up : ∀ (n : Nat) (x : U), PlainU n x → PlainU (n + 1) x
  | n, .int _, _ => by unfold PlainU; trivial
  | n, .bl _, _ => by unfold PlainU; trivial
  | 0, .str _, h => by unfold PlainU at h ⊢; exact h
  | n + 1, .str _, h => by unfold PlainU at h ⊢; exact h
  | n + 1, .tup xs, h => by
    unfold PlainU at h ⊢
    exact ⟨h.1, fun x hx => plain_up n x (h.2 x hx)⟩
  | 0, .tup xs, h => by unfold PlainU at h; exact h.elim
  | 0, .non, h => by unfold PlainU at h; exact h.elim
  | 0, .ty _, h => by unfold PlainU at h; exact h.elim
  | 0, .ref _, h => by unfold PlainU at h; exact h.elim
  | 0, .wtup _, h => by unfold PlainU at h; exact h.elim
  | 0, .lit _, h => by unfold PlainU at h; exact h.elim
  | n + 1, .non, h => by unfold PlainU at h; exact h.elim
  | n + 1, .ty _, h => by unfold PlainU at h; exact h.elim
  | n + 1, .ref _, h => by unfold PlainU at h; exact h.elim
  | n + 1, .wtup _, h => by unfold PlainU at h; exact h.elim
  | n + 1, .lit _, h => by unfold PlainU at h; exact h.elim
theorem strs_one {x : Str} (h : PySem.PyData.strOk x = true) : ∀ c ∈ x.cps.toList, PySem.PyData.strOk ⟨#[c]⟩ = true := fun c hc => by
  have := Array.all_eq_true_iff_forall_mem.mp h c (Array.mem_toList_iff.mp hc)
  show (#[c] : Array Nat).all _ = true
  simpa using this
theorem dat_of' (xs : List Nat) (h : ∀ c ∈ xs, PySem.PyData.strOk ⟨#[c]⟩ = true) : dat (.lit (xs.map fun c => U.str ⟨#[c]⟩)) = true := by
  have := dat_Ss (xs := xs.map fun c => (⟨#[c]⟩ : Str)) fun x hx => by
    obtain ⟨c, hc, rfl⟩ := List.mem_map.mp hx
    exact h c hc
  rw [List.map_map] at this
  exact this
theorem eq_nil (l : List U) : eq3 (.lit l) (.lit []) = l.isEmpty := by cases l <;> rfl
theorem wp_le : ∀ {n m : Nat} {p : Pt}, n ≤ m → wp n p = true → wp m p = true
  | n, m, p, h, hw => by
    obtain ⟨k, rfl⟩ := Nat.exists_eq_add_of_le h
    clear h
    induction k with
    | zero => exact hw
    | succ k ih => exact wp_mono _ _ ih
theorem dat_3 (a b c : Int) : dat (.tup [.int a, .int b, .int c]) = true := dat_of rfl (by simp [pd, pdL, PyData.canLay0, PyData.canLayAll0]) (by simp [pd, pdL, PyData.depth, PyData.depthAll])
def knownL (top : Bool) : List Str := if top = true then opsL else opsL.take 9
theorem known_ok (top : Bool) : ∀ z ∈ knownL top, PySem.PyData.strOk z = true := by
  cases top
  · show ∀ z ∈ opsL.take 9, _
    decide +kernel
  · show ∀ z ∈ opsL, _
    decide +kernel
theorem ops_facts : ∀ op ∈ opsL, op ≠ "const" ∧ COUNTS.lookup op = some (cnt op : Int) ∧ decide (op ∈ PURE) = decide (op ∈ opsL.take 9) := by decide +kernel
theorem counts_keys : ∀ kv ∈ COUNTS, kv.1 = "const" ∨ kv.1 ∈ opsL := by decide +kernel
theorem look_mem {op : Str} {k : Int} : ∀ {l : List (Str × Int)}, l.lookup op = some k → ∃ kv ∈ l, kv.1 = op
  | [], h => by cases h
  | (a, b) :: l, h => by
    by_cases e : op = a
    · exact ⟨_, List.mem_cons_self, e.symm⟩
    · have hb : (op == a) = false := beq_eq_false_iff_ne.mpr e
      rw [List.lookup, hb] at h
      obtain ⟨kv, h1, h2⟩ := look_mem h
      exact ⟨kv, List.mem_cons_of_mem _ h1, h2⟩
theorem part_law (op : Str) (subs : List Pt) (top : Bool) : partOk (.o op subs) top = (decide (op ∈ knownL top) && decide (subs.length = cnt op)) := by
  by_cases h : op ∈ opsL
  · obtain ⟨h1, h2, h3⟩ := ops_facts op h
    unfold partOk
    dsimp only
    rw [h2, h3, decide_eq_true h1]
    have e : decide ((subs.length : Int) = ((cnt op : Nat) : Int)) = decide (subs.length = cnt op) := by
      by_cases z : subs.length = cnt op
      · simp [z]
      · have : ¬ (subs.length : Int) = ((cnt op : Nat) : Int) := by omega
        simp [z, this]
    dsimp only
    rw [e]
    cases top with
    | true =>
      rw [show decide (op ∈ knownL true) = true from decide_eq_true h]
      cases decide (subs.length = cnt op) <;> rfl
    | false =>
      rw [show decide (op ∈ knownL false) = decide (op ∈ opsL.take 9) from rfl]
      cases decide (subs.length = cnt op) <;> cases decide (op ∈ opsL.take 9) <;> rfl
  · have hk : op ∉ knownL top := by
      cases top
      · exact fun z => h (List.mem_of_mem_take z)
      · exact h
    rw [decide_eq_false hk, Bool.false_and]
    unfold partOk
    by_cases hc : op = "const"
    · simp [hc]
    · cases e : COUNTS.lookup op with
      | none => simp [e]
      | some k =>
        obtain ⟨kv, h1, h2⟩ := look_mem e
        rcases counts_keys kv h1 with z | z
        · exact absurd (h2.symm.trans z) hc
        · rw [h2] at z; exact absurd z h
section
variable {P : Program} {w : World} {K : PySem.W.Frag} {mg : Str → Option Value} {base : Heap}
abbrev s_law_same : Stmt := topS 36
abbrev law_same_N : List Str := ["told", "due", "k"]
theorem sc_law_same : FnScope law_same_N ["told", "due"] (defScope s_law_same) := ⟨rfl, rfl, rfl, by decide +kernel, rfl, by decide +kernel, by decide +kernel⟩
abbrev s_law_is_word : Stmt := topS 44
abbrev law_is_word_N : List Str := ["text", "letters", "sign"]
theorem sc_law_is_word : FnScope law_is_word_N ["text"] (defScope s_law_is_word) := ⟨rfl, rfl, rfl, by decide +kernel, rfl, by decide +kernel, by decide +kernel⟩
abbrev s_law_sum : Stmt := topS 41
abbrev law_sum_N : List Str := ["sub", "top", "known", "total", "part", "one"]
theorem sc_law_sum : FnScope law_sum_N ["sub", "top"] (defScope s_law_sum) := ⟨rfl, rfl, rfl, by decide +kernel, rfl, by decide +kernel, by decide +kernel⟩
abbrev s_law_big : Stmt := topS 42
abbrev law_big_N : List Str := ["pattern", "holes", "lits", "acts"]
theorem sc_law_big : FnScope law_big_N ["pattern"] (defScope s_law_big) := ⟨rfl, rfl, rfl, by decide +kernel, rfl, by decide +kernel, by decide +kernel⟩
def spSame : Nat → Sp3
  | 0 => fun _ _ _ _ => False
  | n + 1 => fun ws G Q _ => ∃ x, ws = [x, x] ∧ PlainU n x ∧ Q (.bl true) G
theorem ok_same {f : Addr} {fd : FuncData} (F : Fun K "_law_same" "_law_same" s_law_same f fd) (T : Tg mg) (g : mg "_law_same" = some (.ref f)) (kp : PySem.W.keepIn K (.ref f) = true) (b : Binds K fd ["told", "due"] []) : ∀ n, FnOk P w K mg base CX0 (n + 1) f fd ["told", "due"] (lowSp K (spSame n))
  | 0 => Fun_ok3 F sc_law_same (fun ws G Q E h => h.elim) (fun cdv A outer s H E ws G Q E3 hr h => h.elim)
  | n + 1 => by
    have O_law_same : Own P w K mg base (n + 1) "_law_same" ["told", "due"] (spSame n) f fd := ⟨ok_same F T g kp b n, g, kp, b⟩
    refine Fun_ok3 F sc_law_same (fun ws G Q E h => by obtain ⟨_, rfl, _⟩ := h; rfl) (fun cdv A outer s H E ws G Q E3 hr h => ?_)
    have hr_law_same : Room (n + 1) _ := hr
    have hu64 := hr.units
    obtain ⟨x, rfl, hx, hq⟩ := h
    refine ⟨_, (ss_cons (s_if (t3val (e3B k_isi T.isinstance (a3cons (e3v 1) (a3cons (e3ty (n := "tuple") rfl T.tuple (by decide +kernel)) a3nil))))
        (ss_cut (s_if (PW.pt (w3or (t3not (t3val (e3B k_isi T.isinstance (a3cons (e3v 0) (a3cons (e3ty (n := "tuple") rfl T.tuple (by decide +kernel)) a3nil))))) (w3or1 (t3cmp (o_ne hu64) (e3B k_len T.len (a3cons (e3v 0) a3nil)) (e3B k_len T.len (a3cons (e3v 1) a3nil))))))
          (ss_one (s_ret e3bl))
          ss_nil)
          (ss_cons (s_for PassesOwn.never rfl (i_range1 T.range (e3B k_len T.len (a3cons (e3v 1) a3nil))) (pg_name (i := 2) sc_law_same.nd rfl (by first | exact Or.inl rfl | exact Or.inr rfl)) gl_name
          (ss_one (s_if (t3not (t3val (e3call O_law_same.G hr_law_same O_law_same.g O_law_same.kp O_law_same.b pass0 (a3cons (e3ix (e3v 0) (e3v 2)) (a3cons (e3ix (e3v 1) (e3v 2)) a3nil)))))
            (ss_one (s_ret e3bl))
            ss_nil)))
          (ss_one (s_ret e3bl))))
        ss_nil)
        (ss_cons (s_if (t3val (e3B k_isi T.isinstance (a3cons (e3v 1) (a3cons (e3ty (n := "bool") rfl T.bool (by decide +kernel)) a3nil))))
        (ss_one (s_ret (e3and (e3B k_isi T.isinstance (a3cons (e3v 0) (a3cons (e3ty (n := "bool") rfl T.bool (by decide +kernel)) a3nil))) (e3one (e3cmp (o_eq hu64) (e3v 0) (e3v 1))))))
        ss_nil)
        (ss_cons (s_if (t3val (e3B k_isi T.isinstance (a3cons (e3v 1) (a3cons (e3ty (n := "int") rfl T.int (by decide +kernel)) a3nil))))
        (ss_one (s_ret (e3and (e3B k_isi T.isinstance (a3cons (e3v 0) (a3cons (e3ty (n := "int") rfl T.int (by decide +kernel)) a3nil))) (e3and (e3not (e3B k_isi T.isinstance (a3cons (e3v 0) (a3cons (e3ty (n := "bool") rfl T.bool (by decide +kernel)) a3nil)))) (e3one (e3cmp (o_eq hu64) (e3v 0) (e3v 1)))))))
        ss_nil)
        (ss_one (s_ret (e3and (e3B k_isi T.isinstance (a3cons (e3v 1) (a3cons (e3ty (n := "str") rfl T.str (by decide +kernel)) a3nil))) (e3and (e3B k_isi T.isinstance (a3cons (e3v 0) (a3cons (e3ty (n := "str") rfl T.str (by decide +kernel)) a3nil))) (e3one (e3cmp (o_eq hu64) (e3v 0) (e3v 1)))))))))), ?_⟩
    cases x with
    | int i =>
      refine ⟨"int", false, rfl, kit_it, ?_⟩
      refine ifF rfl ?_
      refine ⟨"int", false, rfl, kit_ib, ?_⟩
      refine ifF rfl ?_
      refine ⟨"int", true, rfl, kit_ii, ?_⟩
      refine ifT rfl ?_
      refine ⟨"int", true, rfl, kit_ii, "int", false, rfl, kit_ib, dat_int _, dat_int _, ?_⟩
      rw [show (if false = true then !eq3 (.int i) (.int i) else eq3 (.int i) (.int i)) = true by rw [if_neg Bool.false_ne_true, eq3_int]; simp]
      exact Wk.of hq
    | bl i =>
      refine ⟨"bool", false, rfl, kit_bt, ?_⟩
      refine ifF rfl ?_
      refine ⟨"bool", true, rfl, kit_bb, ?_⟩
      refine ifT rfl ?_
      refine ⟨"bool", true, rfl, kit_bb, rfl, rfl, ?_⟩
      rw [show (if false = true then !eq3 (.bl i) (.bl i) else eq3 (.bl i) (.bl i)) = true by rw [if_neg Bool.false_ne_true]; cases i <;> rfl]
      exact Wk.of hq
    | str t =>
      have hd : dat (.str t) = true := by cases n <;> exact hx
      refine ⟨"str", false, rfl, kit_st, ?_⟩
      refine ifF rfl ?_
      refine ⟨"str", false, rfl, kit_sb, ?_⟩
      refine ifF rfl ?_
      refine ⟨"str", false, rfl, kit_si, ?_⟩
      refine ifF rfl ?_
      refine ⟨"str", true, rfl, kit_ss, "str", true, rfl, kit_ss, hd, hd, ?_⟩
      rw [show (if false = true then !eq3 (.str t) (.str t) else eq3 (.str t) (.str t)) = true by rw [if_neg Bool.false_ne_true]; show (t == t) = true; simp]
      exact Wk.of hq
    | tup xs =>
      cases n with
      | zero => exact hx.elim
      | succ n =>
        obtain ⟨hl, hx⟩ := hx
        refine ⟨"tuple", true, rfl, kit_tt, ?_⟩
        refine ifT rfl ?_
        refine ⟨fun σ' G' => σ' = [some (.tup xs), some (.tup xs), none] ∧ L3.Sub G G', ?_, ?_⟩
        · refine ⟨"tuple", true, rfl, kit_tt, ?_⟩
          refine ifF rfl ?_
          refine ⟨dat_int _, dat_int _, ?_⟩
          refine ifF (by rw [if_pos rfl, eq3_int]; simp) ?_
          exact Wk2.of ⟨rfl, Sub.refl _⟩
        rintro σ' G1 ⟨rfl, hs0⟩
        try dsimp only [seq3, asg3, n3, v3, drop3, ret3, next3, List.set_cons_zero, List.set_cons_succ, List.getElem?_cons_zero, List.getElem?_cons_succ, start3, List.map_cons, List.map_nil, List.length_cons, List.length_nil, List.replicate, List.cons_append, List.nil_append, Nat.reduceSub, Nat.reduceAdd]
        refine for_of ?_
        refine ⟨decide_eq_true (by omega), ?_⟩
        refine forK_of xs.length (by rw [rgU_len]; omega) (fun i σ G' => ∃ z, σ = [some (.tup xs), some (.tup xs), z] ∧ L3.Sub G G') ⟨_, rfl, hs0⟩ (fun _ _ _ _ _ => trivial) ?_ ?_
        · rintro i y σ' G' hi hy ⟨z, rfl, hs⟩
          have hy' : y = .int ((i : Nat) : Int) := by
            rw [rgU_get (by omega)] at hy
            cases hy
            rw [Int.zero_add]
          subst hy'
          have e : xs[i]? = some xs[i] := List.getElem?_eq_getElem hi
          refine ⟨xs[i], atI_eq (i := i) rfl e, xs[i], atI_eq (i := i) rfl e, xs[i], rfl, hx _ (List.getElem_mem hi), ?_⟩
          refine ifF rfl ?_
          exact Wk2.of ⟨_, rfl, hs⟩
        · rintro σ' G' ⟨z, rfl, hs⟩
          exact Wk.sub hq hs
    | non => cases n <;> exact hx.elim
    | ty _ => cases n <;> exact hx.elim
    | ref _ => cases n <;> exact hx.elim
    | wtup _ => cases n <;> exact hx.elim
    | lit _ => cases n <;> exact hx.elim
/-- the letters and the digits -/
theorem isw_filter (x : Str) : (x.cps.toList.filter fun c => !decide (c ∈ (LETTERS ++ DIGITS).cps.toList)) = [] ↔ (x.cps.toList.all fun c => inL c || inD c) = true := by
  have e : (LETTERS ++ DIGITS).cps.toList = LETTERS.cps.toList ++ DIGITS.cps.toList := by
    show (LETTERS.cps ++ DIGITS.cps).toList = _
    exact Array.toList_append
  rw [e, List.filter_eq_nil_iff, List.all_eq_true]
  refine forall_congr' fun c => forall_congr' fun _ => ?_
  unfold inL inD
  simp [Decidable.or_iff_not_imp_left]
theorem ok_liw {f : Addr} {fd : FuncData} (F : Fun K "_law_is_word" "_law_is_word" s_law_is_word f fd) (T : Tg mg) : FnOk P w K mg base CX0 1 f fd ["text"] (lowSp K spIW) := by
  refine Fun_ok3 F sc_law_is_word (fun ws G Q E h => by obtain ⟨_, rfl, _⟩ := h; rfl) (fun cdv A outer s H E ws G Q E3 hr h => ?_)
  have hu64 := hr.units
  obtain ⟨x, rfl, hx, hl, hq⟩ := h
  refine ⟨_, (ss_cons (s_set (i := 1) sc_law_is_word.nd e3str)
      (ss_cons (s_if (PW.pt (w3or (t3not (t3chain o_le o_le e3int (e3B k_len T.len (a3cons (e3v 0) a3nil)) e3int)) (w3or1 (t3cmp o_notinS (e3ixS (e3v 0) e3int) (e3v 1) rfl))))
      (ss_one (s_ret e3bl))
      ss_nil)
      (ss_one (s_ret (e3cmp (o_eqL hu64) (e3lc (own := [("sign", 2)]) rfl sc_law_is_word.nd (i_str (e3v 0)) (blkOk_by (N := law_is_word_N) (sc := defScope s_law_is_word) (by decide +kernel)) (gl_own (by decide)) (fun _ _ _ _ _ => (pg_name (i := 2) sc_law_is_word.nd rfl (by first | exact Or.inl rfl | exact Or.inr rfl))) (fun _ _ _ _ _ => (ts3one (t3cmp o_notinS (e3v 2) (e3op o_addS (e3v 1) e3str) rfl))) (fun _ _ _ _ _ => (e3v 2))) (e3lst a3nil)))))), ?_⟩
  have hlc := len_cps x
  refine ⟨decide_eq_true (by omega), ?_⟩
  obtain hc | ⟨c, cs, hc⟩ : x.cps.toList = [] ∨ ∃ c cs, x.cps.toList = c :: cs := by
    cases x.cps.toList with
    | nil => exact .inl rfl
    | cons c cs => exact .inr ⟨c, cs, rfl⟩
  · rw [hc] at hlc
    refine ifF (decide_eq_false (by rw [hlc]; decide)) ?_
    refine ifT rfl ?_
    have e : isW x = false := by unfold isW; rw [hc]
    rw [e] at hq
    exact Wk.of hq
  have hpos : 1 ≤ x.length := by rw [hlc, hc, List.length_cons]; omega
  refine ifT (decide_eq_true (by omega)) ?_
  by_cases h8 : x.length ≤ 8
  rotate_left
  · refine ifT (by rw [decide_eq_false (by omega)]; rfl) ?_
    have e : isW x = false := by
      unfold isW
      rw [hc]
      dsimp only
      rw [decide_eq_false (by rw [← hc, ← hlc]; exact h8)]
      rfl
    rw [e] at hq
    exact Wk.of hq
  refine ifF (by rw [decide_eq_true (by omega)]; rfl) ?_
  refine ⟨c, decide_eq_true (by omega), (by rw [hc]; exact atI_eq (i := 0) rfl rfl), c, rfl, ?_⟩
  by_cases hL : inL c = true
  rotate_left
  · have hL : inL c = false := by simpa using hL
    refine ifT (by rw [if_pos rfl]; show (!inL c) = true; rw [hL]; rfl) ?_
    have e : isW x = false := by
      unfold isW
      rw [hc]
      dsimp only
      rw [hL]
      simp
    rw [e] at hq
    exact Wk.of hq
  refine ifF (by rw [if_pos rfl]; show (!inL c) = false; rw [hL]; rfl) ?_
  have e : isW x = x.cps.toList.all fun c => inL c || inD c := by
    unfold isW
    rw [hc]
    dsimp only
    rw [decide_eq_true (by rw [← hc, ← hlc]; exact h8), hL]
    rfl
  rw [e] at hq
  try dsimp only [retN3, ret3, next3, seq3, asg3, n3, v3, c3, drop3, ret3, next3, te3, op3, ifS3, cb3, cons3, nil3, call3, lst3, tup3, un3, List.set_cons_zero, List.set_cons_succ, List.getElem?_cons_zero, List.getElem?_cons_succ, start3, List.map_cons, List.map_nil, List.length_cons, List.length_nil, List.replicate, List.cons_append, List.nil_append, Nat.reduceSub, Nat.reduceAdd]
  refine lc_of ?_
  refine v3_of rfl ?_
  have eL : ("abcdefghijklmnopqrstuvwxyz" : Str) = LETTERS := rfl
  have eD : ("0123456789" : Str) = DIGITS := rfl
  refine lcK_of x.cps.toList (fun c => U.str ⟨#[c]⟩) (fun c => !decide (c ∈ (LETTERS ++ DIGITS).cps.toList)) (fun c => c) (fun c => U.str ⟨#[c]⟩) (fun _ _ => trivial) (by omega) (fun c hc G' hs Y N hy hn => ?_) fun L hL => ?_
  · refine ⟨rfl, c, rfl, ?_⟩
    rw [if_pos rfl]
    by_cases h : (!decide (c ∈ (LETTERS ++ DIGITS).cps.toList)) = true
    · refine ifT h ?_
      exact hy h _ (Sub.refl _)
    · have h : (!decide (c ∈ (LETTERS ++ DIGITS).cps.toList)) = false := by simpa using h
      refine ifF h ?_
      exact hn h _ (Sub.refl _)
  refine ⟨rfl, fun p hp => ?_⟩
  have nLp : L ≠ p := gne_none gup_same hp
  have hs1 := strs_one hx
  refine ⟨_, _, by rw [gup_ne nLp]; exact gup_same, gup_same, ?_, rfl, ?_⟩
  · refine dat_of' _ fun c hc => ?_
    rw [List.map_id'] at hc
    exact hs1 c (List.mem_filter.mp hc).1
  rw [if_neg Bool.false_ne_true, eq_nil]
  have fin : ((List.map (fun c => U.str ⟨#[c]⟩) (List.map (fun c => c) (List.filter (fun c => !decide (c ∈ (LETTERS ++ DIGITS).cps.toList)) x.cps.toList))).isEmpty) = x.cps.toList.all fun c => inL c || inD c := by
    rw [List.isEmpty_map, List.isEmpty_map]
    by_cases h : (x.cps.toList.filter fun c => !decide (c ∈ (LETTERS ++ DIGITS).cps.toList)) = []
    · rw [h, (isw_filter x).mp h]; rfl
    · have h2 : ¬ (x.cps.toList.all fun c => inL c || inD c) = true := fun z => h ((isw_filter x).mpr z)
      rw [Bool.eq_false_iff.mpr h2]
      cases e : x.cps.toList.filter fun c => !decide (c ∈ (LETTERS ++ DIGITS).cps.toList) with
      | nil => exact absurd e h
      | cons a b => rfl
  rw [fin]
  exact Wk.sub hq (Sub.new (Sub.new (Sub.refl G) hL) (Sub.free (Sub.new (Sub.refl G) hL) hp))
/-! ### _law_sum -/
def uS : Option T3 → U
  | none => .tup []
  | some a => .tup [.int a.1, .int a.2.1, .int a.2.2]
def sumR (n : Nat) (ps : List Pt) : Option T3 := ps.foldr (fun p acc => addO (sumP n false p) acc) (some (0, 0, 0))
def spSum : Nat → Sp3
  | 0 => fun _ _ _ _ => False
  | n + 1 => fun ws G Q _ => ∃ (p : Pt) (top : Bool), ws = [uP p, .bl top] ∧ wp n p = true ∧ n ≤ 6 ∧ Q (uS (sumP n top p)) G
theorem ok_sum {f f1 f2 : Addr} {fd fd1 fd2 : FuncData} (F : Fun K "_law_sum" "_law_sum" s_law_sum f fd) (T : Tg mg) (O_law_ops : Own P w K mg base 1 "_law_ops" [] spOps f1 fd1) (O_law_count : Own P w K mg base 1 "_law_count" ["op"] spCount f2 fd2) (g : mg "_law_sum" = some (.ref f)) (kp : PySem.W.keepIn K (.ref f) = true) (b : Binds K fd ["sub", "top"] []) : ∀ n, FnOk P w K mg base CX0 (n + 2) f fd ["sub", "top"] (lowSp K (spSum n))
  | 0 => Fun_ok3 F sc_law_sum (fun ws G Q E h => h.elim) (fun cdv A outer s H E ws G Q E3 hr h => h.elim)
  | n + 1 => by
    have O_law_sum : Own P w K mg base (n + 2) "_law_sum" ["sub", "top"] (spSum n) f fd := ⟨ok_sum F T O_law_ops O_law_count g kp b n, g, kp, b⟩
    refine Fun_ok3 F sc_law_sum (fun ws G Q E h => by obtain ⟨_, _, rfl, _⟩ := h; rfl) (fun cdv A outer s H E ws G Q E3 hr h => ?_)
    have hr_law_sum : Room (n + 2) _ := hr
    have hr_law_ops : Room 1 _ := hr.mono (by omega)
    have hr_law_count : Room 1 _ := hr.mono (by omega)
    have hu64 := hr.units
    have hu65 : (A.deeper (PyProof.Rows.envOfC "_law_sum" (defScope s_law_sum) s.heap.objs.size f cdv)).units + 65 < cLine := by have := hr.un; omega
    obtain ⟨p, top, rfl, hw, hn, hq⟩ := h
    have dl : dat (.str "lit") = true := dat_s (by decide +kernel)
    have du : dat (.str "_") = true := dat_s (by decide +kernel)
    refine ⟨_, (ss_cons (s_if (t3val (e3B k_isi T.isinstance (a3cons (e3v 0) (a3cons (e3ty (n := "str") rfl T.str (by decide +kernel)) a3nil))))
        (ss_one (s_ret (e3if (PW.pt (w3and (t3cmp (o_eq hu64) (e3v 0) e3str) (w3and1 (t3not (t3val (e3v 1)))))) (e3tup (a3cons e3int (a3cons e3int (a3cons e3int a3nil)))) (e3tup a3nil))))
        ss_nil)
        (ss_cons (s_if (t3cmp (o_eq hu64) (e3ix (e3v 0) e3int) e3str)
        (ss_one (s_ret (e3if (t3chain4 o_le o_le o_le e3int (e3ix (e3v 0) e3int) (e3ix (e3v 0) e3int) e3int) (e3tup (a3cons e3int (a3cons e3int (a3cons e3int a3nil)))) (e3tup a3nil))))
        ss_nil)
        (ss_cut (s_set (i := 2) sc_law_sum.nd (e3if (t3val (e3v 1)) (e3call0 O_law_ops.G hr_law_ops O_law_ops.g O_law_ops.kp O_law_ops.b pass0) (e3sl (e3call0 O_law_ops.G hr_law_ops O_law_ops.g O_law_ops.kp O_law_ops.b pass0) o3none (o3some e3int))))
        (ss_cons (s_if (PW.pt (w3or (t3cmp (o_notin hu65) (e3ix (e3v 0) e3int) (e3v 2) rfl) (w3or1 (t3cmp (o_ne hu64) (e3B k_len T.len (a3cons (e3v 0) a3nil)) (e3op o_add e3int (e3call O_law_count.G hr_law_count O_law_count.g O_law_count.kp O_law_count.b pass0 (a3cons (e3ix (e3v 0) e3int) a3nil)))))))
        (ss_one (s_ret (e3tup a3nil)))
        ss_nil)
        (ss_cons (s_set (i := 3) sc_law_sum.nd (e3tup (a3cons e3int (a3cons e3int (a3cons e3int a3nil)))))
        (ss_cons (s_for PassesOwn.never rfl (i_tup (e3sl (e3v 0) (o3some e3int) o3none)) (pg_name (i := 4) sc_law_sum.nd rfl (by first | exact Or.inl rfl | exact Or.inr rfl)) gl_name
        (ss_cons (s_set (i := 5) sc_law_sum.nd (e3call O_law_sum.G hr_law_sum O_law_sum.g O_law_sum.kp O_law_sum.b pass0 (a3cons (e3v 4) (a3cons e3bl a3nil))))
          (ss_cons (s_if (t3cmp (o_eq hu64) (e3v 5) (e3tup a3nil))
          (ss_one (s_ret (e3tup a3nil)))
          ss_nil)
          (ss_one (s_set (i := 3) sc_law_sum.nd (e3tup (a3cons (e3op o_add (e3ix (e3v 3) e3int) (e3ix (e3v 5) e3int)) (a3cons (e3op o_add (e3ix (e3v 3) e3int) (e3ix (e3v 5) e3int)) (a3cons (e3op o_add (e3ix (e3v 3) e3int) (e3ix (e3v 5) e3int)) a3nil)))))))))
        (ss_one (s_ret (e3v 3))))))))), ?_⟩
    cases p with
    | a x =>
      have hx : PySem.PyData.strOk x = true := by cases n <;> exact hw
      refine ⟨"str", true, rfl, kit_ss, ?_⟩
      refine ifT rfl ?_
      refine ⟨dat_s hx, du, ?_⟩
      have e : sumP n top (.a x) = if x = "_" ∧ top = false then some (1, 0, 0) else none := by cases n <;> rfl
      rw [e] at hq
      by_cases h : x = "_"
      · refine ifT (by rw [if_neg Bool.false_ne_true, uP, eq3_s]; exact beq_iff_eq.mpr h) ?_
        by_cases ht : top = true
        · refine ifF (c := !top) (by rw [ht]; rfl) ?_
          rw [if_neg (fun z => by rw [ht] at z; cases z.2)] at hq
          exact ⟨rfl, Wk.of hq⟩
        · have ht : top = false := by simpa using ht
          refine ifT (c := !top) (by rw [ht]; rfl) ?_
          rw [if_pos ⟨h, ht⟩] at hq
          exact ⟨rfl, Wk.of hq⟩
      · refine ifF (by rw [if_neg Bool.false_ne_true, uP, eq3_s]; exact beq_eq_false_iff_ne.mpr h) ?_
        rw [if_neg (fun z => h z.1)] at hq
        exact ⟨rfl, Wk.of hq⟩
    | l lo hi =>
      refine ⟨"tuple", false, rfl, kit_ts, ?_⟩
      refine ifF rfl ?_
      refine ⟨.str "lit", rfl, dl, dl, ?_⟩
      refine ifT rfl ?_
      refine ⟨.int lo, rfl, ?_⟩
      have e : sumP n top (.l lo hi) = if partOk (.l lo hi) top = true then some (0, 1, 0) else none := by cases n <;> rfl
      have ep : partOk (.l lo hi) top = decide (0 ≤ lo ∧ lo ≤ hi ∧ hi ≤ 4294967295) := rfl
      rw [e, ep] at hq
      by_cases h1 : (0 : Int) ≤ lo
      · refine ifT (decide_eq_true h1) ⟨.int hi, rfl, ?_⟩
        by_cases h2 : lo ≤ hi
        · refine ifT (decide_eq_true h2) ?_
          by_cases h3 : hi ≤ 4294967295
          · refine ifT (decide_eq_true h3) ?_
            rw [if_pos (decide_eq_true ⟨h1, h2, h3⟩)] at hq
            exact ⟨rfl, Wk.of hq⟩
          · refine ifF (decide_eq_false h3) ?_
            rw [if_neg (fun z => h3 (of_decide_eq_true z).2.2)] at hq
            exact ⟨rfl, Wk.of hq⟩
        · refine ifF (decide_eq_false h2) ?_
          refine ifF rfl ?_
          rw [if_neg (fun z => h2 (of_decide_eq_true z).2.1)] at hq
          exact ⟨rfl, Wk.of hq⟩
      · refine ifF (decide_eq_false h1) ?_
        refine ifF rfl ?_
        rw [if_neg (fun z => h1 (of_decide_eq_true z).1)] at hq
        exact ⟨rfl, Wk.of hq⟩
    | o op subs =>
      obtain ⟨m, rfl⟩ : ∃ m, n = m + 1 := by
        cases n with
        | zero => cases hw
        | succ m => exact ⟨m, rfl⟩
      have hw2 := hw
      unfold wp at hw2
      simp only [Bool.and_eq_true, decide_eq_true_eq] at hw2
      obtain ⟨⟨⟨hs, hnl⟩, hsl⟩, hsub⟩ := hw2
      have hsub := List.all_eq_true.mp hsub
      rw [uP]
      refine ⟨"tuple", false, rfl, kit_ts, ?_⟩
      refine ifF rfl ?_
      refine ⟨.str op, atI_eq (i := 0) rfl rfl, dat_s hs, dl, ?_⟩
      refine ifF (by rw [if_neg Bool.false_ne_true, eq3_s]; exact beq_eq_false_iff_ne.mpr hnl) ?_
      refine ⟨fun σ' G' => ∃ (L : Addr), σ' = [some (.tup (.str op :: uPs subs)), some (.bl top), some (.ref L), none, none, none] ∧ L3.Sub G G' ∧ G' L = some (.lst ((knownL top).map U.str)), ?_, ?_⟩
      · by_cases ht : top = true
        · refine ifT ht ?_
          refine ⟨rfl, fun L hL => ?_⟩
          refine Wk2.of ⟨_, rfl, Sub.new (Sub.refl G) hL, ?_⟩
          rw [gup_same, ht]
          rfl
        · have ht : top = false := by simpa using ht
          refine ifF ht ?_
          refine ⟨rfl, fun L hL => ?_⟩
          refine ⟨_, gup_same, fun q hq2 => ?_⟩
          refine Wk2.of ⟨_, rfl, Sub.new (Sub.new (Sub.refl G) hL) (Sub.free (Sub.new (Sub.refl G) hL) hq2), ?_⟩
          rw [gup_same, ht]
          rfl
      rintro σ' G1 ⟨L, rfl, s1, hL⟩
      have e : sumP (m + 1) top (.o op subs) = if partOk (.o op subs) top = true then addO (some (0, 0, 1)) (sumR m subs) else none := rfl
      rw [e, part_law] at hq
      have kok : ∀ z ∈ knownL top, PySem.PyData.strOk z = true := known_ok top
      try dsimp only [seq3, asg3, n3, v3, drop3, ret3, next3, List.set_cons_zero, List.set_cons_succ, List.getElem?_cons_zero, List.getElem?_cons_succ, start3, List.map_cons, List.map_nil, List.length_cons, List.length_nil, List.replicate, List.cons_append, List.nil_append, Nat.reduceSub, Nat.reduceAdd]
      refine ⟨.str op, atI_eq (i := 0) rfl rfl, _, hL, dat_s hs, dat_Ss kok, ?_⟩
      by_cases hk : op ∈ knownL top
      rotate_left
      · refine ifT (by rw [if_pos rfl, any_s, decide_eq_false hk]; rfl) ?_
        rw [if_neg (by rw [decide_eq_false hk]; exact Bool.false_ne_true)] at hq
        exact ⟨rfl, Wk.sub hq s1⟩
      refine ifF (by rw [if_pos rfl, any_s, decide_eq_true hk]; rfl) ?_
      refine ⟨.str op, atI_eq (i := 0) rfl rfl, op, rfl, dat_int _, dat_int _, ?_⟩
      by_cases hc : subs.length = cnt op
      rotate_left
      · refine ifT (by rw [if_pos rfl, eq3_int, List.length_cons, uPs_map, List.length_map]; simp; omega) ?_
        rw [if_neg (by rw [decide_eq_false hc]; simp)] at hq
        exact ⟨rfl, Wk.sub hq s1⟩
      refine ifF (by rw [if_pos rfl, eq3_int, List.length_cons, uPs_map, List.length_map]; simp; omega) ?_
      rw [if_pos (by rw [decide_eq_true hk, decide_eq_true hc]; rfl)] at hq
      try dsimp only [seq3, asg3, n3, v3, drop3, ret3, next3, List.set_cons_zero, List.set_cons_succ, List.getElem?_cons_zero, List.getElem?_cons_succ, start3, List.map_cons, List.map_nil, List.length_cons, List.length_nil, List.replicate, List.cons_append, List.nil_append, Nat.reduceSub, Nat.reduceAdd]
      have ec : cut3 (U.str op :: uPs subs) (some 1) none = subs.map uP := by
        rw [uPs_map]
        unfold cut3
        rw [show (some (1 : Int)) = some ((1 : Nat) : Int) from rfl, HT.sIx_nat, HT.sIx_none, Nat.min_eq_left (by rw [List.length_cons]; omega)]
        show (subs.map uP).take _ = _
        rw [List.take_of_length_le (by rw [List.length_cons]; omega)]
      refine ⟨rfl, ?_⟩
      try dsimp only [seq3, asg3, n3, v3, drop3, ret3, next3, List.set_cons_zero, List.set_cons_succ, List.getElem?_cons_zero, List.getElem?_cons_succ, start3, List.map_cons, List.map_nil, List.length_cons, List.length_nil, List.replicate, List.cons_append, List.nil_append, Nat.reduceSub, Nat.reduceAdd]
      refine for_of ?_
      refine ⟨by rw [show (some (1 : Int)) = some ((1 : Nat) : Int) from rfl, HT.sIx_nat, Nat.min_eq_left (by rw [List.length_cons]; omega)]; omega, ?_⟩
      rw [ec]
      refine forK_of subs.length (by rw [List.length_map]) (fun i σ G' => ∃ z4 z5 a b c, σ = [some (.tup (.str op :: uPs subs)), some (.bl top), some (.ref L), some (.tup [.int a, .int b, .int c]), z4, z5] ∧ L3.Sub G G' ∧ addO (some (a, b, c)) (sumR m (subs.drop i)) = addO (some (0, 0, 1)) (sumR m subs)) ⟨_, _, _, _, _, rfl, s1, rfl⟩ (fun _ _ _ _ _ => trivial) ?_ ?_
      · rintro i y σ' G' hi hy ⟨z4, z5, a, b, c, rfl, hs2, htot⟩
        have ht : subs[i]? = some subs[i] := List.getElem?_eq_getElem hi
        have hmem := List.mem_of_getElem? ht
        have hd : subs.drop i = subs[i] :: subs.drop (i + 1) := List.drop_eq_getElem_cons hi
        generalize subs[i] = p at ht hmem hd
        rw [List.getElem?_map, ht] at hy
        cases hy
        rw [hd, show sumR m (p :: subs.drop (i + 1)) = addO (sumP m false p) (sumR m (subs.drop (i + 1))) from rfl] at htot
        refine ⟨p, false, rfl, hsub p hmem, by omega, ?_⟩
        cases hp : sumP m false p with
        | none =>
          rw [hp] at htot
          refine ⟨rfl, rfl, rfl, ?_⟩
          refine ifT (by rfl) ?_
          have : addO (some (0, 0, 1)) (sumR m subs) = none := by rw [← htot]; rfl
          rw [this] at hq
          exact ⟨rfl, Wk.sub hq hs2⟩
        | some r =>
          rw [hp] at htot
          refine ⟨rfl, dat_3 _ _ _, rfl, ?_⟩
          refine ifF (by rfl) ?_
          refine ⟨.int a, rfl, .int r.1, rfl, .int b, rfl, .int r.2.1, rfl, .int c, rfl, .int r.2.2, rfl, rfl, ?_⟩
          refine Wk2.of ⟨_, _, _, _, _, rfl, hs2, ?_⟩
          rw [← htot, ← addO_assoc]
          rfl
      · rintro σ' G' ⟨z4, z5, a, b, c, rfl, hs2, htot⟩
        rw [List.drop_length] at htot
        have : addO (some (0, 0, 1)) (sumR m subs) = some (a, b, c) := by rw [← htot]; exact addO_zero _
        rw [this] at hq
        exact Wk.sub hq hs2
def spBig : Sp3 := fun ws G Q _ => ∃ (p : Pt) (n : Nat) (a : T3), ws = [uP p] ∧ wp n p = true ∧ n ≤ 5 ∧ sumP 5 true p = some a ∧ Q (.bl (big a)) G
theorem ok_big {f f1 : Addr} {fd fd1 : FuncData} (F : Fun K "_law_big" "_law_big" s_law_big f fd) (T : Tg mg) (O_law_sum : Own P w K mg base 8 "_law_sum" ["sub", "top"] (spSum 6) f1 fd1) : FnOk P w K mg base CX0 9 f fd ["pattern"] (lowSp K spBig) := by
  refine Fun_ok3 F sc_law_big (fun ws G Q E h => by obtain ⟨_, _, _, rfl, _⟩ := h; rfl) (fun cdv A outer s H E ws G Q E3 hr h => ?_)
  have hr_law_sum : Room 8 _ := hr
  obtain ⟨p, n, a, rfl, hw, hn, hsum, hq⟩ := h
  have h5 : wp 5 p = true := wp_le hn hw
  refine ⟨_, (ss_cons (s_asg (e3call O_law_sum.G hr_law_sum O_law_sum.g O_law_sum.kp O_law_sum.b pass0 (a3cons (e3v 0) (a3cons e3bl a3nil))) (pg_tup (n := 3) rfl (pgs_cons (pg_name (i := 1) sc_law_big.nd rfl (by first | exact Or.inl rfl | exact Or.inr rfl)) (pgs_cons (pg_name (i := 2) sc_law_big.nd rfl (by first | exact Or.inl rfl | exact Or.inr rfl)) (pgs_cons (pg_name (i := 3) sc_law_big.nd rfl (by first | exact Or.inl rfl | exact Or.inr rfl)) pgs_nil)))) (gl_tup (gl_cons gl_name (gl_cons gl_name (gl_cons gl_name gl_nil)))))
      (ss_one (s_ret (e3or (e3cmp o_gt (e3v 1) e3int) (e3or (e3cmp o_gt (e3v 2) e3int) (e3one (e3cmp o_gt (e3v 3) e3int))))))), ?_⟩
  refine ⟨p, true, rfl, h5, by decide, ?_⟩
  rw [hsum]
  refine ⟨rfl, ?_⟩
  by_cases h1 : (3 : Int) < a.1
  · refine ifT (decide_eq_true h1) ?_
    have e : big a = true := by unfold big; rw [decide_eq_true h1]; rfl
    rw [e] at hq
    exact Wk.of hq
  refine ifF (decide_eq_false h1) ?_
  by_cases h2 : (2 : Int) < a.2.1
  · refine ifT (decide_eq_true h2) ?_
    have e : big a = true := by unfold big; rw [decide_eq_true h2]; simp
    rw [e] at hq
    exact Wk.of hq
  refine ifF (decide_eq_false h2) ?_
  have e : big a = decide (4 < a.2.2) := by unfold big; rw [decide_eq_false h1, decide_eq_false h2]; rfl
  rw [e] at hq
  exact Wk.of hq
end
end K20
end
section
set_option Elab.async false
set_option linter.all false
set_option maxRecDepth 100000
set_option maxHeartbeats 2000000
namespace K20
open PySem L2 L3
/-- an operation with holes -/
def plainO (op : Str) : Pt := .o op (List.replicate (cnt op) (.a "_"))
theorem uPs_rep' (n : Nat) : uPs (List.replicate n (.a "_")) = List.replicate n (.str "_") := by
  induction n with
  | zero => rfl
  | succ n ih => rw [List.replicate_succ, List.replicate_succ, uPs, ih, uP]
theorem uP_plainO (op : Str) : uP (plainO op) = .tup (.str op :: List.replicate (cnt op) (.str "_")) := by
  unfold plainO
  rw [uP, uPs_rep']
theorem cnt_le (op : Str) : cnt op ≤ 3 := by
  unfold cnt
  split
  · decide
  · split
    · decide
    · split <;> decide
theorem wp_plainO {op : Str} (h : PySem.PyData.strOk op = true) (h2 : op ≠ "lit") : wp 1 (plainO op) = true := by
  show (PySem.PyData.strOk op && decide (op ≠ "lit") && decide ((List.replicate (cnt op) (Pt.a "_")).length ≤ 6) && (List.replicate (cnt op) (Pt.a "_")).all (wp 0)) = true
  have := cnt_le op
  rw [h, decide_eq_true h2, List.length_replicate, decide_eq_true (by omega)]
  rw [List.all_eq_true.mpr]
  · rfl
  · intro x hx
    rw [List.eq_of_mem_replicate hx]
    show PySem.PyData.strOk "_" = true
    decide +kernel
theorem rep_us (n : Nat) : ((List.range n).map fun _ => ("_" : Str)).map U.str = List.replicate n (.str "_") := by
  refine List.eq_replicate_iff.mpr ⟨by rw [List.length_map, List.length_map, List.length_range], fun b hb => ?_⟩
  obtain ⟨x, hx, rfl⟩ := List.mem_map.mp hb
  obtain ⟨y, hy, rfl⟩ := List.mem_map.mp hx
  rfl
/-- the tables of the law and of the text ask for the same patterns -/
def PL : List Pt := opsL.map plainO ++ [.l 0 4294967295]
theorem ops_two : (∀ op ∈ opsAll, op = "const" ∨ op ∈ opsL) ∧ (∀ op ∈ opsL, op ∈ opsAll ∧ PySem.PyData.strOk op = true ∧ op ≠ "lit") ∧ ("const" : Str) ∈ opsAll := by decide +kernel
theorem plainP_law {op : Str} (h : op ∈ opsL) : plainP op = plainO op := by
  obtain ⟨h1, h2, h3⟩ := ops_facts op h
  unfold plainP plainO
  rw [if_neg h1, h2]
  rfl
theorem mem_PL {p : Pt} (h : p ∈ PL) : ∃ op ∈ opsAll, plainP op = p := by
  rcases List.mem_append.mp h with h | h
  · obtain ⟨op, ho, rfl⟩ := List.mem_map.mp h
    exact ⟨op, (ops_two.2.1 op ho).1, plainP_law ho⟩
  · rw [List.mem_singleton] at h
    subst h
    refine ⟨"const", ops_two.2.2, ?_⟩
    unfold plainP
    rw [if_pos rfl]
theorem PL_mem {op : Str} (h : op ∈ opsAll) : plainP op ∈ PL := by
  rcases ops_two.1 op h with rfl | h
  · unfold plainP
    rw [if_pos rfl]
    exact List.mem_append_right _ (List.mem_singleton.mpr rfl)
  · rw [plainP_law h]
    exact List.mem_append_left _ (List.mem_map.mpr ⟨op, h, rfl⟩)
theorem wp_PL {p : Pt} (h : p ∈ PL) : wp 1 p = true := by
  obtain ⟨op, ho, rfl⟩ := mem_PL h
  exact wp_plain ho
def missP (ts : List Tile) (p : Pt) : Bool := !((ts.map (·.p)).any fun z => eq3 (uP z) (uP p))
theorem lacks_law (ts : List Tile) : (PL.filter (missP ts)) = [] ↔ lacks ts = false := by
  unfold lacks
  rw [List.filter_eq_nil_iff, Bool.not_eq_false', List.all_eq_true]
  constructor
  · intro h op ho
    have := h _ (PL_mem ho)
    unfold missP at this
    unfold hasP
    simpa using this
  · intro h p hp
    obtain ⟨op, ho, rfl⟩ := mem_PL hp
    have := h op ho
    unfold hasP at this
    unfold missP
    rw [this]
    exact Bool.false_ne_true
/-- tuple([op] + ['_' for j in range(_law_count(op))]) -/
theorem pat_of {i j : Nat} {vs : List Nat} {σ : S3} {G : G3} {Q : K3} {op : Str} (h : σ[i]? = some (some (.str op))) (q : ∀ G', L3.Sub G G' → Q (uP (plainO op)) G') : cb3 kTup (cons3 (op3 rCat3 (lst3 (cons3 (v3 i) nil3)) (lc3 (ir1 (call3 spCount (cons3 (v3 i) nil3))) (n3 j) yes3 (c3 (.str "_")) vs)) nil3) σ G Q := by
  unfold cb3 op3 lst3 cons3
  refine v3_of h ?_
  refine ⟨rfl, fun p hp => ?_⟩
  refine lc_of ?_
  refine v3_of h ?_
  have hc := cnt_le op
  refine ⟨op, rfl, decide_eq_true (by omega), ?_⟩
  refine lcK_of (List.range (cnt op)) (fun j => U.int (0 + (j : Nat))) (fun _ => true) (fun _ => ("_" : Str)) U.str (fun _ _ => trivial) (by rw [List.length_range]; omega) (fun y hy G' hs Y N hy' hn => hy' rfl _ (Sub.refl _)) fun L hL => ?_
  rw [filt_all]
  have npL : p ≠ L := gne_none gup_same hL
  refine cat_of (by rw [gup_ne npL]; exact gup_same) gup_same (by rw [List.length_map, List.length_map, List.length_range]; show 1 + _ ≤ _; omega) fun p2 hp2 => ?_
  refine ⟨_, gup_same, ?_⟩
  have e : ([U.str op] ++ ((List.range (cnt op)).map fun _ => ("_" : Str)).map U.str) = .str op :: List.replicate (cnt op) (.str "_") := by
    rw [rep_us]
    rfl
  show Q (.tup _) _
  rw [show ([U.str op] ++ ((List.range (cnt op)).map fun _ => ("_" : Str)).map U.str) = _ from e, ← uP_plainO]
  have f1 : L3.Sub G (gup G p (.lst [U.str op])) := Sub.new (Sub.refl G) hp
  have f2 := Sub.new (o := .lst (((List.range (cnt op)).map fun _ => ("_" : Str)).map U.str)) f1 (f1.free hL)
  exact q _ (Sub.new f2 (f2.free hp2))
section
variable {P : Program} {w : World} {K : PySem.W.Frag} {mg : Str → Option Value} {base : Heap}
abbrev s_law_tile_fault : Stmt := topS 45
abbrev law_tile_fault_N : List Str := ["tile", "words", "word", "pattern", "busy", "wait"]
theorem sc_law_tile_fault : FnScope law_tile_fault_N ["tile", "words"] (defScope s_law_tile_fault) := ⟨rfl, rfl, rfl, by decide +kernel, rfl, by decide +kernel, by decide +kernel⟩
abbrev s_law_fault : Stmt := topS 46
abbrev law_fault_N : List Str := ["places", "tiles", "basic", "exchange", "words", "k", "why", "patterns", "plain", "tile", "op", "j", "x"]
theorem sc_law_fault : FnScope law_fault_N ["places", "tiles", "basic", "exchange"] (defScope s_law_fault) := ⟨rfl, rfl, rfl, by decide +kernel, rfl, by decide +kernel, by decide +kernel⟩
def spLTF : Sp3 := fun ws G Q _ => ∃ (t : Tile) (b : Addr) (W : List Str), ws = [uT t, .ref b] ∧ G b = some (.lst (W.map U.str)) ∧ OkT t ∧ (∀ z ∈ W, PySem.PyData.strOk z = true) ∧ W.length ≤ 100 ∧ Q (.str (faultOf t (decide (t.w ∈ W)))) G
theorem ok_ltf {f f1 f2 f3 : Addr} {fd fd1 fd2 fd3 : FuncData} (F : Fun K "_law_tile_fault" "_law_tile_fault" s_law_tile_fault f fd) (T : Tg mg) (O_law_is_word : Own P w K mg base 1 "_law_is_word" ["text"] spIW f1 fd1) (O_law_sum : Own P w K mg base 8 "_law_sum" ["sub", "top"] (spSum 6) f2 fd2) (O_law_big : Own P w K mg base 9 "_law_big" ["pattern"] spBig f3 fd3) : FnOk P w K mg base CX0 10 f fd ["tile", "words"] (lowSp K spLTF) := by
  refine Fun_ok3 F sc_law_tile_fault (fun ws G Q E h => by obtain ⟨_, _, _, rfl, _⟩ := h; rfl) (fun cdv A outer s H E ws G Q E3 hr h => ?_)
  have hu64 := hr.units
  have hu65 : (A.deeper (PyProof.Rows.envOfC "_law_tile_fault" (defScope s_law_tile_fault) s.heap.objs.size f cdv)).units + 65 < cLine := by have := hr.un; omega
  have hr_law_is_word : Room 1 _ := hr.mono (by decide)
  have hr_law_sum : Room 8 _ := hr.mono (by decide)
  have hr_law_big : Room 9 _ := hr
  obtain ⟨t, b, W, rfl, hb, ht, hW, hlen, hq⟩ := h
  have hwl := ht.wl
  refine ⟨_, (ss_cons (s_asg (e3v 0) (pg_tup (n := 4) rfl (pgs_cons (pg_name (i := 2) sc_law_tile_fault.nd rfl (by first | exact Or.inl rfl | exact Or.inr rfl)) (pgs_cons (pg_name (i := 3) sc_law_tile_fault.nd rfl (by first | exact Or.inl rfl | exact Or.inr rfl)) (pgs_cons (pg_name (i := 4) sc_law_tile_fault.nd rfl (by first | exact Or.inl rfl | exact Or.inr rfl)) (pgs_cons (pg_name (i := 5) sc_law_tile_fault.nd rfl (by first | exact Or.inl rfl | exact Or.inr rfl)) pgs_nil))))) (gl_tup (gl_cons gl_name (gl_cons gl_name (gl_cons gl_name (gl_cons gl_name gl_nil))))))
      (ss_cons (s_if (PW.pt (w3or (t3not (t3val (e3call O_law_is_word.G hr_law_is_word O_law_is_word.g O_law_is_word.kp O_law_is_word.b pass0 (a3cons (e3v 2) a3nil)))) (w3or1 (t3cmp (o_in hu65) (e3v 2) (e3v 1) rfl))))
      (ss_one (s_ret e3str))
      ss_nil)
      (ss_cons (s_if (t3cmp (o_eq hu64) (e3call O_law_sum.G hr_law_sum O_law_sum.g O_law_sum.kp O_law_sum.b pass0 (a3cons (e3v 3) (a3cons e3bl a3nil))) (e3tup a3nil))
      (ss_one (s_ret e3str))
      ss_nil)
      (ss_cons (s_if (t3val (e3call O_law_big.G hr_law_big O_law_big.g O_law_big.kp O_law_big.b pass0 (a3cons (e3v 3) a3nil)))
      (ss_one (s_ret e3str))
      ss_nil)
      (ss_cons (s_if (t3not (t3chain o_le o_le e3int (e3v 4) e3int))
      (ss_one (s_ret e3str))
      ss_nil)
      (ss_one (s_ret (e3if (t3chain o_le o_le (e3v 4) (e3v 5) e3int) e3str e3str)))))))), ?_⟩
  refine ⟨rfl, t.w, rfl, ht.w, by omega, ?_⟩
  by_cases h1 : isW t.w = true
  rotate_left
  · have h1 : isW t.w = false := by simpa using h1
    refine ifT (by rw [h1]; rfl) ?_
    unfold faultOf at hq
    rw [if_pos (.inl h1)] at hq
    exact Wk.of hq
  refine ifF (by rw [h1]; rfl) ?_
  refine ⟨_, hb, dat_s ht.w, dat_Ss hW, ?_⟩
  by_cases h2 : t.w ∈ W
  · refine ifT (by rw [if_neg Bool.false_ne_true, any_s]; exact decide_eq_true h2) ?_
    unfold faultOf at hq
    rw [if_pos (.inr (decide_eq_true h2))] at hq
    exact Wk.of hq
  refine ifF (by rw [if_neg Bool.false_ne_true, any_s]; exact decide_eq_false h2) ?_
  have e : faultOf t (decide (t.w ∈ W)) = match sumP 5 true t.p with
    | none => ("pattern" : Str)
    | some a => if big a = true then "size" else timing t.b t.t := by
    unfold faultOf
    rw [if_neg (fun z => by
      rcases z with z | z
      · rw [h1] at z; cases z
      · exact h2 (of_decide_eq_true z))]
    all_goals (cases sumP 5 true t.p <;> rfl)
  rw [e] at hq
  refine ⟨t.p, true, rfl, ht.p, by decide, ?_⟩
  cases hs : sumP 5 true t.p with
  | none =>
    rw [hs] at hq
    refine ⟨rfl, rfl, rfl, ?_⟩
    refine ifT (by rfl) ?_
    exact Wk.of hq
  | some a =>
    rw [hs] at hq
    dsimp only at hq
    refine ⟨rfl, dat_3 _ _ _, rfl, ?_⟩
    refine ifF (by rfl) ?_
    refine ⟨t.p, 5, a, rfl, ht.p, Nat.le_refl _, hs, ?_⟩
    by_cases hb : big a = true
    · refine ifT hb ?_
      rw [if_pos hb] at hq
      exact Wk.of hq
    have hb' : big a = false := by simpa using hb
    refine ifF hb' ?_
    rw [if_neg hb] at hq
    have fin : ∀ x, x = timing t.b t.t → Wk Q (.str x) G := fun x e => by rw [e]; exact Wk.of hq
    by_cases h1 : (1 : Int) ≤ t.b
    rotate_left
    · refine ifF (decide_eq_false h1) ?_
      refine ifT (by rfl) ?_
      refine fin _ ?_
      unfold timing
      rw [if_pos (fun h => h1 h.1)]
    refine ifT (decide_eq_true h1) ?_
    by_cases h2 : t.b ≤ 9
    rotate_left
    · refine ifT (by rw [decide_eq_false h2]; rfl) ?_
      refine fin _ ?_
      unfold timing
      rw [if_pos (fun h => h2 h.2)]
    refine ifF (by rw [decide_eq_true h2]; rfl) ?_
    by_cases h3 : t.b ≤ t.t
    · refine ifT (decide_eq_true h3) ?_
      by_cases h4 : t.t ≤ 20
      · refine ifT (decide_eq_true h4) ?_
        refine fin _ ?_
        unfold timing
        rw [if_neg (fun h => h ⟨h1, h2⟩), if_neg (fun h => h ⟨h3, h4⟩)]
      · refine ifF (decide_eq_false h4) ?_
        refine fin _ ?_
        unfold timing
        rw [if_neg (fun h => h ⟨h1, h2⟩), if_pos (fun h => h4 h.2)]
    · refine ifF (decide_eq_false h3) ?_
      refine ifF (by rfl) ?_
      refine fin _ ?_
      unfold timing
      rw [if_neg (fun h => h ⟨h1, h2⟩), if_pos (fun h => h3 h.1)]
/-! ### _law_fault -/
def uF : Option Flt → U
  | none => .tup []
  | some (p, i, y) => .tup [.str p, .int i, .str y]
def spFault : Sp3 := fun ws G Q _ => ∃ (ts : List Tile) (pl ex : Int) (bs : List (Int × Int)), ws = [.int pl, .tup (ts.map uT), .tup (bs.map uB), .int ex] ∧ (∀ t ∈ ts, OkT t) ∧ ts.length ≤ 100 ∧ bs.length ≤ 20 ∧ Q (uF (faultM pl ts bs ex)) G
theorem ok_lf {f f1 f2 f3 : Addr} {fd fd1 fd2 fd3 : FuncData} (F : Fun K "_law_fault" "_law_fault" s_law_fault f fd) (T : Tg mg) (O_law_tile_fault : Own P w K mg base 10 "_law_tile_fault" ["tile", "words"] spLTF f1 fd1) (O_law_ops : Own P w K mg base 1 "_law_ops" [] spOps f2 fd2) (O_law_count : Own P w K mg base 1 "_law_count" ["op"] spCount f3 fd3) : FnOk P w K mg base CX0 11 f fd ["places", "tiles", "basic", "exchange"] (lowSp K spFault) := by
  refine Fun_ok3 F sc_law_fault (fun ws G Q E h => by obtain ⟨_, _, _, _, rfl, _⟩ := h; rfl) (fun cdv A outer s H E ws G Q E3 hr h => ?_)
  have hu64 := hr.units
  have hu65 : (A.deeper (PyProof.Rows.envOfC "_law_fault" (defScope s_law_fault) s.heap.objs.size f cdv)).units + 65 < cLine := by have := hr.un; omega
  have hr_law_tile_fault : Room 10 _ := hr
  have hr_law_ops : Room 1 _ := hr.mono (by decide)
  have hr_law_count : Room 1 _ := hr.mono (by decide)
  obtain ⟨ts, pl, ex, bs, rfl, hok, hlen, hbl, hq⟩ := h
  refine ⟨_, (ss_cons (s_if (t3not (t3chain o_le o_le e3int (e3v 0) e3int))
      (ss_one (s_ret (e3tup (a3cons e3str (a3cons (e3neg e3int) (a3cons e3str a3nil))))))
      ss_nil)
      (ss_cons (s_set (i := 4) sc_law_fault.nd (e3lst a3nil))
      (ss_cons (s_for PassesOwn.never rfl (i_range1 T.range (e3B k_len T.len (a3cons (e3v 1) a3nil))) (pg_name (i := 5) sc_law_fault.nd rfl (by first | exact Or.inl rfl | exact Or.inr rfl)) gl_name
      (ss_cut (s_set (i := 6) sc_law_fault.nd (e3if (t3cmp (o_eq hu64) (e3v 5) e3int) e3str (e3call O_law_tile_fault.G hr_law_tile_fault O_law_tile_fault.g O_law_tile_fault.kp O_law_tile_fault.b pass0 (a3cons (e3ix (e3v 1) (e3v 5)) (a3cons (e3v 4) a3nil)))))
        (ss_cons (s_if (t3cmp (o_ne hu64) (e3v 6) e3str)
        (ss_one (s_ret (e3tup (a3cons e3str (a3cons (e3v 5) (a3cons (e3v 6) a3nil))))))
        ss_nil)
        (ss_one (s_expr (e3bmL PySem.F.slot_list_append PySem.F.type_list_append m_append (e3v 4) (a3cons (e3ix (e3ix (e3v 1) (e3v 5)) e3int) a3nil)))))))
      (ss_cons (s_set (i := 7) sc_law_fault.nd (e3lc (own := [("tile", 9)]) rfl sc_law_fault.nd (i_tup (e3v 1)) (blkOk_by (N := law_fault_N) (sc := defScope s_law_fault) (by decide +kernel)) (gl_own (by decide)) (fun _ _ _ _ _ => (pg_name (i := 9) sc_law_fault.nd rfl (by first | exact Or.inl rfl | exact Or.inr rfl))) (fun _ _ _ _ _ => ts3nil) (fun _ _ _ _ _ => (e3ix (e3v 9) e3int))))
      (ss_cons (s_setLc (i := 8) (own := [("op", 10)]) rfl sc_law_fault.nd rfl (sw_true rfl rfl rfl (by decide +kernel)) (i_list (e3call0 O_law_ops.G hr_law_ops O_law_ops.g O_law_ops.kp O_law_ops.b pass0)) (blkOk_by (N := law_fault_N) (sc := defScope s_law_fault) (by decide +kernel)) (gl_own (by decide)) (fun _ _ _ _ _ => (pg_name (i := 10) sc_law_fault.nd rfl (by first | exact Or.inl rfl | exact Or.inr rfl))) (fun _ _ _ _ _ => ts3nil) (fun _ _ _ _ _ => (e3T k_tuple T.tuple (a3cons (e3op o_cat (e3lst (a3cons (e3v 10) a3nil)) (e3lc (own := [("j", 11)]) rfl sc_law_fault.nd (i_range1 T.range (e3call O_law_count.G hr_law_count O_law_count.g O_law_count.kp O_law_count.b pass0 (a3cons (e3v 10) a3nil))) (by dsimp only [L2.Cx.blk, compEnvC]; exact blkOk_by (N := law_fault_N) (by rfl)) (gl_own (by decide)) (fun _ _ _ _ _ => (pg_name (i := 11) sc_law_fault.nd rfl (by first | exact Or.inl rfl | exact Or.inr rfl))) (fun _ _ _ _ _ => ts3nil) (fun _ _ _ _ _ => e3str))) a3nil))))
      (ss_cons (s_if (t3cmp (o_neL hu64) (e3lc (own := [("x", 12)]) rfl sc_law_fault.nd (i_list (e3op o_cat (e3v 8) (e3lst (a3cons (e3tup (a3cons e3str (a3cons e3int (a3cons e3int a3nil)))) a3nil)))) (blkOk_by (N := law_fault_N) (sc := defScope s_law_fault) (by decide +kernel)) (gl_own (by decide)) (fun _ _ _ _ _ => (pg_name (i := 12) sc_law_fault.nd rfl (by first | exact Or.inl rfl | exact Or.inr rfl))) (fun _ _ _ _ _ => (ts3one (t3cmp (o_notin hu65) (e3v 12) (e3v 7) rfl))) (fun _ _ _ _ _ => (e3v 12))) (e3lst a3nil))
      (ss_one (s_ret (e3tup (a3cons e3str (a3cons (e3B k_len T.len (a3cons (e3v 1) a3nil)) (a3cons e3str a3nil))))))
      ss_nil)
      (ss_cons (s_if (t3cmp (o_ne hu64) (e3B k_len T.len (a3cons (e3v 2) a3nil)) e3int)
      (ss_one (s_ret (e3tup (a3cons e3str (a3cons (e3neg e3int) (a3cons e3str a3nil))))))
      ss_nil)
      (ss_cons (s_for PassesOwn.never rfl (i_range1 T.range e3int) (pg_name (i := 5) sc_law_fault.nd rfl (by first | exact Or.inl rfl | exact Or.inr rfl)) gl_name
      (ss_cons (s_if (t3not (t3chain o_le o_le e3int (e3ix (e3ix (e3v 2) (e3v 5)) e3int) e3int))
        (ss_one (s_ret (e3tup (a3cons e3str (a3cons (e3v 5) (a3cons e3str a3nil))))))
        ss_nil)
        (ss_one (s_if (t3not (t3chain o_le o_le (e3ix (e3ix (e3v 2) (e3v 5)) e3int) (e3ix (e3ix (e3v 2) (e3v 5)) e3int) e3int))
        (ss_one (s_ret (e3tup (a3cons e3str (a3cons (e3v 5) (a3cons e3str a3nil))))))
        ss_nil))))
      (ss_cons (s_if (t3cmp o_notinF (e3v 3) (e3tup (a3cons e3int (a3cons e3int a3nil))) rfl)
      (ss_one (s_ret (e3tup (a3cons e3str (a3cons (e3neg e3int) (a3cons e3str a3nil))))))
      ss_nil)
      (ss_one (s_ret (e3if (PW.pt (w3and (t3cmp (o_eq hu64) (e3v 3) e3int) (w3and1 (t3cmp (o_eq hu64) (e3v 0) e3int)))) (e3tup (a3cons e3str (a3cons (e3neg e3int) (a3cons e3str a3nil)))) (e3tup a3nil))))))))))))), ?_⟩
  have ret : ∀ {G1 : G3} {p : Str} {i : Int} {y : Str}, L3.Sub G G1 → faultM pl ts bs ex = some (p, i, y) → Wk Q (.tup [.str p, .int i, .str y]) G1 := fun s e => by rw [e] at hq; exact Wk.sub hq s
  have one : ¬ (3 ≤ pl ∧ pl ≤ 12) → faultM pl ts bs ex = some (("places" : Str), (-1 : Int), ("range" : Str)) := fun h => by unfold faultM; rw [if_pos h]
  by_cases h1 : (3 : Int) ≤ pl
  rotate_left
  · refine ifF (decide_eq_false h1) ?_
    refine ifT (by rfl) ?_
    exact ⟨rfl, ret (Sub.refl _) (one fun h => h1 h.1)⟩
  refine ifT (decide_eq_true h1) ?_
  by_cases h2 : pl ≤ 12
  rotate_left
  · refine ifT (by rw [decide_eq_false h2]; rfl) ?_
    exact ⟨rfl, ret (Sub.refl _) (one fun h => h2 h.2)⟩
  refine ifF (by rw [decide_eq_true h2]; rfl) ?_
  have e1 : faultM pl ts bs ex = match firstF (tfault ts) ts.length with
    | some (i, y) => some ((("tiles", (i : Nat), y)) : Flt)
    | none => if lacks ts = true then some ("tiles", (ts.length : Nat), "lacks")
      else if bs.length ≠ 6 then some ("basic", -1, "count")
      else match firstF (basicF bs) bs.length with
        | some (i, y) => some ("basic", (i : Nat), y)
        | none => if ¬ (ex = 0 ∨ ex = 1) then some ("exchange", -1, "flag")
          else if ex = 0 ∧ pl = 3 then some ("places", -1, "spare") else none := by
    unfold faultM
    rw [if_neg (fun h => h ⟨h1, h2⟩)]
    all_goals rfl
  refine ⟨rfl, fun L hL => ?_⟩
  have s1 : ∀ o, L3.Sub G (gup G L o) := fun o => Sub.new (Sub.refl G) hL
  try dsimp only [seq3, asg3, n3, v3, drop3, ret3, next3, List.set_cons_zero, List.set_cons_succ, List.getElem?_cons_zero, List.getElem?_cons_succ, start3, List.map_cons, List.map_nil, List.length_cons, List.length_nil, List.replicate, List.cons_append, List.nil_append, Nat.reduceSub, Nat.reduceAdd]
  refine for_of ?_
  refine ⟨decide_eq_true (by rw [List.length_map]; omega), ?_⟩
  refine forK_of ts.length (by rw [rgU_len, List.length_map]; rfl) (fun i σ G' => ∃ z5 z6, σ = [some (.int pl), some (.tup (ts.map uT)), some (.tup (bs.map uB)), some (.int ex), some (.ref L), z5, z6, none, none, none, none, none, none] ∧ L3.Sub (gup G L (.lst (((ts.take i).map (·.w)).map U.str))) G' ∧ ∀ j, j < i → tfault ts j = "") ⟨_, _, rfl, Sub.refl _, fun j h => by omega⟩ (fun _ _ _ _ _ => trivial) ?_ ?_
  · rintro i y σ' G' hi hy ⟨z5, z6, rfl, hs, hall⟩
    have hy' : y = .int ((i : Nat) : Int) := by
      rw [rgU_get (by rw [List.length_map]; exact hi)] at hy
      cases hy
      rw [Int.zero_add]
    subst hy'
    have ht : ts[i]? = some ts[i] := List.getElem?_eq_getElem hi
    have hot := hok _ (List.mem_of_getElem? ht)
    have hfo := tfault_ok ts i
    have etf : tfault ts i = if i = 40 then ("count" : Str) else faultOf ts[i] (decide (ts[i].w ∈ (ts.take i).map (·.w))) := by
      unfold tfault
      rw [ht]
    generalize ts[i] = t at ht hot etf
    have hws : ∀ z ∈ (ts.take i).map (·.w), PySem.PyData.strOk z = true := fun z hz => by
      obtain ⟨t', ht', rfl⟩ := List.mem_map.mp hz
      exact (hok t' (List.mem_of_mem_take ht')).w
    have tl : ((ts.take i).map (·.w)).length ≤ 100 := by rw [List.length_map]; exact Nat.le_trans (List.length_take_le' _ _) hlen
    have sG : L3.Sub G G' := Sub.base hs hL
    refine ⟨fun σ' G2 => σ' = [some (.int pl), some (.tup (ts.map uT)), some (.tup (bs.map uB)), some (.int ex), some (.ref L), some (.int ((i : Nat) : Int)), some (.str (tfault ts i)), none, none, none, none, none, none] ∧ G2 = G', ?_, ?_⟩
    · refine ⟨dat_int _, dat_int _, ?_⟩
      by_cases h40 : i = 40
      · refine ifT (by rw [if_neg Bool.false_ne_true, eq3_int, h40]; rfl) ?_
        rw [if_pos h40] at etf
        rw [etf]
        exact Wk2.of ⟨rfl, rfl⟩
      · refine ifF (by rw [if_neg Bool.false_ne_true, eq3_int]; simp; omega) ?_
        rw [if_neg h40] at etf
        refine ⟨uT t, atI_eq (i := i) rfl (by rw [List.getElem?_map, ht]; rfl), t, L, _, rfl, hs.at, hot, hws, tl, ?_⟩
        rw [etf]
        exact Wk2.of ⟨rfl, rfl⟩
    rintro σ' G2 ⟨rfl, e2⟩
    subst e2
    try dsimp only [seq3, asg3, n3, v3, drop3, ret3, next3, List.set_cons_zero, List.set_cons_succ, List.getElem?_cons_zero, List.getElem?_cons_succ, start3, List.map_cons, List.map_nil, List.length_cons, List.length_nil, List.replicate, List.cons_append, List.nil_append, Nat.reduceSub, Nat.reduceAdd]
    refine ⟨dat_s hfo.1, dat_s (by decide +kernel), ?_⟩
    by_cases hf : tfault ts i = ""
    · refine ifF (by rw [if_pos rfl, eq3_s, hf]; rfl) ?_
      refine ⟨⟨_, hs.at⟩, uT t, atI_eq (i := i) rfl (by rw [List.getElem?_map, ht]; rfl), .str t.w, rfl, _, hs.at, decide_eq_true (by rw [List.length_map]; omega), ?_⟩
      refine Wk2.of ⟨_, _, rfl, ?_, fun j hj => ?_⟩
      · rw [take_s ht, List.map_append, List.map_append]
        exact hs.mut
      · rcases Nat.lt_succ_iff_lt_or_eq.mp hj with hj | rfl
        · exact hall j hj
        · exact hf
    · refine ifT (by rw [if_pos rfl, eq3_s]; simpa using hf) ?_
      refine ⟨rfl, ret sG ?_⟩
      rw [e1, first_at hi hall hf]
  rintro σ' G' ⟨z5, z6, rfl, hs, hall⟩
  rw [first_none hall] at e1
  dsimp only at e1
  have sG : L3.Sub G G' := Sub.base hs hL
  try dsimp only [seq3, asg3, n3, v3, drop3, ret3, next3, List.set_cons_zero, List.set_cons_succ, List.getElem?_cons_zero, List.getElem?_cons_succ, start3, List.map_cons, List.map_nil, List.length_cons, List.length_nil, List.replicate, List.cons_append, List.nil_append, Nat.reduceSub, Nat.reduceAdd]
  refine lc_of ?_
  refine it_tup rfl ?_
  refine lcK_of ts uT (fun _ => true) (fun t => t.p) uP (fun _ _ => trivial) (by omega) (fun y hy G' hs Y N hy' hn => ⟨uP y.p, rfl, hy' rfl _ (Sub.refl _)⟩) fun La hLa => ?_
  rw [filt_all]
  have s2 : L3.Sub G (gup G' La (.lst ((ts.map (·.p)).map uP))) := Sub.new sG (sG.free hLa)
  have hp2 : gup G' La (.lst ((ts.map (·.p)).map uP)) La = some (.lst ((ts.map (·.p)).map uP)) := gup_same
  generalize gup G' La (.lst ((ts.map (·.p)).map uP)) = G2 at s2 hp2 ⊢
  have hps : ∀ p ∈ ts.map (·.p), wp 5 p = true := fun p hp => by
    obtain ⟨t, ht, rfl⟩ := List.mem_map.mp hp
    exact (hok t ht).p
  try dsimp only [seq3, asg3, n3, v3, drop3, ret3, next3, List.set_cons_zero, List.set_cons_succ, List.getElem?_cons_zero, List.getElem?_cons_succ, start3, List.map_cons, List.map_nil, List.length_cons, List.length_nil, List.replicate, List.cons_append, List.nil_append, Nat.reduceSub, Nat.reduceAdd]
  refine lc_of ?_
  refine ⟨rfl, fun L3' hL3 => ⟨_, gup_same, ?_⟩⟩
  refine lcK_of opsL U.str (fun _ => true) plainO uP (fun G' s => s _ _ gup_same) (by decide) (fun y hy G' hs Y N hy' hn => by dsimp only [n3, yes3]; rw [if_pos rfl]; exact pat_of rfl fun G4 s4 => hy' rfl _ s4) fun L4 hL4 => ?_
  rw [filt_all]
  have s3 : L3.Sub G2 (gup (gup G2 L3' (.lst (opsL.map U.str))) L4 (.lst ((opsL.map plainO).map uP))) := Sub.new (Sub.new (Sub.refl G2) hL3) (Sub.free (Sub.new (Sub.refl G2) hL3) hL4)
  have hp4 : gup (gup G2 L3' (.lst (opsL.map U.str))) L4 (.lst ((opsL.map plainO).map uP)) L4 = some (.lst ((opsL.map plainO).map uP)) := gup_same
  generalize gup (gup G2 L3' (.lst (opsL.map U.str))) L4 (.lst ((opsL.map plainO).map uP)) = G4 at s3 hp4 ⊢
  try dsimp only [retN3, ret3, next3, seq3, asg3, n3, v3, c3, drop3, ret3, next3, te3, op3, ifS3, cb3, cons3, nil3, call3, lst3, tup3, un3, List.set_cons_zero, List.set_cons_succ, List.getElem?_cons_zero, List.getElem?_cons_succ, start3, List.map_cons, List.map_nil, List.length_cons, List.length_nil, List.replicate, List.cons_append, List.nil_append, Nat.reduceSub, Nat.reduceAdd]
  refine lc_of ?_
  refine ⟨rfl, rfl, cat_lit hp4 (by decide) fun L5 G5 hL5 s5 => ?_⟩
  have s5' : L3.Sub G4 G5 := Sub.base s5 hL5
  have ePL : (opsL.map plainO).map uP ++ [U.tup [.str "lit", .int 0, .int 4294967295]] = PL.map uP := by
    unfold PL
    rw [List.map_append]
    congr 1
  refine ⟨_, s5.at, ?_⟩
  rw [show ((opsL.map plainO).map uP ++ [U.tup [.str "lit", .int 0, .int 4294967295]]) = PL.map uP from ePL]
  have hp5 := s5' _ _ (s3 _ _ hp2)
  refine lcK_of PL uP (missP ts) (fun p => p) uP (fun G' s => by
    have := s _ _ s5.at
    rw [ePL] at this
    exact this) (by decide) (fun p hp G' hs Y N hy hn => ?_) fun L6 hL6 => ?_
  · refine ⟨_, hs _ _ hp5, dat_P (wp_PL hp) (by decide), dat_Ps hps (by decide), ?_⟩
    have em : (if true = true then !(((ts.map (·.p)).map uP).any fun z => eq3 z (uP p)) else ((ts.map (·.p)).map uP).any fun z => eq3 z (uP p)) = missP ts p := by
      rw [if_pos rfl, List.any_map]
      rfl
    by_cases h : missP ts p = true
    · refine ifT (em.trans h) ?_
      exact hy h _ (Sub.refl _)
    · have h : missP ts p = false := by simpa using h
      refine ifF (em.trans h) ?_
      exact hn h _ (Sub.refl _)
  rw [List.map_id']
  have s6 : L3.Sub G (gup G5 L6 (.lst ((PL.filter (missP ts)).map uP))) := (s2.trans (s3.trans s5')).new ((s2.trans (s3.trans s5')).free hL6)
  have hp6 : gup G5 L6 (.lst ((PL.filter (missP ts)).map uP)) L6 = some (.lst ((PL.filter (missP ts)).map uP)) := gup_same
  generalize gup G5 L6 (.lst ((PL.filter (missP ts)).map uP)) = G6 at s6 hp6 ⊢
  refine ⟨rfl, fun L7 hL7 => ?_⟩
  refine ⟨_, _, by rw [gup_ne (gne_none hp6 hL7)]; exact hp6, gup_same, dat_Ps (n := 1) (fun p hp => wp_PL (List.mem_filter.mp hp).1) (by decide), rfl, ?_⟩
  have s7 := Sub.new (o := .lst []) s6 (s6.free hL7)
  generalize gup G6 L7 (.lst []) = G7 at s7 ⊢
  by_cases hlk : lacks ts = true
  · refine ifT ?_ ?_
    · rw [if_pos rfl, eq_nil, List.isEmpty_map]
      cases e : PL.filter (missP ts) with
      | nil => rw [(lacks_law ts).mp e] at hlk; cases hlk
      | cons a b => rfl
    rw [if_pos hlk] at e1
    refine ⟨rfl, ?_⟩
    rw [List.length_map]
    exact ret s7 e1
  have hlk' : lacks ts = false := by simpa using hlk
  refine ifF (by rw [if_pos rfl, eq_nil, (lacks_law ts).mpr hlk']; rfl) ?_
  rw [if_neg hlk] at e1
  refine ⟨dat_int _, dat_int _, ?_⟩
  by_cases hb6 : bs.length = 6
  rotate_left
  · refine ifT (by rw [if_pos rfl, eq3_int, List.length_map]; simp; omega) ?_
    rw [if_pos hb6] at e1
    exact ⟨rfl, ret s7 e1⟩
  refine ifF (by rw [if_pos rfl, eq3_int, List.length_map, hb6]; rfl) ?_
  rw [if_neg (fun h => h hb6)] at e1
  try dsimp only [seq3, asg3, n3, v3, drop3, ret3, next3, List.set_cons_zero, List.set_cons_succ, List.getElem?_cons_zero, List.getElem?_cons_succ, start3, List.map_cons, List.map_nil, List.length_cons, List.length_nil, List.replicate, List.cons_append, List.nil_append, Nat.reduceSub, Nat.reduceAdd]
  refine for_of ?_
  refine ⟨rfl, ?_⟩
  refine forK_of 6 (by rw [rgU_len]; rfl) (fun i σ G' => ∃ z5 z6 z7 z8, σ = [some (.int pl), some (.tup (ts.map uT)), some (.tup (bs.map uB)), some (.int ex), some (.ref L), z5, z6, z7, z8, none, none, none, none] ∧ L3.Sub G G' ∧ ∀ j, j < i → basicF bs j = "") ⟨_, _, _, _, rfl, s7, fun j h => by omega⟩ (fun _ _ _ _ _ => trivial) ?_ ?_
  · rintro i y σ' G' hi hy ⟨z5, z6, z7, z8, rfl, hs, hall⟩
    have hi2 : i < bs.length := by omega
    have ht : bs[i]? = some bs[i] := List.getElem?_eq_getElem hi2
    generalize bs[i] = b at ht
    have hy' : y = .int ((i : Nat) : Int) := by
      rw [rgU_get (by exact hi)] at hy
      cases hy
      rw [Int.zero_add]
    subst hy'
    have ebf : basicF bs i = timing b.1 b.2 := by unfold basicF; rw [ht]
    have hix : L2.atI (bs.map uB) ((i : Nat) : Int) = some (uB b) := atI_eq (i := i) rfl (by rw [List.getElem?_map, ht]; rfl)
    have bad : ∀ y, timing b.1 b.2 = y → y ≠ "" → Wk Q (.tup [.str "basic", .int (i : Nat), .str y]) G' := fun y e hne => by
      refine ret hs ?_
      rw [e1, first_at hi2 hall (by rw [ebf, e]; exact hne), ebf, e]
    refine ⟨uB b, hix, .int b.1, rfl, ?_⟩
    by_cases h1 : (1 : Int) ≤ b.1
    rotate_left
    · refine ifF (decide_eq_false h1) ?_
      refine ifT (by rfl) ?_
      refine ⟨rfl, bad _ ?_ (by decide +kernel)⟩
      unfold timing
      rw [if_pos (fun h => h1 h.1)]
    refine ifT (decide_eq_true h1) ?_
    by_cases h2 : b.1 ≤ 9
    rotate_left
    · refine ifT (by rw [decide_eq_false h2]; rfl) ?_
      refine ⟨rfl, bad _ ?_ (by decide +kernel)⟩
      unfold timing
      rw [if_pos (fun h => h2 h.2)]
    refine ifF (by rw [decide_eq_true h2]; rfl) ?_
    refine ⟨uB b, hix, .int b.1, rfl, uB b, hix, .int b.2, rfl, ?_⟩
    by_cases h3 : b.1 ≤ b.2
    rotate_left
    · refine ifF (decide_eq_false h3) ?_
      refine ifT (by rfl) ?_
      refine ⟨rfl, bad _ ?_ (by decide +kernel)⟩
      unfold timing
      rw [if_neg (fun h => h ⟨h1, h2⟩), if_pos (fun h => h3 h.1)]
    refine ifT (decide_eq_true h3) ?_
    by_cases h4 : b.2 ≤ 20
    rotate_left
    · refine ifT (by rw [decide_eq_false h4]; rfl) ?_
      refine ⟨rfl, bad _ ?_ (by decide +kernel)⟩
      unfold timing
      rw [if_neg (fun h => h ⟨h1, h2⟩), if_pos (fun h => h4 h.2)]
    refine ifF (by rw [decide_eq_true h4]; rfl) ?_
    refine Wk2.of ⟨_, _, _, _, rfl, hs, fun j hj => ?_⟩
    rcases Nat.lt_succ_iff_lt_or_eq.mp hj with hj | rfl
    · exact hall j hj
    · rw [ebf]
      unfold timing
      rw [if_neg (fun h => h ⟨h1, h2⟩), if_neg (fun h => h ⟨h3, h4⟩)]
  rintro σ' G' ⟨z5, z6, z7, z8, rfl, hs, hall⟩
  rw [hb6, first_none hall] at e1
  dsimp only at e1
  refine ⟨rfl, rfl, rfl, ?_⟩
  have eany : ([U.int 0, U.int 1].any fun y => eqF y (.int ex)) = decide (ex = 0 ∨ ex = 1) := by
    show (((0 : Int) == ex) || (((1 : Int) == ex) || false)) = _
    by_cases a : ex = 0
    · subst a; rfl
    · by_cases b : ex = 1
      · subst b; rfl
      · have a' : ¬ (0 : Int) = ex := fun e => a e.symm
        have b' : ¬ (1 : Int) = ex := fun e => b e.symm
        simp [a, b, a', b']
  by_cases hex : ex = 0 ∨ ex = 1
  rotate_left
  · refine ifT (by rw [if_pos rfl, eany, decide_eq_false hex]; rfl) ?_
    rw [if_pos hex] at e1
    exact ⟨rfl, ret hs e1⟩
  refine ifF (by rw [if_pos rfl, eany, decide_eq_true hex]; rfl) ?_
  rw [if_neg (fun h => h hex)] at e1
  refine ⟨dat_int _, dat_int _, ?_⟩
  have done : ¬ (ex = 0 ∧ pl = 3) → Wk Q (.tup []) G' := fun h => by
    rw [if_neg h] at e1
    rw [e1] at hq
    exact Wk.sub hq hs
  by_cases h0 : ex = 0
  · refine ifT (by rw [if_neg Bool.false_ne_true, eq3_int, h0]; rfl) ?_
    refine ⟨dat_int _, dat_int _, ?_⟩
    by_cases h3 : pl = 3
    · refine ifT (by rw [if_neg Bool.false_ne_true, eq3_int, h3]; rfl) ?_
      rw [if_pos ⟨h0, h3⟩] at e1
      exact ⟨rfl, ret hs e1⟩
    · refine ifF (by rw [if_neg Bool.false_ne_true, eq3_int]; simpa using h3) ?_
      exact ⟨rfl, done fun h => h3 h.2⟩
  · refine ifF (by rw [if_neg Bool.false_ne_true, eq3_int]; simpa using h0) ?_
    exact ⟨rfl, done fun h => h0 h.1⟩
end
end K20
end
section
set_option Elab.async false
set_option linter.all false
set_option maxRecDepth 100000
set_option maxHeartbeats 2000000
namespace K20
open PySem L2 L3
/-- a comprehension whose element draws from the pool -/
theorem lcE_of {g : TG3} {tt : TT3} {te : TE3} {vs : List Nat} {σ : S3} {Q : K3} {ok : G3 → Prop} {G1 : G3} {s c : Addr} (xs : List U) (V : U → Prop) (hlaw : Law s c G1) (hok : ∀ G', ok G') (hz : xs.length ≤ 1000)
    (hs : ∀ (i : Nat) (x : U), xs[i]? = some x → ∀ (G' : G3), Law s c G' → Fr s c G1 G' → ∀ (Y : U → G3 → Prop) (N : G3 → Prop), (∀ v G4, V v → Law s c G4 → Fr s c G' G4 → Y v G4) →
      g x (wipe3 σ vs) G' fun σ2 G2 => tt σ2 G2 fun b G3 => if b = true then te σ2 G3 Y else N G3)
    (hq : ∀ L vals G', vals.length = xs.length → (∀ v ∈ vals, V v) → G1 L = none → Law s c G' → Fr s c G1 G' → G' L = some (.lst vals) → Q (.ref L) G') : lcK g tt te vs σ Q ⟨xs, ok⟩ G1 := by
  intro L hL
  have n1 := hlaw.ns hL
  have n2 := hlaw.nc hL
  refine ⟨fun i G' => ∃ vals, vals.length = i ∧ (∀ v ∈ vals, V v) ∧ G' L = some (.lst vals) ∧ Law s c G' ∧ Fr s c G1 G', ⟨[], rfl, (fun v hv => by cases hv), gup_same, hlaw.mut n1 n2, (Fr.refl G1).mut hL⟩, fun i G' _ _ => hok G', ?_, ?_⟩
  · rintro i x G' hx ⟨vals, hlen, hV, hg, hl, hf⟩
    have hi : i < xs.length := (List.getElem?_eq_some_iff.mp hx).1
    refine hs i x hx G' hl hf _ _ fun v G4 hv hl4 hf4 => ⟨vals, hf4 _ _ n1 n2 hg, decide_eq_true (by omega), ?_⟩
    refine ⟨_, Sub.refl _, vals ++ [v], by rw [List.length_append, hlen]; rfl, fun z hz => ?_, gup_same, hl4.mut n1 n2, (hf.trans hf4).mut hL⟩
    rcases List.mem_append.mp hz with hz | hz
    · exact hV z hz
    · rw [List.mem_singleton.mp hz]; exact hv
  · rintro G' ⟨vals, hlen, hV, hg, hl, hf⟩
    exact hq L vals G' hlen hV hL hl hf hg
theorem all_P {α : Type} {u : α → U} {P : α → Prop} : ∀ {vals : List U}, (∀ v ∈ vals, ∃ p, v = u p ∧ P p) → ∃ ps : List α, vals = ps.map u ∧ ∀ p ∈ ps, P p
  | [], _ => ⟨[], rfl, fun p hp => by cases hp⟩
  | v :: vals, h => by
    obtain ⟨p, rfl, hp⟩ := h v List.mem_cons_self
    obtain ⟨ps, rfl, hps⟩ := all_P fun z hz => h z (List.mem_cons_of_mem _ hz)
    refine ⟨p :: ps, rfl, fun q hq => ?_⟩
    rcases List.mem_cons.mp hq with rfl | hq
    · exact hp
    · exact hps q hq
section
variable {P : Program} {w : World} {K : PySem.W.Frag} {mg : Str → Option Value} {base : Heap}
abbrev s_law_any : Stmt := topS 40
abbrev law_any_N : List Str := ["pool", "deep", "kind", "low", "op", "k"]
theorem sc_law_any : FnScope law_any_N ["pool", "deep"] (defScope s_law_any) := ⟨rfl, rfl, rfl, by decide +kernel, rfl, by decide +kernel, by decide +kernel⟩
def spAny : Nat → Sp3
  | 0 => fun _ _ _ _ => False
  | n + 1 => fun ws G Q _ => ∃ (s c : Addr), ws = [.ref s, .int (n : Nat)] ∧ Law s c G ∧ n ≤ 10 ∧ ∀ (p : Pt) (G' : G3), wp n p = true → Law s c G' → Fr s c G G' → Q (uP p) G'
theorem ok_any {f f1 f2 f3 f4 : Addr} {fd fd1 fd2 fd3 fd4 : FuncData} (F : Fun K "_law_any" "_law_any" s_law_any f fd) (T : Tg mg) (O_law_take : Own P w K mg base 1 "_law_take" ["pool", "m"] spTake f1 fd1) (O_law_ops : Own P w K mg base 1 "_law_ops" [] spOps f2 fd2) (O_law_count : Own P w K mg base 1 "_law_count" ["op"] spCount f3 fd3) (O_law_pick : Own P w K mg base 2 "_law_pick" ["pool", "row"] spPick f4 fd4)
    (g : mg "_law_any" = some (.ref f)) (kp : PySem.W.keepIn K (.ref f) = true) (b : Binds K fd ["pool", "deep"] []) : ∀ n, FnOk P w K mg base CX0 (n + 3) f fd ["pool", "deep"] (lowSp K (spAny n))
  | 0 => Fun_ok3 F sc_law_any (fun ws G Q E h => h.elim) (fun cdv A outer s H E ws G Q E3 hr h => h.elim)
  | n + 1 => by
    have O_law_any : Own P w K mg base (n + 3) "_law_any" ["pool", "deep"] (spAny n) f fd := ⟨ok_any F T O_law_take O_law_ops O_law_count O_law_pick g kp b n, g, kp, b⟩
    refine Fun_ok3 F sc_law_any (fun ws G Q E h => by obtain ⟨_, _, rfl, _⟩ := h; rfl) (fun cdv A outer s H E ws G Q E3 hr h => ?_)
    have hr_law_any : Room (n + 3) _ := hr
    have hr_law_take : Room 1 _ := hr.mono (by omega)
    have hr_law_ops : Room 1 _ := hr.mono (by omega)
    have hr_law_count : Room 1 _ := hr.mono (by omega)
    have hr_law_pick : Room 2 _ := hr.mono (by omega)
    have hu64 := hr.units
    obtain ⟨s, c, rfl, hL, hn, hq⟩ := h
    refine ⟨_, (ss_cons (s_set (i := 2) sc_law_any.nd (e3call O_law_take.G hr_law_take O_law_take.g O_law_take.kp O_law_take.b pass0 (a3cons (e3v 0) (a3cons e3int a3nil))))
        (ss_cons (s_if (PW.pt (w3or (t3cmp (o_eq hu64) (e3v 1) e3int) (w3or1 (t3cmp o_lt (e3v 2) e3int))))
        (ss_one (s_ret e3str))
        ss_nil)
        (ss_cons (s_set (i := 3) sc_law_any.nd (e3call O_law_take.G hr_law_take O_law_take.g O_law_take.kp O_law_take.b pass0 (a3cons (e3v 0) (a3cons e3int a3nil))))
        (ss_cons (s_if (t3cmp (o_eq hu64) (e3v 2) e3int)
        (ss_one (s_ret (e3tup (a3cons e3str (a3cons (e3v 3) (a3cons (e3op o_add (e3v 3) (e3call O_law_take.G hr_law_take O_law_take.g O_law_take.kp O_law_take.b pass0 (a3cons (e3v 0) (a3cons e3int a3nil)))) a3nil))))))
        ss_nil)
        (ss_cons (s_set (i := 4) sc_law_any.nd (e3ix (e3call0 O_law_ops.G hr_law_ops O_law_ops.g O_law_ops.kp O_law_ops.b pass0) (e3v 3)))
        (ss_cut (s_if (PW.pt (w3or (t3cmp (o_eq hu64) (e3v 1) e3int) (w3or1 (t3cmp (o_eq hu64) (e3call O_law_take.G hr_law_take O_law_take.g O_law_take.kp O_law_take.b pass0 (a3cons (e3v 0) (a3cons e3int a3nil))) e3int))))
        (ss_one (s_set (i := 4) sc_law_any.nd (e3call O_law_pick.G hr_law_pick O_law_pick.g O_law_pick.kp O_law_pick.b pass0 (a3cons (e3v 0) (a3cons (e3call0 O_law_ops.G hr_law_ops O_law_ops.g O_law_ops.kp O_law_ops.b pass0) a3nil)))))
        ss_nil)
        (ss_one (s_ret (e3T k_tuple T.tuple (a3cons (e3op o_cat (e3lst (a3cons (e3v 4) a3nil)) (e3lc (own := [("k", 5)]) rfl sc_law_any.nd (i_range1 T.range (e3call O_law_count.G hr_law_count O_law_count.g O_law_count.kp O_law_count.b pass0 (a3cons (e3v 4) a3nil))) (blkOk_by (N := law_any_N) (sc := defScope s_law_any) (by decide +kernel)) (gl_own (by decide)) (fun _ _ _ _ _ => (pg_name (i := 5) sc_law_any.nd rfl (by first | exact Or.inl rfl | exact Or.inr rfl))) (fun _ _ _ _ _ => ts3nil) (fun _ _ _ _ _ => (e3call O_law_any.G hr_law_any O_law_any.g O_law_any.kp O_law_any.b pass0 (a3cons (e3v 0) (a3cons (e3op o_sub (e3v 1) e3int) a3nil)))))) a3nil)))))))))), ?_⟩
    refine ⟨s, c, 6, rfl, hL, by decide, by decide, fun kind G1 k0 k1 hL1 f1 => ?_⟩
    refine ⟨dat_int _, dat_int _, ?_⟩
    have hole : ∀ G', Law s c G' → Fr s c G G' → Wk Q (.str "_") G' := fun G' hl hf => Wk.of (hq (.a "_") G' (by cases n <;> (show PySem.PyData.strOk "_" = true; decide +kernel)) hl hf)
    by_cases h0 : n = 0
    · refine ifT (by rw [if_neg Bool.false_ne_true, eq3_int, h0]; rfl) ?_
      exact hole _ hL1 f1
    refine ifF (by rw [if_neg Bool.false_ne_true, eq3_int]; simp; omega) ?_
    obtain ⟨m, rfl⟩ : ∃ m, n = m + 1 := ⟨n - 1, by omega⟩
    by_cases h2 : kind < 2
    · refine ifT (decide_eq_true h2) ?_
      exact hole _ hL1 f1
    refine ifF (decide_eq_false h2) ?_
    refine ⟨s, c, 9, rfl, hL1, by decide, by decide, fun low G2 l0 l1 hL2 f2 => ?_⟩
    refine ⟨dat_int _, dat_int _, ?_⟩
    by_cases h3 : kind = 2
    · refine ifT (by rw [if_neg Bool.false_ne_true, eq3_int, h3]; rfl) ?_
      refine ⟨s, c, 4294967287, rfl, hL2, by decide, by decide, fun hi G3' _ _ hL3 f3 => ⟨rfl, ?_⟩⟩
      have := hq (.l low (low + hi)) G3' rfl hL3 ((f1.trans f2).trans f3)
      rw [uP] at this
      exact Wk.of this
    refine ifF (by rw [if_neg Bool.false_ne_true, eq3_int]; simpa using h3) ?_
    have hlow : opsL[low.toNat]? = some (opsL[low.toNat]'(by show _ < 15; omega)) := List.getElem?_eq_getElem _
    have hop := List.mem_of_getElem? hlow
    generalize opsL[low.toNat]'(by show _ < 15; omega) = op at hlow hop
    refine ⟨rfl, fun p hp => ⟨_, .str op, gup_same, atI_eq (i := low.toNat) (by omega) (by rw [List.getElem?_map, hlow]; rfl), ?_⟩⟩
    have hL3 := hL2.mut (o := .lst (opsL.map U.str)) (hL2.ns hp) (hL2.nc hp)
    have f3 := (f1.trans f2).mut (o := .lst (opsL.map U.str)) (p := p) ((f1.trans f2).free hL2 hp)
    generalize gup G2 p (.lst (opsL.map U.str)) = G3' at hL3 f3 ⊢
    refine ⟨fun σ' G' => ∃ op, op ∈ opsL ∧ σ' = [some (.ref s), some (.int ((m + 1 : Nat) : Int)), some (.int kind), some (.int low), some (.str op), none] ∧ Law s c G' ∧ Fr s c G G', ?_, ?_⟩
    · refine ⟨dat_int _, dat_int _, ?_⟩
      have pick : ∀ G4, Law s c G4 → Fr s c G G4 → _ := fun G4 hl hf => hl
      by_cases h3 : (m + 1 : Nat) = 3
      · refine ifT (by rw [if_neg Bool.false_ne_true, eq3_int, h3]; rfl) ?_
        refine ⟨rfl, fun q hq2 => ?_⟩
        have n1 := hL3.ns hq2
        have n2 := hL3.nc hq2
        refine ⟨s, c, q, opsL.map U.str, rfl, hL3.mut n1 n2, gup_same, n1, n2, by decide, by decide, fun x G' hx hl hf => ?_⟩
        obtain ⟨op', ho', rfl⟩ := List.mem_map.mp hx
        exact Wk2.of ⟨op', ho', rfl, hl, (f3.mut (f3.free hL3 hq2)).trans hf⟩
      · refine ifF (by rw [if_neg Bool.false_ne_true, eq3_int]; simp; omega) ?_
        refine ⟨s, c, 8, rfl, hL3, by decide, by decide, fun z G4 _ _ hL4 f4 => ?_⟩
        refine ⟨dat_int _, dat_int _, ?_⟩
        by_cases hz : z = 0
        · refine ifT (by rw [if_neg Bool.false_ne_true, eq3_int, hz]; rfl) ?_
          refine ⟨rfl, fun q hq2 => ?_⟩
          have n1 := hL4.ns hq2
          have n2 := hL4.nc hq2
          refine ⟨s, c, q, opsL.map U.str, rfl, hL4.mut n1 n2, gup_same, n1, n2, by decide, by decide, fun x G' hx hl hf => ?_⟩
          obtain ⟨op', ho', rfl⟩ := List.mem_map.mp hx
          exact Wk2.of ⟨op', ho', rfl, hl, ((f3.trans f4).mut ((f3.trans f4).free hL4 hq2)).trans hf⟩
        · refine ifF (by rw [if_neg Bool.false_ne_true, eq3_int]; simpa using hz) ?_
          exact Wk2.of ⟨op, hop, rfl, hL4, f3.trans f4⟩
    rintro σ' G' ⟨op, hop, rfl, hl, hf⟩
    obtain ⟨_, hso, hnl⟩ := ops_two.2.1 op hop
    have hc := cnt_le op
    try dsimp only [retN3, ret3, next3, seq3, asg3, n3, v3, c3, drop3, ret3, next3, te3, op3, ifS3, cb3, cons3, nil3, call3, lst3, tup3, un3, List.set_cons_zero, List.set_cons_succ, List.getElem?_cons_zero, List.getElem?_cons_succ, start3, List.map_cons, List.map_nil, List.length_cons, List.length_nil, List.replicate, List.cons_append, List.nil_append, Nat.reduceSub, Nat.reduceAdd]
    refine ⟨rfl, fun p hp => ?_⟩
    have n1 := hl.ns hp
    have n2 := hl.nc hp
    have hl5 := hl.mut (o := .lst [.str op]) n1 n2
    have f5 := hf.mut (o := .lst [.str op]) (hf.free hl hp)
    have hp5 : gup G' p (.lst [.str op]) p = some (.lst [.str op]) := gup_same
    generalize gup G' p (.lst [.str op]) = G5 at hl5 f5 hp5 ⊢
    refine lc_of ?_
    refine ⟨op, rfl, decide_eq_true (by omega), ?_⟩
    refine lcE_of (s := s) (c := c) (rgU 0 (cnt op)) (fun v => ∃ p, v = uP p ∧ wp m p = true) hl5 (fun _ => trivial) (by rw [rgU_len]; omega) (fun i x hx G6 hl6 f6 Y N hy => ?_) fun L vals G6 hlen hV hL6 hl6 f6 hg6 => ?_
    · dsimp only [n3, yes3]
      rw [if_pos rfl]
      refine ⟨s, c, ?_, hl6, by omega, fun p G7 hwp hl7 f7 => hy _ _ ⟨p, rfl, hwp⟩ hl7 f7⟩
      show [U.ref s, U.int (((m + 1 : Nat) : Int) - 1)] = _
      congr 3
      omega
    obtain ⟨ps, rfl, hps⟩ := all_P hV
    rw [rgU_len, List.length_map] at hlen
    refine cat_of (f6 _ _ n1 n2 hp5) hg6 (by rw [List.length_map, hlen]; show 1 + _ ≤ _; omega) fun q hq2 => ?_
    refine ⟨_, gup_same, ?_⟩
    have := hq (.o op ps) (gup G6 q (.lst ([U.str op] ++ ps.map uP))) ?_ (hl6.mut (hl6.ns hq2) (hl6.nc hq2)) ((f5.trans f6).mut ((f5.trans f6).free hl6 hq2))
    · rw [uP, uPs_map] at this
      exact Wk.of this
    · unfold wp
      rw [hso, decide_eq_true hnl, decide_eq_true (by omega), List.all_eq_true.mpr hps]
      rfl
end
end K20
end
section
set_option Elab.async false
set_option linter.all false
set_option maxRecDepth 100000
set_option maxHeartbeats 2000000
namespace K20
open PySem L2 L3
def rowsB : List Pt :=
  let h : Pt := .a "_"
  [h, .l 5 4, .l (-1) 3, .l 0 4294967296, .o "const" [], .o "add" [h],
   .o "add" [h, h, h], .o "not" [.o "ask" []], .o "add" [h, .o "get" []], .o "nop" [h],
   .o "add" [.a "x", h], .o "add" [h, .l 3 2], .o "not" [.o "const" []], .o "ask" [h],
   .o "less" [.o "div" [h, h], h], .o "say" [.o "say" [h]], .o "put" [], .o "not" [.a ""]]
def rowsW : List Pt :=
  let h : Pt := .a "_"
  let lit : Pt := .l 7 7
  let two : Pt := .o "add" [h, h]
  let nots : Pt := .o "not" [.o "not" [.o "not" [.o "not" [h]]]]
  [.o "add" [two, two], .o "pick" [h, h, two], .o "pick" [lit, lit, lit],
   .o "not" [nots], nots, .o "say" [nots], .o "pick" [lit, lit, h],
   .o "pick" [h, h, h], .o "mul" [two, lit], .o "mul" [two, h],
   .o "pick" [lit, .o "sub" [h, lit], h],
   .o "add" [two, .o "sub" [lit, lit]],
   .o "add" [.l 0 4294967294, h], .l 1 4294967295,
   .l 4294967295 4294967295]
theorem rows_wp : (rowsB.all (wp 5) = true) ∧ (rowsW.all (wp 5) = true) := by decide +kernel
theorem Law.sub {s c : Addr} {G G' : G3} (h : Law s c G) (k : L3.Sub G G') : Law s c G' := by
  obtain ⟨n, cells, at', z, h1, h2, h3⟩ := h
  exact ⟨n, cells, at', z, k _ _ h1, k _ _ h2, h3⟩
theorem Fr.sub {s c : Addr} {G G' : G3} (k : L3.Sub G G') : Fr s c G G' := fun b o _ _ h => k b o h
section
variable {P : Program} {w : World} {K : PySem.W.Frag} {mg : Str → Option Value} {base : Heap}
abbrev s_law_further : Stmt := topS 43
abbrev law_further_N : List Str := ["pool", "k", "pattern"]
theorem sc_law_further : FnScope law_further_N ["pool"] (defScope s_law_further) := ⟨rfl, rfl, rfl, by decide +kernel, rfl, by decide +kernel, by decide +kernel⟩
abbrev s_law_bad : Stmt := topS 51
abbrev law_bad_N : List Str := ["pool", "rows"]
theorem sc_law_bad : FnScope law_bad_N ["pool"] (defScope s_law_bad) := ⟨rfl, rfl, rfl, by decide +kernel, rfl, by decide +kernel, by decide +kernel⟩
abbrev s_law_wide : Stmt := topS 52
abbrev law_wide_N : List Str := ["pool", "lit", "two", "nots", "rows"]
theorem sc_law_wide : FnScope law_wide_N ["pool"] (defScope s_law_wide) := ⟨rfl, rfl, rfl, by decide +kernel, rfl, by decide +kernel, by decide +kernel⟩
def spFu : Sp3 := fun ws G Q _ => ∃ (s c : Addr), ws = [.ref s] ∧ Law s c G ∧ ∀ (p : Pt) (G' : G3), wp 5 p = true → Law s c G' → Fr s c G G' → Q (uP p) G'
theorem ok_fu {f f1 f2 f3 : Addr} {fd fd1 fd2 fd3 : FuncData} (F : Fun K "_law_further" "_law_further" s_law_further f fd) (T : Tg mg) (O_law_any : Own P w K mg base 7 "_law_any" ["pool", "deep"] (spAny 4) f1 fd1) (O_law_sum : Own P w K mg base 8 "_law_sum" ["sub", "top"] (spSum 6) f2 fd2) (O_law_big : Own P w K mg base 9 "_law_big" ["pattern"] spBig f3 fd3) : FnOk P w K mg base CX0 10 f fd ["pool"] (lowSp K spFu) := by
  refine Fun_ok3 F sc_law_further (fun ws G Q E h => by obtain ⟨_, _, rfl, _⟩ := h; rfl) (fun cdv A outer s H E ws G Q E3 hr h => ?_)
  have hr_law_any : Room 7 _ := hr.mono (by omega)
  have hr_law_sum : Room 8 _ := hr.mono (by omega)
  have hr_law_big : Room 9 _ := hr
  have hu64 := hr.units
  obtain ⟨s, c, rfl, hL, hq⟩ := h
  refine ⟨_, (ss_cons (s_for PassesOwn.never rfl (i_range1 T.range e3int) (pg_name (i := 1) sc_law_further.nd rfl (by first | exact Or.inl rfl | exact Or.inr rfl)) gl_name
      (ss_cons (s_set (i := 2) sc_law_further.nd (e3call O_law_any.G hr_law_any O_law_any.g O_law_any.kp O_law_any.b pass0 (a3cons (e3v 0) (a3cons e3int a3nil))))
        (ss_one (s_if (PW.pt (w3and (t3cmp (o_ne hu64) (e3call O_law_sum.G hr_law_sum O_law_sum.g O_law_sum.kp O_law_sum.b pass0 (a3cons (e3v 2) (a3cons e3bl a3nil))) (e3tup a3nil)) (w3and1 (t3not (t3val (e3call O_law_big.G hr_law_big O_law_big.g O_law_big.kp O_law_big.b pass0 (a3cons (e3v 2) a3nil)))))))
        (ss_one (s_ret (e3v 2)))
        ss_nil))))
      (ss_one (s_ret (e3tup (a3cons e3str (a3cons e3str (a3cons (e3tup (a3cons e3str (a3cons e3int (a3cons e3int a3nil)))) a3nil))))))), ?_⟩
  try dsimp only [seq3, asg3, n3, v3, drop3, ret3, next3, List.set_cons_zero, List.set_cons_succ, List.getElem?_cons_zero, List.getElem?_cons_succ, start3, List.map_cons, List.map_nil, List.length_cons, List.length_nil, List.replicate, List.cons_append, List.nil_append, Nat.reduceSub, Nat.reduceAdd]
  refine for_of ?_
  refine ⟨rfl, ?_⟩
  refine forK_of 4 (by rw [rgU_len]; rfl) (fun i σ G' => ∃ z1 z2, σ = [some (.ref s), z1, z2] ∧ Law s c G' ∧ Fr s c G G') ⟨_, _, rfl, hL, Fr.refl G⟩ (fun _ _ _ _ _ => trivial) ?_ ?_
  · rintro i y σ' G' hi hy ⟨z1, z2, rfl, hl, hf⟩
    refine ⟨s, c, rfl, hl, by decide, fun p G1 hwp hl1 hf1 => ?_⟩
    have hw5 : wp 5 p = true := wp_le (by decide) hwp
    refine ⟨p, true, rfl, hw5, by decide, ?_⟩
    have next : Wk2 (fun σ G' => ∃ z1 z2, σ = [some (.ref s), z1, z2] ∧ Law s c G' ∧ Fr s c G G') [some (.ref s), some y, some (uP p)] G1 := Wk2.of ⟨_, _, rfl, hl1, hf.trans hf1⟩
    cases hs : sumP 5 true p with
    | none =>
      refine ⟨rfl, rfl, rfl, ?_⟩
      refine ifF (by rfl) ?_
      exact next
    | some a =>
      refine ⟨rfl, dat_3 _ _ _, rfl, ?_⟩
      refine ifT (by rfl) ?_
      refine ⟨p, 5, a, rfl, hw5, Nat.le_refl _, hs, ?_⟩
      by_cases hb : big a = true
      · refine ifF (by rw [hb]; rfl) ?_
        exact next
      · have hb : big a = false := by simpa using hb
        refine ifT (by rw [hb]; rfl) ?_
        exact Wk.of (hq p G1 hw5 hl1 (hf.trans hf1))
  · rintro σ' G' ⟨z1, z2, rfl, hl, hf⟩
    refine ⟨rfl, rfl, ?_⟩
    have := hq (.o "div" [.a "_", .l 0 4294967295]) G' (by decide +kernel) hl hf
    exact Wk.of this
theorem ok_bad {f f1 : Addr} {fd fd1 : FuncData} (F : Fun K "_law_bad" "_law_bad" s_law_bad f fd) (T : Tg mg) (O_law_pick : Own P w K mg base 2 "_law_pick" ["pool", "row"] spPick f1 fd1) : FnOk P w K mg base CX0 3 f fd ["pool"] (lowSp K spFu) := by
  refine Fun_ok3 F sc_law_bad (fun ws G Q E h => by obtain ⟨_, _, rfl, _⟩ := h; rfl) (fun cdv A outer s H E ws G Q E3 hr h => ?_)
  have hr_law_pick : Room 2 _ := hr
  obtain ⟨s, c, rfl, hL, hq⟩ := h
  refine ⟨_, (ss_cons (s_set (i := 1) sc_law_bad.nd (e3lst (a3cons e3str (a3cons (e3tup (a3cons e3str (a3cons e3int (a3cons e3int a3nil)))) (a3cons (e3tup (a3cons e3str (a3cons (e3neg e3int) (a3cons e3int a3nil)))) (a3cons (e3tup (a3cons e3str (a3cons e3int (a3cons e3int a3nil)))) (a3cons (e3tup (a3cons e3str a3nil)) (a3cons (e3tup (a3cons e3str (a3cons e3str a3nil))) a3nil))))))))
      (ss_cons (s_set (i := 1) sc_law_bad.nd (e3op o_cat (e3v 1) (e3lst (a3cons (e3tup (a3cons e3str (a3cons e3str (a3cons e3str (a3cons e3str a3nil))))) (a3cons (e3tup (a3cons e3str (a3cons (e3tup (a3cons e3str a3nil)) a3nil))) (a3cons (e3tup (a3cons e3str (a3cons e3str (a3cons (e3tup (a3cons e3str a3nil)) a3nil)))) (a3cons (e3tup (a3cons e3str (a3cons e3str a3nil))) a3nil)))))))
      (ss_cons (s_set (i := 1) sc_law_bad.nd (e3op o_cat (e3v 1) (e3lst (a3cons (e3tup (a3cons e3str (a3cons e3str (a3cons e3str a3nil)))) (a3cons (e3tup (a3cons e3str (a3cons e3str (a3cons (e3tup (a3cons e3str (a3cons e3int (a3cons e3int a3nil)))) a3nil)))) (a3cons (e3tup (a3cons e3str (a3cons (e3tup (a3cons e3str a3nil)) a3nil))) (a3cons (e3tup (a3cons e3str (a3cons e3str a3nil))) a3nil)))))))
      (ss_cons (s_set (i := 1) sc_law_bad.nd (e3op o_cat (e3v 1) (e3lst (a3cons (e3tup (a3cons e3str (a3cons (e3tup (a3cons e3str (a3cons e3str (a3cons e3str a3nil)))) (a3cons e3str a3nil)))) (a3cons (e3tup (a3cons e3str (a3cons (e3tup (a3cons e3str (a3cons e3str a3nil))) a3nil))) (a3cons (e3tup (a3cons e3str a3nil)) (a3cons (e3tup (a3cons e3str (a3cons e3str a3nil))) a3nil)))))))
      (ss_one (s_ret (e3call O_law_pick.G hr_law_pick O_law_pick.g O_law_pick.kp O_law_pick.b pass0 (a3cons (e3v 0) (a3cons (e3v 1) a3nil))))))))), ?_⟩
  repeat refine ⟨rfl, ?_⟩
  intro p0 q0
  have k0 : ∀ o, L3.Sub G (gup G p0 o) := fun o => Sub.new (Sub.refl G) q0
  repeat refine ⟨rfl, ?_⟩
  refine cat_lit gup_same (by decide) fun p1 G1 q1 s1 => ?_
  have k1 := (k0 _).trans (Sub.base s1 q1)
  repeat refine ⟨rfl, ?_⟩
  refine cat_lit s1.at (by decide) fun p2 G2 q2 s2 => ?_
  have k2 := k1.trans (Sub.base s2 q2)
  repeat refine ⟨rfl, ?_⟩
  refine cat_lit s2.at (by decide) fun p3 G3 q3 s3 => ?_
  have k3 := k2.trans (Sub.base s3 q3)
  have hL2 := hL.sub k3
  have n1 := hL.ns (k2.free q3)
  have n2 := hL.nc (k2.free q3)
  refine ⟨s, c, p3, _, rfl, hL2, s3.at, n1, n2, by decide, by decide, fun x G' hx hl hf => ?_⟩
  have hx : x ∈ rowsB.map uP := hx
  obtain ⟨p, hp, rfl⟩ := List.mem_map.mp hx
  exact Wk.of (hq p G' (List.all_eq_true.mp rows_wp.1 p hp) hl ((Fr.sub k3).trans hf))
theorem ok_wide {f f1 : Addr} {fd fd1 : FuncData} (F : Fun K "_law_wide" "_law_wide" s_law_wide f fd) (T : Tg mg) (O_law_pick : Own P w K mg base 2 "_law_pick" ["pool", "row"] spPick f1 fd1) : FnOk P w K mg base CX0 3 f fd ["pool"] (lowSp K spFu) := by
  refine Fun_ok3 F sc_law_wide (fun ws G Q E h => by obtain ⟨_, _, rfl, _⟩ := h; rfl) (fun cdv A outer s H E ws G Q E3 hr h => ?_)
  have hr_law_pick : Room 2 _ := hr
  obtain ⟨s, c, rfl, hL, hq⟩ := h
  refine ⟨_, (ss_cons (s_set (i := 1) sc_law_wide.nd (e3tup (a3cons e3str (a3cons e3int (a3cons e3int a3nil)))))
      (ss_cons (s_set (i := 2) sc_law_wide.nd (e3tup (a3cons e3str (a3cons e3str (a3cons e3str a3nil)))))
      (ss_cons (s_set (i := 3) sc_law_wide.nd (e3tup (a3cons e3str (a3cons (e3tup (a3cons e3str (a3cons (e3tup (a3cons e3str (a3cons (e3tup (a3cons e3str (a3cons e3str a3nil))) a3nil))) a3nil))) a3nil))))
      (ss_cons (s_set (i := 4) sc_law_wide.nd (e3lst (a3cons (e3tup (a3cons e3str (a3cons (e3v 2) (a3cons (e3v 2) a3nil)))) (a3cons (e3tup (a3cons e3str (a3cons e3str (a3cons e3str (a3cons (e3v 2) a3nil))))) (a3cons (e3tup (a3cons e3str (a3cons (e3v 1) (a3cons (e3v 1) (a3cons (e3v 1) a3nil))))) a3nil)))))
      (ss_cons (s_set (i := 4) sc_law_wide.nd (e3op o_cat (e3v 4) (e3lst (a3cons (e3tup (a3cons e3str (a3cons (e3v 3) a3nil))) (a3cons (e3v 3) (a3cons (e3tup (a3cons e3str (a3cons (e3v 3) a3nil))) (a3cons (e3tup (a3cons e3str (a3cons (e3v 1) (a3cons (e3v 1) (a3cons e3str a3nil))))) a3nil)))))))
      (ss_cons (s_set (i := 4) sc_law_wide.nd (e3op o_cat (e3v 4) (e3lst (a3cons (e3tup (a3cons e3str (a3cons e3str (a3cons e3str (a3cons e3str a3nil))))) (a3cons (e3tup (a3cons e3str (a3cons (e3v 2) (a3cons (e3v 1) a3nil)))) (a3cons (e3tup (a3cons e3str (a3cons (e3v 2) (a3cons e3str a3nil)))) a3nil))))))
      (ss_cons (s_set (i := 4) sc_law_wide.nd (e3op o_cat (e3v 4) (e3lst (a3cons (e3tup (a3cons e3str (a3cons (e3v 1) (a3cons (e3tup (a3cons e3str (a3cons e3str (a3cons (e3v 1) a3nil)))) (a3cons e3str a3nil))))) a3nil))))
      (ss_cons (s_set (i := 4) sc_law_wide.nd (e3op o_cat (e3v 4) (e3lst (a3cons (e3tup (a3cons e3str (a3cons (e3v 2) (a3cons (e3tup (a3cons e3str (a3cons (e3v 1) (a3cons (e3v 1) a3nil)))) a3nil)))) a3nil))))
      (ss_cons (s_set (i := 4) sc_law_wide.nd (e3op o_cat (e3v 4) (e3lst (a3cons (e3tup (a3cons e3str (a3cons (e3tup (a3cons e3str (a3cons e3int (a3cons e3int a3nil)))) (a3cons e3str a3nil)))) (a3cons (e3tup (a3cons e3str (a3cons e3int (a3cons e3int a3nil)))) a3nil)))))
      (ss_one (s_ret (e3call O_law_pick.G hr_law_pick O_law_pick.g O_law_pick.kp O_law_pick.b pass0 (a3cons (e3v 0) (a3cons (e3op o_cat (e3v 4) (e3lst (a3cons (e3tup (a3cons e3str (a3cons e3int (a3cons e3int a3nil)))) a3nil))) a3nil)))))))))))))), ?_⟩
  repeat refine ⟨rfl, ?_⟩
  intro p0 q0
  have k0 : ∀ o, L3.Sub G (gup G p0 o) := fun o => Sub.new (Sub.refl G) q0
  repeat refine ⟨rfl, ?_⟩
  refine cat_lit gup_same (by decide) fun p1 G1 q1 s1 => ?_
  have k1 := (k0 _).trans (Sub.base s1 q1)
  repeat refine ⟨rfl, ?_⟩
  refine cat_lit s1.at (by decide) fun p2 G2 q2 s2 => ?_
  have k2 := k1.trans (Sub.base s2 q2)
  repeat refine ⟨rfl, ?_⟩
  refine cat_lit s2.at (by decide) fun p3 G3 q3 s3 => ?_
  have k3 := k2.trans (Sub.base s3 q3)
  repeat refine ⟨rfl, ?_⟩
  refine cat_lit s3.at (by decide) fun p4 G4 q4 s4 => ?_
  have k4 := k3.trans (Sub.base s4 q4)
  repeat refine ⟨rfl, ?_⟩
  refine cat_lit s4.at (by decide) fun p5 G5 q5 s5 => ?_
  have k5 := k4.trans (Sub.base s5 q5)
  repeat refine ⟨rfl, ?_⟩
  refine cat_lit s5.at (by decide) fun p6 G6 q6 s6 => ?_
  have k6 := k5.trans (Sub.base s6 q6)
  have hL2 := hL.sub k6
  have n1 := hL.ns (k5.free q6)
  have n2 := hL.nc (k5.free q6)
  refine ⟨s, c, p6, _, rfl, hL2, s6.at, n1, n2, by decide, by decide, fun x G' hx hl hf => ?_⟩
  have hx : x ∈ rowsW.map uP := hx
  obtain ⟨p, hp, rfl⟩ := List.mem_map.mp hx
  exact Wk.of (hq p G' (List.all_eq_true.mp rows_wp.2 p hp) hl ((Fr.sub k6).trans hf))
end
end K20
end
section
set_option Elab.async false
set_option linter.all false
set_option maxRecDepth 100000
set_option maxHeartbeats 2000000
namespace K20
open PySem L2 L3
def ops16 : List Str := ["const", "add", "sub", "mul", "less", "same", "both", "either", "not", "pick", "div", "rem", "ask", "say", "get", "put"]
def furs : List Pt :=
  let h : Pt := .a "_"
  [.o "add" [h, .o "mul" [h, h]], .o "add" [.o "mul" [h, h], h], .l 0 3, .o "add" [h, .l 0 15], .o "sub" [h, .l 0 3],
   .o "less" [.l 0 0, h], .o "same" [h, .l 0 0], .o "say" [.l 0 255], .o "put" [.o "add" [h, h]], .o "not" [.o "not" [h]], .o "say" [.o "add" [h, h]],
   .o "either" [.o "both" [h, h], h], .o "add" [.o "add" [h, .l 0 7], .o "mul" [h, h]], .o "pick" [h, .l 0 1, h], .o "div" [h, .l 1 9]]
theorem furs_wp : furs.all (wp 5) = true := by decide +kernel
theorem ops16_ok : ∀ op ∈ ops16, PySem.PyData.strOk op = true ∧ op ≠ "lit" ∧ op.length ≤ 100 := by decide +kernel
theorem word_ok : ∀ k < 60, ∀ a ∈ (["t", "x", "y"] : List Str), PySem.PyData.strOk (a ++ Str.ofString (toString ((k : Nat) : Int))) = true ∧ (a ++ Str.ofString (toString ((k : Nat) : Int))).length ≤ 100 := by decide +kernel
theorem ixq {v : Int} {n : Nat} (h0 : 0 ≤ v) (h1 : v < (n : Nat)) : seqIndex? v n = some v.toNat := by
  unfold seqIndex?
  simp [h0, h1]
  try omega
theorem log_small {i : Int} (h : i.natAbs < 1000) : i.natAbs.log2 < 1920 := Nat.lt_of_le_of_lt (Nat.log2_le_self _) (by omega)
theorem add_le {a b : Str} (h : (a ++ b).length ≤ 100) : a.length + b.length ≤ 100000 := by
  have : (a ++ b).length = a.length + b.length := Array.size_append
  omega
structure TD (s c La Lf Lt : Addr) (G : G3) : Prop where
  af : La ≠ Lf
  at' : La ≠ Lt
  ft : Lf ≠ Lt
  as : La ≠ s
  ac : La ≠ c
  fs : Lf ≠ s
  fc : Lf ≠ c
  ts : Lt ≠ s
  tc : Lt ≠ c
  na : G La = none
  nf : G Lf = none
  nt : G Lt = none
structure TS (s c La Lf Lt : Addr) (G : G3) (l f t : List U) (G' : G3) : Prop where
  la : G' La = some (.lst l)
  lf : G' Lf = some (.lst f)
  lt : G' Lt = some (.lst t)
  law : Law s c G'
  fr : Fr s c G G'
theorem TS.take {s c La Lf Lt : Addr} {G G' G2 : G3} {l f t : List U} (D : TD s c La Lf Lt G) (h : TS s c La Lf Lt G l f t G') (hl : Law s c G2) (hf : Fr s c G' G2) : TS s c La Lf Lt G l f t G2 :=
  ⟨hf _ _ D.as D.ac h.la, hf _ _ D.fs D.fc h.lf, hf _ _ D.ts D.tc h.lt, hl, h.fr.trans hf⟩
theorem TS.sub {s c La Lf Lt : Addr} {G G' G2 : G3} {l f t : List U} (h : TS s c La Lf Lt G l f t G') (k : L3.Sub G' G2) : TS s c La Lf Lt G l f t G2 :=
  ⟨k _ _ h.la, k _ _ h.lf, k _ _ h.lt, h.law.sub k, h.fr.trans (Fr.sub k)⟩
theorem TS.setA {s c La Lf Lt : Addr} {G G' : G3} {l f t : List U} (D : TD s c La Lf Lt G) (h : TS s c La Lf Lt G l f t G') (l' : List U) : TS s c La Lf Lt G l' f t (gup G' La (.lst l')) :=
  ⟨gup_same, by rw [gup_ne D.af.symm]; exact h.lf, by rw [gup_ne D.at'.symm]; exact h.lt, h.law.mut D.as D.ac, h.fr.mut D.na⟩
theorem TS.setF {s c La Lf Lt : Addr} {G G' : G3} {l f t : List U} (D : TD s c La Lf Lt G) (h : TS s c La Lf Lt G l f t G') (l' : List U) : TS s c La Lf Lt G l l' t (gup G' Lf (.lst l')) :=
  ⟨by rw [gup_ne D.af]; exact h.la, gup_same, by rw [gup_ne D.ft.symm]; exact h.lt, h.law.mut D.fs D.fc, h.fr.mut D.nf⟩
theorem TS.setT {s c La Lf Lt : Addr} {G G' : G3} {l f t : List U} (D : TD s c La Lf Lt G) (h : TS s c La Lf Lt G l f t G') (l' : List U) : TS s c La Lf Lt G l f l' (gup G' Lt (.lst l')) :=
  ⟨by rw [gup_ne D.at']; exact h.la, by rw [gup_ne D.ft]; exact h.lf, gup_same, h.law.mut D.ts D.tc, h.fr.mut D.nt⟩
section
variable {P : Program} {w : World} {K : PySem.W.Frag} {mg : Str → Option Value} {base : Heap}
abbrev s_law_tiles : Stmt := topS 38
abbrev law_tiles_N : List Str := ["pool", "more", "left", "further", "own", "tiles", "k", "op", "pattern", "busy", "wait", "word", "cut", "j"]
theorem sc_law_tiles : FnScope law_tiles_N ["pool", "more"] (defScope s_law_tiles) := ⟨rfl, rfl, rfl, by decide +kernel, rfl, by decide +kernel, by decide +kernel⟩
def spTiles : Sp3 := fun ws G Q _ => ∃ (s c : Addr) (more : Nat), ws = [.ref s, .int (more : Nat)] ∧ Law s c G ∧ more ≤ 5 ∧ ∀ (ts : List Tile) (G' : G3), ts.length = 16 + more → (∀ t ∈ ts, OkT t) → Law s c G' → Fr s c G G' → Q (.tup (ts.map uT)) G'
theorem ok_tiles {f f1 f2 : Addr} {fd fd1 fd2 : FuncData} (F : Fun K "_law_tiles" "_law_tiles" s_law_tiles f fd) (T : Tg mg) (O_law_take : Own P w K mg base 1 "_law_take" ["pool", "m"] spTake f1 fd1) (O_law_count : Own P w K mg base 1 "_law_count" ["op"] spCount f2 fd2) : FnOk P w K mg base CX0 2 f fd ["pool", "more"] (lowSp K spTiles) := by
  refine Fun_ok3 F sc_law_tiles (fun ws G Q E h => by obtain ⟨_, _, _, rfl, _⟩ := h; rfl) (fun cdv A outer s H E ws G Q E3 hr h => ?_)
  have hr_law_take : Room 1 _ := hr
  have hr_law_count : Room 1 _ := hr
  have hu64 := hr.units
  obtain ⟨s, c, more, rfl, hL, hm, hq⟩ := h
  refine ⟨_, (ss_cons (s_set (i := 2) sc_law_tiles.nd (e3lst (a3cons e3str (a3cons e3str (a3cons e3str (a3cons e3str (a3cons e3str (a3cons e3str (a3cons e3str (a3cons e3str (a3cons e3str (a3cons e3str a3nil))))))))))))
      (ss_cons (s_set (i := 2) sc_law_tiles.nd (e3op o_cat (e3v 2) (e3lst (a3cons e3str (a3cons e3str (a3cons e3str (a3cons e3str (a3cons e3str (a3cons e3str a3nil)))))))))
      (ss_cons (s_set (i := 3) sc_law_tiles.nd (e3lst (a3cons (e3tup (a3cons e3str (a3cons e3str (a3cons (e3tup (a3cons e3str (a3cons e3str (a3cons e3str a3nil)))) a3nil)))) (a3cons (e3tup (a3cons e3str (a3cons (e3tup (a3cons e3str (a3cons e3str (a3cons e3str a3nil)))) (a3cons e3str a3nil)))) (a3cons (e3tup (a3cons e3str (a3cons e3int (a3cons e3int a3nil)))) a3nil)))))
      (ss_cons (s_set (i := 3) sc_law_tiles.nd (e3op o_cat (e3v 3) (e3lst (a3cons (e3tup (a3cons e3str (a3cons e3str (a3cons (e3tup (a3cons e3str (a3cons e3int (a3cons e3int a3nil)))) a3nil)))) (a3cons (e3tup (a3cons e3str (a3cons e3str (a3cons (e3tup (a3cons e3str (a3cons e3int (a3cons e3int a3nil)))) a3nil)))) a3nil)))))
      (ss_cons (s_set (i := 3) sc_law_tiles.nd (e3op o_cat (e3v 3) (e3lst (a3cons (e3tup (a3cons e3str (a3cons (e3tup (a3cons e3str (a3cons e3int (a3cons e3int a3nil)))) (a3cons e3str a3nil)))) (a3cons (e3tup (a3cons e3str (a3cons e3str (a3cons (e3tup (a3cons e3str (a3cons e3int (a3cons e3int a3nil)))) a3nil)))) a3nil)))))
      (ss_cons (s_set (i := 3) sc_law_tiles.nd (e3op o_cat (e3v 3) (e3lst (a3cons (e3tup (a3cons e3str (a3cons (e3tup (a3cons e3str (a3cons e3int (a3cons e3int a3nil)))) a3nil))) (a3cons (e3tup (a3cons e3str (a3cons (e3tup (a3cons e3str (a3cons e3str (a3cons e3str a3nil)))) a3nil))) a3nil)))))
      (ss_cons (s_set (i := 3) sc_law_tiles.nd (e3op o_cat (e3v 3) (e3lst (a3cons (e3tup (a3cons e3str (a3cons (e3tup (a3cons e3str (a3cons e3str a3nil))) a3nil))) (a3cons (e3tup (a3cons e3str (a3cons (e3tup (a3cons e3str (a3cons e3str (a3cons e3str a3nil)))) a3nil))) a3nil)))))
      (ss_cons (s_set (i := 3) sc_law_tiles.nd (e3op o_cat (e3v 3) (e3lst (a3cons (e3tup (a3cons e3str (a3cons (e3tup (a3cons e3str (a3cons e3str (a3cons e3str a3nil)))) (a3cons e3str a3nil)))) a3nil))))
      (ss_cons (s_set (i := 3) sc_law_tiles.nd (e3op o_cat (e3v 3) (e3lst (a3cons (e3tup (a3cons e3str (a3cons (e3tup (a3cons e3str (a3cons e3str (a3cons (e3tup (a3cons e3str (a3cons e3int (a3cons e3int a3nil)))) a3nil)))) (a3cons (e3tup (a3cons e3str (a3cons e3str (a3cons e3str a3nil)))) a3nil)))) a3nil))))
      (ss_cons (s_set (i := 3) sc_law_tiles.nd (e3op o_cat (e3v 3) (e3lst (a3cons (e3tup (a3cons e3str (a3cons e3str (a3cons (e3tup (a3cons e3str (a3cons e3int (a3cons e3int a3nil)))) (a3cons e3str a3nil))))) (a3cons (e3tup (a3cons e3str (a3cons e3str (a3cons (e3tup (a3cons e3str (a3cons e3int (a3cons e3int a3nil)))) a3nil)))) a3nil)))))
      (ss_cons (s_set (i := 4) sc_law_tiles.nd (e3call O_law_take.G hr_law_take O_law_take.g O_law_take.kp O_law_take.b pass0 (a3cons (e3v 0) (a3cons e3int a3nil))))
      (ss_cons (s_set (i := 5) sc_law_tiles.nd (e3lst a3nil))
      (ss_cons (s_for PassesOwn.never rfl (i_range1 T.range e3int) (pg_name (i := 6) sc_law_tiles.nd rfl (by first | exact Or.inl rfl | exact Or.inr rfl)) gl_name
      (ss_cons (s_set (i := 7) sc_law_tiles.nd (e3bmL PySem.F.slot_list_pop PySem.F.type_list_pop m_popAt (e3v 2) (a3cons (e3call O_law_take.G hr_law_take O_law_take.g O_law_take.kp O_law_take.b pass0 (a3cons (e3v 0) (a3cons (e3B k_len T.len (a3cons (e3v 2) a3nil)) a3nil))) a3nil)))
        (ss_cons (s_set (i := 8) sc_law_tiles.nd (e3T k_tuple T.tuple (a3cons (e3op o_cat (e3lst (a3cons (e3v 7) a3nil)) (e3lc (own := [("j", 13)]) rfl sc_law_tiles.nd (i_range1 T.range (e3call O_law_count.G hr_law_count O_law_count.g O_law_count.kp O_law_count.b pass0 (a3cons (e3v 7) a3nil))) (blkOk_by (N := law_tiles_N) (sc := defScope s_law_tiles) (by decide +kernel)) (gl_own (by decide)) (fun _ _ _ _ _ => (pg_name (i := 13) sc_law_tiles.nd rfl (by first | exact Or.inl rfl | exact Or.inr rfl))) (fun _ _ _ _ _ => ts3nil) (fun _ _ _ _ _ => e3str))) a3nil)))
        (ss_cut (s_if (t3cmp (o_eq hu64) (e3v 7) e3str)
        (ss_one (s_set (i := 8) sc_law_tiles.nd (e3tup (a3cons e3str (a3cons e3int (a3cons e3int a3nil))))))
        ss_nil)
        (ss_cons (s_set (i := 9) sc_law_tiles.nd (e3op o_add e3int (e3call O_law_take.G hr_law_take O_law_take.g O_law_take.kp O_law_take.b pass0 (a3cons (e3v 0) (a3cons e3int a3nil)))))
        (ss_cut (s_set (i := 10) sc_law_tiles.nd (e3if (t3cmp (o_eq hu64) (e3call O_law_take.G hr_law_take O_law_take.g O_law_take.kp O_law_take.b pass0 (a3cons (e3v 0) (a3cons e3int a3nil))) e3int) e3int (e3op o_add (e3v 9) (e3call O_law_take.G hr_law_take O_law_take.g O_law_take.kp O_law_take.b pass0 (a3cons (e3v 0) (a3cons e3int a3nil))))))
        (ss_cut (s_set (i := 11) sc_law_tiles.nd (e3if (t3cmp (o_eq hu64) (e3v 4) e3int) (e3v 7) (e3op o_addS e3str (e3T k_str T.str (a3cons (e3v 6) a3nil)))))
        (ss_one (s_expr (e3bmL PySem.F.slot_list_append PySem.F.type_list_append m_append (e3v 5) (a3cons (e3tup (a3cons (e3v 11) (a3cons (e3v 8) (a3cons (e3v 9) (a3cons (e3v 10) a3nil))))) a3nil)))))))))))
      (ss_cons (s_for PassesOwn.never rfl (i_range1 T.range (e3v 1)) (pg_name (i := 6) sc_law_tiles.nd rfl (by first | exact Or.inl rfl | exact Or.inr rfl)) gl_name
      (ss_cons (s_set (i := 8) sc_law_tiles.nd (e3bmL PySem.F.slot_list_pop PySem.F.type_list_pop m_popAt (e3v 3) (a3cons (e3call O_law_take.G hr_law_take O_law_take.g O_law_take.kp O_law_take.b pass0 (a3cons (e3v 0) (a3cons (e3B k_len T.len (a3cons (e3v 3) a3nil)) a3nil))) a3nil)))
        (ss_cons (s_set (i := 9) sc_law_tiles.nd (e3op o_add e3int (e3call O_law_take.G hr_law_take O_law_take.g O_law_take.kp O_law_take.b pass0 (a3cons (e3v 0) (a3cons e3int a3nil)))))
        (ss_one (s_expr (e3bmL PySem.F.slot_list_append PySem.F.type_list_append m_append (e3v 5) (a3cons (e3tup (a3cons (e3op o_addS e3str (e3T k_str T.str (a3cons (e3v 6) a3nil))) (a3cons (e3v 8) (a3cons (e3v 9) (a3cons (e3op o_add (e3v 9) (e3call O_law_take.G hr_law_take O_law_take.g O_law_take.kp O_law_take.b pass0 (a3cons (e3v 0) (a3cons e3int a3nil)))) a3nil))))) a3nil)))))))
      (ss_cons (s_set (i := 12) sc_law_tiles.nd (e3call O_law_take.G hr_law_take O_law_take.g O_law_take.kp O_law_take.b pass0 (a3cons (e3v 0) (a3cons (e3B k_len T.len (a3cons (e3v 5) a3nil)) a3nil))))
      (ss_one (s_ret (e3T k_tuple T.tuple (a3cons (e3op o_cat (e3sl (e3v 5) (o3some (e3v 12)) o3none) (e3sl (e3v 5) o3none (o3some (e3v 12)))) a3nil))))))))))))))))))), ?_⟩
  repeat refine ⟨rfl, ?_⟩
  intro p0 q0
  have k0 : ∀ o, L3.Sub G (gup G p0 o) := fun o => Sub.new (Sub.refl G) q0
  repeat refine ⟨rfl, ?_⟩
  refine cat_lit gup_same (by decide) fun La G1 qa sa => ?_
  have k1 := (k0 _).trans (Sub.base sa qa)
  have qa' := (k0 _).free qa
  repeat refine ⟨rfl, ?_⟩
  intro p2 q2
  have k2 : ∀ o, L3.Sub G1 (gup G1 p2 o) := fun o => Sub.new (Sub.refl G1) q2
  repeat refine ⟨rfl, ?_⟩
  refine cat_lit gup_same (by decide) fun pF1 GF1 qF1 sF1 => ?_
  have kF1 := (k2 _).trans (Sub.base sF1 qF1)
  repeat refine ⟨rfl, ?_⟩
  refine cat_lit sF1.at (by decide) fun pF2 GF2 qF2 sF2 => ?_
  have kF2 := kF1.trans (Sub.base sF2 qF2)
  repeat refine ⟨rfl, ?_⟩
  refine cat_lit sF2.at (by decide) fun pF3 GF3 qF3 sF3 => ?_
  have kF3 := kF2.trans (Sub.base sF3 qF3)
  repeat refine ⟨rfl, ?_⟩
  refine cat_lit sF3.at (by decide) fun pF4 GF4 qF4 sF4 => ?_
  have kF4 := kF3.trans (Sub.base sF4 qF4)
  repeat refine ⟨rfl, ?_⟩
  refine cat_lit sF4.at (by decide) fun pF5 GF5 qF5 sF5 => ?_
  have kF5 := kF4.trans (Sub.base sF5 qF5)
  repeat refine ⟨rfl, ?_⟩
  refine cat_lit sF5.at (by decide) fun pF6 GF6 qF6 sF6 => ?_
  have kF6 := kF5.trans (Sub.base sF6 qF6)
  repeat refine ⟨rfl, ?_⟩
  refine cat_lit sF6.at (by decide) fun pF7 GF7 qF7 sF7 => ?_
  have kF7 := kF6.trans (Sub.base sF7 qF7)
  have kk := k1.trans kF7
  have hLz := hL.sub kk
  refine ⟨s, c, 2, rfl, hLz, by decide, by decide, fun own G11 o0 o1 hL11 f11 => ?_⟩
  repeat refine ⟨rfl, ?_⟩
  intro Lt qt
  have na : G La = none := (k0 _).free qa
  have nf : G pF7 = none := (k1.trans kF6).free qF7
  have fr0 : Fr s c G G11 := (Fr.sub kk).trans f11
  have ga : G11 La = some (.lst (ops16.map U.str)) := f11 _ _ (hL.ns na) (hL.nc na) (kF7 _ _ sa.at)
  have gf : G11 pF7 = some (.lst (furs.map uP)) := f11 _ _ (hL.ns nf) (hL.nc nf) sF7.at
  have nt : G Lt = none := fr0.free hL11 qt
  have D : TD s c La pF7 Lt G := ⟨gne_none (kF6 _ _ sa.at) qF7, gne_none ga qt, gne_none gf qt, hL.ns na, hL.nc na, hL.ns nf, hL.nc nf, hL.ns nt, hL.nc nt, na, nf, nt⟩
  have h0 : TS s c La pF7 Lt G (ops16.map U.str) (furs.map uP) (([] : List Tile).map uT) (gup G11 Lt (.lst [])) :=
    ⟨by rw [gup_ne D.at']; exact ga, by rw [gup_ne D.ft]; exact gf, gup_same, hL11.mut D.ts D.tc, fr0.mut nt⟩
  generalize pF7 = Lf at D h0 ⊢
  generalize gup G11 Lt (.lst []) = G12 at h0 ⊢
  clear sa sF1 sF2 sF3 sF4 sF5 sF6 sF7 kF1 kF2 kF3 kF4 kF5 kF6 kF7 k0 k1 k2 kk
  try dsimp only [seq3, asg3, n3, v3, drop3, ret3, next3, List.set_cons_zero, List.set_cons_succ, List.getElem?_cons_zero, List.getElem?_cons_succ, start3, List.map_cons, List.map_nil, List.length_cons, List.length_nil, List.replicate, List.cons_append, List.nil_append, Nat.reduceSub, Nat.reduceAdd]
  refine for_of ?_
  refine ⟨rfl, ?_⟩
  refine forK_of 16 (by rw [rgU_len]; rfl) (fun i σ G' => ∃ z6 z7 z8 z9 z10 z11 ops ts, σ = [some (.ref s), some (.int (more : Nat)), some (.ref La), some (.ref Lf), some (.int own), some (.ref Lt), z6, z7, z8, z9, z10, z11, none, none] ∧ ops.length = 16 - i ∧ (∀ op ∈ ops, op ∈ ops16) ∧ ts.length = i ∧ (∀ t ∈ ts, OkT t) ∧ TS s c La Lf Lt G (ops.map U.str) (furs.map uP) (ts.map uT) G') ⟨_, _, _, _, _, _, ops16, [], rfl, rfl, fun _ h => h, rfl, (fun _ h => by cases h), h0⟩ (fun _ _ _ _ _ => trivial) ?_ ?_
  · rintro i y σ' G' hi hy ⟨z6, z7, z8, z9, z10, z11, ops, ts, rfl, hol, hom, htl, hok, h⟩
    have hy' : y = .int ((i : Nat) : Int) := by
      rw [rgU_get (by exact hi)] at hy
      cases hy
      rw [Int.zero_add]
    subst hy'
    refine ⟨⟨_, h.la⟩, .inl ⟨_, h.la, ?_⟩⟩
    refine ⟨s, c, _, rfl, h.law, by rw [List.length_map]; omega, by rw [List.length_map]; omega, fun v G1 v0 v1 hl hf => ?_⟩
    rw [List.length_map] at v1
    have hv : v.toNat < ops.length := by omega
    have ho : ops[v.toNat]? = some ops[v.toNat] := List.getElem?_eq_getElem hv
    have hmem := List.mem_of_getElem? ho
    have hel : (ops.eraseIdx v.toNat).length = 16 - (i + 1) := by rw [List.length_eraseIdx_of_lt hv]; omega
    have hem : ∀ op ∈ ops.eraseIdx v.toNat, op ∈ ops16 := fun op h => hom op (List.mem_of_mem_eraseIdx h)
    generalize ops[v.toNat] = op at ho hmem
    obtain ⟨hso, hnl, hol2⟩ := ops16_ok op (hom op hmem)
    have h1 := h.take D hl hf
    refine ⟨_, v.toNat, .str op, h1.la, decide_eq_true (by omega), by rw [List.length_map]; exact ixq v0 v1, by rw [List.getElem?_map, ho]; rfl, ?_⟩
    rw [erase_map]
    have h2 := h1.setA D ((ops.eraseIdx v.toNat).map U.str)
    dsimp only [n3, seq3, asg3, List.set_cons_zero, List.set_cons_succ]
    refine pat_of rfl fun G3' s3 => ?_
    have h3 := h2.sub s3
    refine ⟨fun σ' G' => ∃ p, wp 5 p = true ∧ σ' = [some (.ref s), some (.int (more : Nat)), some (.ref La), some (.ref Lf), some (.int own), some (.ref Lt), some (.int (i : Nat)), some (.str op), some (uP p), z9, z10, z11, none, none] ∧ G' = G3', ?_, ?_⟩
    · refine ⟨dat_s hso, dat_s (by decide +kernel), ?_⟩
      by_cases hc : op = "const"
      · refine ifT (by rw [if_neg Bool.false_ne_true, eq3_s, hc]; rfl) ?_
        exact ⟨rfl, Wk2.of ⟨.l 0 4294967295, rfl, rfl, rfl⟩⟩
      · refine ifF (by rw [if_neg Bool.false_ne_true, eq3_s]; exact beq_eq_false_iff_ne.mpr hc) ?_
        exact Wk2.of ⟨plainO op, wp_le (by decide) (wp_plainO hso hnl), rfl, rfl⟩
    rintro σ' G4 ⟨p, hwp, rfl, e4⟩
    subst e4
    refine ⟨s, c, 2, rfl, h3.law, by decide, by decide, fun b G5 b0 b1 hl5 hf5 => ?_⟩
    have h5 := h3.take D hl5 hf5
    refine ⟨fun σ' G' => ∃ wt, σ' = [some (.ref s), some (.int (more : Nat)), some (.ref La), some (.ref Lf), some (.int own), some (.ref Lt), some (.int (i : Nat)), some (.str op), some (uP p), some (.int (1 + b)), some (.int wt), z11, none, none] ∧ TS s c La Lf Lt G ((ops.eraseIdx v.toNat).map U.str) (furs.map uP) (ts.map uT) G', ?_, ?_⟩
    · refine ⟨s, c, 8, rfl, h5.law, by decide, by decide, fun d G6 d0 d1 hl6 hf6 => ?_⟩
      have h6 := h5.take D hl6 hf6
      refine ⟨dat_int _, dat_int _, ?_⟩
      by_cases hd : d = 0
      · refine ifT (by rw [if_neg Bool.false_ne_true, eq3_int, hd]; rfl) ?_
        exact Wk2.of ⟨20, rfl, h6⟩
      · refine ifF (by rw [if_neg Bool.false_ne_true, eq3_int]; simpa using hd) ?_
        refine ⟨s, c, 5, rfl, h6.law, by decide, by decide, fun e G7 e0 e1 hl7 hf7 => ?_⟩
        exact Wk2.of ⟨_, rfl, h6.take D hl7 hf7⟩
    rintro σ' G6 ⟨wt, rfl, h6⟩
    refine ⟨fun σ' G' => ∃ x, PySem.PyData.strOk x = true ∧ x.length ≤ 100 ∧ σ' = [some (.ref s), some (.int (more : Nat)), some (.ref La), some (.ref Lf), some (.int own), some (.ref Lt), some (.int (i : Nat)), some (.str op), some (uP p), some (.int (1 + b)), some (.int wt), some (.str x), none, none] ∧ G' = G6, ?_, ?_⟩
    · refine ⟨dat_int _, dat_int _, ?_⟩
      by_cases hz : own = 0
      · refine ifT (by rw [if_neg Bool.false_ne_true, eq3_int, hz]; rfl) ?_
        exact Wk2.of ⟨op, hso, hol2, rfl, rfl⟩
      · refine ifF (by rw [if_neg Bool.false_ne_true, eq3_int]; simpa using hz) ?_
        obtain ⟨w1, w2⟩ := word_ok i (by omega) "t" (by decide +kernel)
        exact ⟨log_small (by omega), decide_eq_true (add_le w2), Wk2.of ⟨_, w1, w2, rfl, rfl⟩⟩
    rintro σ' G7 ⟨x, hx, hxl, rfl, e7⟩
    subst e7
    refine ⟨⟨_, h6.lt⟩, rfl, _, h6.lt, decide_eq_true (by rw [List.length_map]; omega), ?_⟩
    refine Wk2.of ⟨_, _, _, _, _, _, ops.eraseIdx v.toNat, ts ++ [⟨x, p, 1 + b, wt⟩], rfl, hel, hem, by rw [List.length_append, htl]; rfl, ?_, ?_⟩
    · intro t ht
      rcases List.mem_append.mp ht with ht | ht
      · exact hok t ht
      · rw [List.mem_singleton.mp ht]
        exact ⟨hx, hxl, hwp⟩
    · rw [List.map_append]
      exact h6.setT D _
  rintro σ' G' ⟨z6, z7, z8, z9, z10, z11, ops, ts, rfl, hol, hom, htl, hok, h⟩
  try dsimp only [seq3, asg3, n3, v3, drop3, ret3, next3, List.set_cons_zero, List.set_cons_succ, List.getElem?_cons_zero, List.getElem?_cons_succ, start3, List.map_cons, List.map_nil, List.length_cons, List.length_nil, List.replicate, List.cons_append, List.nil_append, Nat.reduceSub, Nat.reduceAdd]
  refine for_of ?_
  refine ⟨decide_eq_true (by omega), ?_⟩
  refine forK_of more (by rw [rgU_len]; rfl) (fun i σ G' => ∃ z6 z7 z8 z9 z10 z11 fus ts, σ = [some (.ref s), some (.int (more : Nat)), some (.ref La), some (.ref Lf), some (.int own), some (.ref Lt), z6, z7, z8, z9, z10, z11, none, none] ∧ fus.length = 15 - i ∧ (∀ p ∈ fus, wp 5 p = true) ∧ ts.length = 16 + i ∧ (∀ t ∈ ts, OkT t) ∧ TS s c La Lf Lt G (ops.map U.str) (fus.map uP) (ts.map uT) G') ⟨_, _, _, _, _, _, furs, ts, rfl, rfl, List.all_eq_true.mp furs_wp, htl, hok, h⟩ (fun _ _ _ _ _ => trivial) ?_ ?_
  · rintro i y σ' G' hi hy ⟨z6, z7, z8, z9, z10, z11, fus, ts, rfl, hol, hom, htl, hok, h⟩
    have hy' : y = .int ((i : Nat) : Int) := by
      rw [rgU_get (by exact hi)] at hy
      cases hy
      rw [Int.zero_add]
    subst hy'
    refine ⟨⟨_, h.lf⟩, .inl ⟨_, h.lf, ?_⟩⟩
    refine ⟨s, c, _, rfl, h.law, by rw [List.length_map]; omega, by rw [List.length_map]; omega, fun v G1 v0 v1 hl hf => ?_⟩
    rw [List.length_map] at v1
    have hv : v.toNat < fus.length := by omega
    have ho : fus[v.toNat]? = some fus[v.toNat] := List.getElem?_eq_getElem hv
    have hmem := List.mem_of_getElem? ho
    have hel : (fus.eraseIdx v.toNat).length = 15 - (i + 1) := by rw [List.length_eraseIdx_of_lt hv]; omega
    have hem : ∀ op ∈ fus.eraseIdx v.toNat, wp 5 op = true := fun op h => hom op (List.mem_of_mem_eraseIdx h)
    generalize fus[v.toNat] = p at ho hmem
    have h1 := h.take D hl hf
    refine ⟨_, v.toNat, uP p, h1.lf, decide_eq_true (by omega), by rw [List.length_map]; exact ixq v0 v1, by rw [List.getElem?_map, ho]; rfl, ?_⟩
    rw [erase_map]
    have h2 := h1.setF D ((fus.eraseIdx v.toNat).map uP)
    refine ⟨s, c, 3, rfl, h2.law, by decide, by decide, fun b G5 b0 b1 hl5 hf5 => ?_⟩
    have h5 := h2.take D hl5 hf5
    obtain ⟨w1, w2⟩ := word_ok i (by omega) "x" (by decide +kernel)
    refine ⟨⟨_, h5.lt⟩, log_small (by omega), decide_eq_true (add_le w2), ?_⟩
    refine ⟨s, c, 4, rfl, h5.law, by decide, by decide, fun e G6 e0 e1 hl6 hf6 => ?_⟩
    have h6 := h5.take D hl6 hf6
    refine ⟨rfl, _, h6.lt, decide_eq_true (by rw [List.length_map]; omega), ?_⟩
    refine Wk2.of ⟨_, _, _, _, _, _, fus.eraseIdx v.toNat, ts ++ [⟨("x" : Str) ++ Str.ofString (toString ((i : Nat) : Int)), p, 1 + b, 1 + b + e⟩], rfl, hel, hem, by rw [List.length_append, htl]; rfl, ?_, ?_⟩
    · intro t ht
      rcases List.mem_append.mp ht with ht | ht
      · exact hok t ht
      · rw [List.mem_singleton.mp ht]
        exact ⟨w1, w2, hom p hmem⟩
    · rw [List.map_append]
      exact h6.setT D _
  rintro σ' G' ⟨z6, z7, z8, z9, z10, z11, fus, ts, rfl, hol, hom, htl, hok, h⟩
  refine .inl ⟨_, h.lt, ?_⟩
  refine ⟨s, c, _, rfl, h.law, by rw [List.length_map]; omega, by rw [List.length_map]; omega, fun v G1 v0 v1 hl hf => ?_⟩
  rw [List.length_map] at v1
  have h1 := h.take D hl hf
  have hv : v.toNat ≤ ts.length := by omega
  refine ⟨_, h1.lt, fun a ha => ?_⟩
  rw [cut_from uT ts v.toNat v (by omega) hv]
  have h2 := h1.sub (Sub.new (o := .lst ((ts.drop v.toNat).map uT)) (Sub.refl G1) ha)
  have ga2 : gup G1 a (.lst ((ts.drop v.toNat).map uT)) a = some (.lst ((ts.drop v.toNat).map uT)) := gup_same
  generalize gup G1 a (.lst ((ts.drop v.toNat).map uT)) = G2 at h2 ga2 ⊢
  refine ⟨_, h2.lt, fun b hb => ?_⟩
  rw [show (some v) = some ((v.toNat : Nat) : Int) by congr 1; omega, cut_to uT ts v.toNat hv]
  have h3 := h2.sub (Sub.new (o := .lst ((ts.take v.toNat).map uT)) (Sub.refl G2) hb)
  refine cat_of (by rw [gup_ne (gne_none ga2 hb)]; exact ga2) gup_same (by rw [List.length_map, List.length_map, List.length_drop, List.length_take]; omega) fun e he => ?_
  refine ⟨_, gup_same, ?_⟩
  have h4 := h3.sub (Sub.new (o := .lst ((ts.drop v.toNat).map uT ++ (ts.take v.toNat).map uT)) (Sub.refl _) he)
  have := hq (ts.drop v.toNat ++ ts.take v.toNat) _ (by rw [List.length_append, List.length_drop, List.length_take]; omega) (fun t ht => by
    rcases List.mem_append.mp ht with ht | ht
    · exact hok t (List.mem_of_mem_drop ht)
    · exact hok t (List.mem_of_mem_take ht)) h4.law h4.fr
  rw [List.map_append] at this
  exact Wk.of this
end
end K20
end
section
set_option Elab.async false
set_option linter.all false
set_option maxRecDepth 100000
set_option maxHeartbeats 2000000
namespace K20
open PySem L2 L3
def rowsS : List Str := ["", "a23456789", "A", "1a", "a-b", "a b", "a_", "aB", "a2345678", "z", "while"]
theorem rowsS_ok : ∀ x ∈ rowsS, PySem.PyData.strOk x = true ∧ x.length ≤ 100 := by decide +kernel
theorem atI_end {α : Type} (f : α → U) {xs : List α} (h : xs ≠ []) : ∃ x ∈ xs, L2.atI (xs.map f) (-1) = some (f x) := by
  have hl : 0 < xs.length := List.length_pos_iff.mpr h
  refine ⟨xs[xs.length - 1], List.getElem_mem _, ?_⟩
  unfold L2.atI L2.ixN
  rw [if_neg (by decide), List.length_map]
  have : (-1 + ((xs.length : Nat) : Int)) = ((xs.length - 1 : Nat) : Int) := by omega
  have h1 : (1 : Int) ≤ ((xs.length : Nat) : Int) := by omega
  simp [this, hl, h1]
  exact ⟨_, List.getElem?_eq_getElem _, rfl⟩
section
variable {P : Program} {w : World} {K : PySem.W.Frag} {mg : Str → Option Value} {base : Heap}
abbrev s_law_bent : Stmt := topS 53
abbrev law_bent_N : List Str := ["pool", "kind", "tile", "tiles", "word", "pattern", "busy", "wait", "rows"]
theorem sc_law_bent : FnScope law_bent_N ["pool", "kind", "tile", "tiles"] (defScope s_law_bent) := ⟨rfl, rfl, rfl, by decide +kernel, rfl, by decide +kernel, by decide +kernel⟩
def spBent : Sp3 := fun ws G Q _ => ∃ (s c b : Addr) (kind : Int) (t : Tile) (ts : List Tile), ws = [.ref s, .int kind, uT t, .ref b] ∧ Law s c G ∧ G b = some (.lst (ts.map uT)) ∧ b ≠ s ∧ b ≠ c ∧ ts ≠ [] ∧ ts.length ≤ 100 ∧ OkT t ∧ (∀ t ∈ ts, OkT t) ∧ ∀ (t' : Tile) (G' : G3), OkT t' → Law s c G' → Fr s c G G' → Q (uT t') G'
theorem ok_bent {f f1 f2 f3 : Addr} {fd fd1 fd2 fd3 : FuncData} (F : Fun K "_law_bent" "_law_bent" s_law_bent f fd) (T : Tg mg) (O_law_pick : Own P w K mg base 2 "_law_pick" ["pool", "row"] spPick f1 fd1) (O_law_bad : Own P w K mg base 3 "_law_bad" ["pool"] spFu f2 fd2) (O_law_wide : Own P w K mg base 3 "_law_wide" ["pool"] spFu f3 fd3) : FnOk P w K mg base CX0 4 f fd ["pool", "kind", "tile", "tiles"] (lowSp K spBent) := by
  refine Fun_ok3 F sc_law_bent (fun ws G Q E h => by obtain ⟨_, _, _, _, _, _, rfl, _⟩ := h; rfl) (fun cdv A outer s H E ws G Q E3 hr h => ?_)
  have hr_law_pick : Room 2 _ := hr.mono (by decide)
  have hr_law_bad : Room 3 _ := hr
  have hr_law_wide : Room 3 _ := hr
  have hu64 := hr.units
  obtain ⟨s, c, b, kind, t, ts, rfl, hL, hb, nb1, nb2, hne, hlen, hot, hok, hq⟩ := h
  refine ⟨_, (ss_cons (s_asg (e3v 2) (pg_tup (n := 4) rfl (pgs_cons (pg_name (i := 4) sc_law_bent.nd rfl (by first | exact Or.inl rfl | exact Or.inr rfl)) (pgs_cons (pg_name (i := 5) sc_law_bent.nd rfl (by first | exact Or.inl rfl | exact Or.inr rfl)) (pgs_cons (pg_name (i := 6) sc_law_bent.nd rfl (by first | exact Or.inl rfl | exact Or.inr rfl)) (pgs_cons (pg_name (i := 7) sc_law_bent.nd rfl (by first | exact Or.inl rfl | exact Or.inr rfl)) pgs_nil))))) (gl_tup (gl_cons gl_name (gl_cons gl_name (gl_cons gl_name (gl_cons gl_name gl_nil))))))
      (ss_cut (s_if (t3cmp (o_eq hu64) (e3v 1) e3int)
      (ss_cons (s_set (i := 8) sc_law_bent.nd (e3lst (a3cons e3str (a3cons e3str (a3cons e3str (a3cons e3str (a3cons e3str (a3cons e3str (a3cons e3str (a3cons e3str (a3cons e3str (a3cons e3str (a3cons e3str a3nil)))))))))))))
        (ss_one (s_set (i := 4) sc_law_bent.nd (e3call O_law_pick.G hr_law_pick O_law_pick.g O_law_pick.kp O_law_pick.b pass0 (a3cons (e3v 0) (a3cons (e3op o_cat (e3v 8) (e3lst (a3cons (e3ix (e3ix (e3v 3) e3int) e3int) (a3cons (e3ix (e3ix (e3v 3) (e3neg e3int)) e3int) a3nil)))) a3nil))))))
      ss_nil)
      (ss_cut (s_if (t3cmp (o_eq hu64) (e3v 1) e3int)
      (ss_one (s_set (i := 5) sc_law_bent.nd (e3call O_law_bad.G hr_law_bad O_law_bad.g O_law_bad.kp O_law_bad.b pass0 (a3cons (e3v 0) a3nil))))
      ss_nil)
      (ss_cut (s_if (t3cmp (o_eq hu64) (e3v 1) e3int)
      (ss_one (s_set (i := 5) sc_law_bent.nd (e3call O_law_wide.G hr_law_wide O_law_wide.g O_law_wide.kp O_law_wide.b pass0 (a3cons (e3v 0) a3nil))))
      ss_nil)
      (ss_cut (s_if (t3cmp (o_eq hu64) (e3v 1) e3int)
      (ss_one (s_set (i := 6) sc_law_bent.nd (e3call O_law_pick.G hr_law_pick O_law_pick.g O_law_pick.kp O_law_pick.b pass0 (a3cons (e3v 0) (a3cons (e3lst (a3cons e3int (a3cons e3int (a3cons e3int (a3cons e3int (a3cons (e3neg e3int) a3nil)))))) a3nil)))))
      ss_nil)
      (ss_cut (s_if (t3cmp (o_eq hu64) (e3v 1) e3int)
      (ss_one (s_set (i := 7) sc_law_bent.nd (e3call O_law_pick.G hr_law_pick O_law_pick.g O_law_pick.kp O_law_pick.b pass0 (a3cons (e3v 0) (a3cons (e3lst (a3cons (e3op o_sub (e3v 6) e3int) (a3cons (e3v 6) (a3cons e3int (a3cons e3int (a3cons e3int a3nil)))))) a3nil)))))
      ss_nil)
      (ss_one (s_ret (e3tup (a3cons (e3v 4) (a3cons (e3v 5) (a3cons (e3v 6) (a3cons (e3v 7) a3nil))))))))))))), ?_⟩
  refine ⟨rfl, ?_⟩
  have cond : ∀ (k : Int), (if false = true then !eq3 (.int kind) (.int k) else eq3 (.int kind) (.int k)) = decide (kind = k) := fun k => by
    rw [if_neg Bool.false_ne_true, eq3_int]
    by_cases h : kind = k <;> simp [h]
  refine ⟨fun σ' G' => ∃ t' z8, OkT t' ∧ σ' = [some (.ref s), some (.int kind), some (uT t), some (.ref b), some (.str t'.w), some (uP t'.p), some (.int t'.b), some (.int t'.t), z8] ∧ Law s c G' ∧ Fr s c G G', ?_, ?_⟩
  · refine ⟨dat_int _, dat_int _, ?_⟩
    by_cases h1 : kind = 1
    · refine ifT ((cond 1).trans (decide_eq_true h1)) ?_
      obtain ⟨t0, ht0, e0⟩ : ∃ t0, ts[0]? = some t0 ∧ t0 ∈ ts := by
        cases ts with
        | nil => exact absurd rfl hne
        | cons a r => exact ⟨a, rfl, List.mem_cons_self⟩
      obtain ⟨tl, htl, el⟩ := atI_end uT hne
      refine ⟨rfl, fun p hp => ?_⟩
      have hb1 : ∀ o, gup G p o b = some (.lst (ts.map uT)) := fun o => by rw [gup_ne (gne_none hb hp)]; exact hb
      refine ⟨_, uT t0, hb1 _, atI_eq (i := 0) rfl (by rw [List.getElem?_map, ht0]; rfl), .str t0.w, rfl, _, uT tl, hb1 _, el, .str tl.w, rfl, rfl, ?_⟩
      refine cat_lit gup_same (show 13 ≤ 1000 by decide) fun q G2 hq2 s2 => ?_
      have k2 : L3.Sub G G2 := (Sub.new (Sub.refl G) hp).trans (Sub.base s2 hq2)
      have n1 := hL.ns (Sub.free (Sub.new (Sub.refl G) hp) hq2)
      have n2 := hL.nc (Sub.free (Sub.new (Sub.refl G) hp) hq2)
      refine ⟨s, c, q, _, rfl, hL.sub k2, s2.at, n1, n2, List.cons_ne_nil _ _, (show 13 ≤ 1000 by decide), fun x G' hx hl hf => ?_⟩
      have hx : x ∈ (rowsS ++ [t0.w, tl.w]).map U.str := hx
      obtain ⟨y, hy, rfl⟩ := List.mem_map.mp hx
      have hyok : PySem.PyData.strOk y = true ∧ y.length ≤ 100 := by
        rcases List.mem_append.mp hy with hy | hy
        · exact rowsS_ok y hy
        · rcases List.mem_cons.mp hy with rfl | hy
          · exact ⟨(hok t0 e0).w, (hok t0 e0).wl⟩
          · rw [List.mem_singleton.mp hy]
            exact ⟨(hok tl htl).w, (hok tl htl).wl⟩
      exact Wk2.of ⟨⟨y, t.p, t.b, t.t⟩, _, ⟨hyok.1, hyok.2, hot.p⟩, rfl, hl, (Fr.sub k2).trans hf⟩
    · refine ifF ((cond 1).trans (decide_eq_false h1)) ?_
      exact Wk2.of ⟨t, _, hot, rfl, hL, Fr.refl G⟩
  rintro σ' G1 ⟨t', z8, ht', rfl, hl, hf⟩
  refine ⟨fun σ' G' => ∃ t' z8, OkT t' ∧ σ' = [some (.ref s), some (.int kind), some (uT t), some (.ref b), some (.str t'.w), some (uP t'.p), some (.int t'.b), some (.int t'.t), z8] ∧ Law s c G' ∧ Fr s c G G', ?_, ?_⟩
  · refine ⟨dat_int _, dat_int _, ?_⟩
    by_cases hk : kind = 2
    · refine ifT ((cond 2).trans (decide_eq_true hk)) ?_
      refine ⟨s, c, rfl, hl, fun p G2 hwp hl2 hf2 => ?_⟩
      exact Wk2.of ⟨⟨t'.w, p, t'.b, t'.t⟩, _, ⟨ht'.w, ht'.wl, hwp⟩, rfl, hl2, hf.trans hf2⟩
    · refine ifF ((cond 2).trans (decide_eq_false hk)) ?_
      exact Wk2.of ⟨t', _, ht', rfl, hl, hf⟩
  clear hl hf ht' t' z8
  rintro σ' G1 ⟨t', z8, ht', rfl, hl, hf⟩
  refine ⟨fun σ' G' => ∃ t' z8, OkT t' ∧ σ' = [some (.ref s), some (.int kind), some (uT t), some (.ref b), some (.str t'.w), some (uP t'.p), some (.int t'.b), some (.int t'.t), z8] ∧ Law s c G' ∧ Fr s c G G', ?_, ?_⟩
  · refine ⟨dat_int _, dat_int _, ?_⟩
    by_cases hk : kind = 3
    · refine ifT ((cond 3).trans (decide_eq_true hk)) ?_
      refine ⟨s, c, rfl, hl, fun p G2 hwp hl2 hf2 => ?_⟩
      exact Wk2.of ⟨⟨t'.w, p, t'.b, t'.t⟩, _, ⟨ht'.w, ht'.wl, hwp⟩, rfl, hl2, hf.trans hf2⟩
    · refine ifF ((cond 3).trans (decide_eq_false hk)) ?_
      exact Wk2.of ⟨t', _, ht', rfl, hl, hf⟩
  clear hl hf ht' t' z8
  rintro σ' G1 ⟨t', z8, ht', rfl, hl, hf⟩
  refine ⟨fun σ' G' => ∃ t' z8, OkT t' ∧ σ' = [some (.ref s), some (.int kind), some (uT t), some (.ref b), some (.str t'.w), some (uP t'.p), some (.int t'.b), some (.int t'.t), z8] ∧ Law s c G' ∧ Fr s c G G', ?_, ?_⟩
  · refine ⟨dat_int _, dat_int _, ?_⟩
    by_cases hk : kind = 4
    · refine ifT ((cond 4).trans (decide_eq_true hk)) ?_
      refine ⟨rfl, fun p hp => ?_⟩
      have n1 := hl.ns hp
      have n2 := hl.nc hp
      refine ⟨s, c, p, [0, 1, 9, 10, -1].map U.int, rfl, hl.mut n1 n2, gup_same, n1, n2, by decide, by decide, fun x G2 hx hl2 hf2 => ?_⟩
      obtain ⟨v, hv, rfl⟩ := List.mem_map.mp hx
      exact Wk2.of ⟨⟨t'.w, t'.p, v, t'.t⟩, _, ⟨ht'.w, ht'.wl, ht'.p⟩, rfl, hl2, (hf.mut (hf.free hl hp)).trans hf2⟩
    · refine ifF ((cond 4).trans (decide_eq_false hk)) ?_
      exact Wk2.of ⟨t', _, ht', rfl, hl, hf⟩
  clear hl hf ht' t' z8
  rintro σ' G1 ⟨t', z8, ht', rfl, hl, hf⟩
  refine ⟨fun σ' G' => ∃ t' z8, OkT t' ∧ σ' = [some (.ref s), some (.int kind), some (uT t), some (.ref b), some (.str t'.w), some (uP t'.p), some (.int t'.b), some (.int t'.t), z8] ∧ Law s c G' ∧ Fr s c G G', ?_, ?_⟩
  · refine ⟨dat_int _, dat_int _, ?_⟩
    by_cases hk : kind = 5
    · refine ifT ((cond 5).trans (decide_eq_true hk)) ?_
      refine ⟨rfl, fun p hp => ?_⟩
      have n1 := hl.ns hp
      have n2 := hl.nc hp
      refine ⟨s, c, p, [t'.b - 1, t'.b, 20, 21, 0].map U.int, rfl, hl.mut n1 n2, gup_same, n1, n2, List.cons_ne_nil _ _, (show 5 ≤ 1000 by decide), fun x G2 hx hl2 hf2 => ?_⟩
      obtain ⟨v, hv, rfl⟩ := List.mem_map.mp hx
      exact Wk2.of ⟨⟨t'.w, t'.p, t'.b, v⟩, _, ⟨ht'.w, ht'.wl, ht'.p⟩, rfl, hl2, (hf.mut (hf.free hl hp)).trans hf2⟩
    · refine ifF ((cond 5).trans (decide_eq_false hk)) ?_
      exact Wk2.of ⟨t', _, ht', rfl, hl, hf⟩
  clear hl hf ht' t' z8
  rintro σ' G1 ⟨t', z8, ht', rfl, hl, hf⟩
  exact ⟨rfl, Wk.of (hq t' G1 ht' hl hf)⟩
end
end K20
end
section
set_option Elab.async false
set_option linter.all false
set_option maxRecDepth 100000
set_option maxHeartbeats 2000000
namespace K20
open PySem L2 L3
theorem lay_B (b : Int × Int) : noref (uB b) = true ∧ (pd (uB b)).canLay0 = true ∧ (pd (uB b)).depth ≤ 1 := by
  unfold uB
  exact ⟨rfl, by simp [pd, pdL, PyData.canLay0, PyData.canLayAll0], by simp [pd, pdL, PyData.depth, PyData.depthAll]⟩
theorem dat_Bs (bs : List (Int × Int)) : dat (.lit (bs.map uB)) = true := by
  obtain ⟨a, b, c⟩ := lays_map uB (fun _ => True) 1 (fun x _ => lay_B x) bs fun _ _ => trivial
  refine dat_of a b ?_
  show PyData.depthAll (pdL (bs.map uB)) + 1 ≤ 64
  omega
theorem cut_any {α : Type} (f : α → U) (xs : List α) (x : Int) : ∃ k, cut3 (xs.map f) none (some x) = (xs.take k).map f := by
  unfold cut3
  exact ⟨_, by rw [HT.sIx_none, List.drop_zero, Nat.sub_zero, ← List.map_take]⟩
theorem ixN_nat {v : Int} {n : Nat} (h0 : 0 ≤ v) (h1 : v < (n : Nat)) : L2.ixN n v = some v.toNat := by
  unfold L2.ixN
  rw [if_pos h0, if_pos h1]
def SP (s c : Addr) (G : G3) (kind : Int) (N M : Nat) : S3 → G3 → Prop := fun σ G' => ∃ (A B : Addr) (ts : List Tile) (bs : List (Int × Int)) (pl ex : Int) (z6 z7 : Option U), σ = [some (.ref s), some (.int pl), some (.ref A), some (.ref B), some (.int ex), some (.int kind), z6, z7] ∧ A ≠ B ∧ G A = none ∧ G B = none ∧ G' A = some (.lst (ts.map uT)) ∧ G' B = some (.lst (bs.map uB)) ∧ (∀ t ∈ ts, OkT t) ∧ ts.length ≤ N ∧ bs.length ≤ M ∧ Law s c G' ∧ Fr s c G G'
section
variable {P : Program} {w : World} {K : PySem.W.Frag} {mg : Str → Option Value} {base : Heap}
abbrev s_law_spoilt : Stmt := topS 54
abbrev law_spoilt_N : List Str := ["pool", "places", "tiles", "basic", "exchange", "kind", "at", "busy"]
theorem sc_law_spoilt : FnScope law_spoilt_N ["pool", "places", "tiles", "basic", "exchange"] (defScope s_law_spoilt) := ⟨rfl, rfl, rfl, by decide +kernel, rfl, by decide +kernel, by decide +kernel⟩
def spSpoilt : Sp3 := fun ws G Q _ => ∃ (s c : Addr) (ts : List Tile) (pl ex : Int) (bs : List (Int × Int)), ws = [.ref s, .int pl, .tup (ts.map uT), .tup (bs.map uB), .int ex] ∧ Law s c G ∧ (∀ t ∈ ts, OkT t) ∧ ts.length ≤ 99 ∧ bs.length ≤ 19 ∧
  ∀ (pl' ex' : Int) (ts' : List Tile) (bs' : List (Int × Int)) (G' : G3), (∀ t ∈ ts', OkT t) → ts'.length ≤ ts.length → bs'.length ≤ bs.length + 1 → Law s c G' → Fr s c G G' → Q (.tup [.int pl', .tup (ts'.map uT), .tup (bs'.map uB), .int ex']) G'
theorem ok_spoilt {f f1 f2 f3 : Addr} {fd fd1 fd2 fd3 : FuncData} (F : Fun K "_law_spoilt" "_law_spoilt" s_law_spoilt f fd) (T : Tg mg) (O_law_take : Own P w K mg base 1 "_law_take" ["pool", "m"] spTake f1 fd1) (O_law_pick : Own P w K mg base 2 "_law_pick" ["pool", "row"] spPick f2 fd2) (O_law_bent : Own P w K mg base 4 "_law_bent" ["pool", "kind", "tile", "tiles"] spBent f3 fd3) : FnOk P w K mg base CX0 5 f fd ["pool", "places", "tiles", "basic", "exchange"] (lowSp K spSpoilt) := by
  refine Fun_ok3 F sc_law_spoilt (fun ws G Q E h => by obtain ⟨_, _, _, _, _, _, rfl, _⟩ := h; rfl) (fun cdv A outer s H E ws G Q E3 hr h => ?_)
  have hr_law_take : Room 1 _ := hr.mono (by decide)
  have hr_law_pick : Room 2 _ := hr.mono (by decide)
  have hr_law_bent : Room 4 _ := hr
  have hu64 := hr.units
  obtain ⟨s, c, ts0, pl0, ex0, bs0, rfl, hL, hok0, hlen, hbl, hq⟩ := h
  refine ⟨_, (ss_cons (s_set (i := 5) sc_law_spoilt.nd (e3call O_law_take.G hr_law_take O_law_take.g O_law_take.kp O_law_take.b pass0 (a3cons (e3v 0) (a3cons e3int a3nil))))
      (ss_cons (s_set (i := 2) sc_law_spoilt.nd (e3T k_list T.list (a3cons (e3v 2) a3nil)))
      (ss_cons (s_set (i := 3) sc_law_spoilt.nd (e3T k_list T.list (a3cons (e3v 3) a3nil)))
      (ss_cut (s_if (PW.pt (w3and (t3cmp (o_neL hu64) (e3v 2) (e3lst a3nil)) (w3and1 (t3cmp o_lt (e3v 5) e3int))))
      (ss_cons (s_set (i := 6) sc_law_spoilt.nd (e3call O_law_take.G hr_law_take O_law_take.g O_law_take.kp O_law_take.b pass0 (a3cons (e3v 0) (a3cons (e3B k_len T.len (a3cons (e3v 2) a3nil)) a3nil))))
        (ss_cons (s_setL (e3v 2) (e3v 6) (e3call O_law_bent.G hr_law_bent O_law_bent.g O_law_bent.kp O_law_bent.b pass0 (a3cons (e3v 0) (a3cons (e3v 5) (a3cons (e3ix (e3v 2) (e3v 6)) (a3cons (e3v 2) a3nil))))))
        (ss_cut (s_if (t3cmp (o_eq hu64) (e3v 5) e3int)
        (ss_one (s_expr (e3bmL PySem.F.slot_list_pop PySem.F.type_list_pop m_popAt (e3v 2) (a3cons (e3v 6) a3nil))))
        ss_nil)
        (ss_one (s_if (t3cmp (o_eq hu64) (e3v 5) e3int)
        (ss_one (s_set (i := 2) sc_law_spoilt.nd (e3sl (e3v 2) o3none (o3some (e3call O_law_pick.G hr_law_pick O_law_pick.g O_law_pick.kp O_law_pick.b pass0 (a3cons (e3v 0) (a3cons (e3lst (a3cons e3int (a3cons (e3v 6) (a3cons (e3op o_sub (e3B k_len T.len (a3cons (e3v 2) a3nil)) e3int) a3nil)))) a3nil)))))))
        ss_nil)))))
      ss_nil)
      (ss_cut (s_if (t3cmp (o_eq hu64) (e3v 5) e3int)
      (ss_one (s_set (i := 1) sc_law_spoilt.nd (e3call O_law_pick.G hr_law_pick O_law_pick.g O_law_pick.kp O_law_pick.b pass0 (a3cons (e3v 0) (a3cons (e3lst (a3cons e3int (a3cons e3int (a3cons e3int (a3cons e3int (a3cons e3int (a3cons (e3neg e3int) a3nil))))))) a3nil)))))
      ss_nil)
      (ss_cut (s_if (t3cmp (o_eq hu64) (e3v 5) e3int)
      (ss_one (s_set (i := 3) sc_law_spoilt.nd (e3call O_law_pick.G hr_law_pick O_law_pick.g O_law_pick.kp O_law_pick.b pass0 (a3cons (e3v 0) (a3cons (e3lst (a3cons (e3sl (e3v 3) o3none (o3some e3int)) (a3cons (e3op o_cat (e3v 3) (e3lst (a3cons (e3tup (a3cons e3int (a3cons e3int a3nil))) a3nil))) (a3cons (e3lst a3nil) a3nil)))) a3nil)))))
      ss_nil)
      (ss_cut (s_if (PW.pt (w3and (t3cmp (o_eq hu64) (e3v 5) e3int) (w3and1 (t3cmp (o_neL hu64) (e3v 3) (e3lst a3nil)))))
      (ss_cons (s_set (i := 6) sc_law_spoilt.nd (e3call O_law_take.G hr_law_take O_law_take.g O_law_take.kp O_law_take.b pass0 (a3cons (e3v 0) (a3cons (e3B k_len T.len (a3cons (e3v 3) a3nil)) a3nil))))
        (ss_cons (s_set (i := 7) sc_law_spoilt.nd (e3call O_law_pick.G hr_law_pick O_law_pick.g O_law_pick.kp O_law_pick.b pass0 (a3cons (e3v 0) (a3cons (e3lst (a3cons e3int (a3cons e3int (a3cons e3int (a3cons e3int (a3cons (e3ix (e3ix (e3v 3) (e3v 6)) e3int) a3nil)))))) a3nil))))
        (ss_one (s_setL (e3v 3) (e3v 6) (e3tup (a3cons (e3v 7) (a3cons (e3call O_law_pick.G hr_law_pick O_law_pick.g O_law_pick.kp O_law_pick.b pass0 (a3cons (e3v 0) (a3cons (e3lst (a3cons (e3op o_sub (e3v 7) e3int) (a3cons (e3v 7) (a3cons e3int (a3cons e3int a3nil))))) a3nil))) a3nil)))))))
      ss_nil)
      (ss_cut (s_if (t3cmp o_gt (e3v 5) e3int)
      (ss_cons (s_set (i := 4) sc_law_spoilt.nd (e3if (t3cmp (o_eq hu64) (e3v 5) e3int) (e3call O_law_pick.G hr_law_pick O_law_pick.g O_law_pick.kp O_law_pick.b pass0 (a3cons (e3v 0) (a3cons (e3lst (a3cons e3int (a3cons e3int (a3cons e3int (a3cons (e3neg e3int) a3nil))))) a3nil))) e3int))
        (ss_one (s_set (i := 1) sc_law_spoilt.nd (e3if (t3cmp (o_eq hu64) (e3v 5) e3int) e3int (e3v 1)))))
      ss_nil)
      (ss_one (s_ret (e3tup (a3cons (e3v 1) (a3cons (e3T k_tuple T.tuple (a3cons (e3v 2) a3nil)) (a3cons (e3T k_tuple T.tuple (a3cons (e3v 3) a3nil)) (a3cons (e3v 4) a3nil))))))))))))))), ?_⟩
  refine ⟨s, c, 12, rfl, hL, by decide, by decide, fun kind G1 _ _ hL1 f1 => ?_⟩
  intro A hA B hB
  have hAG := f1.free hL1 hA
  have hl2 := hL1.mut (o := .lst (ts0.map uT)) (hL1.ns hA) (hL1.nc hA)
  have f2 := f1.mut (o := .lst (ts0.map uT)) (p := A) hAG
  have hBG := f2.free hl2 hB
  have nAB : A ≠ B := gne_none gup_same hB
  have h0A : gup (gup G1 A (.lst (ts0.map uT))) B (.lst (bs0.map uB)) A = some (.lst (ts0.map uT)) := by rw [gup_ne nAB]; exact gup_same
  have h0B : gup (gup G1 A (.lst (ts0.map uT))) B (.lst (bs0.map uB)) B = some (.lst (bs0.map uB)) := gup_same
  have hl := hl2.mut (o := .lst (bs0.map uB)) (hl2.ns hB) (hl2.nc hB)
  have hf := f2.mut (o := .lst (bs0.map uB)) (p := B) hBG
  generalize gup (gup G1 A (.lst (ts0.map uT))) B (.lst (bs0.map uB)) = G2 at h0A h0B hl hf ⊢
  have cond : ∀ (k : Int), (if false = true then !eq3 (.int kind) (.int k) else eq3 (.int kind) (.int k)) = decide (kind = k) := fun k => by
    rw [if_neg Bool.false_ne_true, eq3_int]
    by_cases h : kind = k <;> simp [h]
  refine ⟨SP s c G kind ts0.length bs0.length, ?_, ?_⟩
  · refine ⟨rfl, fun p hp => ?_⟩
    have sp2 : L3.Sub G2 (gup G2 p (.lst [])) := Sub.new (Sub.refl G2) hp
    refine ⟨_, _, sp2 _ _ h0A, gup_same, dat_Ts hok0, rfl, ?_⟩
    have h1A := sp2 _ _ h0A
    have h1B := sp2 _ _ h0B
    have hl1 := hl.sub sp2
    have hf1 := hf.trans (Fr.sub sp2)
    generalize gup G2 p (.lst []) = G3' at h1A h1B hl1 hf1 ⊢
    have stay : Wk2 (SP s c G kind ts0.length bs0.length) [some (.ref s), some (.int pl0), some (.ref A), some (.ref B), some (.int ex0), some (.int kind), none, none] G3' := Wk2.of ⟨A, B, ts0, bs0, pl0, ex0, _, _, rfl, nAB, hAG, hBG, h1A, h1B, hok0, Nat.le_refl _, Nat.le_refl _, hl1, hf1⟩
    by_cases hne : ts0 = []
    · refine ifF (by rw [if_pos rfl, eq_nil, hne]; rfl) ?_
      exact stay
    refine ifT (by
      rw [if_pos rfl, eq_nil]
      cases ts0 with
      | nil => exact absurd rfl hne
      | cons a r => rfl) ?_
    by_cases h8 : kind < 8
    rotate_left
    · refine ifF (decide_eq_false h8) ?_
      exact stay
    refine ifT (decide_eq_true h8) ?_
    clear stay
    have hpos : 0 < ts0.length := List.length_pos_iff.mpr hne
    refine .inl ⟨_, h1A, ?_⟩
    refine ⟨s, c, _, rfl, hl1, by rw [List.length_map]; omega, by rw [List.length_map]; omega, fun v G4 v0 v1 hl4 hf4 => ?_⟩
    rw [List.length_map] at v1
    have nA1 := hL.ns hAG
    have nA2 := hL.nc hAG
    have nB1 := hL.ns hBG
    have nB2 := hL.nc hBG
    have h4A := hf4 _ _ nA1 nA2 h1A
    have h4B := hf4 _ _ nB1 nB2 h1B
    have ht : ts0[v.toNat]? = some (ts0[v.toNat]'(by omega)) := List.getElem?_eq_getElem (by omega)
    have htm := List.mem_of_getElem? ht
    generalize ts0[v.toNat]'(by omega) = t at ht htm
    refine ⟨_, uT t, h4A, atI_eq (i := v.toNat) (by omega) (by rw [List.getElem?_map, ht]; rfl), s, c, A, kind, t, ts0, rfl, hl4, h4A, nA1, nA2, hne, by omega, hok0 t htm, hok0, fun t' G5 ht' hl5 hf5 => ?_⟩
    have h5A := hf5 _ _ nA1 nA2 h4A
    have h5B := hf5 _ _ nB1 nB2 h4B
    refine ⟨_, v.toNat, h5A, by rw [List.length_map]; exact ixN_nat v0 v1, ?_⟩
    have es : (ts0.map uT).set v.toNat (uT t') = (ts0.set v.toNat t').map uT := (List.map_set).symm
    rw [es]
    have hok1 : ∀ t ∈ ts0.set v.toNat t', OkT t := fun t ht => by
      rcases List.mem_or_eq_of_mem_set ht with h | rfl
      · exact hok0 t h
      · exact ht'
    have hlen1 : (ts0.set v.toNat t').length = ts0.length := List.length_set
    generalize ts0.set v.toNat t' = ts1 at hok1 hlen1
    have h6A : gup G5 A (.lst (ts1.map uT)) A = some (.lst (ts1.map uT)) := gup_same
    have h6B : gup G5 A (.lst (ts1.map uT)) B = some (.lst (bs0.map uB)) := by rw [gup_ne nAB.symm]; exact h5B
    have hl6 := hl5.mut (o := .lst (ts1.map uT)) nA1 nA2
    have hf6 := ((hf1.trans hf4).trans hf5).mut (o := .lst (ts1.map uT)) (p := A) hAG
    generalize gup G5 A (.lst (ts1.map uT)) = G6 at h6A h6B hl6 hf6 ⊢
    refine ⟨fun σ' G' => ∃ ts' : List Tile, σ' = [some (.ref s), some (.int pl0), some (.ref A), some (.ref B), some (.int ex0), some (.int kind), some (.int v), none] ∧ G' A = some (.lst (ts'.map uT)) ∧ G' B = some (.lst (bs0.map uB)) ∧ (∀ t ∈ ts', OkT t) ∧ ts'.length ≤ ts0.length ∧ Law s c G' ∧ Fr s c G G', ?_, ?_⟩
    · refine ⟨dat_int _, dat_int _, ?_⟩
      by_cases hk : kind = 6
      · refine ifT ((cond 6).trans (decide_eq_true hk)) ?_
        have hv1 : v.toNat < ts1.length := by omega
        refine ⟨⟨_, h6A⟩, _, v.toNat, uT ts1[v.toNat], h6A, decide_eq_true (by omega), by rw [List.length_map]; exact ixq v0 (by omega), by rw [List.getElem?_map, List.getElem?_eq_getElem hv1]; rfl, ?_⟩
        rw [erase_map]
        refine Wk2.of ⟨ts1.eraseIdx v.toNat, rfl, gup_same, by rw [gup_ne nAB.symm]; exact h6B, fun t h => hok1 t (List.mem_of_mem_eraseIdx h), by rw [List.length_eraseIdx_of_lt hv1]; omega, hl6.mut nA1 nA2, hf6.mut hAG⟩
      · refine ifF ((cond 6).trans (decide_eq_false hk)) ?_
        exact Wk2.of ⟨ts1, rfl, h6A, h6B, hok1, by omega, hl6, hf6⟩
    rintro σ' G7 ⟨ts2, rfl, h7A, h7B, hok2, hlen2, hl7, hf7⟩
    refine ⟨dat_int _, dat_int _, ?_⟩
    by_cases hk : kind = 7
    · refine ifT ((cond 7).trans (decide_eq_true hk)) ?_
      refine .inl ⟨_, h7A, rfl, fun p hp => ?_⟩
      have n1 := hl7.ns hp
      have n2 := hl7.nc hp
      refine ⟨s, c, p, [0, v, ((ts2.map uT).length : Int) - 1].map U.int, rfl, hl7.mut n1 n2, gup_same, n1, n2, List.cons_ne_nil _ _, (show 3 ≤ 1000 by decide), fun x G8 hx hl8 hf8 => ?_⟩
      obtain ⟨z, hz, rfl⟩ := List.mem_map.mp hx
      have h8A := hf8 _ _ nA1 nA2 (by rw [gup_ne (gne_none h7A hp)]; exact h7A)
      have h8B := hf8 _ _ nB1 nB2 (by rw [gup_ne (gne_none h7B hp)]; exact h7B)
      have hf8' := (hf7.mut (o := .lst ([0, v, ((ts2.map uT).length : Int) - 1].map U.int)) (hf7.free hl7 hp)).trans hf8
      refine ⟨_, h8A, fun q hq2 => ?_⟩
      obtain ⟨k, ek⟩ := cut_any uT ts2 z
      rw [ek]
      have hqG := hf8'.free hl8 hq2
      refine Wk2.of ⟨q, B, ts2.take k, bs0, pl0, ex0, _, _, rfl, (gne_none h8B hq2).symm, hqG, hBG, gup_same, by rw [gup_ne (gne_none h8B hq2)]; exact h8B, fun t h => hok2 t (List.mem_of_mem_take h), by rw [List.length_take]; omega, Nat.le_refl _, hl8.mut (hl8.ns hq2) (hl8.nc hq2), hf8'.mut hqG⟩
    · refine ifF ((cond 7).trans (decide_eq_false hk)) ?_
      exact Wk2.of ⟨A, B, ts2, bs0, pl0, ex0, _, _, rfl, nAB, hAG, hBG, h7A, h7B, hok2, hlen2, Nat.le_refl _, hl7, hf7⟩
  clear hl hf h0A h0B nAB hBG hB hAG hA hl2 f2
  rintro σ' G3' ⟨A, B, ts, bs, pl, ex, z6, z7, rfl, nAB, hAG, hBG, hA, hB, hok, htl, hbl2, hl, hf⟩
  refine ⟨SP s c G kind ts0.length bs0.length, ?_, ?_⟩
  · refine ⟨dat_int _, dat_int _, ?_⟩
    by_cases hk : kind = 0
    · refine ifT ((cond 0).trans (decide_eq_true hk)) ?_
      refine ⟨rfl, fun p hp => ?_⟩
      have n1 := hl.ns hp
      have n2 := hl.nc hp
      refine ⟨s, c, p, [2, 3, 12, 13, 0, -1].map U.int, rfl, hl.mut n1 n2, gup_same, n1, n2, by decide, by decide, fun x G2 hx hl2 hf2 => ?_⟩
      obtain ⟨v, hv, rfl⟩ := List.mem_map.mp hx
      have h2A := hf2 _ _ (hL.ns hAG) (hL.nc hAG) (by rw [gup_ne (gne_none hA hp)]; exact hA)
      have h2B := hf2 _ _ (hL.ns hBG) (hL.nc hBG) (by rw [gup_ne (gne_none hB hp)]; exact hB)
      exact Wk2.of ⟨A, B, ts, bs, v, ex, _, _, rfl, nAB, hAG, hBG, h2A, h2B, hok, htl, hbl2, hl2, (hf.mut (hf.free hl hp)).trans hf2⟩
    · refine ifF ((cond 0).trans (decide_eq_false hk)) ?_
      exact Wk2.of ⟨A, B, ts, bs, pl, ex, _, _, rfl, nAB, hAG, hBG, hA, hB, hok, htl, hbl2, hl, hf⟩
  clear hl hf hA hB nAB hBG hAG hok htl hbl2
  rintro σ' G4' ⟨A, B, ts, bs, pl, ex, z6, z7, rfl, nAB, hAG, hBG, hA, hB, hok, htl, hbl2, hl, hf⟩
  refine ⟨SP s c G kind ts0.length (bs0.length + 1), ?_, ?_⟩
  · refine ⟨dat_int _, dat_int _, ?_⟩
    by_cases hk : kind = 8
    · refine ifT ((cond 8).trans (decide_eq_true hk)) ?_
      refine ⟨_, hB, fun p1 hp1 => ?_⟩
      obtain ⟨k5, ek5⟩ := cut_any uB bs 5
      rw [ek5]
      have e1 : ∀ o, L3.Sub G4' (gup G4' p1 o) := fun o => Sub.new (Sub.refl _) hp1
      have hp1' : gup G4' p1 (.lst ((bs.take k5).map uB)) p1 = some (.lst ((bs.take k5).map uB)) := gup_same
      have hB1 := e1 (.lst ((bs.take k5).map uB)) _ _ hB
      have e1' := e1 (.lst ((bs.take k5).map uB))
      generalize gup G4' p1 (.lst ((bs.take k5).map uB)) = H1 at hp1' hB1 e1' ⊢
      refine ⟨rfl, rfl, cat_lit hB1 (by rw [List.length_map]; show _ + 1 ≤ _; omega) fun p3 H3 hp3 s3 => ?_⟩
      have e3 := Sub.base s3 hp3
      refine ⟨rfl, fun p4 hp4 => ⟨rfl, fun p5 hp5 => ?_⟩⟩
      have e4 : ∀ o, L3.Sub H3 (gup H3 p4 o) := fun o => Sub.new (Sub.refl _) hp4
      have e5 : ∀ o, L3.Sub H3 (gup (gup H3 p4 (.lst [])) p5 o) := fun o => Sub.new (e4 _) ((e4 _).free hp5)
      have E5 : ∀ o, L3.Sub G4' (gup (gup H3 p4 (.lst [])) p5 o) := fun o => e1'.trans (e3.trans (e5 o))
      have f5 : G4' p5 = none := (e1'.trans (e3.trans (e4 _))).free hp5
      have f4 : G4' p4 = none := (e1'.trans e3).free hp4
      have f3 : G4' p3 = none := e1'.free hp3
      have n45 : p4 ≠ p5 := gne_none gup_same hp5
      refine ⟨s, c, p5, _, rfl, hl.sub (E5 _), gup_same, hl.ns f5, hl.nc f5, List.cons_ne_nil _ _, (show 3 ≤ 1000 by decide), fun x G2 hx hl2 hf2 => ?_⟩
      have hf' := (hf.trans (Fr.sub (E5 (.lst [.ref p1, .ref p3, .ref p4])))).trans hf2
      have h2A := hf2 _ _ (hL.ns hAG) (hL.nc hAG) (E5 (.lst [.ref p1, .ref p3, .ref p4]) _ _ hA)
      have fin : ∀ (q : Addr) (bs' : List (Int × Int)), G4' q = none → gup (gup H3 p4 (.lst [])) p5 (.lst [.ref p1, .ref p3, .ref p4]) q = some (.lst (bs'.map uB)) → bs'.length ≤ bs0.length + 1 → Wk2 (SP s c G kind ts0.length (bs0.length + 1)) [some (.ref s), some (.int pl), some (.ref A), some (.ref q), some (.int ex), some (.int kind), z6, z7] G2 := fun q bs' hq2 hg hb => by
        have hqG := hf.free hl hq2
        exact Wk2.of ⟨A, q, ts, bs', pl, ex, _, _, rfl, gne_none hA hq2, hAG, hqG, h2A, hf2 _ _ (hL.ns hqG) (hL.nc hqG) hg, hok, htl, hb, hl2, hf'⟩
      have hx : x ∈ [U.ref p1, U.ref p3, U.ref p4] := hx
      simp only [List.mem_cons, List.not_mem_nil, or_false] at hx
      rcases hx with rfl | rfl | rfl
      · exact fin p1 (bs.take k5) hp1 (e5 _ _ _ (e3 _ _ hp1')) (by rw [List.length_take]; omega)
      · refine fin p3 (bs ++ [(1, 1)]) f3 (e5 _ _ _ ?_) (by rw [List.length_append]; show _ + 1 ≤ _; omega)
        rw [List.map_append]
        exact s3.at
      · exact fin p4 [] f4 (by rw [gup_ne n45]; exact gup_same) (Nat.zero_le _)
    · refine ifF ((cond 8).trans (decide_eq_false hk)) ?_
      exact Wk2.of ⟨A, B, ts, bs, pl, ex, _, _, rfl, nAB, hAG, hBG, hA, hB, hok, htl, by omega, hl, hf⟩
  clear hl hf hA hB nAB hBG hAG hok htl hbl2
  rintro σ' G5' ⟨A, B, ts, bs, pl, ex, z6, z7, rfl, nAB, hAG, hBG, hA, hB, hok, htl, hbl2, hl, hf⟩
  have nA1 := hL.ns hAG
  have nA2 := hL.nc hAG
  have nB1 := hL.ns hBG
  have nB2 := hL.nc hBG
  refine ⟨SP s c G kind ts0.length (bs0.length + 1), ?_, ?_⟩
  · refine ⟨dat_int _, dat_int _, ?_⟩
    by_cases hk : kind = 9
    rotate_left
    · refine ifF ((cond 9).trans (decide_eq_false hk)) ?_
      exact Wk2.of ⟨A, B, ts, bs, pl, ex, _, _, rfl, nAB, hAG, hBG, hA, hB, hok, htl, hbl2, hl, hf⟩
    refine ifT ((cond 9).trans (decide_eq_true hk)) ?_
    refine ⟨rfl, fun p hp => ?_⟩
    have sp2 : L3.Sub G5' (gup G5' p (.lst [])) := Sub.new (Sub.refl _) hp
    refine ⟨_, _, sp2 _ _ hB, gup_same, dat_Bs bs, rfl, ?_⟩
    have h1A := sp2 _ _ hA
    have h1B := sp2 _ _ hB
    have hl1 := hl.sub sp2
    have hf1 := hf.trans (Fr.sub sp2)
    generalize gup G5' p (.lst []) = G6 at h1A h1B hl1 hf1 ⊢
    by_cases hne : bs = []
    · refine ifF (by rw [if_pos rfl, eq_nil, hne]; rfl) ?_
      exact Wk2.of ⟨A, B, ts, bs, pl, ex, _, _, rfl, nAB, hAG, hBG, h1A, h1B, hok, htl, hbl2, hl1, hf1⟩
    refine ifT (by
      rw [if_pos rfl, eq_nil]
      cases bs with
      | nil => exact absurd rfl hne
      | cons a r => rfl) ?_
    have hpos : 0 < bs.length := List.length_pos_iff.mpr hne
    refine .inl ⟨_, h1B, ?_⟩
    refine ⟨s, c, _, rfl, hl1, by rw [List.length_map]; omega, by rw [List.length_map]; omega, fun v G7 v0 v1 hl7 hf7 => ?_⟩
    rw [List.length_map] at v1
    have h7A := hf7 _ _ nA1 nA2 h1A
    have h7B := hf7 _ _ nB1 nB2 h1B
    have ht : bs[v.toNat]? = some (bs[v.toNat]'(by omega)) := List.getElem?_eq_getElem (by omega)
    generalize bs[v.toNat]'(by omega) = b at ht
    have hat : L2.atI (bs.map uB) v = some (uB b) := atI_eq (i := v.toNat) (by omega) (by rw [List.getElem?_map, ht]; rfl)
    refine ⟨_, uB b, h7B, hat, .int b.1, rfl, rfl, fun q hq2 => ?_⟩
    have n1 := hl7.ns hq2
    have n2 := hl7.nc hq2
    refine ⟨s, c, q, [0, 1, 9, 10, b.1].map U.int, rfl, hl7.mut n1 n2, gup_same, n1, n2, List.cons_ne_nil _ _, (show 5 ≤ 1000 by decide), fun x G8 hx hl8 hf8 => ?_⟩
    obtain ⟨bz, hz, rfl⟩ := List.mem_map.mp hx
    have f7 := hf1.trans hf7
    have f8 := (f7.mut (o := .lst ([0, 1, 9, 10, b.1].map U.int)) (f7.free hl7 hq2)).trans hf8
    have h8A := hf8 _ _ nA1 nA2 (by rw [gup_ne (gne_none h7A hq2)]; exact h7A)
    have h8B := hf8 _ _ nB1 nB2 (by rw [gup_ne (gne_none h7B hq2)]; exact h7B)
    refine ⟨rfl, fun r hr2 => ?_⟩
    have n3 := hl8.ns hr2
    have n4 := hl8.nc hr2
    refine ⟨s, c, r, [bz - 1, bz, 20, 21].map U.int, rfl, hl8.mut n3 n4, gup_same, n3, n4, List.cons_ne_nil _ _, (show 4 ≤ 1000 by decide), fun x G9 hx hl9 hf9 => ?_⟩
    obtain ⟨wz, hz2, rfl⟩ := List.mem_map.mp hx
    have f9 := (f8.mut (o := .lst ([bz - 1, bz, 20, 21].map U.int)) (f8.free hl8 hr2)).trans hf9
    have h9A := hf9 _ _ nA1 nA2 (by rw [gup_ne (gne_none h8A hr2)]; exact h8A)
    have h9B := hf9 _ _ nB1 nB2 (by rw [gup_ne (gne_none h8B hr2)]; exact h8B)
    refine ⟨rfl, _, v.toNat, h9B, by rw [List.length_map]; exact ixN_nat v0 v1, ?_⟩
    have es : (bs.map uB).set v.toNat (.tup [.int bz, .int wz]) = (bs.set v.toNat (bz, wz)).map uB := (List.map_set (f := uB) (a := (bz, wz))).symm
    rw [es]
    exact Wk2.of ⟨A, B, ts, bs.set v.toNat (bz, wz), pl, ex, _, _, rfl, nAB, hAG, hBG, by rw [gup_ne nAB]; exact h9A, gup_same, hok, htl, by rw [List.length_set]; exact hbl2, hl9.mut nB1 nB2, f9.mut hBG⟩
  clear hl hf hA hB nAB hBG hAG hok htl hbl2 nA1 nA2 nB1 nB2
  rintro σ' G6' ⟨A, B, ts, bs, pl, ex, z6, z7, rfl, nAB, hAG, hBG, hA, hB, hok, htl, hbl2, hl, hf⟩
  refine ⟨SP s c G kind ts0.length (bs0.length + 1), ?_, ?_⟩
  · by_cases hk : 9 < kind
    rotate_left
    · refine ifF (decide_eq_false hk) ?_
      exact Wk2.of ⟨A, B, ts, bs, pl, ex, _, _, rfl, nAB, hAG, hBG, hA, hB, hok, htl, hbl2, hl, hf⟩
    refine ifT (decide_eq_true hk) ?_
    refine ⟨dat_int _, dat_int _, ?_⟩
    by_cases h10 : kind = 10
    · refine ifT ((cond 10).trans (decide_eq_true h10)) ?_
      refine ⟨rfl, fun p hp => ?_⟩
      have n1 := hl.ns hp
      have n2 := hl.nc hp
      refine ⟨s, c, p, [0, 1, 2, -1].map U.int, rfl, hl.mut n1 n2, gup_same, n1, n2, by decide, by decide, fun x G2 hx hl2 hf2 => ?_⟩
      obtain ⟨v, hv, rfl⟩ := List.mem_map.mp hx
      have h2A := hf2 _ _ (hL.ns hAG) (hL.nc hAG) (by rw [gup_ne (gne_none hA hp)]; exact hA)
      have h2B := hf2 _ _ (hL.ns hBG) (hL.nc hBG) (by rw [gup_ne (gne_none hB hp)]; exact hB)
      refine ⟨dat_int _, dat_int _, ?_⟩
      have h11 : ¬ kind = 11 := by omega
      refine ifF ((cond 11).trans (decide_eq_false h11)) ?_
      exact Wk2.of ⟨A, B, ts, bs, pl, v, _, _, rfl, nAB, hAG, hBG, h2A, h2B, hok, htl, hbl2, hl2, (hf.mut (hf.free hl hp)).trans hf2⟩
    · refine ifF ((cond 10).trans (decide_eq_false h10)) ?_
      refine ⟨dat_int _, dat_int _, ?_⟩
      by_cases h11 : kind = 11
      · refine ifT ((cond 11).trans (decide_eq_true h11)) ?_
        exact Wk2.of ⟨A, B, ts, bs, 3, 0, _, _, rfl, nAB, hAG, hBG, hA, hB, hok, htl, hbl2, hl, hf⟩
      · refine ifF ((cond 11).trans (decide_eq_false h11)) ?_
        exact Wk2.of ⟨A, B, ts, bs, pl, 0, _, _, rfl, nAB, hAG, hBG, hA, hB, hok, htl, hbl2, hl, hf⟩
  clear hl hf hA hB nAB hBG hAG hok htl hbl2
  rintro σ' G7' ⟨A, B, ts, bs, pl, ex, z6, z7, rfl, nAB, hAG, hBG, hA, hB, hok, htl, hbl2, hl, hf⟩
  exact ⟨_, hA, _, hB, rfl, Wk.of (hq pl ex ts bs G7' hok htl hbl2 hl hf)⟩
end
end K20
end
section
set_option Elab.async false
set_option linter.all false
set_option maxRecDepth 100000
set_option maxHeartbeats 2000000
namespace K20
open PySem L2 L3
section
variable {P : Program} {w : World} {K : PySem.W.Frag} {mg : Str → Option Value} {base : Heap}
abbrev s_law_right : Stmt := topS 55
abbrev law_right_N : List Str := ["pool", "tiles", "more", "k", "busy", "wait", "basic", "exchange", "places"]
theorem sc_law_right : FnScope law_right_N ["pool"] (defScope s_law_right) := ⟨rfl, rfl, rfl, by decide +kernel, rfl, by decide +kernel, by decide +kernel⟩
abbrev s_law_plain : Stmt := topS 56
abbrev law_plain_N : List Str := ["places", "wait", "tiles", "op", "pattern", "j", "k"]
theorem sc_law_plain : FnScope law_plain_N ["places", "wait"] (defScope s_law_plain) := ⟨rfl, rfl, rfl, by decide +kernel, rfl, by decide +kernel, by decide +kernel⟩
def spRight : Sp3 := fun ws G Q _ => ∃ (s c : Addr), ws = [.ref s] ∧ Law s c G ∧
  ∀ (pl ex : Int) (ts : List Tile) (bs : List (Int × Int)) (G' : G3), (∀ t ∈ ts, OkT t) → ts.length ≤ 60 → bs.length ≤ 6 → Law s c G' → Fr s c G G' → Q (.tup [.int pl, .tup (ts.map uT), .tup (bs.map uB), .int ex]) G'
theorem ok_right {f f1 f2 f3 : Addr} {fd fd1 fd2 fd3 : FuncData} (F : Fun K "_law_right" "_law_right" s_law_right f fd) (T : Tg mg) (O_law_take : Own P w K mg base 1 "_law_take" ["pool", "m"] spTake f1 fd1) (O_law_tiles : Own P w K mg base 2 "_law_tiles" ["pool", "more"] spTiles f2 fd2) (O_law_further : Own P w K mg base 10 "_law_further" ["pool"] spFu f3 fd3) : FnOk P w K mg base CX0 11 f fd ["pool"] (lowSp K spRight) := by
  refine Fun_ok3 F sc_law_right (fun ws G Q E h => by obtain ⟨_, _, rfl, _⟩ := h; rfl) (fun cdv A outer s H E ws G Q E3 hr h => ?_)
  have hr_law_take : Room 1 _ := hr.mono (by decide)
  have hr_law_tiles : Room 2 _ := hr.mono (by decide)
  have hr_law_further : Room 10 _ := hr
  have hu64 := hr.units
  obtain ⟨s, c, rfl, hL, hq⟩ := h
  refine ⟨_, (ss_cons (s_set (i := 1) sc_law_right.nd (e3T k_list T.list (a3cons (e3call O_law_tiles.G hr_law_tiles O_law_tiles.g O_law_tiles.kp O_law_tiles.b pass0 (a3cons (e3v 0) (a3cons (e3call O_law_take.G hr_law_take O_law_take.g O_law_take.kp O_law_take.b pass0 (a3cons (e3v 0) (a3cons e3int a3nil))) a3nil))) a3nil)))
      (ss_cons (s_set (i := 2) sc_law_right.nd (e3call O_law_take.G hr_law_take O_law_take.g O_law_take.kp O_law_take.b pass0 (a3cons (e3v 0) (a3cons e3int a3nil))))
      (ss_cut (s_if (t3cmp (o_eq hu64) (e3call O_law_take.G hr_law_take O_law_take.g O_law_take.kp O_law_take.b pass0 (a3cons (e3v 0) (a3cons e3int a3nil))) e3int)
      (ss_one (s_set (i := 2) sc_law_right.nd (e3op o_add (e3op o_sub e3int (e3B k_len T.len (a3cons (e3v 1) a3nil))) (e3call O_law_take.G hr_law_take O_law_take.g O_law_take.kp O_law_take.b pass0 (a3cons (e3v 0) (a3cons e3int a3nil))))))
      ss_nil)
      (ss_cons (s_for PassesOwn.never rfl (i_range1 T.range (e3v 2)) (pg_name (i := 3) sc_law_right.nd rfl (by first | exact Or.inl rfl | exact Or.inr rfl)) gl_name
      (ss_cons (s_set (i := 4) sc_law_right.nd (e3op o_add e3int (e3call O_law_take.G hr_law_take O_law_take.g O_law_take.kp O_law_take.b pass0 (a3cons (e3v 0) (a3cons e3int a3nil)))))
        (ss_cons (s_set (i := 5) sc_law_right.nd (e3op o_add (e3v 4) (e3call O_law_take.G hr_law_take O_law_take.g O_law_take.kp O_law_take.b pass0 (a3cons (e3v 0) (a3cons (e3op o_sub e3int (e3v 4)) a3nil)))))
        (ss_one (s_expr (e3bmL PySem.F.slot_list_append PySem.F.type_list_append m_append (e3v 1) (a3cons (e3tup (a3cons (e3op o_addS e3str (e3T k_str T.str (a3cons (e3v 3) a3nil))) (a3cons (e3call O_law_further.G hr_law_further O_law_further.g O_law_further.kp O_law_further.b pass0 (a3cons (e3v 0) a3nil)) (a3cons (e3v 4) (a3cons (e3v 5) a3nil))))) a3nil)))))))
      (ss_cons (s_set (i := 6) sc_law_right.nd (e3lst a3nil))
      (ss_cons (s_for PassesOwn.never rfl (i_range1 T.range e3int) (pg_name (i := 3) sc_law_right.nd rfl (by first | exact Or.inl rfl | exact Or.inr rfl)) gl_name
      (ss_cons (s_set (i := 4) sc_law_right.nd (e3op o_add e3int (e3call O_law_take.G hr_law_take O_law_take.g O_law_take.kp O_law_take.b pass0 (a3cons (e3v 0) (a3cons e3int a3nil)))))
        (ss_one (s_expr (e3bmL PySem.F.slot_list_append PySem.F.type_list_append m_append (e3v 6) (a3cons (e3tup (a3cons (e3v 4) (a3cons (e3op o_add (e3v 4) (e3call O_law_take.G hr_law_take O_law_take.g O_law_take.kp O_law_take.b pass0 (a3cons (e3v 0) (a3cons (e3op o_sub e3int (e3v 4)) a3nil)))) a3nil))) a3nil))))))
      (ss_cons (s_set (i := 7) sc_law_right.nd (e3T k_int T.int (a3cons (e3cmp o_gt (e3call O_law_take.G hr_law_take O_law_take.g O_law_take.kp O_law_take.b pass0 (a3cons (e3v 0) (a3cons e3int a3nil))) e3int) a3nil)))
      (ss_cons (s_set (i := 8) sc_law_right.nd (e3op o_sub e3int (e3call O_law_take.G hr_law_take O_law_take.g O_law_take.kp O_law_take.b pass0 (a3cons (e3v 0) (a3cons (e3op o_add e3int (e3v 7)) a3nil)))))
      (ss_one (s_ret (e3tup (a3cons (e3v 8) (a3cons (e3T k_tuple T.tuple (a3cons (e3v 1) a3nil)) (a3cons (e3T k_tuple T.tuple (a3cons (e3v 6) a3nil)) (a3cons (e3v 7) a3nil))))))))))))))), ?_⟩
  refine ⟨s, c, 6, rfl, hL, by decide, by decide, fun m G1 m0 m1 hl1 f1 => ?_⟩
  refine ⟨s, c, m.toNat, by rw [Int.toNat_of_nonneg m0], hl1, by omega, fun ts G2 htl hok hl2 f2 => ?_⟩
  intro A hA
  have fr2 := f1.trans f2
  have hAG := fr2.free hl2 hA
  have nA1 := hL.ns hAG
  have nA2 := hL.nc hAG
  have h3A : gup G2 A (.lst (ts.map uT)) A = some (.lst (ts.map uT)) := gup_same
  have hl3 := hl2.mut (o := .lst (ts.map uT)) nA1 nA2
  have f3 := fr2.mut (o := .lst (ts.map uT)) hAG
  generalize gup G2 A (.lst (ts.map uT)) = G3' at h3A hl3 f3 ⊢
  refine ⟨s, c, 4, rfl, hl3, by decide, by decide, fun more G4 r0 r1 hl4 hf4 => ?_⟩
  have h4A := hf4 _ _ nA1 nA2 h3A
  refine ⟨fun σ' G' => ∃ r, 0 ≤ r ∧ r ≤ 30 ∧ σ' = [some (.ref s), some (.ref A), some (.int r), none, none, none, none, none, none] ∧ G' A = some (.lst (ts.map uT)) ∧ Law s c G' ∧ Fr s c G G', ?_, ?_⟩
  · refine ⟨s, c, 8, rfl, hl4, by decide, by decide, fun d G5 d0 d1 hl5 hf5 => ?_⟩
    have h5A := hf5 _ _ nA1 nA2 h4A
    have f5 := (f3.trans hf4).trans hf5
    refine ⟨dat_int _, dat_int _, ?_⟩
    by_cases hd : d = 0
    · refine ifT (by rw [if_neg Bool.false_ne_true, eq3_int, hd]; rfl) ?_
      refine .inl ⟨_, h5A, ?_⟩
      refine ⟨s, c, 3, rfl, hl5, by decide, by decide, fun e G6 e0 e1 hl6 hf6 => ?_⟩
      exact Wk2.of ⟨39 - ((ts.map uT).length : Nat) + e, by rw [List.length_map]; omega, by rw [List.length_map]; omega, rfl, hf6 _ _ nA1 nA2 h5A, hl6, f5.trans hf6⟩
    · refine ifF (by rw [if_neg Bool.false_ne_true, eq3_int]; simpa using hd) ?_
      exact Wk2.of ⟨more, r0, by omega, rfl, h5A, hl5, f5⟩
  rintro σ' G5 ⟨r, r0, r1, rfl, h5A, hl5, f5⟩
  try dsimp only [seq3, asg3, n3, v3, drop3, ret3, next3, List.set_cons_zero, List.set_cons_succ, List.getElem?_cons_zero, List.getElem?_cons_succ, start3, List.map_cons, List.map_nil, List.length_cons, List.length_nil, List.replicate, List.cons_append, List.nil_append, Nat.reduceSub, Nat.reduceAdd]
  refine for_of ?_
  refine ⟨decide_eq_true (by omega), ?_⟩
  refine forK_of r.toNat (by rw [rgU_len]) (fun i σ G' => ∃ z3 z4 z5 ts, σ = [some (.ref s), some (.ref A), some (.int r), z3, z4, z5, none, none, none] ∧ G' A = some (.lst (ts.map uT)) ∧ (∀ t ∈ ts, OkT t) ∧ ts.length ≤ 21 + i ∧ Law s c G' ∧ Fr s c G G') ⟨_, _, _, ts, rfl, h5A, hok, by omega, hl5, f5⟩ (fun _ _ _ _ _ => trivial) ?_ ?_
  · rintro i y σ' G' hi hy ⟨z3, z4, z5, ts, rfl, hA', hok, htl, hl, hf⟩
    have hy' : y = .int ((i : Nat) : Int) := by
      rw [rgU_get (by exact hi)] at hy
      cases hy
      rw [Int.zero_add]
    subst hy'
    refine ⟨s, c, 9, rfl, hl, by decide, by decide, fun b G6 b0 b1 hl6 hf6 => ?_⟩
    have h6A := hf6 _ _ nA1 nA2 hA'
    refine ⟨s, c, _, rfl, hl6, by omega, by omega, fun e G7 e0 e1 hl7 hf7 => ?_⟩
    have h7A := hf7 _ _ nA1 nA2 h6A
    obtain ⟨w1, w2⟩ := word_ok i (by omega) "y" (by decide +kernel)
    refine ⟨⟨_, h7A⟩, log_small (by omega), decide_eq_true (add_le w2), ?_⟩
    refine ⟨s, c, rfl, hl7, fun p G8 hwp hl8 hf8 => ?_⟩
    have h8A := hf8 _ _ nA1 nA2 h7A
    refine ⟨rfl, _, h8A, decide_eq_true (by rw [List.length_map]; omega), ?_⟩
    refine Wk2.of ⟨_, _, _, ts ++ [⟨("y" : Str) ++ Str.ofString (toString ((i : Nat) : Int)), p, 1 + b, 1 + b + e⟩], rfl, ?_, ?_, by rw [List.length_append]; show _ + 1 ≤ _; omega, hl8.mut nA1 nA2, (((hf.trans hf6).trans hf7).trans hf8).mut hAG⟩
    · rw [List.map_append, gup_same]
      rfl
    · intro t ht
      rcases List.mem_append.mp ht with ht | ht
      · exact hok t ht
      · rw [List.mem_singleton.mp ht]
        exact ⟨w1, w2, hwp⟩
  rintro σ' G6 ⟨z3, z4, z5, ts, rfl, h6A, hok, htl, hl6, f6⟩
  refine ⟨rfl, fun B hB => ?_⟩
  have hBG := f6.free hl6 hB
  have nB1 := hL.ns hBG
  have nB2 := hL.nc hBG
  have nAB : A ≠ B := gne_none h6A hB
  have h7A : gup G6 B (.lst []) A = some (.lst (ts.map uT)) := by rw [gup_ne nAB]; exact h6A
  have h7B : gup G6 B (.lst []) B = some (.lst (([] : List (Int × Int)).map uB)) := gup_same
  have hl7 := hl6.mut (o := .lst []) nB1 nB2
  have f7 := f6.mut (o := .lst []) hBG
  generalize gup G6 B (.lst []) = G7 at h7A h7B hl7 f7 ⊢
  try dsimp only [seq3, asg3, n3, v3, drop3, ret3, next3, List.set_cons_zero, List.set_cons_succ, List.getElem?_cons_zero, List.getElem?_cons_succ, start3, List.map_cons, List.map_nil, List.length_cons, List.length_nil, List.replicate, List.cons_append, List.nil_append, Nat.reduceSub, Nat.reduceAdd]
  refine for_of ?_
  refine ⟨rfl, ?_⟩
  refine forK_of 6 (by rw [rgU_len]; rfl) (fun i σ G' => ∃ z3 z4 z5 bs, σ = [some (.ref s), some (.ref A), some (.int r), z3, z4, z5, some (.ref B), none, none] ∧ G' A = some (.lst (ts.map uT)) ∧ G' B = some (.lst (bs.map uB)) ∧ bs.length ≤ i ∧ Law s c G' ∧ Fr s c G G') ⟨_, _, _, [], rfl, h7A, h7B, Nat.le_refl _, hl7, f7⟩ (fun _ _ _ _ _ => trivial) ?_ ?_
  · rintro i y σ' G' hi hy ⟨z3, z4, z5, bs, rfl, hA', hB', hbl, hl, hf⟩
    refine ⟨s, c, 9, rfl, hl, by decide, by decide, fun b G8 b0 b1 hl8 hf8 => ?_⟩
    have h8A := hf8 _ _ nA1 nA2 hA'
    have h8B := hf8 _ _ nB1 nB2 hB'
    refine ⟨⟨_, h8B⟩, s, c, _, rfl, hl8, by omega, by omega, fun e G9 e0 e1 hl9 hf9 => ?_⟩
    have h9A := hf9 _ _ nA1 nA2 h8A
    have h9B := hf9 _ _ nB1 nB2 h8B
    refine ⟨rfl, _, h9B, decide_eq_true (by rw [List.length_map]; omega), ?_⟩
    refine Wk2.of ⟨_, _, _, bs ++ [(1 + b, 1 + b + e)], rfl, by rw [gup_ne nAB]; exact h9A, ?_, by rw [List.length_append]; show _ + 1 ≤ _; omega, hl9.mut nB1 nB2, ((hf.trans hf8).trans hf9).mut hBG⟩
    rw [List.map_append, gup_same]
    rfl
  rintro σ' G8 ⟨z3, z4, z5, bs, rfl, h8A, h8B, hbl, hl8, f8⟩
  refine ⟨s, c, 4, rfl, hl8, by decide, by decide, fun e G9 e0 e1 hl9 hf9 => ?_⟩
  have h9A := hf9 _ _ nA1 nA2 h8A
  have h9B := hf9 _ _ nB1 nB2 h8B
  have hx : (0 : Int) ≤ (if decide (0 < e) = true then 1 else 0) ∧ (if decide (0 < e) = true then (1 : Int) else 0) ≤ 1 := by
    split <;> decide
  refine ⟨s, c, _, rfl, hl9, by omega, by omega, fun d G10 d0 d1 hl10 hf10 => ?_⟩
  have h10A := hf10 _ _ nA1 nA2 h9A
  have h10B := hf10 _ _ nB1 nB2 h9B
  exact ⟨_, h10A, _, h10B, rfl, Wk.of (hq _ _ ts bs G10 hok (by omega) hbl hl10 ((f8.trans hf9).trans hf10))⟩
def spLPl : Sp3 := fun ws G Q _ => ∃ (pl wt : Int), ws = [.int pl, .int wt] ∧ Q (.tup [.int pl, .tup ((plainTs wt).map uT), .tup (ones.map uB), .int 1]) G
theorem plainTs_law (wt : Int) : plainTs wt = (⟨"const", .l 0 4294967295, 1, wt⟩ : Tile) :: opsL.map fun op => ⟨op, plainO op, 1, wt⟩ := by
  have e : opsAll = ("const" : Str) :: opsL := by decide +kernel
  unfold plainTs
  rw [e, List.map_cons]
  congr 1
theorem ok_lpl {f f1 f2 : Addr} {fd fd1 fd2 : FuncData} (F : Fun K "_law_plain" "_law_plain" s_law_plain f fd) (T : Tg mg) (O_law_ops : Own P w K mg base 1 "_law_ops" [] spOps f1 fd1) (O_law_count : Own P w K mg base 1 "_law_count" ["op"] spCount f2 fd2) : FnOk P w K mg base CX0 2 f fd ["places", "wait"] (lowSp K spLPl) := by
  refine Fun_ok3 F sc_law_plain (fun ws G Q E h => by obtain ⟨_, _, rfl, _⟩ := h; rfl) (fun cdv A outer s H E ws G Q E3 hr h => ?_)
  have hr_law_ops : Room 1 _ := hr
  have hr_law_count : Room 1 _ := hr
  obtain ⟨pl, wt, rfl, hq⟩ := h
  refine ⟨_, (ss_cons (s_set (i := 2) sc_law_plain.nd (e3lst (a3cons (e3tup (a3cons e3str (a3cons (e3tup (a3cons e3str (a3cons e3int (a3cons e3int a3nil)))) (a3cons e3int (a3cons (e3v 1) a3nil))))) a3nil)))
      (ss_cons (s_for PassesOwn.never rfl (i_list (e3call0 O_law_ops.G hr_law_ops O_law_ops.g O_law_ops.kp O_law_ops.b pass0)) (pg_name (i := 3) sc_law_plain.nd rfl (by first | exact Or.inl rfl | exact Or.inr rfl)) gl_name
      (ss_cons (s_set (i := 4) sc_law_plain.nd (e3T k_tuple T.tuple (a3cons (e3op o_cat (e3lst (a3cons (e3v 3) a3nil)) (e3lc (own := [("j", 5)]) rfl sc_law_plain.nd (i_range1 T.range (e3call O_law_count.G hr_law_count O_law_count.g O_law_count.kp O_law_count.b pass0 (a3cons (e3v 3) a3nil))) (blkOk_by (N := law_plain_N) (sc := defScope s_law_plain) (by decide +kernel)) (gl_own (by decide)) (fun _ _ _ _ _ => (pg_name (i := 5) sc_law_plain.nd rfl (by first | exact Or.inl rfl | exact Or.inr rfl))) (fun _ _ _ _ _ => ts3nil) (fun _ _ _ _ _ => e3str))) a3nil)))
        (ss_one (s_expr (e3bmL PySem.F.slot_list_append PySem.F.type_list_append m_append (e3v 2) (a3cons (e3tup (a3cons (e3v 3) (a3cons (e3v 4) (a3cons e3int (a3cons (e3v 1) a3nil))))) a3nil))))))
      (ss_one (s_ret (e3tup (a3cons (e3v 0) (a3cons (e3T k_tuple T.tuple (a3cons (e3v 2) a3nil)) (a3cons (e3T k_tuple T.tuple (a3cons (e3lc (own := [("k", 6)]) rfl sc_law_plain.nd (i_range1 T.range e3int) (blkOk_by (N := law_plain_N) (sc := defScope s_law_plain) (by decide +kernel)) (gl_own (by decide)) (fun _ _ _ _ _ => (pg_name (i := 6) sc_law_plain.nd rfl (by first | exact Or.inl rfl | exact Or.inr rfl))) (fun _ _ _ _ _ => ts3nil) (fun _ _ _ _ _ => (e3tup (a3cons e3int (a3cons e3int a3nil))))) a3nil)) (a3cons e3int a3nil))))))))), ?_⟩
  refine ⟨rfl, rfl, rfl, fun L hL => ?_⟩
  try dsimp only [seq3, asg3, n3, v3, drop3, ret3, next3, List.set_cons_zero, List.set_cons_succ, List.getElem?_cons_zero, List.getElem?_cons_succ, start3, List.map_cons, List.map_nil, List.length_cons, List.length_nil, List.replicate, List.cons_append, List.nil_append, Nat.reduceSub, Nat.reduceAdd]
  refine for_of ?_
  refine ⟨rfl, fun O hO => ⟨_, gup_same, ?_⟩⟩
  let t0 : Tile := ⟨"const", .l 0 4294967295, 1, wt⟩
  let mk : Str → Tile := fun op => ⟨op, plainO op, 1, wt⟩
  have nLO : L ≠ O := gne_none gup_same hO
  have sO : ∀ o1 o2, L3.Sub (gup G L o1) (gup (gup G L o1) O o2) := fun o1 o2 => Sub.new (Sub.refl _) (by rw [gup_ne nLO.symm] at hO ⊢; exact hO)
  refine forK_of 15 rfl (fun i σ G' => ∃ z3 z4, σ = [some (.int pl), some (.int wt), some (.ref L), z3, z4, none, none] ∧ G' O = some (.lst (opsL.map U.str)) ∧ L3.Sub (gup G L (.lst ((t0 :: (opsL.take i).map mk).map uT))) G') ⟨_, _, rfl, gup_same, sO _ _⟩ (fun i σ' G' _ h => by obtain ⟨_, _, _, h, _⟩ := h; exact h) ?_ ?_
  · rintro i y σ' G' hi hy ⟨z3, z4, rfl, hO', hs⟩
    have ho : opsL[i]? = some (opsL[i]'hi) := List.getElem?_eq_getElem hi
    have tk : opsL.take (i + 1) = opsL.take i ++ [opsL[i]'hi] := take_s ho
    generalize opsL[i]'hi = op at ho tk
    have hy' : y = .str op := by
      have hy : (opsL.map U.str)[i]? = some y := hy
      rw [List.getElem?_map, ho] at hy
      cases hy; rfl
    subst hy'
    dsimp only [n3, seq3, asg3, List.set_cons_zero, List.set_cons_succ]
    refine pat_of rfl fun G4 s4 => ?_
    have h4 := s4 _ _ hs.at
    refine ⟨⟨_, h4⟩, rfl, _, h4, decide_eq_true (by rw [List.length_map, List.length_cons, List.length_map, List.length_take]; show min i 15 + 1 ≤ _; omega), ?_⟩
    refine Wk2.of ⟨_, _, rfl, by rw [gup_ne nLO.symm]; exact s4 _ _ hO', ?_⟩
    have e : (t0 :: (opsL.take (i + 1)).map mk).map uT = (t0 :: (opsL.take i).map mk).map uT ++ [uT (mk op)] := by
      rw [tk, List.map_append, List.map_cons, List.map_cons, List.map_append]
      rfl
    rw [e]
    exact (hs.trans s4).mut
  rintro σ' G' ⟨z3, z4, rfl, hO', hs⟩
  have hs0 := Sub.base hs hL
  refine ⟨_, hs.at, ?_⟩
  have et : (t0 :: (opsL.take 15).map mk) = plainTs wt := by
    rw [plainTs_law, List.take_of_length_le (by decide)]
  rw [et]
  dsimp only [cons3, cb3]
  refine lc_of ?_
  refine ⟨rfl, ?_⟩
  refine lcK_of (List.range 6) (fun j => U.int (0 + (j : Nat))) (fun _ => true) (fun _ => ((1, 1) : Int × Int)) uB (fun _ _ => trivial) (by decide) (fun y hy G' hs Y N hy' hn => ⟨rfl, hy' rfl _ (Sub.refl _)⟩) fun L2' hL2 => ?_
  refine ⟨_, gup_same, rfl, ?_⟩
  exact Wk.sub hq (Sub.new hs0 (hs0.free hL2))
end
end K20
end
section
set_option Elab.async false
set_option linter.all false
set_option maxRecDepth 100000
set_option maxHeartbeats 2000000
namespace K20
open PySem L2 L3
def uGood (pl : Int) (ts : List Tile) (bs : List (Int × Int)) (ex : Int) : U := .tup [.tup [.int pl, .tup (ts.map uT), .tup (bs.map uB), .int ex], .tup [.int pl, .tup (ts.map uT), .tup (bs.map uB), .int ex, .int (usab pl ex)]]
def uBad (f : Flt) : U := .tup [.str "BadMachine", .str f.1, .int f.2.1, .str f.2.2, .bl true]
def uDue (pl : Int) (ts : List Tile) (bs : List (Int × Int)) (ex : Int) : U := match faultM pl ts bs ex with
  | none => uGood pl ts bs ex
  | some f => uBad f
/-- what the class BadMachine is to the others -/
structure ExM (K : PySem.W.Frag) (mg : Str → Option Value) (C CL CU : Addr) : Prop where
  exc : ExcC K C
  exm : PySem.W.exmOne K (.ref C) (.ref C) = some true
  kL : PySem.W.kitOne K (.ref C) (.ref CL) = some true
  kU : PySem.W.kitOne K (.ref C) (.ref CU) = some false
  xf : XfC K C
  nP : PySem.W.findIn K (.ref C) "part" = some none
  nA : PySem.W.findIn K (.ref C) "at" = some none
  nW : PySem.W.findIn K (.ref C) "why" = some none
  gC : mg "BadMachine" = some (.ref C)
  gL : mg "LiveError" = some (.ref CL)
  gU : mg "BadUnit" = some (.ref CU)
theorem firstF_ok {g : Nat → Str} (h : ∀ i, PySem.PyData.strOk (g i) = true) {n i : Nat} {y : Str} (e : firstF g n = some (i, y)) : PySem.PyData.strOk y = true := by
  unfold firstF at e
  cases e2 : (List.range n).find? fun i => decide (g i ≠ "") with
  | none => rw [e2] at e; cases e
  | some j => rw [e2] at e; cases e; exact h _
theorem fault_ok {pl ex : Int} {ts : List Tile} {bs : List (Int × Int)} {f : Flt} (e : faultM pl ts bs ex = some f) : PySem.PyData.strOk f.1 = true ∧ PySem.PyData.strOk f.2.2 = true := by
  have k : PySem.PyData.strOk "places" = true ∧ PySem.PyData.strOk "range" = true ∧ PySem.PyData.strOk "tiles" = true ∧ PySem.PyData.strOk "lacks" = true ∧ PySem.PyData.strOk "basic" = true ∧ PySem.PyData.strOk "count" = true ∧ PySem.PyData.strOk "exchange" = true ∧ PySem.PyData.strOk "flag" = true ∧ PySem.PyData.strOk "spare" = true := by decide +kernel
  obtain ⟨k1, k2, k3, k4, k5, k6, k7, k8, k9⟩ := k
  have hb : ∀ i, PySem.PyData.strOk (basicF bs i) = true := fun i => by
    unfold basicF
    split
    · decide +kernel
    · exact (timing_ok _ _).1
  unfold faultM at e
  split at e
  · cases e; exact ⟨k1, k2⟩
  · split at e
    · rename_i i y h
      cases e
      exact ⟨k3, firstF_ok (fun i => (tfault_ok ts i).1) h⟩
    · split at e
      · cases e; exact ⟨k3, k4⟩
      · split at e
        · cases e; exact ⟨k5, k6⟩
        · split at e
          · rename_i i y h
            cases e
            exact ⟨k5, firstF_ok hb h⟩
          · split at e
            · cases e; exact ⟨k7, k8⟩
            · split at e
              · cases e; exact ⟨k1, k9⟩
              · cases e
theorem dat_F (f : Option Flt) (h : ∀ g, f = some g → PySem.PyData.strOk g.1 = true ∧ PySem.PyData.strOk g.2.2 = true) : dat (uF f) = true := by
  cases f with
  | none => rfl
  | some g =>
    obtain ⟨h1, h2⟩ := h g rfl
    obtain ⟨p, i, y⟩ := g
    have h1 : PySem.PyData.strOk p = true := h1
    have h2 : PySem.PyData.strOk y = true := h2
    refine dat_of rfl ?_ (by show max 0 (max 0 (max 0 0)) + 1 ≤ 64; decide)
    show (PySem.PyData.strOk p && ((PyData.int i).canLay0 && (PySem.PyData.strOk y && true))) = true
    rw [h1, h2]
    rfl
section
variable {P : Program} {w : World} {K : PySem.W.Frag} {mg : Str → Option Value} {base : Heap}
abbrev s_law_shown : Stmt := topS 47
abbrev law_shown_N : List Str := ["told", "lists"]
theorem sc_law_shown : FnScope law_shown_N ["told"] (defScope s_law_shown) := ⟨rfl, rfl, rfl, by decide +kernel, rfl, by decide +kernel, by decide +kernel⟩
abbrev s_law_said : Stmt := topS 48
abbrev law_said_N : List Str := ["places", "tiles", "basic", "exchange", "told", "e", "alone"]
theorem sc_law_said : FnScope law_said_N ["places", "tiles", "basic", "exchange"] (defScope s_law_said) := ⟨rfl, rfl, rfl, by decide +kernel, rfl, by decide +kernel, by decide +kernel⟩
abbrev s_law_said_plain : Stmt := topS 49
abbrev law_said_plain_N : List Str := ["places", "wait", "told", "e", "alone"]
theorem sc_law_said_plain : FnScope law_said_plain_N ["places", "wait"] (defScope s_law_said_plain) := ⟨rfl, rfl, rfl, by decide +kernel, rfl, by decide +kernel, by decide +kernel⟩
abbrev s_law_due : Stmt := topS 50
abbrev law_due_N : List Str := ["places", "tiles", "basic", "exchange", "fault", "parts"]
theorem sc_law_due : FnScope law_due_N ["places", "tiles", "basic", "exchange"] (defScope s_law_due) := ⟨rfl, rfl, rfl, by decide +kernel, rfl, by decide +kernel, by decide +kernel⟩
def spShown (CM : Addr) : Sp3 := fun ws G Q _ => ∃ (a dx : Addr) (ts : List Tile) (pl ex : Int) (bs : List (Int × Int)) (nums : U), ws = [.ref a] ∧ G a = some (.ins CM dx (fieldsOf pl ts bs ex nums)) ∧ Q (uGood pl ts bs ex) G
theorem ok_shown {CM fI fP fL pp f : Addr} {mc : Value} {fd fdP : FuncData} (Mc : McT K mg CM fI fP fL pp mc) (F : Fun K "_law_shown" "_law_shown" s_law_shown f fd) (T : Tg mg) (GPa : FnOk P w K mg base CX0 1 fP fdP ["self"] (lowSp K (spPa CM))) (bPa : Binds K fdP ["self"] []) : FnOk P w K mg base CX0 2 f fd ["told"] (lowSp K (spShown CM)) := by
  refine Fun_ok3 F sc_law_shown (fun ws G Q E h => by obtain ⟨_, _, _, _, _, _, _, rfl, _⟩ := h; rfl) (fun cdv A outer s H E ws G Q E3 hr h => ?_)
  have hrPa : Room 1 _ := hr
  obtain ⟨a, dx, ts, pl, ex, bs, nums, rfl, ha, hq⟩ := h
  obtain ⟨l1, l2, l3, l4, l5, l6⟩ := fields_look pl ts bs ex nums
  refine ⟨_, (ss_cons (s_set (i := 1) sc_law_shown.nd (e3tup (a3cons (e3T k_tuple T.tuple (a3cons (e3fld Mc.cls Mc.no_tiles (e3v 0)) a3nil)) (a3cons (e3T k_tuple T.tuple (a3cons (e3fld Mc.cls Mc.no_basic (e3v 0)) a3nil)) a3nil))))
      (ss_one (s_ret (e3tup (a3cons (e3meth0 Mc.cls Mc.parts GPa hrPa bPa pass0 (e3v 0)) (a3cons (e3op o_catA (e3op o_catA (e3tup (a3cons (e3fld Mc.cls Mc.no_places (e3v 0)) a3nil)) (e3v 1)) (e3tup (a3cons (e3fld Mc.cls Mc.no_exchange (e3v 0)) (a3cons (e3fld Mc.cls Mc.no_usable (e3v 0)) a3nil)))) a3nil)))))), ?_⟩
  refine ⟨dx, _, _, ha, l2, dx, _, _, ha, l3, rfl, ?_⟩
  refine ⟨dx, _, ha, l6, a, dx, ts, pl, ex, bs, nums, rfl, ha, ?_⟩
  refine ⟨dx, _, _, ha, l1, rfl, rfl, dx, _, _, ha, l4, dx, _, _, ha, l5, rfl, rfl, rfl, Wk.of hq⟩
def spSaid : Sp3 := fun ws G Q _ => ∃ (x : U) (ts : List Tile) (pl ex : Int) (bs : List (Int × Int)), ws = [.int pl, x, .tup (bs.map uB), .int ex] ∧ TL x ts G ∧ (∀ t ∈ ts, OkT t) ∧ ts.length ≤ 100 ∧ bs.length ≤ 20 ∧ Q (uDue pl ts bs ex) G
theorem ok_said {C CL CU CM fI fP fL pp f f1 : Addr} {mc : Value} {fd fdI fd1 : FuncData} (X : ExM K mg C CL CU) (Mc : McT K mg CM fI fP fL pp mc) (F : Fun K "_law_said" "_law_said" s_law_said f fd) (T : Tg mg)
    (GIn : FnOk P w K mg base (L2N.CX P w) 7 fI fdI ["self", "places", "tiles", "basic", "exchange"] (lowSp K (spIn C CM))) (bIn : Binds K fdI ["self", "places", "tiles", "basic", "exchange"] []) (O_law_shown : Own P w K mg base 2 "_law_shown" ["told"] (spShown CM) f1 fd1) : FnOk P w K mg base CX0 9 f fd ["places", "tiles", "basic", "exchange"] (lowSp K spSaid) := by
  refine Fun_ok3 F sc_law_said (fun ws G Q E h => by obtain ⟨_, _, _, _, _, rfl, _⟩ := h; rfl) (fun cdv A outer s H E ws G Q E3 hr h => ?_)
  have hrIn : Room 8 _ := hr
  have hr_law_shown : Room 2 _ := hr.mono (by decide)
  obtain ⟨x, ts, pl, ex, bs, rfl, hx, hok, hlen, hbl, hq⟩ := h
  refine ⟨_, (ss_cons (s_try (i := 5) (c := .ref C) rfl rfl sc_law_said.nd ⟨rfl, by decide, Or.inl X.gC⟩
      (fun W pn xe tk _ => ss_one (s_setE (i := 4) sc_law_said.nd (x3make Mc.mak GIn hrIn Mc.gM bIn tk (a3cons (e3v 0) (a3cons (e3v 1) (a3cons (e3v 2) (a3cons (e3v 3) a3nil)))))))
      (fun a' oe cls d pn hz hf =>
        (ss_cons (s_set (i := 6) sc_law_said.nd (e3and (e3B (k_isX hz.zc hf) T.isinstance (a3cons (e3v 5) (a3cons (e3glob rfl X.gL) a3nil))) (e3one (e3not (e3B (k_isX hz.zc hf) T.isinstance (a3cons (e3v 5) (a3cons (e3glob rfl X.gU) a3nil)))))))
          (ss_one (s_ret (e3tup (a3cons e3str (a3cons (e3xfm X.xf X.nP hz.zc hf (e3v 5)) (a3cons (e3xfm X.xf X.nA hz.zc hf (e3v 5)) (a3cons (e3xfm X.xf X.nW hz.zc hf (e3v 5)) (a3cons (e3v 6) a3nil)))))))))))
      (ss_one (s_ret (e3call O_law_shown.G hr_law_shown O_law_shown.g O_law_shown.kp O_law_shown.b pass0 (a3cons (e3v 4) a3nil))))), ?_⟩
  intro a dx na ndx ne
  have s2 : L3.Sub G (gup (gup G dx (.own a)) a (.ins CM dx [])) := Sub.new (Sub.new (Sub.refl G) ndx) na
  refine ⟨a, dx, x, ts, pl, ex, bs, rfl, gup_same, hx.sub s2, hok, hlen, hbl, fun p i y e d hd => ?_, fun e G' nums fr hG => ?_⟩
  · have e : uDue pl ts bs ex = uBad (p, i, y) := by unfold uDue; rw [e]
    rw [e] at hq
    refine ⟨X.exm, fun a' na' => ?_⟩
    refine ⟨C, d, _, .ref CL, .ref CL, true, rfl, rfl, X.exc, rfl, .inl ⟨CL, rfl, rfl⟩, X.kL, gup_same, ?_⟩
    refine ⟨C, d, _, .ref CU, .ref CU, false, rfl, rfl, X.exc, rfl, .inl ⟨CU, rfl, rfl⟩, X.kU, gup_same, ?_⟩
    refine ⟨rfl, rfl, d, _, .str p, rfl, gup_same, rfl, rfl, rfl, d, _, .int i, rfl, gup_same, rfl, rfl, rfl, d, _, .str y, rfl, gup_same, rfl, rfl, ?_⟩
    exact Wk.sub hq (Sub.new s2 (s2.free hd))
  · have e : uDue pl ts bs ex = uGood pl ts bs ex := by unfold uDue; rw [e]
    rw [e] at hq
    refine ⟨rfl, ?_⟩
    refine ⟨a, dx, ts, pl, ex, bs, nums, rfl, hG, ?_⟩
    refine Wk.sub hq fun b o h => fr b o (fun e2 => by rw [e2, na] at h; cases h) (s2 b o h)
def uW : Option Int → U
  | none => .non
  | some wt => .int wt
def spSaidP : Sp3 := fun ws G Q _ => ∃ (pl : Int) (y : Option Int), ws = [.int pl, uW y] ∧ Q (uDue pl (plainTs (y.getD 1)) ones 1) G
theorem ok_saidp {C CL CU CM fI fP fL pp f f1 : Addr} {mc : Value} {fd fdL fd1 : FuncData} {dw : Value} (X : ExM K mg C CL CU) (Mc : McT K mg CM fI fP fL pp mc) (F : Fun K "_law_said_plain" "_law_said_plain" s_law_said_plain f fd) (T : Tg mg)
    (GPl : FnOk P w K mg base (L2N.CX P w) 9 fL fdL ["places", "wait"] (lowSp K (spPl C CM))) (bPl : Binds K fdL ["places", "wait"] []) (bP1 : Binds K fdL ["places", "wait"] [dw]) (vP1 : Vals [V.int 1] [dw]) (O_law_shown : Own P w K mg base 2 "_law_shown" ["told"] (spShown CM) f1 fd1) : FnOk P w K mg base CX0 10 f fd ["places", "wait"] (lowSp K spSaidP) := by
  refine Fun_ok3 F sc_law_said_plain (fun ws G Q E h => by obtain ⟨_, _, rfl, _⟩ := h; rfl) (fun cdv A outer s H E ws G Q E3 hr h => ?_)
  have hrPl : Room 9 _ := hr
  have hr_law_shown : Room 2 _ := hr.mono (by decide)
  obtain ⟨pl, y, rfl, hq⟩ := h
  have hd3 : ∀ H, RepL K H [U.int 1] [V.int 1] := fun H => .cons (.int 1) .nil
  refine ⟨_, (ss_cons (s_try (i := 3) (c := .ref C) rfl rfl sc_law_said_plain.nd ⟨rfl, by decide, Or.inl X.gC⟩
      (fun W pn xe tk _ => ss_one (s_setE (i := 2) sc_law_said_plain.nd (x3if (t3cmp o_isN (e3v 1) e3non) (x3smeth Mc.rd Mc.sm GPl hrPl Mc.gM bP1 vP1 hd3 tk (a3cons (e3v 0) a3nil)) (x3smeth Mc.rd Mc.sm GPl hrPl Mc.gM bPl .nil (fun _ => .nil) tk (a3cons (e3v 0) (a3cons (e3v 1) a3nil))))))
      (fun a' oe cls d pn hz hf =>
        (ss_cons (s_set (i := 4) sc_law_said_plain.nd (e3and (e3B (k_isX hz.zc hf) T.isinstance (a3cons (e3v 3) (a3cons (e3glob rfl X.gL) a3nil))) (e3one (e3not (e3B (k_isX hz.zc hf) T.isinstance (a3cons (e3v 3) (a3cons (e3glob rfl X.gU) a3nil)))))))
          (ss_one (s_ret (e3tup (a3cons e3str (a3cons (e3xfm X.xf X.nP hz.zc hf (e3v 3)) (a3cons (e3xfm X.xf X.nA hz.zc hf (e3v 3)) (a3cons (e3xfm X.xf X.nW hz.zc hf (e3v 3)) (a3cons (e3v 4) a3nil)))))))))))
      (ss_one (s_ret (e3call O_law_shown.G hr_law_shown O_law_shown.g O_law_shown.kp O_law_shown.b pass0 (a3cons (e3v 2) a3nil))))), ?_⟩
  cases y with
  | none =>
    have hq : Q (uDue pl (plainTs 1) ones 1) G := hq
    refine ⟨pl, 1, rfl, fun p i y e d hd => ?_, fun e a dx nums G' s2 hG => ?_⟩
    · have e : uDue pl (plainTs 1) ones 1 = uBad (p, i, y) := by unfold uDue; rw [e]
      rw [e] at hq
      refine ⟨X.exm, fun a' na' => ?_⟩
      refine ⟨C, d, _, .ref CL, .ref CL, true, rfl, rfl, X.exc, rfl, .inl ⟨CL, rfl, rfl⟩, X.kL, gup_same, ?_⟩
      refine ⟨C, d, _, .ref CU, .ref CU, false, rfl, rfl, X.exc, rfl, .inl ⟨CU, rfl, rfl⟩, X.kU, gup_same, ?_⟩
      refine ⟨rfl, rfl, d, _, .str p, rfl, gup_same, rfl, rfl, rfl, d, _, .int i, rfl, gup_same, rfl, rfl, rfl, d, _, .str y, rfl, gup_same, rfl, rfl, ?_⟩
      exact Wk.sub hq (Sub.new (Sub.refl G) hd)
    · have e : uDue pl (plainTs 1) ones 1 = uGood pl (plainTs 1) ones 1 := by unfold uDue; rw [e]
      rw [e] at hq
      refine ⟨a, dx, plainTs 1, pl, 1, ones, nums, rfl, hG, ?_⟩
      exact Wk.sub hq s2
  | some wt =>
    have hq : Q (uDue pl (plainTs wt) ones 1) G := hq
    refine ⟨pl, wt, rfl, fun p i y e d hd => ?_, fun e a dx nums G' s2 hG => ?_⟩
    · have e : uDue pl (plainTs wt) ones 1 = uBad (p, i, y) := by unfold uDue; rw [e]
      rw [e] at hq
      refine ⟨X.exm, fun a' na' => ?_⟩
      refine ⟨C, d, _, .ref CL, .ref CL, true, rfl, rfl, X.exc, rfl, .inl ⟨CL, rfl, rfl⟩, X.kL, gup_same, ?_⟩
      refine ⟨C, d, _, .ref CU, .ref CU, false, rfl, rfl, X.exc, rfl, .inl ⟨CU, rfl, rfl⟩, X.kU, gup_same, ?_⟩
      refine ⟨rfl, rfl, d, _, .str p, rfl, gup_same, rfl, rfl, rfl, d, _, .int i, rfl, gup_same, rfl, rfl, rfl, d, _, .str y, rfl, gup_same, rfl, rfl, ?_⟩
      exact Wk.sub hq (Sub.new (Sub.refl G) hd)
    · have e : uDue pl (plainTs wt) ones 1 = uGood pl (plainTs wt) ones 1 := by unfold uDue; rw [e]
      rw [e] at hq
      refine ⟨a, dx, plainTs wt, pl, 1, ones, nums, rfl, hG, ?_⟩
      exact Wk.sub hq s2
def spDue : Sp3 := fun ws G Q _ => ∃ (ts : List Tile) (pl ex : Int) (bs : List (Int × Int)), ws = [.int pl, .tup (ts.map uT), .tup (bs.map uB), .int ex] ∧ (∀ t ∈ ts, OkT t) ∧ ts.length ≤ 100 ∧ bs.length ≤ 20 ∧ Q (uDue pl ts bs ex) G
theorem ok_due {f f1 : Addr} {fd fd1 : FuncData} (F : Fun K "_law_due" "_law_due" s_law_due f fd) (T : Tg mg) (O_law_fault : Own P w K mg base 11 "_law_fault" ["places", "tiles", "basic", "exchange"] spFault f1 fd1) : FnOk P w K mg base CX0 12 f fd ["places", "tiles", "basic", "exchange"] (lowSp K spDue) := by
  refine Fun_ok3 F sc_law_due (fun ws G Q E h => by obtain ⟨_, _, _, _, rfl, _⟩ := h; rfl) (fun cdv A outer s H E ws G Q E3 hr h => ?_)
  have hr_law_fault : Room 11 _ := hr
  have hu64 := hr.units
  obtain ⟨ts, pl, ex, bs, rfl, hok, hlen, hbl, hq⟩ := h
  refine ⟨_, (ss_cons (s_set (i := 4) sc_law_due.nd (e3call O_law_fault.G hr_law_fault O_law_fault.g O_law_fault.kp O_law_fault.b pass0 (a3cons (e3v 0) (a3cons (e3v 1) (a3cons (e3v 2) (a3cons (e3v 3) a3nil))))))
      (ss_cons (s_if (t3cmp (o_ne hu64) (e3v 4) (e3tup a3nil))
      (ss_one (s_ret (e3op o_catA (e3op o_catA (e3tup (a3cons e3str a3nil)) (e3v 4)) (e3tup (a3cons e3bl a3nil)))))
      ss_nil)
      (ss_cons (s_set (i := 5) sc_law_due.nd (e3tup (a3cons (e3v 0) (a3cons (e3v 1) (a3cons (e3v 2) (a3cons (e3v 3) a3nil))))))
      (ss_one (s_ret (e3tup (a3cons (e3v 5) (a3cons (e3op o_catA (e3v 5) (e3tup (a3cons (e3if (t3cmp (o_eq hu64) (e3v 3) e3int) (e3v 0) (e3op o_sub (e3v 0) e3int)) a3nil))) a3nil)))))))), ?_⟩
  refine ⟨ts, pl, ex, bs, rfl, hok, hlen, hbl, ?_⟩
  have hd := dat_F (faultM pl ts bs ex) fun g h => fault_ok h
  refine ⟨rfl, hd, rfl, ?_⟩
  unfold uDue at hq
  cases e : faultM pl ts bs ex with
  | some g =>
    rw [e] at hq
    obtain ⟨p, i, y⟩ := g
    refine ifT (by rfl) ?_
    exact ⟨rfl, rfl, rfl, rfl, Wk.of hq⟩
  | none =>
    rw [e] at hq
    refine ifF (by rfl) ?_
    refine ⟨rfl, rfl, dat_int _, ?_⟩
    have fin : ∀ u, u = usab pl ex → Wk Q (.tup [.tup [.int pl, .tup (ts.map uT), .tup (bs.map uB), .int ex], .tup [.int pl, .tup (ts.map uT), .tup (bs.map uB), .int ex, .int u]]) G := fun u e => by
      rw [e]
      exact Wk.of hq
    by_cases h1 : ex = 1
    · refine ifT (by rw [if_neg Bool.false_ne_true, eq3_int, h1]; rfl) ?_
      exact ⟨rfl, rfl, rfl, fin _ (by unfold usab; rw [if_pos h1])⟩
    · refine ifF (by rw [if_neg Bool.false_ne_true, eq3_int]; simpa using h1) ?_
      exact ⟨rfl, rfl, rfl, fin _ (by unfold usab; rw [if_neg h1])⟩
end
end K20
end
section
set_option Elab.async false
set_option linter.all false
set_option maxRecDepth 100000
set_option maxHeartbeats 2000000
namespace K20
open PySem L2 L3
theorem plain_tup {n : Nat} {xs : List U} (h : xs.length ≤ 90000) (h2 : ∀ x ∈ xs, PlainU n x) : PlainU (n + 1) (.tup xs) := ⟨h, h2⟩
theorem plain_int (n : Nat) (i : Int) : PlainU n (.int i) := by cases n <;> exact trivial
theorem plain_bl (n : Nat) (i : Bool) : PlainU n (.bl i) := by cases n <;> exact trivial
theorem plain_s (n : Nat) {x : Str} (h : PySem.PyData.strOk x = true) : PlainU n (.str x) := by cases n <;> exact dat_s h
theorem plain_P : ∀ (n : Nat) (p : Pt), wp n p = true → PlainU (n + 1) (uP p)
  | n, .a x, h => by rw [uP]; exact plain_s _ (by cases n <;> exact h)
  | n, .l lo hi, h => by
    rw [uP]
    refine plain_tup (by simp) fun x hx => ?_
    simp only [List.mem_cons, List.not_mem_nil, or_false] at hx
    rcases hx with rfl | rfl | rfl
    · exact plain_s _ (by decide +kernel)
    · exact plain_int _ _
    · exact plain_int _ _
  | 0, .o op subs, h => by cases h
  | n + 1, .o op subs, h => by
    unfold wp at h
    simp only [Bool.and_eq_true, decide_eq_true_eq] at h
    obtain ⟨⟨⟨h1, h2⟩, h3⟩, h4⟩ := h
    rw [uP, uPs_map]
    refine plain_tup (by rw [List.length_cons, List.length_map]; omega) fun x hx => ?_
    rcases List.mem_cons.mp hx with rfl | hx
    · exact plain_s _ h1
    · obtain ⟨p, hp, rfl⟩ := List.mem_map.mp hx
      exact plain_P n p (List.all_eq_true.mp h4 p hp)
theorem plain_T {t : Tile} (h : OkT t) : PlainU 7 (uT t) := by
  unfold uT
  refine plain_tup (by simp) fun x hx => ?_
  simp only [List.mem_cons, List.not_mem_nil, or_false] at hx
  rcases hx with rfl | rfl | rfl | rfl
  · exact plain_s _ h.w
  · exact plain_P 5 _ h.p
  · exact plain_int _ _
  · exact plain_int _ _
theorem plain_Ts {ts : List Tile} (h : ∀ t ∈ ts, OkT t) (hl : ts.length ≤ 100) : PlainU 8 (.tup (ts.map uT)) := by
  refine plain_tup (by rw [List.length_map]; omega) fun x hx => ?_
  obtain ⟨t, ht, rfl⟩ := List.mem_map.mp hx
  exact plain_T (h t ht)
theorem plain_Bs {bs : List (Int × Int)} (hl : bs.length ≤ 20) : PlainU 8 (.tup (bs.map uB)) := by
  refine plain_tup (by rw [List.length_map]; omega) fun x hx => ?_
  obtain ⟨b, hb, rfl⟩ := List.mem_map.mp hx
  refine plain_tup (by simp) fun x hx => ?_
  simp only [List.mem_cons, List.not_mem_nil, or_false] at hx
  rcases hx with rfl | rfl
  · exact plain_int _ _
  · exact plain_int _ _
theorem plain_parts {ts : List Tile} {bs : List (Int × Int)} (h : ∀ t ∈ ts, OkT t) (hl : ts.length ≤ 100) (hb : bs.length ≤ 20) (pl ex : Int) : PlainU 9 (.tup [.int pl, .tup (ts.map uT), .tup (bs.map uB), .int ex]) := by
  refine plain_tup (by simp) fun x hx => ?_
  simp only [List.mem_cons, List.not_mem_nil, or_false] at hx
  rcases hx with rfl | rfl | rfl | rfl
  · exact plain_int _ _
  · exact plain_Ts h hl
  · exact plain_Bs hb
  · exact plain_int _ _
theorem plain_due {ts : List Tile} {bs : List (Int × Int)} (h : ∀ t ∈ ts, OkT t) (hl : ts.length ≤ 100) (hb : bs.length ≤ 20) (pl ex : Int) : PlainU 10 (uDue pl ts bs ex) := by
  unfold uDue
  cases e : faultM pl ts bs ex with
  | none =>
    refine plain_tup (by simp) fun x hx => ?_
    simp only [List.mem_cons, List.not_mem_nil, or_false] at hx
    rcases hx with rfl | rfl
    · exact plain_parts h hl hb pl ex
    · refine plain_tup (by simp) fun x hx => ?_
      simp only [List.mem_cons, List.not_mem_nil, or_false] at hx
      rcases hx with rfl | rfl | rfl | rfl | rfl
      · exact plain_int _ _
      · exact plain_Ts h hl
      · exact plain_Bs hb
      · exact plain_int _ _
      · exact plain_int _ _
  | some f =>
    obtain ⟨h1, h2⟩ := fault_ok e
    refine plain_tup (by simp) fun x hx => ?_
    simp only [List.mem_cons, List.not_mem_nil, or_false] at hx
    rcases hx with rfl | rfl | rfl | rfl | rfl
    · exact plain_s _ (by decide +kernel)
    · exact plain_s _ h1
    · exact plain_int _ _
    · exact plain_s _ h2
    · exact plain_bl _ _
theorem plain_two {ts : List Tile} {bs : List (Int × Int)} (h : ∀ t ∈ ts, OkT t) (hl : ts.length ≤ 100) (hb : bs.length ≤ 20) (pl ex : Int) : PlainU 10 (.tup [.tup [.int pl, .tup (ts.map uT), .tup (bs.map uB), .int ex], .tup (ts.map uT)]) := by
  refine plain_tup (by simp) fun x hx => ?_
  simp only [List.mem_cons, List.not_mem_nil, or_false] at hx
  rcases hx with rfl | rfl
  · exact plain_parts h hl hb pl ex
  · exact plain_up _ _ (plain_Ts h hl)
theorem lay_plain : ∀ (n : Nat) (x : U), PlainU n x → noref x = true ∧ (pd x).canLay0 = true ∧ (pd x).depth ≤ n + 1
  | n, .int i, _ => ⟨rfl, rfl, Nat.zero_le _⟩
  | n, .bl i, _ => ⟨rfl, rfl, Nat.zero_le _⟩
  | n, .str x, h => by
    have h : dat (.str x) = true := by cases n <;> exact h
    unfold dat SeqAt.shaped at h
    simp only [Bool.and_eq_true, decide_eq_true_eq] at h
    exact ⟨h.1, h.2.1, Nat.zero_le _⟩
  | 0, .tup xs, h => h.elim
  | n + 1, .tup xs, h => by
    obtain ⟨a, b, c⟩ := lays_map (fun x : U => x) (PlainU n) (n + 1) (fun x hx => lay_plain n x hx) xs h.2
    rw [List.map_id'] at a b c
    exact ⟨a, b, by show PyData.depthAll (pdL xs) + 1 ≤ _; omega⟩
  | 0, .non, h => h.elim
  | 0, .ty _, h => h.elim
  | 0, .ref _, h => h.elim
  | 0, .wtup _, h => h.elim
  | 0, .lit _, h => h.elim
  | n + 1, .non, h => h.elim
  | n + 1, .ty _, h => h.elim
  | n + 1, .ref _, h => h.elim
  | n + 1, .wtup _, h => h.elim
  | n + 1, .lit _, h => h.elim
theorem dat_plain {n : Nat} {x : U} (h : PlainU n x) (hn : n ≤ 50) : dat x = true := by
  obtain ⟨a, b, c⟩ := lay_plain n x h
  exact dat_of a b (by omega)
theorem eq3_tiles {ts : List Tile} (h : ∀ t ∈ ts, OkT t) : eq3 (.lit (ts.map uT)) (.lit (ts.map uT)) = true := by
  have := dat_Ts h
  unfold dat SeqAt.shaped at this
  simp only [Bool.and_eq_true, decide_eq_true_eq] at this
  exact PySem.SeqAt.eqv_refl _ this.2.1
section
variable {P : Program} {w : World} {K : PySem.W.Frag} {mg : Str → Option Value} {base : Heap}
abbrev s_law : Stmt := topS 57
abbrev law_N : List Str := ["script", "pool", "spec", "k", "places", "tiles", "basic", "exchange", "given", "due", "told", "wait", "one", "slow"]
theorem sc_law : FnScope law_N ["script"] (defScope s_law) := ⟨rfl, rfl, rfl, by decide +kernel, rfl, by decide +kernel, by decide +kernel⟩
def spLaw : Sp3 := fun ws G Q _ => ∃ (x : U) (ns : List Int), ws = [x] ∧ (x = .lit (ns.map U.int) ∨ ∃ a, x = .ref a ∧ G a = some (.lst (ns.map U.int))) ∧ ns.length ≤ 63 ∧ ∀ G', Q (.bl true) G'
theorem ok_law {C CL CU CM fI fP fL pp f f1 f2 f3 f4 f5 f6 f7 f8 f9 f10 : Addr} {mc : Value} {fd fdI fdP fd1 fd2 fd3 fd4 fd5 fd6 fd7 fd8 fd9 fd10 : FuncData} (Mc : McT K mg CM fI fP fL pp mc) (F : Fun K "law" "law" s_law f fd) (T : Tg mg)
    (GIn : FnOk P w K mg base (L2N.CX P w) 7 fI fdI ["self", "places", "tiles", "basic", "exchange"] (lowSp K (spIn C CM))) (KB : KBn K fdI ["self", "places", "tiles", "basic", "exchange"] 1 ["places", "tiles", "basic", "exchange"] (fun us ws => us ++ ws) (fun vs zs => vs ++ zs))
    (GPa : FnOk P w K mg base CX0 1 fP fdP ["self"] (lowSp K (spPa CM))) (bPa : Binds K fdP ["self"] [])
    (O_law_state : Own P w K mg base 1 "_law_state" ["script"] spState f1 fd1) (O_law_take : Own P w K mg base 1 "_law_take" ["pool", "m"] spTake f2 fd2) (O_law_pick : Own P w K mg base 2 "_law_pick" ["pool", "row"] spPick f3 fd3)
    (O_law_same : Own P w K mg base 12 "_law_same" ["told", "due"] (spSame 11) f4 fd4) (O_law_said : Own P w K mg base 9 "_law_said" ["places", "tiles", "basic", "exchange"] spSaid f5 fd5) (O_law_said_plain : Own P w K mg base 10 "_law_said_plain" ["places", "wait"] spSaidP f6 fd6)
    (O_law_due : Own P w K mg base 12 "_law_due" ["places", "tiles", "basic", "exchange"] spDue f7 fd7) (O_law_spoilt : Own P w K mg base 5 "_law_spoilt" ["pool", "places", "tiles", "basic", "exchange"] spSpoilt f8 fd8) (O_law_right : Own P w K mg base 11 "_law_right" ["pool"] spRight f9 fd9) (O_law_plain : Own P w K mg base 2 "_law_plain" ["places", "wait"] spLPl f10 fd10) : FnOk P w K mg base CX0 13 f fd ["script"] (lowSp K spLaw) := by
  refine Fun_ok3 F sc_law (fun ws G Q E h => by obtain ⟨_, _, rfl, _⟩ := h; rfl) (fun cdv A outer s H E ws G Q E3 hr h => ?_)
  have hr_law_state : Room 1 _ := hr.mono (by decide)
  have hr_law_take : Room 1 _ := hr.mono (by decide)
  have hr_law_pick : Room 2 _ := hr.mono (by decide)
  have hr_law_same : Room 12 _ := hr
  have hr_law_said : Room 9 _ := hr.mono (by decide)
  have hr_law_said_plain : Room 10 _ := hr.mono (by decide)
  have hr_law_due : Room 12 _ := hr
  have hr_law_spoilt : Room 5 _ := hr.mono (by decide)
  have hr_law_right : Room 11 _ := hr.mono (by decide)
  have hr_law_plain : Room 2 _ := hr.mono (by decide)
  have hrIn : Room 8 _ := hr.mono (by decide)
  have hrPa : Room 1 _ := hr.mono (by decide)
  have hu64 := hr.units
  have hg3 : ∀ (H : Hp) (ws : List U) (vs : List V) (us : List U) (zs : List V), RepL K H ws vs → RepL K H us zs → RepL K H (ws ++ us) (vs ++ zs) := fun H ws vs us zs a b => a.append b
  obtain ⟨x, ns, rfl, hx, hlen, hq⟩ := h
  refine ⟨_, (ss_cons (s_set (i := 1) sc_law.nd (e3call O_law_state.G hr_law_state O_law_state.g O_law_state.kp O_law_state.b pass0 (a3cons (e3v 0) a3nil)))
      (ss_cons (s_set (i := 2) sc_law.nd (e3call O_law_right.G hr_law_right O_law_right.g O_law_right.kp O_law_right.b pass0 (a3cons (e3v 1) a3nil)))
      (ss_cons (s_for PassesOwn.never rfl (i_range1 T.range e3int) (pg_name (i := 3) sc_law.nd rfl (by first | exact Or.inl rfl | exact Or.inr rfl)) gl_name
      (ss_cons (s_asg (e3v 2) (pg_tup (n := 4) rfl (pgs_cons (pg_name (i := 4) sc_law.nd rfl (by first | exact Or.inl rfl | exact Or.inr rfl)) (pgs_cons (pg_name (i := 5) sc_law.nd rfl (by first | exact Or.inl rfl | exact Or.inr rfl)) (pgs_cons (pg_name (i := 6) sc_law.nd rfl (by first | exact Or.inl rfl | exact Or.inr rfl)) (pgs_cons (pg_name (i := 7) sc_law.nd rfl (by first | exact Or.inl rfl | exact Or.inr rfl)) pgs_nil))))) (gl_tup (gl_cons gl_name (gl_cons gl_name (gl_cons gl_name (gl_cons gl_name gl_nil))))))
        (ss_cons (s_set (i := 8) sc_law.nd (e3T k_list T.list (a3cons (e3v 5) a3nil)))
        (ss_cons (s_set (i := 9) sc_law.nd (e3call O_law_due.G hr_law_due O_law_due.g O_law_due.kp O_law_due.b pass0 (a3cons (e3v 4) (a3cons (e3v 5) (a3cons (e3v 6) (a3cons (e3v 7) a3nil))))))
        (ss_cons (s_if (t3not (t3val (e3call O_law_same.G hr_law_same O_law_same.g O_law_same.kp O_law_same.b pass0 (a3cons (e3call O_law_said.G hr_law_said O_law_said.g O_law_said.kp O_law_said.b pass0 (a3cons (e3v 4) (a3cons (e3v 5) (a3cons (e3v 6) (a3cons (e3v 7) a3nil))))) (a3cons (e3v 9) a3nil)))))
        (ss_one (s_ret e3bl))
        ss_nil)
        (ss_cons (s_if (t3not (t3val (e3call O_law_same.G hr_law_same O_law_same.g O_law_same.kp O_law_same.b pass0 (a3cons (e3call O_law_said.G hr_law_said O_law_said.g O_law_said.kp O_law_said.b pass0 (a3cons (e3v 4) (a3cons (e3v 8) (a3cons (e3v 6) (a3cons (e3v 7) a3nil))))) (a3cons (e3v 9) a3nil)))))
        (ss_one (s_ret e3bl))
        ss_nil)
        (ss_cons (s_if (t3cmp (o_neL hu64) (e3v 8) (e3T k_list T.list (a3cons (e3v 5) a3nil)))
        (ss_one (s_ret e3bl))
        ss_nil)
        (ss_cut (s_if (t3cmp (o_ne hu64) (e3ix (e3v 9) e3int) e3str)
        (ss_cons (s_set (i := 10) sc_law.nd (e3makeK Mc.mak GIn hrIn Mc.gM KB hg3 (k3cons (e3v 4) (k3cons (e3v 8) (k3cons (e3v 6) (k3cons (e3v 7) k3nil))))))
          (ss_cons (s_expr (e3bmL PySem.F.slot_list_append PySem.F.type_list_append m_append (e3v 8) (a3cons (e3tup (a3cons e3str (a3cons (e3tup (a3cons e3str (a3cons e3int (a3cons e3int a3nil)))) (a3cons e3int (a3cons e3int a3nil))))) a3nil)))
          (ss_one (s_if (t3not (t3val (e3call O_law_same.G hr_law_same O_law_same.g O_law_same.kp O_law_same.b pass0 (a3cons (e3tup (a3cons (e3meth0 Mc.cls Mc.parts GPa hrPa bPa pass0 (e3v 10)) (a3cons (e3T k_tuple T.tuple (a3cons (e3fld Mc.cls Mc.no_tiles (e3v 10)) a3nil)) a3nil))) (a3cons (e3tup (a3cons (e3v 2) (a3cons (e3v 5) a3nil))) a3nil)))))
          (ss_one (s_ret e3bl))
          ss_nil))))
        ss_nil)
        (ss_one (s_set (i := 2) sc_law.nd (e3call O_law_spoilt.G hr_law_spoilt O_law_spoilt.g O_law_spoilt.kp O_law_spoilt.b pass0 (a3cons (e3v 1) (a3cons (e3v 4) (a3cons (e3v 5) (a3cons (e3v 6) (a3cons (e3v 7) a3nil))))))))))))))))
      (ss_cons (s_set (i := 4) sc_law.nd (e3call O_law_pick.G hr_law_pick O_law_pick.g O_law_pick.kp O_law_pick.b pass0 (a3cons (e3v 1) (a3cons (e3lst (a3cons e3int (a3cons e3int (a3cons e3int (a3cons e3int (a3cons (e3op o_add e3int (e3call O_law_take.G hr_law_take O_law_take.g O_law_take.kp O_law_take.b pass0 (a3cons (e3v 1) (a3cons e3int a3nil)))) a3nil)))))) a3nil))))
      (ss_cons (s_set (i := 11) sc_law.nd (e3call O_law_pick.G hr_law_pick O_law_pick.g O_law_pick.kp O_law_pick.b pass0 (a3cons (e3v 1) (a3cons (e3lst (a3cons e3int (a3cons e3int (a3cons e3int (a3cons e3int (a3cons (e3op o_add e3int (e3call O_law_take.G hr_law_take O_law_take.g O_law_take.kp O_law_take.b pass0 (a3cons (e3v 1) (a3cons e3int a3nil)))) a3nil)))))) a3nil))))
      (ss_cons (s_for PassesOwn.never rfl (i_tup (e3tup (a3cons (e3v 11) (a3cons e3non a3nil)))) (pg_name (i := 12) sc_law.nd rfl (by first | exact Or.inl rfl | exact Or.inr rfl)) gl_name
      (ss_cons (s_set (i := 13) sc_law.nd (e3if (t3cmp o_isN (e3v 12) e3non) e3int (e3v 12)))
        (ss_cons (s_asg (e3call O_law_plain.G hr_law_plain O_law_plain.g O_law_plain.kp O_law_plain.b pass0 (a3cons (e3v 4) (a3cons (e3v 13) a3nil))) (pg_tup (n := 4) rfl (pgs_cons (pg_name (i := 4) sc_law.nd rfl (by first | exact Or.inl rfl | exact Or.inr rfl)) (pgs_cons (pg_name (i := 5) sc_law.nd rfl (by first | exact Or.inl rfl | exact Or.inr rfl)) (pgs_cons (pg_name (i := 6) sc_law.nd rfl (by first | exact Or.inl rfl | exact Or.inr rfl)) (pgs_cons (pg_name (i := 7) sc_law.nd rfl (by first | exact Or.inl rfl | exact Or.inr rfl)) pgs_nil))))) (gl_tup (gl_cons gl_name (gl_cons gl_name (gl_cons gl_name (gl_cons gl_name gl_nil))))))
        (ss_cons (s_set (i := 9) sc_law.nd (e3call O_law_due.G hr_law_due O_law_due.g O_law_due.kp O_law_due.b pass0 (a3cons (e3v 4) (a3cons (e3v 5) (a3cons (e3v 6) (a3cons (e3v 7) a3nil))))))
        (ss_one (s_if (t3not (t3val (e3call O_law_same.G hr_law_same O_law_same.g O_law_same.kp O_law_same.b pass0 (a3cons (e3call O_law_said_plain.G hr_law_said_plain O_law_said_plain.g O_law_said_plain.kp O_law_said_plain.b pass0 (a3cons (e3v 4) (a3cons (e3v 12) a3nil))) (a3cons (e3v 9) a3nil)))))
        (ss_one (s_ret e3bl))
        ss_nil))))))
      (ss_one (s_ret e3bl)))))))), ?_⟩
  refine ⟨x, ns, rfl, hx, hlen, fun s c cells z nsc gs gc => ?_⟩
  have hl1 : Law s c (gup (gup G c (.lst (cells.map U.int))) s (.lst [.ref c, .int 0, .int z])) := ⟨nsc, cells, 0, z, gup_same, (by rw [gup_ne nsc.symm]; exact gup_same), Int.le_refl _⟩
  generalize gup (gup G c (.lst (cells.map U.int))) s (.lst [.ref c, .int 0, .int z]) = G1 at hl1 ⊢
  refine ⟨s, c, rfl, hl1, fun pl ex ts bs G2 hok htl hbl hl2 f2 => ?_⟩
  try dsimp only [seq3, asg3, n3, v3, drop3, ret3, next3, List.set_cons_zero, List.set_cons_succ, List.getElem?_cons_zero, List.getElem?_cons_succ, start3, List.map_cons, List.map_nil, List.length_cons, List.length_nil, List.replicate, List.cons_append, List.nil_append, Nat.reduceSub, Nat.reduceAdd]
  refine for_of ?_
  refine ⟨rfl, ?_⟩
  refine forK_of 3 (by rw [rgU_len]; rfl) (fun i σ G' => ∃ (z3 z4 z5 z6 z7 z8 z9 z10 : Option U) (pl ex : Int) (ts : List Tile) (bs : List (Int × Int)), σ = [some x, some (.ref s), some (.tup [.int pl, .tup (ts.map uT), .tup (bs.map uB), .int ex]), z3, z4, z5, z6, z7, z8, z9, z10, none, none, none] ∧ (∀ t ∈ ts, OkT t) ∧ ts.length ≤ 60 ∧ bs.length ≤ 6 + i ∧ Law s c G') ⟨_, _, _, _, _, _, _, _, pl, ex, ts, bs, rfl, hok, htl, hbl, hl2⟩ (fun _ _ _ _ _ => trivial) ?_ ?_
  · rintro i y σ' G' hi hy ⟨z3, z4, z5, z6, z7, z8, z9, z10, pl, ex, ts, bs, rfl, hok, htl, hbl, hl⟩
    refine ⟨rfl, fun Lg hLg => ?_⟩
    have nG1 := hl.ns hLg
    have nG2 := hl.nc hLg
    have hg : gup G' Lg (.lst (ts.map uT)) Lg = some (.lst (ts.map uT)) := gup_same
    have hl := hl.mut (o := .lst (ts.map uT)) nG1 nG2
    generalize gup G' Lg (.lst (ts.map uT)) = G3' at hg hl ⊢
    have hpd := plain_due hok (by omega) (by omega : bs.length ≤ 20) pl ex
    refine ⟨ts, pl, ex, bs, rfl, hok, by omega, by omega, ?_⟩
    refine ⟨.tup (ts.map uT), ts, pl, ex, bs, rfl, .inl rfl, hok, by omega, by omega, ?_⟩
    refine ⟨uDue pl ts bs ex, rfl, hpd, ?_⟩
    refine ifF (by rfl) ?_
    refine ⟨.ref Lg, ts, pl, ex, bs, rfl, .inr ⟨Lg, rfl, hg⟩, hok, by omega, by omega, ?_⟩
    refine ⟨uDue pl ts bs ex, rfl, hpd, ?_⟩
    refine ifF (by rfl) ?_
    intro Lh hLh
    have hg2 : ∀ o, gup G3' Lh o Lg = some (.lst (ts.map uT)) := fun o => by rw [gup_ne (gne_none hg hLh)]; exact hg
    refine ⟨_, _, hg2 _, gup_same, dat_Ts hok, dat_Ts hok, ?_⟩
    refine ifF (by rw [if_pos rfl, eq3_tiles hok]; rfl) ?_
    have hl4 := hl.mut (o := .lst (ts.map uT)) (hl.ns hLh) (hl.nc hLh)
    have hg4 := hg2 (.lst (ts.map uT))
    generalize gup G3' Lh (.lst (ts.map uT)) = G4 at hl4 hg4 ⊢
    refine ⟨fun σ' G' => ∃ z10, σ' = [some x, some (.ref s), some (.tup [.int pl, .tup (ts.map uT), .tup (bs.map uB), .int ex]), some y, some (.int pl), some (.tup (ts.map uT)), some (.tup (bs.map uB)), some (.int ex), some (.ref Lg), some (uDue pl ts bs ex), z10, none, none, none] ∧ Law s c G', ?_, ?_⟩
    · have dM : dat (.str "BadMachine") = true := dat_s (by decide +kernel)
      unfold uDue
      cases e : faultM pl ts bs ex with
      | some g =>
        refine ⟨.str "BadMachine", rfl, dM, dM, ?_⟩
        refine ifF (by rfl) ?_
        exact Wk2.of ⟨_, rfl, hl4⟩
      | none =>
        refine ⟨_, rfl, dat_plain (plain_parts hok (by omega) (by omega) pl ex) (by decide), dM, ?_⟩
        refine ifT (by rfl) ?_
        refine ⟨rfl, fun a dx na ndx ne => ?_⟩
        have s2 : L3.Sub G4 (gup (gup G4 dx (.own a)) a (.ins CM dx [])) := Sub.new (Sub.new (Sub.refl G4) ndx) na
        refine ⟨a, dx, .ref Lg, ts, pl, ex, bs, rfl, gup_same, .inr ⟨Lg, rfl, s2 _ _ hg4⟩, hok, by omega, by omega, (fun p i y e2 => by rw [e] at e2; cases e2), fun _ G5 nums fr hG => ⟨rfl, ?_⟩⟩
        have s5 : L3.Sub G4 G5 := fun b o h => fr b o (fun e2 => by rw [e2, na] at h; cases h) (s2 b o h)
        have hg5 := s5 _ _ hg4
        have nag : a ≠ Lg := fun e2 => by rw [e2, hg4] at na; cases na
        refine ⟨⟨_, hg5⟩, rfl, rfl, _, hg5, decide_eq_true (by rw [List.length_map]; omega), ?_⟩
        have hl6 := (hl4.sub s5).mut (o := .lst (ts.map uT ++ [.tup [.str "zz", .tup [.str "lit", .int 0, .int 0], .int 1, .int 1]])) nG1 nG2
        have hG6 : gup G5 Lg (.lst (ts.map uT ++ [.tup [.str "zz", .tup [.str "lit", .int 0, .int 0], .int 1, .int 1]])) a = some (.ins CM dx (fieldsOf pl ts bs ex nums)) := by rw [gup_ne nag]; exact hG
        obtain ⟨l1, l2, l3, l4, l5, l6⟩ := fields_look pl ts bs ex nums
        refine ⟨dx, _, hG6, l6, a, dx, ts, pl, ex, bs, nums, rfl, hG6, dx, _, _, hG6, l2, rfl, rfl, ?_⟩
        refine ⟨_, rfl, plain_two hok (by omega) (by omega) pl ex, ?_⟩
        refine ifF (by rfl) ?_
        exact Wk2.of ⟨_, rfl, hl6⟩
    rintro σ' G5 ⟨z10, rfl, hl5⟩
    refine ⟨s, c, ts, pl, ex, bs, rfl, hl5, hok, by omega, by omega, fun pl' ex' ts' bs' G6 hok' htl' hbl' hl6 f6 => ?_⟩
    exact Wk2.of ⟨_, _, _, _, _, _, _, _, pl', ex', ts', bs', rfl, hok', by omega, by omega, hl6⟩
  rintro σ' G' ⟨z3, z4, z5, z6, z7, z8, z9, z10, pl, ex, ts, bs, rfl, hok, htl, hbl, hl⟩
  refine ⟨s, c, 10, rfl, hl, by decide, by decide, fun v1 G7 _ _ hl7 _ => ?_⟩
  refine ⟨rfl, fun p1 hp1 => ?_⟩
  have n1 := hl7.ns hp1
  have n2 := hl7.nc hp1
  refine ⟨s, c, p1, [2, 3, 12, 13, 3 + v1].map U.int, rfl, hl7.mut n1 n2, gup_same, n1, n2, List.cons_ne_nil _ _, (show 5 ≤ 1000 by decide), fun u1 G8 hu1 hl8 _ => ?_⟩
  obtain ⟨pp1, _, rfl⟩ := List.mem_map.mp hu1
  refine ⟨s, c, 20, rfl, hl8, by decide, by decide, fun v2 G9 _ _ hl9 _ => ?_⟩
  refine ⟨rfl, fun p2 hp2 => ?_⟩
  have n3 := hl9.ns hp2
  have n4 := hl9.nc hp2
  refine ⟨s, c, p2, [0, 1, 20, 21, 1 + v2].map U.int, rfl, hl9.mut n3 n4, gup_same, n3, n4, List.cons_ne_nil _ _, (show 5 ≤ 1000 by decide), fun u2 G10 hu2 hl10 _ => ?_⟩
  obtain ⟨w0, _, rfl⟩ := List.mem_map.mp hu2
  try dsimp only [seq3, asg3, n3, v3, drop3, ret3, next3, List.set_cons_zero, List.set_cons_succ, List.getElem?_cons_zero, List.getElem?_cons_succ, start3, List.map_cons, List.map_nil, List.length_cons, List.length_nil, List.replicate, List.cons_append, List.nil_append, Nat.reduceSub, Nat.reduceAdd]
  refine for_of ?_
  refine ⟨rfl, ?_⟩
  refine forK_of 2 rfl (fun i σ G' => ∃ (z3 z4 z5 z6 z7 z8 z9 z10 z12 z13 z2 : Option U), σ = [some x, some (.ref s), z2, z3, some (.int pp1), z5, z6, z7, z8, z9, z10, some (.int w0), z12, z13]) ⟨_, z4, _, _, _, _, _, _, _, _, _, rfl⟩ (fun _ _ _ _ _ => trivial) ?_ ?_
  · rintro i y σ' G' hi hy ⟨z3, z4, z5, z6, z7, z8, z9, z10, z12, z13, z2, rfl⟩
    obtain ⟨o, rfl⟩ : ∃ o : Option Int, y = uW o := by
      match i, hi with
      | 0, _ => cases hy; exact ⟨some w0, rfl⟩
      | 1, _ => cases hy; exact ⟨none, rfl⟩
    have hones : ones.length ≤ 20 := by decide
    have hpl : (plainTs (o.getD 1)).length ≤ 100 := by unfold plainTs; rw [List.length_map]; decide
    have hpo := plain_ok (o.getD 1)
    have hpd := plain_due hpo hpl hones pp1 1
    cases o with
    | none =>
      refine ⟨pp1, 1, rfl, rfl, ?_⟩
      refine ⟨plainTs 1, pp1, 1, ones, rfl, hpo, hpl, hones, ?_⟩
      refine ⟨pp1, none, rfl, _, rfl, hpd, ?_⟩
      refine ifF (by rfl) ?_
      exact Wk2.of ⟨_, z4, _, _, _, _, _, _, _, _, _, rfl⟩
    | some o =>
      refine ⟨pp1, o, rfl, rfl, ?_⟩
      refine ⟨plainTs o, pp1, 1, ones, rfl, hpo, hpl, hones, ?_⟩
      refine ⟨pp1, some o, rfl, _, rfl, hpd, ?_⟩
      refine ifF (by rfl) ?_
      exact Wk2.of ⟨_, z4, _, _, _, _, _, _, _, _, _, rfl⟩
  · rintro σ' G' ⟨z3, z4, z5, z6, z7, z8, z9, z10, z12, z13, z2, rfl⟩
    exact Wk.of (hq _)
end
end K20
end
section
set_option Elab.async false
set_option linter.all false
set_option maxRecDepth 100000
set_option maxHeartbeats 4000000
/-! the join of law k20 -/
namespace K20
open PySem L2 L3
/-- the entries of a written dict of texts and numbers -/
def EntsOk (P : Params) : List DictEntry → List (Str × Int) → Prop
  | [], [] => True
  | e :: r, kv :: kvs => (∃ t, e.key = .str kv.1 t) ∧ e.hash = PyData.keyHash P kv.1 ∧ (∃ t, e.val = .int kv.2 t) ∧ EntsOk P r kvs
  | _, _ => False
theorem EntsOk.lit {P : Params} : ∀ {es : List DictEntry} {kvs : List (Str × Int)}, EntsOk P es kvs → PySem.W.KeysLit P es
  | [], [], _ => trivial
  | e :: r, kv :: kvs, h => ⟨by obtain ⟨⟨t, h1⟩, h2, _⟩ := h; exact ⟨kv.1, t, h1, h2⟩, EntsOk.lit h.2.2.2⟩
  | [], _ :: _, h => h.elim
  | _ :: _, [], h => h.elim
theorem EntsOk.len {P : Params} : ∀ {es : List DictEntry} {kvs : List (Str × Int)}, EntsOk P es kvs → es.length = kvs.length
  | [], [], _ => rfl
  | e :: r, kv :: kvs, h => by rw [List.length_cons, List.length_cons, EntsOk.len h.2.2.2]
  | [], _ :: _, h => h.elim
  | _ :: _, [], h => h.elim
theorem EntsOk.key {P : Params} : ∀ {es : List DictEntry} {kvs : List (Str × Int)}, EntsOk P es kvs → ∀ (i : Nat) (x : Str), (kvs.map (·.1))[i]? = some x → ∃ en t, es[i]? = some en ∧ en.key = .str x t
  | [], [], _, i, x, e => by simp at e
  | e :: r, kv :: kvs, h, 0, x, e2 => by
    obtain ⟨⟨t, h1⟩, _⟩ := h
    cases e2
    exact ⟨e, t, rfl, h1⟩
  | e :: r, kv :: kvs, h, i + 1, x, e2 => EntsOk.key h.2.2.2 i x e2
  | [], _ :: _, h, _, _, _ => h.elim
  | _ :: _, [], h, _, _, _ => h.elim
theorem EntsOk.find {P : Params} {x : Str} : ∀ {es : List DictEntry} {kvs : List (Str × Int)}, EntsOk P es kvs → (kvs.lookup x = none → es.find? (·.key.isStr x) = none ∧ es.any (·.refKey) = false) ∧ ∀ i, kvs.lookup x = some i → ∃ e t, es.find? (·.key.isStr x) = some e ∧ e.val = .int i t
  | [], [], _ => ⟨fun _ => ⟨rfl, rfl⟩, fun i e => by cases e⟩
  | e :: r, kv :: kvs, h => by
    obtain ⟨⟨t, h1⟩, h2, ⟨t2, h3⟩, h4⟩ := h
    obtain ⟨k, v⟩ := kv
    have h1 : e.key = .str k t := h1
    have h3 : e.val = .int v t2 := h3
    obtain ⟨r1, r2⟩ := EntsOk.find (x := x) h4
    have hr : e.refKey = false := by unfold DictEntry.refKey; rw [h1]
    by_cases hx : x = k
    · subst hx
      have hs : e.key.isStr x = true := by rw [h1]; unfold Value.isStr; simp
      have hl : ((x, v) :: kvs).lookup x = some v := by simp [List.lookup]
      refine ⟨(fun z => by rw [hl] at z; cases z), fun i z => ?_⟩
      rw [hl] at z
      cases z
      exact ⟨e, t2, by rw [List.find?_cons, hs], h3⟩
    · have hs : e.key.isStr x = false := by
        rw [h1]
        unfold Value.isStr
        first
          | exact beq_eq_false_iff_ne.mpr hx
          | exact beq_eq_false_iff_ne.mpr (Ne.symm hx)
      have hb : (x == k) = false := beq_eq_false_iff_ne.mpr hx
      have hl : ((k, v) :: kvs).lookup x = kvs.lookup x := by simp [List.lookup, hb]
      rw [hl, List.find?_cons, hs, List.any_cons, hr, Bool.false_or]
      exact ⟨r1, r2⟩
  | [], _ :: _, h => h.elim
  | _ :: _, [], h => h.elim
theorem kd_mk {K : PySem.W.Frag} {w : World} {d : Addr} {es : Array DictEntry} {n : Nat} {kvs : List (Str × Int)} (l : K.lookup d = some ⟨.type "dict", none, .dict es n, #[]⟩) (h : EntsOk w.params es.toList kvs) (low : (d == sysModules) = false) : KD K w d kvs := by
  refine ⟨⟨es, n, l, h.lit, low⟩, fun x => ?_, ⟨⟨es, n, l, by rw [List.length_map, ← h.len, Array.length_toList], fun i x e => ?_⟩, low⟩⟩
  · obtain ⟨r1, r2⟩ := h.find (x := x)
    unfold PySem.W.nsIn
    rw [l]
    dsimp only
    refine ⟨fun e => ?_, fun i e => ?_⟩
    · obtain ⟨q1, q2⟩ := r1 e
      rw [q1, q2]
      rfl
    · obtain ⟨en, t, q1, q2⟩ := r2 i e
      exact ⟨t, by rw [q1, ← q2]⟩
  · obtain ⟨en, t, q1, q2⟩ := h.key i x e
    exact ⟨en, t, by rw [← Array.getElem?_toList]; exact q1, q2⟩
theorem exc_mk {K : PySem.W.Frag} {C : Addr} (hg : PySem.W.findIn K (.ref C) "__getattribute__" = some (some (.builtin "BaseException.__getattribute__"))) (hk : PySem.W.findIn K (.ref C) "__getattr__" = some none) (hs : PySem.W.subIn K (.ref C) (.type "BaseException") = some true) (hd : PySem.W.hasDictIn K C = true)
    (ha : PySem.W.findIn K (.ref C) "__class__" = some (some (.builtin "object.__class__"))) (hn : PySem.W.specialIn K (.builtin "object.__class__") "__get__" = some (some (.builtin "getset_descriptor.__get__"))) (ht : PySem.W.takesIn K (.builtin "object.__class__") = some true) (hm : PySem.W.mroIn K C (.type "object") = some true) : ExcC K C := ⟨hg, hk, hs, hd, ha, hn, ht, hm⟩
theorem repL_ints {K : PySem.W.Frag} {H : Hp} : ∀ ns : List Int, RepL K H (ns.map U.int) (ns.map V.int)
  | [] => .nil
  | n :: ns => .cons (.int n) (repL_ints ns)
theorem sp_in {K : PySem.W.Frag} {H : Hp} {a : Addr} {ns : List Int} (hl : ns.length ≤ 63) (h : SqL K H a (ns.map V.int)) : lowSp K spLaw [.ref a] H (fun v _ => v = .bl true) fun _ _ _ => False := by
  rcases h with (h | ⟨o, h⟩) | h
  · refine ⟨[.ref a], fun b => if b = a then some (.lst (ns.map U.int)) else none, fun v _ => v = .bl true, fun _ _ _ => False, .cons (.ref a) .nil, ?_, ⟨_, ns, rfl, .inr ⟨a, rfl, if_pos rfl⟩, hl, fun _ => rfl⟩, ?_, fun _ _ _ _ _ _ z => z⟩
    · intro b g e
      by_cases hb : b = a
      · subst hb
        have e' : some (GO.lst (ns.map U.int)) = some g := (if_pos rfl).symm.trans e
        cases e'
        exact ⟨_, h, repL_ints ns⟩
      · have e' : none = some g := (if_neg hb).symm.trans e
        cases e'
    · intro b H' x G' _ _ r q
      subst q
      cases r
      rfl
  · refine ⟨[.lit (ns.map U.int)], fun _ => none, fun v _ => v = .bl true, fun _ _ _ => False, .cons (.lit (.inl ⟨o, h⟩) (repL_ints ns)) .nil, (fun b g e => by cases e), ⟨_, ns, rfl, .inl rfl, hl, fun _ => rfl⟩, ?_, fun _ _ _ _ _ _ z => z⟩
    intro b H' x G' _ _ r q
    subst q
    cases r
    rfl
  · refine ⟨[.lit (ns.map U.int)], fun _ => none, fun v _ => v = .bl true, fun _ _ _ => False, .cons (.lit (.inr fun G => .inr h) (repL_ints ns)) .nil, (fun b g e => by cases e), ⟨_, ns, rfl, .inl rfl, hl, fun _ => rfl⟩, ?_, fun _ _ _ _ _ _ z => z⟩
    intro b H' x G' _ _ r q
    subst q
    cases r
    rfl
theorem all_mk {l : PySem.W.OpenLaw} {w : World} {K : PySem.W.Frag} {h : Heap} {mg : Str → Option Value} {fa C CL CU CM fJ fI fP fL pp dC aPu TD cdb cb : Addr} {bmB : List Value} {f1 f2 f3 f4 f5 f6 f7 f8 f9 f10 f11 f12 f13 f14 f15 f16 f17 f18 f19 f20 f21 f22 f23 f24 f25 f26 f27 f28 f29 f30 f31 f32 f33 f34 f35 : Addr} (X : K.In h) (G : h.Ns mainGlobals mg) (hfa : mg "law" = some (.ref fa))
    {nmB qB : Str} {NB : Addr} {bsB : List Value} {snB : List Str} {subB : List Value} {abB : Bool} {colB : Option Bool} {ddB : Option Addr} {n0 n1 n2 n3 n5 : Option Value} {ocJ kVJ dcJ pmJ ctJ : Value} {odJ anJ : Option Addr} {slJ : Array (Option Value)} {cclB clcB : Value} {cddB cldB : Option Addr} {cvsB : Array Value} {ccsB cslB : Array (Option Value)} {fileB : Str} {tfB : Tok}
    {esD : Array DictEntry} {nD nP nT : Nat} {odP odT : Option Addr} {itsP itsT : Array Value} {slP slT : Array (Option Value)} {clT : Value} {smL : List Value} {tkL tkD tk_ml tk_lp tk_mp tk_mt tk_md tk_mh tk_mi tk_mo tk_mb tk_mw tk_bp : Tok}
    {odU anU odV anV odW anW : Option Addr} {slU slV slW : Array (Option Value)} {ocU kVU dcU pmU cdU ctU ocV kVV dcV pmV cdV ctV ocW kVW dcW pmW cdW ctW : Value}
    {od1 an1 od2 an2 od3 an3 od4 an4 od5 an5 od6 an6 od7 an7 od8 an8 od9 an9 od10 an10 od11 an11 od12 an12 od13 an13 od14 an14 od15 an15 od16 an16 od17 an17 od18 an18 od19 an19 od20 an20 od21 an21 od22 an22 od23 an23 od24 an24 od25 an25 od26 an26 od27 an27 od28 an28 od29 an29 od30 an30 od31 an31 od32 an32 od33 an33 od34 an34 od35 an35 : Option Addr} {sl1 sl2 sl3 sl4 sl5 sl6 sl7 sl8 sl9 sl10 sl11 sl12 sl13 sl14 sl15 sl16 sl17 sl18 sl19 sl20 sl21 sl22 sl23 sl24 sl25 sl26 sl27 sl28 sl29 sl30 sl31 sl32 sl33 sl34 sl35 : Array (Option Value)} {oc1 kV1 dc1 pm1 cd1 ct1 oc2 kV2 dc2 pm2 cd2 ct2 oc3 kV3 dc3 pm3 cd3 ct3 oc4 kV4 dc4 pm4 cd4 ct4 oc5 kV5 dc5 pm5 cd5 ct5 oc6 kV6 dc6 pm6 cd6 ct6 oc7 kV7 dc7 pm7 cd7 ct7 oc8 kV8 dc8 pm8 cd8 ct8 oc9 kV9 dc9 pm9 cd9 ct9 oc10 kV10 dc10 pm10 cd10 ct10 oc11 kV11 dc11 pm11 cd11 ct11 oc12 kV12 dc12 pm12 cd12 ct12 oc13 kV13 dc13 pm13 cd13 ct13 oc14 kV14 dc14 pm14 cd14 ct14 oc15 kV15 dc15 pm15 cd15 ct15 oc16 kV16 dc16 pm16 cd16 ct16 oc17 kV17 dc17 pm17 cd17 ct17 oc18 kV18 dc18 pm18 cd18 ct18 oc19 kV19 dc19 pm19 cd19 ct19 oc20 kV20 dc20 pm20 cd20 ct20 oc21 kV21 dc21 pm21 cd21 ct21 oc22 kV22 dc22 pm22 cd22 ct22 oc23 kV23 dc23 pm23 cd23 ct23 oc24 kV24 dc24 pm24 cd24 ct24 oc25 kV25 dc25 pm25 cd25 ct25 oc26 kV26 dc26 pm26 cd26 ct26 oc27 kV27 dc27 pm27 cd27 ct27 oc28 kV28 dc28 pm28 cd28 ct28 oc29 kV29 dc29 pm29 cd29 ct29 oc30 kV30 dc30 pm30 cd30 ct30 oc31 kV31 dc31 pm31 cd31 ct31 oc32 kV32 dc32 pm32 cd32 ct32 oc33 kV33 dc33 pm33 cd33 ct33 oc34 kV34 dc34 pm34 cd34 ct34 oc35 kV35 dc35 pm35 cd35 ct35 : Value}
    (aB : PySem.W.nsIn K mainGlobals "BadMachine" = some (some (.ref C)))
    (aL : PySem.W.nsIn K mainGlobals "LiveError" = some (some (.ref CL)))
    (aU : PySem.W.nsIn K mainGlobals "BadUnit" = some (some (.ref CU)))
    (aM : PySem.W.nsIn K mainGlobals "Machine" = some (some (.ref CM)))
    (aC : PySem.W.nsIn K mainGlobals "COUNTS" = some (some (.ref dC)))
    (aP : PySem.W.nsIn K mainGlobals "PURE" = some (some (.ref aPu)))
    (xLB : K.lookup C = some (excClassObj nmB qB C NB bsB bmB true snB subB abB colB ddB n0 n1 n2 n3 n5 "ValueError.__new__"))
    (xVB : PySem.HandSPX.refsVE bmB = true)
    (saB : PySem.W.findIn K (.ref C) "__setattr__" = some (some (.builtin "object.__setattr__")))
    (gaB : PySem.W.findIn K (.ref C) "__getattribute__" = some (some (.builtin "BaseException.__getattribute__")))
    (ggB : PySem.W.findIn K (.ref C) "__getattr__" = some none)
    (nPB : PySem.W.findIn K (.ref C) "part" = some none)
    (nAB : PySem.W.findIn K (.ref C) "at" = some none)
    (nWB : PySem.W.findIn K (.ref C) "why" = some none)
    (aIB : PySem.W.findIn K (.ref C) "__init__" = some (some (.ref fJ)))
    (tIB : PySem.W.typeIn K (.ref fJ) = some (.type "function"))
    (lIB : K.lookup fJ = some ⟨ocJ, odJ, .func (PySem.W.ksFn "__init__" "BadMachine.__init__" PySem.LowNS.bmA PySem.LowNS.bmB PySem.LowNS.bmS .none kVJ dcJ pmJ anJ (.ref cdb) ctJ cb), slJ⟩)
    (cIB : PySem.W.codeIn K (.ref cdb) "BadMachine.__init__" = true)
    (lAB : K.lookup cdb = some ⟨cclB, cddB, .fields cvsB, ccsB⟩)
    (vAB : cvsB[2]? = some (.str fileB tfB))
    (fAB : (l.prog.main.file == fileB) = true)
    (lCB : K.lookup cb = some ⟨clcB, cldB, .cell (some (.ref C)), cslB⟩)
    (kCB : PySem.W.keepIn K (.ref C) = true)
    (eCB : PySem.W.subIn K (.ref C) (.type "BaseException") = some true)
    (tCB : PySem.W.typeIn K (.ref C) = some (.type "type"))
    (vCB : PySem.W.subIn K (.ref C) (.type "ValueError") = some true)
    (mCB : PySem.W.mroIn K C (.ref C) = some true)
    (uCB : PySem.W.ks_superIn K C C "__init__" = some (some (.builtin "ValueError.__init__")))
    (hCB : PySem.W.hasDictIn K C = true)
    (qaB : PySem.W.findIn K (.ref C) "__class__" = some (some (.builtin "object.__class__")))
    (qmB : PySem.W.mroIn K C (.type "object") = some true)
    (sCB : PySem.W.subIn K (.ref C) (.ref C) = some true)
    (oq : PySem.W.nsIn K cStatics "thirdparty.any" = some none)
    (gS : PySem.W.nsIn K mainGlobals "super" = some none)
    (ht : (l.prog.main.scope.names.lookup ("super" : Str)).isSome = false)
    (qn : PySem.W.specialIn K (.builtin "object.__class__") "__get__" = some (some (.builtin "getset_descriptor.__get__")))
    (qt : PySem.W.takesIn K (.builtin "object.__class__") = some true)
    (kkL : PySem.W.kitOne K (.ref C) (.ref CL) = some true)
    (kkU : PySem.W.kitOne K (.ref C) (.ref CU) = some false)
    (pg : PySem.W.plainGet K CM Str.empty = true)
    (hd : PySem.W.hasDictIn K CM = true)
    (po : PySem.W.plainOver K CM = true)
    (sa : PySem.W.findIn K (.ref CM) "__setattr__" = some (some (.builtin "object.__setattr__")))
    (n_places : PySem.W.findIn K (.ref CM) "places" = some none)
    (n_tiles : PySem.W.findIn K (.ref CM) "tiles" = some none)
    (n_basic : PySem.W.findIn K (.ref CM) "basic" = some none)
    (n_exchange : PySem.W.findIn K (.ref CM) "exchange" = some none)
    (n_usable : PySem.W.findIn K (.ref CM) "usable" = some none)
    (n_tile_number : PySem.W.findIn K (.ref CM) "tile_number" = some none)
    (mk : PySem.W.makesIn K CM = true)
    (kc : PySem.W.keepIn K (.ref CM) = true)
    (rd : PySem.W.readsIn K CM (.type "type") = true)
    (rg : PySem.W.specialIn K (.ref CM) "__getattribute__" = some (some (.builtin "type.__getattribute__")))
    (smA : PySem.W.findCls K (.ref CM) (.type "type") "plain" = some (.get (.builtin "staticmethod.__get__") (.ref pp) .none (.ref CM)))
    (smR : PySem.W.recIn K pp "staticmethod" = some (.ref fL :: smL))
    (aI : PySem.W.findIn K (.ref CM) "__init__" = some (some (.ref fI)))
    (iI : PySem.W.isFn K (.ref fI) = true)
    (lU : K.lookup fI = some ⟨ocU, odU, .func (PySem.W.fnOf "__init__" "Machine.__init__" (defArgs s_Machine_init) (defBody s_Machine_init) (defScope s_Machine_init) .none kVU dcU pmU anU cdU ctU), slU⟩)
    (cU : PySem.W.codeIn K cdU "Machine.__init__" = true)
    (kU : PySem.W.keepIn K (.ref fI) = true)
    (aPa : PySem.W.findIn K (.ref CM) "parts" = some (some (.ref fP)))
    (iPa : PySem.W.isFn K (.ref fP) = true)
    (lV : K.lookup fP = some ⟨ocV, odV, .func (PySem.W.fnOf "parts" "Machine.parts" (defArgs s_Machine_parts) (defBody s_Machine_parts) (defScope s_Machine_parts) .none kVV dcV pmV anV cdV ctV), slV⟩)
    (cV : PySem.W.codeIn K cdV "Machine.parts" = true)
    (kV : PySem.W.keepIn K (.ref fP) = true)
    (lW : K.lookup fL = some ⟨ocW, odW, .func (PySem.W.fnOf "plain" "Machine.plain" (defArgs s_Machine_plain) (defBody s_Machine_plain) (defScope s_Machine_plain) (.ref TD) kVW dcW pmW anW cdW ctW), slW⟩)
    (cW : PySem.W.codeIn K cdW "Machine.plain" = true)
    (kW : PySem.W.keepIn K (.ref fL) = true)
    (lT : K.lookup TD = some ⟨clT, odT, .seq itsT nT, slT⟩)
    (vT : Vals [V.int 1] itsT.toList)
    (gL : PySem.W.nsIn K mainGlobals "LETTERS" = some (some (.str "abcdefghijklmnopqrstuvwxyz" tkL)))
    (gD : PySem.W.nsIn K mainGlobals "DIGITS" = some (some (.str "0123456789" tkD)))
    (g_ml : PySem.W.nsIn K mainGlobals "MOST_LETTERS" = some (some (.int 8 tk_ml)))
    (g_lp : PySem.W.nsIn K mainGlobals "LEAST_PLACES" = some (some (.int 3 tk_lp)))
    (g_mp : PySem.W.nsIn K mainGlobals "MOST_PLACES" = some (some (.int 12 tk_mp)))
    (g_mt : PySem.W.nsIn K mainGlobals "MOST_TILES" = some (some (.int 40 tk_mt)))
    (g_md : PySem.W.nsIn K mainGlobals "MOST_DATUM" = some (some (.int 4294967295 tk_md)))
    (g_mh : PySem.W.nsIn K mainGlobals "MOST_HOLES" = some (some (.int 3 tk_mh)))
    (g_mi : PySem.W.nsIn K mainGlobals "MOST_LITS" = some (some (.int 2 tk_mi)))
    (g_mo : PySem.W.nsIn K mainGlobals "MOST_OPERATIONS" = some (some (.int 4 tk_mo)))
    (g_mb : PySem.W.nsIn K mainGlobals "MOST_BUSY" = some (some (.int 9 tk_mb)))
    (g_mw : PySem.W.nsIn K mainGlobals "MOST_WAIT" = some (some (.int 20 tk_mw)))
    (g_bp : PySem.W.nsIn K mainGlobals "BASIC_PAIRS" = some (some (.int 6 tk_bp)))
    (lD : K.lookup dC = some ⟨.type "dict", none, .dict esD nD, #[]⟩)
    (eD : EntsOk w.params esD.toList COUNTS)
    (lwD : (dC == sysModules) = false)
    (lP : K.lookup aPu = some ⟨.type "tuple", odP, .seq itsP nP, slP⟩)
    (zP : itsP.size ≤ sizeLine)
    (vP : Vals (PURE.map V.str) itsP.toList)
    (z_len : PySem.W.nsIn K mainGlobals "len" = some none)
    (z_list : PySem.W.nsIn K mainGlobals "list" = some none)
    (z_tuple : PySem.W.nsIn K mainGlobals "tuple" = some none)
    (z_range : PySem.W.nsIn K mainGlobals "range" = some none)
    (z_enumerate : PySem.W.nsIn K mainGlobals "enumerate" = some none)
    (z_int : PySem.W.nsIn K mainGlobals "int" = some none)
    (z_abs : PySem.W.nsIn K mainGlobals "abs" = some none)
    (z_sum : PySem.W.nsIn K mainGlobals "sum" = some none)
    (z_all : PySem.W.nsIn K mainGlobals "all" = some none)
    (z_any : PySem.W.nsIn K mainGlobals "any" = some none)
    (z_isinstance : PySem.W.nsIn K mainGlobals "isinstance" = some none)
    (z_bool : PySem.W.nsIn K mainGlobals "bool" = some none)
    (z_str : PySem.W.nsIn K mainGlobals "str" = some none)
    (a1 : PySem.W.nsIn K mainGlobals "is_word" = some (some (.ref f1)))
    (l1 : K.lookup f1 = some ⟨oc1, od1, .func (PySem.W.fnOf "is_word" "is_word" (defArgs s_is_word) (defBody s_is_word) (defScope s_is_word) .none kV1 dc1 pm1 an1 cd1 ct1), sl1⟩)
    (c1 : PySem.W.codeIn K cd1 "is_word" = true)
    (k1_ : PySem.W.keepIn K (.ref f1) = true)
    (a2 : PySem.W.nsIn K mainGlobals "is_pure" = some (some (.ref f2)))
    (l2 : K.lookup f2 = some ⟨oc2, od2, .func (PySem.W.fnOf "is_pure" "is_pure" (defArgs s_is_pure) (defBody s_is_pure) (defScope s_is_pure) .none kV2 dc2 pm2 an2 cd2 ct2), sl2⟩)
    (c2 : PySem.W.codeIn K cd2 "is_pure" = true)
    (k2_ : PySem.W.keepIn K (.ref f2) = true)
    (a3 : PySem.W.nsIn K mainGlobals "part_ok" = some (some (.ref f3)))
    (l3 : K.lookup f3 = some ⟨oc3, od3, .func (PySem.W.fnOf "part_ok" "part_ok" (defArgs s_part_ok) (defBody s_part_ok) (defScope s_part_ok) .none kV3 dc3 pm3 an3 cd3 ct3), sl3⟩)
    (c3 : PySem.W.codeIn K cd3 "part_ok" = true)
    (k3_ : PySem.W.keepIn K (.ref f3) = true)
    (a4 : PySem.W.nsIn K mainGlobals "pattern_counts" = some (some (.ref f4)))
    (l4 : K.lookup f4 = some ⟨oc4, od4, .func (PySem.W.fnOf "pattern_counts" "pattern_counts" (defArgs s_pattern_counts) (defBody s_pattern_counts) (defScope s_pattern_counts) .none kV4 dc4 pm4 an4 cd4 ct4), sl4⟩)
    (c4 : PySem.W.codeIn K cd4 "pattern_counts" = true)
    (k4_ : PySem.W.keepIn K (.ref f4) = true)
    (a5 : PySem.W.nsIn K mainGlobals "pattern_ok" = some (some (.ref f5)))
    (l5 : K.lookup f5 = some ⟨oc5, od5, .func (PySem.W.fnOf "pattern_ok" "pattern_ok" (defArgs s_pattern_ok) (defBody s_pattern_ok) (defScope s_pattern_ok) .none kV5 dc5 pm5 an5 cd5 ct5), sl5⟩)
    (c5 : PySem.W.codeIn K cd5 "pattern_ok" = true)
    (k5_ : PySem.W.keepIn K (.ref f5) = true)
    (a6 : PySem.W.nsIn K mainGlobals "plain_pattern" = some (some (.ref f6)))
    (l6 : K.lookup f6 = some ⟨oc6, od6, .func (PySem.W.fnOf "plain_pattern" "plain_pattern" (defArgs s_plain_pattern) (defBody s_plain_pattern) (defScope s_plain_pattern) .none kV6 dc6 pm6 an6 cd6 ct6), sl6⟩)
    (c6 : PySem.W.codeIn K cd6 "plain_pattern" = true)
    (k6_ : PySem.W.keepIn K (.ref f6) = true)
    (a7 : PySem.W.nsIn K mainGlobals "timing_fault" = some (some (.ref f7)))
    (l7 : K.lookup f7 = some ⟨oc7, od7, .func (PySem.W.fnOf "timing_fault" "timing_fault" (defArgs s_timing_fault) (defBody s_timing_fault) (defScope s_timing_fault) .none kV7 dc7 pm7 an7 cd7 ct7), sl7⟩)
    (c7 : PySem.W.codeIn K cd7 "timing_fault" = true)
    (k7_ : PySem.W.keepIn K (.ref f7) = true)
    (a8 : PySem.W.nsIn K mainGlobals "tile_fault" = some (some (.ref f8)))
    (l8 : K.lookup f8 = some ⟨oc8, od8, .func (PySem.W.fnOf "tile_fault" "tile_fault" (defArgs s_tile_fault) (defBody s_tile_fault) (defScope s_tile_fault) .none kV8 dc8 pm8 an8 cd8 ct8), sl8⟩)
    (c8 : PySem.W.codeIn K cd8 "tile_fault" = true)
    (k8_ : PySem.W.keepIn K (.ref f8) = true)
    (a9 : PySem.W.nsIn K mainGlobals "lacks_tile" = some (some (.ref f9)))
    (l9 : K.lookup f9 = some ⟨oc9, od9, .func (PySem.W.fnOf "lacks_tile" "lacks_tile" (defArgs s_lacks_tile) (defBody s_lacks_tile) (defScope s_lacks_tile) .none kV9 dc9 pm9 an9 cd9 ct9), sl9⟩)
    (c9 : PySem.W.codeIn K cd9 "lacks_tile" = true)
    (k9_ : PySem.W.keepIn K (.ref f9) = true)
    (a10 : PySem.W.nsIn K mainGlobals "check_machine" = some (some (.ref f10)))
    (l10 : K.lookup f10 = some ⟨oc10, od10, .func (PySem.W.fnOf "check_machine" "check_machine" (defArgs s_check_machine) (defBody s_check_machine) (defScope s_check_machine) .none kV10 dc10 pm10 an10 cd10 ct10), sl10⟩)
    (c10 : PySem.W.codeIn K cd10 "check_machine" = true)
    (k10_ : PySem.W.keepIn K (.ref f10) = true)
    (a11 : PySem.W.nsIn K mainGlobals "_law_state" = some (some (.ref f11)))
    (l11 : K.lookup f11 = some ⟨oc11, od11, .func (PySem.W.fnOf "_law_state" "_law_state" (defArgs s_law_state) (defBody s_law_state) (defScope s_law_state) .none kV11 dc11 pm11 an11 cd11 ct11), sl11⟩)
    (c11 : PySem.W.codeIn K cd11 "_law_state" = true)
    (k11_ : PySem.W.keepIn K (.ref f11) = true)
    (a12 : PySem.W.nsIn K mainGlobals "_law_take" = some (some (.ref f12)))
    (l12 : K.lookup f12 = some ⟨oc12, od12, .func (PySem.W.fnOf "_law_take" "_law_take" (defArgs s_law_take) (defBody s_law_take) (defScope s_law_take) .none kV12 dc12 pm12 an12 cd12 ct12), sl12⟩)
    (c12 : PySem.W.codeIn K cd12 "_law_take" = true)
    (k12_ : PySem.W.keepIn K (.ref f12) = true)
    (a13 : PySem.W.nsIn K mainGlobals "_law_pick" = some (some (.ref f13)))
    (l13 : K.lookup f13 = some ⟨oc13, od13, .func (PySem.W.fnOf "_law_pick" "_law_pick" (defArgs s_law_pick) (defBody s_law_pick) (defScope s_law_pick) .none kV13 dc13 pm13 an13 cd13 ct13), sl13⟩)
    (c13 : PySem.W.codeIn K cd13 "_law_pick" = true)
    (k13_ : PySem.W.keepIn K (.ref f13) = true)
    (a14 : PySem.W.nsIn K mainGlobals "_law_same" = some (some (.ref f14)))
    (l14 : K.lookup f14 = some ⟨oc14, od14, .func (PySem.W.fnOf "_law_same" "_law_same" (defArgs s_law_same) (defBody s_law_same) (defScope s_law_same) .none kV14 dc14 pm14 an14 cd14 ct14), sl14⟩)
    (c14 : PySem.W.codeIn K cd14 "_law_same" = true)
    (k14_ : PySem.W.keepIn K (.ref f14) = true)
    (a15 : PySem.W.nsIn K mainGlobals "_law_count" = some (some (.ref f15)))
    (l15 : K.lookup f15 = some ⟨oc15, od15, .func (PySem.W.fnOf "_law_count" "_law_count" (defArgs s_law_count) (defBody s_law_count) (defScope s_law_count) .none kV15 dc15 pm15 an15 cd15 ct15), sl15⟩)
    (c15 : PySem.W.codeIn K cd15 "_law_count" = true)
    (k15_ : PySem.W.keepIn K (.ref f15) = true)
    (a16 : PySem.W.nsIn K mainGlobals "_law_ops" = some (some (.ref f16)))
    (l16 : K.lookup f16 = some ⟨oc16, od16, .func (PySem.W.fnOf "_law_ops" "_law_ops" (defArgs s_law_ops) (defBody s_law_ops) (defScope s_law_ops) .none kV16 dc16 pm16 an16 cd16 ct16), sl16⟩)
    (c16 : PySem.W.codeIn K cd16 "_law_ops" = true)
    (k16_ : PySem.W.keepIn K (.ref f16) = true)
    (a17 : PySem.W.nsIn K mainGlobals "_law_is_word" = some (some (.ref f17)))
    (l17 : K.lookup f17 = some ⟨oc17, od17, .func (PySem.W.fnOf "_law_is_word" "_law_is_word" (defArgs s_law_is_word) (defBody s_law_is_word) (defScope s_law_is_word) .none kV17 dc17 pm17 an17 cd17 ct17), sl17⟩)
    (c17 : PySem.W.codeIn K cd17 "_law_is_word" = true)
    (k17_ : PySem.W.keepIn K (.ref f17) = true)
    (a18 : PySem.W.nsIn K mainGlobals "_law_sum" = some (some (.ref f18)))
    (l18 : K.lookup f18 = some ⟨oc18, od18, .func (PySem.W.fnOf "_law_sum" "_law_sum" (defArgs s_law_sum) (defBody s_law_sum) (defScope s_law_sum) .none kV18 dc18 pm18 an18 cd18 ct18), sl18⟩)
    (c18 : PySem.W.codeIn K cd18 "_law_sum" = true)
    (k18_ : PySem.W.keepIn K (.ref f18) = true)
    (a19 : PySem.W.nsIn K mainGlobals "_law_big" = some (some (.ref f19)))
    (l19 : K.lookup f19 = some ⟨oc19, od19, .func (PySem.W.fnOf "_law_big" "_law_big" (defArgs s_law_big) (defBody s_law_big) (defScope s_law_big) .none kV19 dc19 pm19 an19 cd19 ct19), sl19⟩)
    (c19 : PySem.W.codeIn K cd19 "_law_big" = true)
    (k19_ : PySem.W.keepIn K (.ref f19) = true)
    (a20 : PySem.W.nsIn K mainGlobals "_law_tile_fault" = some (some (.ref f20)))
    (l20 : K.lookup f20 = some ⟨oc20, od20, .func (PySem.W.fnOf "_law_tile_fault" "_law_tile_fault" (defArgs s_law_tile_fault) (defBody s_law_tile_fault) (defScope s_law_tile_fault) .none kV20 dc20 pm20 an20 cd20 ct20), sl20⟩)
    (c20 : PySem.W.codeIn K cd20 "_law_tile_fault" = true)
    (k20_ : PySem.W.keepIn K (.ref f20) = true)
    (a21 : PySem.W.nsIn K mainGlobals "_law_fault" = some (some (.ref f21)))
    (l21 : K.lookup f21 = some ⟨oc21, od21, .func (PySem.W.fnOf "_law_fault" "_law_fault" (defArgs s_law_fault) (defBody s_law_fault) (defScope s_law_fault) .none kV21 dc21 pm21 an21 cd21 ct21), sl21⟩)
    (c21 : PySem.W.codeIn K cd21 "_law_fault" = true)
    (k21_ : PySem.W.keepIn K (.ref f21) = true)
    (a22 : PySem.W.nsIn K mainGlobals "_law_any" = some (some (.ref f22)))
    (l22 : K.lookup f22 = some ⟨oc22, od22, .func (PySem.W.fnOf "_law_any" "_law_any" (defArgs s_law_any) (defBody s_law_any) (defScope s_law_any) .none kV22 dc22 pm22 an22 cd22 ct22), sl22⟩)
    (c22 : PySem.W.codeIn K cd22 "_law_any" = true)
    (k22_ : PySem.W.keepIn K (.ref f22) = true)
    (a23 : PySem.W.nsIn K mainGlobals "_law_further" = some (some (.ref f23)))
    (l23 : K.lookup f23 = some ⟨oc23, od23, .func (PySem.W.fnOf "_law_further" "_law_further" (defArgs s_law_further) (defBody s_law_further) (defScope s_law_further) .none kV23 dc23 pm23 an23 cd23 ct23), sl23⟩)
    (c23 : PySem.W.codeIn K cd23 "_law_further" = true)
    (k23_ : PySem.W.keepIn K (.ref f23) = true)
    (a24 : PySem.W.nsIn K mainGlobals "_law_bad" = some (some (.ref f24)))
    (l24 : K.lookup f24 = some ⟨oc24, od24, .func (PySem.W.fnOf "_law_bad" "_law_bad" (defArgs s_law_bad) (defBody s_law_bad) (defScope s_law_bad) .none kV24 dc24 pm24 an24 cd24 ct24), sl24⟩)
    (c24 : PySem.W.codeIn K cd24 "_law_bad" = true)
    (k24_ : PySem.W.keepIn K (.ref f24) = true)
    (a25 : PySem.W.nsIn K mainGlobals "_law_wide" = some (some (.ref f25)))
    (l25 : K.lookup f25 = some ⟨oc25, od25, .func (PySem.W.fnOf "_law_wide" "_law_wide" (defArgs s_law_wide) (defBody s_law_wide) (defScope s_law_wide) .none kV25 dc25 pm25 an25 cd25 ct25), sl25⟩)
    (c25 : PySem.W.codeIn K cd25 "_law_wide" = true)
    (k25_ : PySem.W.keepIn K (.ref f25) = true)
    (a26 : PySem.W.nsIn K mainGlobals "_law_tiles" = some (some (.ref f26)))
    (l26 : K.lookup f26 = some ⟨oc26, od26, .func (PySem.W.fnOf "_law_tiles" "_law_tiles" (defArgs s_law_tiles) (defBody s_law_tiles) (defScope s_law_tiles) .none kV26 dc26 pm26 an26 cd26 ct26), sl26⟩)
    (c26 : PySem.W.codeIn K cd26 "_law_tiles" = true)
    (k26_ : PySem.W.keepIn K (.ref f26) = true)
    (a27 : PySem.W.nsIn K mainGlobals "_law_bent" = some (some (.ref f27)))
    (l27 : K.lookup f27 = some ⟨oc27, od27, .func (PySem.W.fnOf "_law_bent" "_law_bent" (defArgs s_law_bent) (defBody s_law_bent) (defScope s_law_bent) .none kV27 dc27 pm27 an27 cd27 ct27), sl27⟩)
    (c27 : PySem.W.codeIn K cd27 "_law_bent" = true)
    (k27_ : PySem.W.keepIn K (.ref f27) = true)
    (a28 : PySem.W.nsIn K mainGlobals "_law_spoilt" = some (some (.ref f28)))
    (l28 : K.lookup f28 = some ⟨oc28, od28, .func (PySem.W.fnOf "_law_spoilt" "_law_spoilt" (defArgs s_law_spoilt) (defBody s_law_spoilt) (defScope s_law_spoilt) .none kV28 dc28 pm28 an28 cd28 ct28), sl28⟩)
    (c28 : PySem.W.codeIn K cd28 "_law_spoilt" = true)
    (k28_ : PySem.W.keepIn K (.ref f28) = true)
    (a29 : PySem.W.nsIn K mainGlobals "_law_right" = some (some (.ref f29)))
    (l29 : K.lookup f29 = some ⟨oc29, od29, .func (PySem.W.fnOf "_law_right" "_law_right" (defArgs s_law_right) (defBody s_law_right) (defScope s_law_right) .none kV29 dc29 pm29 an29 cd29 ct29), sl29⟩)
    (c29 : PySem.W.codeIn K cd29 "_law_right" = true)
    (k29_ : PySem.W.keepIn K (.ref f29) = true)
    (a30 : PySem.W.nsIn K mainGlobals "_law_plain" = some (some (.ref f30)))
    (l30 : K.lookup f30 = some ⟨oc30, od30, .func (PySem.W.fnOf "_law_plain" "_law_plain" (defArgs s_law_plain) (defBody s_law_plain) (defScope s_law_plain) .none kV30 dc30 pm30 an30 cd30 ct30), sl30⟩)
    (c30 : PySem.W.codeIn K cd30 "_law_plain" = true)
    (k30_ : PySem.W.keepIn K (.ref f30) = true)
    (a31 : PySem.W.nsIn K mainGlobals "_law_shown" = some (some (.ref f31)))
    (l31 : K.lookup f31 = some ⟨oc31, od31, .func (PySem.W.fnOf "_law_shown" "_law_shown" (defArgs s_law_shown) (defBody s_law_shown) (defScope s_law_shown) .none kV31 dc31 pm31 an31 cd31 ct31), sl31⟩)
    (c31 : PySem.W.codeIn K cd31 "_law_shown" = true)
    (k31_ : PySem.W.keepIn K (.ref f31) = true)
    (a32 : PySem.W.nsIn K mainGlobals "_law_said" = some (some (.ref f32)))
    (l32 : K.lookup f32 = some ⟨oc32, od32, .func (PySem.W.fnOf "_law_said" "_law_said" (defArgs s_law_said) (defBody s_law_said) (defScope s_law_said) .none kV32 dc32 pm32 an32 cd32 ct32), sl32⟩)
    (c32 : PySem.W.codeIn K cd32 "_law_said" = true)
    (k32_ : PySem.W.keepIn K (.ref f32) = true)
    (a33 : PySem.W.nsIn K mainGlobals "_law_said_plain" = some (some (.ref f33)))
    (l33 : K.lookup f33 = some ⟨oc33, od33, .func (PySem.W.fnOf "_law_said_plain" "_law_said_plain" (defArgs s_law_said_plain) (defBody s_law_said_plain) (defScope s_law_said_plain) .none kV33 dc33 pm33 an33 cd33 ct33), sl33⟩)
    (c33 : PySem.W.codeIn K cd33 "_law_said_plain" = true)
    (k33_ : PySem.W.keepIn K (.ref f33) = true)
    (a34 : PySem.W.nsIn K mainGlobals "_law_due" = some (some (.ref f34)))
    (l34 : K.lookup f34 = some ⟨oc34, od34, .func (PySem.W.fnOf "_law_due" "_law_due" (defArgs s_law_due) (defBody s_law_due) (defScope s_law_due) .none kV34 dc34 pm34 an34 cd34 ct34), sl34⟩)
    (c34 : PySem.W.codeIn K cd34 "_law_due" = true)
    (k34_ : PySem.W.keepIn K (.ref f34) = true)
    (a35 : PySem.W.nsIn K mainGlobals "law" = some (some (.ref f35)))
    (l35 : K.lookup f35 = some ⟨oc35, od35, .func (PySem.W.fnOf "law" "law" (defArgs s_law) (defBody s_law) (defScope s_law) .none kV35 dc35 pm35 an35 cd35 ct35), sl35⟩)
    (c35 : PySem.W.codeIn K cd35 "law" = true)
    (k35_ : PySem.W.keepIn K (.ref f35) = true)
    : ∃ fd : FuncData, (∀ (s : Shared) (v : Value), BindsTo s fd ⟨[v], []⟩ [("script", v)]) ∧ ∀ base : Heap, K.In base → base.Ns mainGlobals mg → FnOk l.prog w K mg base CX0 13 fa fd ["script"] (lowSp K spLaw) := by
  have e := hfa.symm.trans (PySem.W.mg_of X G a35)
  cases e
  have T : Tg mg := ⟨PySem.W.mg_none_of X G z_len, PySem.W.mg_none_of X G z_list, PySem.W.mg_none_of X G z_tuple, PySem.W.mg_none_of X G z_range, PySem.W.mg_none_of X G z_enumerate, PySem.W.mg_none_of X G z_int, PySem.W.mg_none_of X G z_abs, PySem.W.mg_none_of X G z_sum, PySem.W.mg_none_of X G z_all, PySem.W.mg_none_of X G z_any, PySem.W.mg_none_of X G z_isinstance, PySem.W.mg_none_of X G z_bool, PySem.W.mg_none_of X G z_str⟩
  have BM : BmT l.prog K mg C fJ := ⟨⟨⟨nmB, qB, NB, bsB, bmB, snB, subB, abB, colB, ddB, n0, n1, n2, n3, n5, xLB, xVB⟩, saB, nPB, nAB, nWB, aIB, tIB, kCB, eCB, tCB, vCB, mCB, uCB, oq, PySem.W.mg_none_of X G gS, ht, ⟨_, _, _, _, _, _, cdb, _, _, cb, _, _, cvsB, _, fileB, tfB, _, _, _, lIB, cIB, lAB, vAB, fAB, lCB⟩⟩, PySem.W.mg_of X G aB⟩
  have XM : ExM K mg C CL CU := { exc := exc_mk gaB ggB eCB hCB qaB qn qt qmB, exm := PySem.W.exm_ref eCB hCB tCB sCB, kL := kkL, kU := kkU, xf := ⟨gaB, ggB, eCB, hCB⟩, nP := nPB, nA := nAB, nW := nWB, gC := PySem.W.mg_of X G aB, gL := PySem.W.mg_of X G aL, gU := PySem.W.mg_of X G aU }
  have Gb : Glb K w mg dC := { letters := ⟨tkL, PySem.W.mg_of X G gL⟩, digits := ⟨tkD, PySem.W.mg_of X G gD⟩, ml := ⟨tk_ml, PySem.W.mg_of X G g_ml⟩, lp := ⟨tk_lp, PySem.W.mg_of X G g_lp⟩, mp := ⟨tk_mp, PySem.W.mg_of X G g_mp⟩, mt := ⟨tk_mt, PySem.W.mg_of X G g_mt⟩, md := ⟨tk_md, PySem.W.mg_of X G g_md⟩, mh := ⟨tk_mh, PySem.W.mg_of X G g_mh⟩, mi := ⟨tk_mi, PySem.W.mg_of X G g_mi⟩, mo := ⟨tk_mo, PySem.W.mg_of X G g_mo⟩, mb := ⟨tk_mb, PySem.W.mg_of X G g_mb⟩, mw := ⟨tk_mw, PySem.W.mg_of X G g_mw⟩, bp := ⟨tk_bp, PySem.W.mg_of X G g_bp⟩, cg := PySem.W.mg_of X G aC, cd := kd_mk lD eD lwD, pg := ⟨aPu, PySem.W.mg_of X G aP, fun H => .inr ⟨_, itsP, nP, lP, rfl, rfl, zP, vP⟩⟩ }
  have Mc : McT K mg CM fI fP fL pp (.type "type") := { cls := ⟨pg, hd, po, sa⟩, no_places := n_places, no_tiles := n_tiles, no_basic := n_basic, no_exchange := n_exchange, no_usable := n_usable, no_tile_number := n_tile_number, mak := ⟨mk, aI, iI, kc⟩, parts := ⟨aPa, iPa, kV⟩, rd := ⟨rd, rg⟩, sm := ⟨smA, ⟨_, smR⟩, kW⟩, gM := PySem.W.mg_of X G aM }
  have FU := fun_mk (st := s_Machine_init) lU cU kU
  have FV := fun_mk (st := s_Machine_parts) lV cV kV
  have FW : FunD K "plain" "Machine.plain" (defArgs s_Machine_plain) (defBody s_Machine_plain) (defScope s_Machine_plain) [V.int 1] [] fL (PySem.W.fnOf "plain" "Machine.plain" (defArgs s_Machine_plain) (defBody s_Machine_plain) (defScope s_Machine_plain) (.ref TD) kVW dcW pmW anW cdW ctW) := ⟨⟨_, _, _, _, _, _, _, _, _, _, rfl, lW, cW, .inr ⟨List.cons_ne_nil _ _, TD, _, itsT.toList, nT, rfl, lT, by rw [Array.toArray_toList], vT⟩, .inl rfl⟩, kW⟩
  have bU := FU.binds (ps := ["self", "places", "tiles", "basic", "exchange"]) fun _ _ _ _ _ _ us hl => match us, hl with | [_, _, _, _, _], _ => rfl
  have bV := FV.binds (ps := ["self"]) fun _ _ _ _ _ _ us hl => match us, hl with | [_], _ => rfl
  obtain ⟨dw1, vw1, bW1⟩ := FW.binds1 (ps := ["places", "wait"]) 1 0 (List.cons_ne_nil _ _) rfl fun T kV doc pm an cdv ct us its hl hl2 => match us, hl, its, hl2 with | [_], _, [_], _ => ⟨_, rfl, rfl⟩
  obtain ⟨dw2, vw2, bW2⟩ := FW.binds1 (ps := ["places", "wait"]) 2 1 (List.cons_ne_nil _ _) rfl fun T kV doc pm an cdv ct us its hl hl2 => match us, hl, its, hl2 with | [_, _], _, [_], _ => ⟨_, rfl, rfl⟩
  cases vw2
  obtain ⟨dw, rfl⟩ : ∃ dw, dw1 = [dw] := by cases vw1 with | cons a b => cases b; exact ⟨_, rfl⟩
  have KB : KBn K (PySem.W.fnOf "__init__" "Machine.__init__" (defArgs s_Machine_init) (defBody s_Machine_init) (defScope s_Machine_init) .none kVU dcU pmU anU cdU ctU) ["self", "places", "tiles", "basic", "exchange"] 1 ["places", "tiles", "basic", "exchange"] (fun us ws => us ++ ws) (fun vs zs => vs ++ zs) := ⟨fun s us ws _ hl hl2 => match us, hl, ws, hl2 with | [_], _, [_, _, _, _], _ => .of_eq (show bindArgs (PySem.W.fnOf "__init__" "Machine.__init__" (defArgs s_Machine_init) (defBody s_Machine_init) (defScope s_Machine_init) .none kVU dcU pmU anU cdU ctU) _ = _ from rfl), fun a b => a.append b⟩
  have F1 := fun_mk (st := s_is_word) l1 c1 k1_
  have b1 := F1.binds (ps := ["text"]) fun _ _ _ _ _ _ us hl => match us, hl with | [_], _ => rfl
  have F2 := fun_mk (st := s_is_pure) l2 c2 k2_
  have b2 := F2.binds (ps := ["operation"]) fun _ _ _ _ _ _ us hl => match us, hl with | [_], _ => rfl
  have F3 := fun_mk (st := s_part_ok) l3 c3 k3_
  have b3 := F3.binds (ps := ["part", "top"]) fun _ _ _ _ _ _ us hl => match us, hl with | [_, _], _ => rfl
  have F4 := fun_mk (st := s_pattern_counts) l4 c4 k4_
  have b4 := F4.binds (ps := ["pattern"]) fun _ _ _ _ _ _ us hl => match us, hl with | [_], _ => rfl
  have F5 := fun_mk (st := s_pattern_ok) l5 c5 k5_
  have b5 := F5.binds (ps := ["pattern"]) fun _ _ _ _ _ _ us hl => match us, hl with | [_], _ => rfl
  have F6 := fun_mk (st := s_plain_pattern) l6 c6 k6_
  have b6 := F6.binds (ps := ["operation"]) fun _ _ _ _ _ _ us hl => match us, hl with | [_], _ => rfl
  have F7 := fun_mk (st := s_timing_fault) l7 c7 k7_
  have b7 := F7.binds (ps := ["busy", "wait"]) fun _ _ _ _ _ _ us hl => match us, hl with | [_, _], _ => rfl
  have F8 := fun_mk (st := s_tile_fault) l8 c8 k8_
  have b8 := F8.binds (ps := ["tiles", "at"]) fun _ _ _ _ _ _ us hl => match us, hl with | [_, _], _ => rfl
  have F9 := fun_mk (st := s_lacks_tile) l9 c9 k9_
  have b9 := F9.binds (ps := ["tiles"]) fun _ _ _ _ _ _ us hl => match us, hl with | [_], _ => rfl
  have F10 := fun_mk (st := s_check_machine) l10 c10 k10_
  have b10 := F10.binds (ps := ["places", "tiles", "basic", "exchange"]) fun _ _ _ _ _ _ us hl => match us, hl with | [_, _, _, _], _ => rfl
  have F11 := fun_mk (st := s_law_state) l11 c11 k11_
  have b11 := F11.binds (ps := ["script"]) fun _ _ _ _ _ _ us hl => match us, hl with | [_], _ => rfl
  have F12 := fun_mk (st := s_law_take) l12 c12 k12_
  have b12 := F12.binds (ps := ["pool", "m"]) fun _ _ _ _ _ _ us hl => match us, hl with | [_, _], _ => rfl
  have F13 := fun_mk (st := s_law_pick) l13 c13 k13_
  have b13 := F13.binds (ps := ["pool", "row"]) fun _ _ _ _ _ _ us hl => match us, hl with | [_, _], _ => rfl
  have F14 := fun_mk (st := s_law_same) l14 c14 k14_
  have b14 := F14.binds (ps := ["told", "due"]) fun _ _ _ _ _ _ us hl => match us, hl with | [_, _], _ => rfl
  have F15 := fun_mk (st := s_law_count) l15 c15 k15_
  have b15 := F15.binds (ps := ["op"]) fun _ _ _ _ _ _ us hl => match us, hl with | [_], _ => rfl
  have F16 := fun_mk (st := s_law_ops) l16 c16 k16_
  have b16 := F16.binds (ps := []) fun _ _ _ _ _ _ us hl => match us, hl with | [], _ => rfl
  have F17 := fun_mk (st := s_law_is_word) l17 c17 k17_
  have b17 := F17.binds (ps := ["text"]) fun _ _ _ _ _ _ us hl => match us, hl with | [_], _ => rfl
  have F18 := fun_mk (st := s_law_sum) l18 c18 k18_
  have b18 := F18.binds (ps := ["sub", "top"]) fun _ _ _ _ _ _ us hl => match us, hl with | [_, _], _ => rfl
  have F19 := fun_mk (st := s_law_big) l19 c19 k19_
  have b19 := F19.binds (ps := ["pattern"]) fun _ _ _ _ _ _ us hl => match us, hl with | [_], _ => rfl
  have F20 := fun_mk (st := s_law_tile_fault) l20 c20 k20_
  have b20 := F20.binds (ps := ["tile", "words"]) fun _ _ _ _ _ _ us hl => match us, hl with | [_, _], _ => rfl
  have F21 := fun_mk (st := s_law_fault) l21 c21 k21_
  have b21 := F21.binds (ps := ["places", "tiles", "basic", "exchange"]) fun _ _ _ _ _ _ us hl => match us, hl with | [_, _, _, _], _ => rfl
  have F22 := fun_mk (st := s_law_any) l22 c22 k22_
  have b22 := F22.binds (ps := ["pool", "deep"]) fun _ _ _ _ _ _ us hl => match us, hl with | [_, _], _ => rfl
  have F23 := fun_mk (st := s_law_further) l23 c23 k23_
  have b23 := F23.binds (ps := ["pool"]) fun _ _ _ _ _ _ us hl => match us, hl with | [_], _ => rfl
  have F24 := fun_mk (st := s_law_bad) l24 c24 k24_
  have b24 := F24.binds (ps := ["pool"]) fun _ _ _ _ _ _ us hl => match us, hl with | [_], _ => rfl
  have F25 := fun_mk (st := s_law_wide) l25 c25 k25_
  have b25 := F25.binds (ps := ["pool"]) fun _ _ _ _ _ _ us hl => match us, hl with | [_], _ => rfl
  have F26 := fun_mk (st := s_law_tiles) l26 c26 k26_
  have b26 := F26.binds (ps := ["pool", "more"]) fun _ _ _ _ _ _ us hl => match us, hl with | [_, _], _ => rfl
  have F27 := fun_mk (st := s_law_bent) l27 c27 k27_
  have b27 := F27.binds (ps := ["pool", "kind", "tile", "tiles"]) fun _ _ _ _ _ _ us hl => match us, hl with | [_, _, _, _], _ => rfl
  have F28 := fun_mk (st := s_law_spoilt) l28 c28 k28_
  have b28 := F28.binds (ps := ["pool", "places", "tiles", "basic", "exchange"]) fun _ _ _ _ _ _ us hl => match us, hl with | [_, _, _, _, _], _ => rfl
  have F29 := fun_mk (st := s_law_right) l29 c29 k29_
  have b29 := F29.binds (ps := ["pool"]) fun _ _ _ _ _ _ us hl => match us, hl with | [_], _ => rfl
  have F30 := fun_mk (st := s_law_plain) l30 c30 k30_
  have b30 := F30.binds (ps := ["places", "wait"]) fun _ _ _ _ _ _ us hl => match us, hl with | [_, _], _ => rfl
  have F31 := fun_mk (st := s_law_shown) l31 c31 k31_
  have b31 := F31.binds (ps := ["told"]) fun _ _ _ _ _ _ us hl => match us, hl with | [_], _ => rfl
  have F32 := fun_mk (st := s_law_said) l32 c32 k32_
  have b32 := F32.binds (ps := ["places", "tiles", "basic", "exchange"]) fun _ _ _ _ _ _ us hl => match us, hl with | [_, _, _, _], _ => rfl
  have F33 := fun_mk (st := s_law_said_plain) l33 c33 k33_
  have b33 := F33.binds (ps := ["places", "wait"]) fun _ _ _ _ _ _ us hl => match us, hl with | [_, _], _ => rfl
  have F34 := fun_mk (st := s_law_due) l34 c34 k34_
  have b34 := F34.binds (ps := ["places", "tiles", "basic", "exchange"]) fun _ _ _ _ _ _ us hl => match us, hl with | [_, _, _, _], _ => rfl
  have F35 := fun_mk (st := s_law) l35 c35 k35_
  have b35 := F35.binds (ps := ["script"]) fun _ _ _ _ _ _ us hl => match us, hl with | [_], _ => rfl
  refine ⟨PySem.W.fnOf "law" "law" (defArgs s_law) (defBody s_law) (defScope s_law) .none kV35 dc35 pm35 an35 cd35 ct35, fun s v => .of_eq rfl, fun base _ _ => ?_⟩
  have O_is_word : Own l.prog w K mg base 1 "is_word" ["text"] spIW f1 (PySem.W.fnOf "is_word" "is_word" (defArgs s_is_word) (defBody s_is_word) (defScope s_is_word) .none kV1 dc1 pm1 an1 cd1 ct1) := ⟨ok_iw F1 T Gb, PySem.W.mg_of X G a1, k1_, b1⟩
  have O_is_pure : Own l.prog w K mg base 1 "is_pure" ["operation"] spIP f2 (PySem.W.fnOf "is_pure" "is_pure" (defArgs s_is_pure) (defBody s_is_pure) (defScope s_is_pure) .none kV2 dc2 pm2 an2 cd2 ct2) := ⟨ok_ip F2 Gb, PySem.W.mg_of X G a2, k2_, b2⟩
  have O_part_ok : Own l.prog w K mg base 2 "part_ok" ["part", "top"] spPO f3 (PySem.W.fnOf "part_ok" "part_ok" (defArgs s_part_ok) (defBody s_part_ok) (defScope s_part_ok) .none kV3 dc3 pm3 an3 cd3 ct3) := ⟨ok_po F3 T Gb O_is_pure, PySem.W.mg_of X G a3, k3_, b3⟩
  have O_pattern_counts : Own l.prog w K mg base 3 "pattern_counts" ["pattern"] spPC f4 (PySem.W.fnOf "pattern_counts" "pattern_counts" (defArgs s_pattern_counts) (defBody s_pattern_counts) (defScope s_pattern_counts) .none kV4 dc4 pm4 an4 cd4 ct4) := ⟨ok_pc F4 T O_part_ok, PySem.W.mg_of X G a4, k4_, b4⟩
  have O_pattern_ok : Own l.prog w K mg base 4 "pattern_ok" ["pattern"] spPK f5 (PySem.W.fnOf "pattern_ok" "pattern_ok" (defArgs s_pattern_ok) (defBody s_pattern_ok) (defScope s_pattern_ok) .none kV5 dc5 pm5 an5 cd5 ct5) := ⟨ok_pk F5 O_pattern_counts, PySem.W.mg_of X G a5, k5_, b5⟩
  have O_plain_pattern : Own l.prog w K mg base 1 "plain_pattern" ["operation"] spPP f6 (PySem.W.fnOf "plain_pattern" "plain_pattern" (defArgs s_plain_pattern) (defBody s_plain_pattern) (defScope s_plain_pattern) .none kV6 dc6 pm6 an6 cd6 ct6) := ⟨ok_pp F6 Gb, PySem.W.mg_of X G a6, k6_, b6⟩
  have O_timing_fault : Own l.prog w K mg base 1 "timing_fault" ["busy", "wait"] spTF f7 (PySem.W.fnOf "timing_fault" "timing_fault" (defArgs s_timing_fault) (defBody s_timing_fault) (defScope s_timing_fault) .none kV7 dc7 pm7 an7 cd7 ct7) := ⟨ok_tf F7 Gb, PySem.W.mg_of X G a7, k7_, b7⟩
  have O_tile_fault : Own l.prog w K mg base 5 "tile_fault" ["tiles", "at"] spTFa f8 (PySem.W.fnOf "tile_fault" "tile_fault" (defArgs s_tile_fault) (defBody s_tile_fault) (defScope s_tile_fault) .none kV8 dc8 pm8 an8 cd8 ct8) := ⟨ok_tfa F8 T Gb O_is_word O_pattern_ok O_pattern_counts O_timing_fault, PySem.W.mg_of X G a8, k8_, b8⟩
  have O_lacks_tile : Own l.prog w K mg base 2 "lacks_tile" ["tiles"] spLT f9 (PySem.W.fnOf "lacks_tile" "lacks_tile" (defArgs s_lacks_tile) (defBody s_lacks_tile) (defScope s_lacks_tile) .none kV9 dc9 pm9 an9 cd9 ct9) := ⟨ok_lt F9 T Gb O_plain_pattern, PySem.W.mg_of X G a9, k9_, b9⟩
  have GCm : FnOk l.prog w K mg base (L2N.CX l.prog w) 6 f10 (PySem.W.fnOf "check_machine" "check_machine" (defArgs s_check_machine) (defBody s_check_machine) (defScope s_check_machine) .none kV10 dc10 pm10 an10 cd10 ct10) ["places", "tiles", "basic", "exchange"] (lowSp K (spCM C)) := ok_cm BM F10 T Gb O_tile_fault O_lacks_tile O_timing_fault
  have GIn : FnOk l.prog w K mg base (L2N.CX l.prog w) 7 fI (PySem.W.fnOf "__init__" "Machine.__init__" (defArgs s_Machine_init) (defBody s_Machine_init) (defScope s_Machine_init) .none kVU dcU pmU anU cdU ctU) ["self", "places", "tiles", "basic", "exchange"] (lowSp K (spIn C CM)) := ok_in Mc FU T GCm (PySem.W.mg_of X G a10) k10_ b10
  have GPa : FnOk l.prog w K mg base CX0 1 fP (PySem.W.fnOf "parts" "Machine.parts" (defArgs s_Machine_parts) (defBody s_Machine_parts) (defScope s_Machine_parts) .none kVV dcV pmV anV cdV ctV) ["self"] (lowSp K (spPa CM)) := ok_pa Mc FV
  have GPl : FnOk l.prog w K mg base (L2N.CX l.prog w) 9 fL (PySem.W.fnOf "plain" "Machine.plain" (defArgs s_Machine_plain) (defBody s_Machine_plain) (defScope s_Machine_plain) (.ref TD) kVW dcW pmW anW cdW ctW) ["places", "wait"] (lowSp K (spPl C CM)) := ok_pl Mc FW T Gb GIn bU O_plain_pattern
  have O_law_state : Own l.prog w K mg base 1 "_law_state" ["script"] spState f11 (PySem.W.fnOf "_law_state" "_law_state" (defArgs s_law_state) (defBody s_law_state) (defScope s_law_state) .none kV11 dc11 pm11 an11 cd11 ct11) := ⟨ok_state F11 T, PySem.W.mg_of X G a11, k11_, b11⟩
  have O_law_take : Own l.prog w K mg base 1 "_law_take" ["pool", "m"] spTake f12 (PySem.W.fnOf "_law_take" "_law_take" (defArgs s_law_take) (defBody s_law_take) (defScope s_law_take) .none kV12 dc12 pm12 an12 cd12 ct12) := ⟨ok_take F12 T, PySem.W.mg_of X G a12, k12_, b12⟩
  have O_law_pick : Own l.prog w K mg base 2 "_law_pick" ["pool", "row"] spPick f13 (PySem.W.fnOf "_law_pick" "_law_pick" (defArgs s_law_pick) (defBody s_law_pick) (defScope s_law_pick) .none kV13 dc13 pm13 an13 cd13 ct13) := ⟨ok_pick F13 T O_law_take, PySem.W.mg_of X G a13, k13_, b13⟩
  have O_law_same : Own l.prog w K mg base 12 "_law_same" ["told", "due"] (spSame 11) f14 (PySem.W.fnOf "_law_same" "_law_same" (defArgs s_law_same) (defBody s_law_same) (defScope s_law_same) .none kV14 dc14 pm14 an14 cd14 ct14) := ⟨ok_same F14 T (PySem.W.mg_of X G a14) k14_ b14 11, PySem.W.mg_of X G a14, k14_, b14⟩
  have O_law_count : Own l.prog w K mg base 1 "_law_count" ["op"] spCount f15 (PySem.W.fnOf "_law_count" "_law_count" (defArgs s_law_count) (defBody s_law_count) (defScope s_law_count) .none kV15 dc15 pm15 an15 cd15 ct15) := ⟨ok_count F15 T, PySem.W.mg_of X G a15, k15_, b15⟩
  have O_law_ops : Own l.prog w K mg base 1 "_law_ops" [] spOps f16 (PySem.W.fnOf "_law_ops" "_law_ops" (defArgs s_law_ops) (defBody s_law_ops) (defScope s_law_ops) .none kV16 dc16 pm16 an16 cd16 ct16) := ⟨ok_ops F16, PySem.W.mg_of X G a16, k16_, b16⟩
  have O_law_is_word : Own l.prog w K mg base 1 "_law_is_word" ["text"] spIW f17 (PySem.W.fnOf "_law_is_word" "_law_is_word" (defArgs s_law_is_word) (defBody s_law_is_word) (defScope s_law_is_word) .none kV17 dc17 pm17 an17 cd17 ct17) := ⟨ok_liw F17 T, PySem.W.mg_of X G a17, k17_, b17⟩
  have O_law_sum : Own l.prog w K mg base 8 "_law_sum" ["sub", "top"] (spSum 6) f18 (PySem.W.fnOf "_law_sum" "_law_sum" (defArgs s_law_sum) (defBody s_law_sum) (defScope s_law_sum) .none kV18 dc18 pm18 an18 cd18 ct18) := ⟨ok_sum F18 T O_law_ops O_law_count (PySem.W.mg_of X G a18) k18_ b18 6, PySem.W.mg_of X G a18, k18_, b18⟩
  have O_law_big : Own l.prog w K mg base 9 "_law_big" ["pattern"] spBig f19 (PySem.W.fnOf "_law_big" "_law_big" (defArgs s_law_big) (defBody s_law_big) (defScope s_law_big) .none kV19 dc19 pm19 an19 cd19 ct19) := ⟨ok_big F19 T O_law_sum, PySem.W.mg_of X G a19, k19_, b19⟩
  have O_law_tile_fault : Own l.prog w K mg base 10 "_law_tile_fault" ["tile", "words"] spLTF f20 (PySem.W.fnOf "_law_tile_fault" "_law_tile_fault" (defArgs s_law_tile_fault) (defBody s_law_tile_fault) (defScope s_law_tile_fault) .none kV20 dc20 pm20 an20 cd20 ct20) := ⟨ok_ltf F20 T O_law_is_word O_law_sum O_law_big, PySem.W.mg_of X G a20, k20_, b20⟩
  have O_law_fault : Own l.prog w K mg base 11 "_law_fault" ["places", "tiles", "basic", "exchange"] spFault f21 (PySem.W.fnOf "_law_fault" "_law_fault" (defArgs s_law_fault) (defBody s_law_fault) (defScope s_law_fault) .none kV21 dc21 pm21 an21 cd21 ct21) := ⟨ok_lf F21 T O_law_tile_fault O_law_ops O_law_count, PySem.W.mg_of X G a21, k21_, b21⟩
  have O_law_any : Own l.prog w K mg base 7 "_law_any" ["pool", "deep"] (spAny 4) f22 (PySem.W.fnOf "_law_any" "_law_any" (defArgs s_law_any) (defBody s_law_any) (defScope s_law_any) .none kV22 dc22 pm22 an22 cd22 ct22) := ⟨ok_any F22 T O_law_take O_law_ops O_law_count O_law_pick (PySem.W.mg_of X G a22) k22_ b22 4, PySem.W.mg_of X G a22, k22_, b22⟩
  have O_law_further : Own l.prog w K mg base 10 "_law_further" ["pool"] spFu f23 (PySem.W.fnOf "_law_further" "_law_further" (defArgs s_law_further) (defBody s_law_further) (defScope s_law_further) .none kV23 dc23 pm23 an23 cd23 ct23) := ⟨ok_fu F23 T O_law_any O_law_sum O_law_big, PySem.W.mg_of X G a23, k23_, b23⟩
  have O_law_bad : Own l.prog w K mg base 3 "_law_bad" ["pool"] spFu f24 (PySem.W.fnOf "_law_bad" "_law_bad" (defArgs s_law_bad) (defBody s_law_bad) (defScope s_law_bad) .none kV24 dc24 pm24 an24 cd24 ct24) := ⟨ok_bad F24 T O_law_pick, PySem.W.mg_of X G a24, k24_, b24⟩
  have O_law_wide : Own l.prog w K mg base 3 "_law_wide" ["pool"] spFu f25 (PySem.W.fnOf "_law_wide" "_law_wide" (defArgs s_law_wide) (defBody s_law_wide) (defScope s_law_wide) .none kV25 dc25 pm25 an25 cd25 ct25) := ⟨ok_wide F25 T O_law_pick, PySem.W.mg_of X G a25, k25_, b25⟩
  have O_law_tiles : Own l.prog w K mg base 2 "_law_tiles" ["pool", "more"] spTiles f26 (PySem.W.fnOf "_law_tiles" "_law_tiles" (defArgs s_law_tiles) (defBody s_law_tiles) (defScope s_law_tiles) .none kV26 dc26 pm26 an26 cd26 ct26) := ⟨ok_tiles F26 T O_law_take O_law_count, PySem.W.mg_of X G a26, k26_, b26⟩
  have O_law_bent : Own l.prog w K mg base 4 "_law_bent" ["pool", "kind", "tile", "tiles"] spBent f27 (PySem.W.fnOf "_law_bent" "_law_bent" (defArgs s_law_bent) (defBody s_law_bent) (defScope s_law_bent) .none kV27 dc27 pm27 an27 cd27 ct27) := ⟨ok_bent F27 T O_law_pick O_law_bad O_law_wide, PySem.W.mg_of X G a27, k27_, b27⟩
  have O_law_spoilt : Own l.prog w K mg base 5 "_law_spoilt" ["pool", "places", "tiles", "basic", "exchange"] spSpoilt f28 (PySem.W.fnOf "_law_spoilt" "_law_spoilt" (defArgs s_law_spoilt) (defBody s_law_spoilt) (defScope s_law_spoilt) .none kV28 dc28 pm28 an28 cd28 ct28) := ⟨ok_spoilt F28 T O_law_take O_law_pick O_law_bent, PySem.W.mg_of X G a28, k28_, b28⟩
  have O_law_right : Own l.prog w K mg base 11 "_law_right" ["pool"] spRight f29 (PySem.W.fnOf "_law_right" "_law_right" (defArgs s_law_right) (defBody s_law_right) (defScope s_law_right) .none kV29 dc29 pm29 an29 cd29 ct29) := ⟨ok_right F29 T O_law_take O_law_tiles O_law_further, PySem.W.mg_of X G a29, k29_, b29⟩
  have O_law_plain : Own l.prog w K mg base 2 "_law_plain" ["places", "wait"] spLPl f30 (PySem.W.fnOf "_law_plain" "_law_plain" (defArgs s_law_plain) (defBody s_law_plain) (defScope s_law_plain) .none kV30 dc30 pm30 an30 cd30 ct30) := ⟨ok_lpl F30 T O_law_ops O_law_count, PySem.W.mg_of X G a30, k30_, b30⟩
  have O_law_shown : Own l.prog w K mg base 2 "_law_shown" ["told"] (spShown CM) f31 (PySem.W.fnOf "_law_shown" "_law_shown" (defArgs s_law_shown) (defBody s_law_shown) (defScope s_law_shown) .none kV31 dc31 pm31 an31 cd31 ct31) := ⟨ok_shown Mc F31 T GPa bV, PySem.W.mg_of X G a31, k31_, b31⟩
  have O_law_said : Own l.prog w K mg base 9 "_law_said" ["places", "tiles", "basic", "exchange"] spSaid f32 (PySem.W.fnOf "_law_said" "_law_said" (defArgs s_law_said) (defBody s_law_said) (defScope s_law_said) .none kV32 dc32 pm32 an32 cd32 ct32) := ⟨ok_said XM Mc F32 T GIn bU O_law_shown, PySem.W.mg_of X G a32, k32_, b32⟩
  have O_law_said_plain : Own l.prog w K mg base 10 "_law_said_plain" ["places", "wait"] spSaidP f33 (PySem.W.fnOf "_law_said_plain" "_law_said_plain" (defArgs s_law_said_plain) (defBody s_law_said_plain) (defScope s_law_said_plain) .none kV33 dc33 pm33 an33 cd33 ct33) := ⟨ok_saidp XM Mc F33 T GPl bW2 bW1 vw1 O_law_shown, PySem.W.mg_of X G a33, k33_, b33⟩
  have O_law_due : Own l.prog w K mg base 12 "_law_due" ["places", "tiles", "basic", "exchange"] spDue f34 (PySem.W.fnOf "_law_due" "_law_due" (defArgs s_law_due) (defBody s_law_due) (defScope s_law_due) .none kV34 dc34 pm34 an34 cd34 ct34) := ⟨ok_due F34 T O_law_fault, PySem.W.mg_of X G a34, k34_, b34⟩
  exact ok_law (CL := CL) (CU := CU) Mc F35 T GIn KB GPa bV O_law_state O_law_take O_law_pick O_law_same O_law_said O_law_said_plain O_law_due O_law_spoilt O_law_right O_law_plain
theorem walk {l : PySem.W.OpenLaw} {q : Program} {loose : List Str} {XP : (Str → Option Value) → Heap → Prop} {YP : World → Heap → Prop} {d : DefRec} {K : Params → PySem.W.Frag} (hn : l.most = some 63) (hdf : d.params.defaults = [])
    (hY : ∀ (w : World) (h : Heap), YP w h → (K w.params).In h)
    (F : ∀ (w : World) (mg : Str → Option Value) (fa : Addr) (h : Heap), (K w.params).In h → h.Ns mainGlobals mg → mg d.name = some (.ref fa) →
      ∃ fd : FuncData, (∀ (s : Shared) (u : Value), BindsTo s fd ⟨[u], []⟩ [("script", u)]) ∧ ∀ base : Heap, (K w.params).In base → base.Ns mainGlobals mg → FnOk l.prog w (K w.params) mg base CX0 13 fa fd ["script"] (lowSp (K w.params) spLaw)) :
    PySem.W.WalkO q loose XP YP l.row.toRowW d [] (fun f vs => PySem.call f vs) :=
  L2.walk_of (n := 63) (k := 13) (x := "script") (CX := fun _ => CX0) (sp := fun w => lowSp (K w.params) spLaw) hn (by decide) hdf ⟨rfl, by decide, by decide⟩ hY F (fun _ _ a ns hl _ hS => sp_in hl hS) fun _ _ _ _ _ z => z
end K20
end
section
set_option Elab.async false
set_option linter.all false
set_option maxRecDepth 100000
set_option maxHeartbeats 4000000
open PySem PySem.W PyProof.Rows
set_option maxRecDepth 100000 in
set_option maxHeartbeats 0 in
theorem PySem.Challenge.cw_liveplaces_k20_machine_first_fault_holds : PySem.Challenge.rw_liveplaces_k20_machine_first_fault.Holds := by
  w_on; o_law; k_head; (case hw => w_witness2)
  k_fill
  refine K20.walk (l := PySem.Challenge.rw_liveplaces_k20_machine_first_fault) rfl rfl (fun w h Y => PySem.W.kIn_of Y) ?F
  case F =>
    intro w mg fa h KX G hmg
    refine' K20.all_mk KX G hmg ?aB ?aL ?aU ?aM ?aC ?aP ?xLB ?xVB ?saB ?gaB ?ggB ?nPB ?nAB ?nWB ?aIB ?tIB ?lIB ?cIB ?lAB ?vAB ?fAB ?lCB ?kCB ?eCB ?tCB ?vCB ?mCB ?uCB ?hCB ?qaB ?qmB ?sCB ?oq ?gS ?ht ?qn ?qt ?kkL ?kkU ?pg ?hd ?po ?sa ?n_places ?n_tiles ?n_basic ?n_exchange ?n_usable ?n_tile_number ?mk ?kc ?rd ?rg ?smA ?smR ?aI ?iI ?lU ?cU ?kU ?aPa ?iPa ?lV ?cV ?kV ?lW ?cW ?kW ?lT ?vT ?gL ?gD ?g_ml ?g_lp ?g_mp ?g_mt ?g_md ?g_mh ?g_mi ?g_mo ?g_mb ?g_mw ?g_bp ?lD ?eD ?lwD ?lP ?zP ?vP ?z_len ?z_list ?z_tuple ?z_range ?z_enumerate ?z_int ?z_abs ?z_sum ?z_all ?z_any ?z_isinstance ?z_bool ?z_str ?a1 ?l1 ?c1 ?k1_ ?a2 ?l2 ?c2 ?k2_ ?a3 ?l3 ?c3 ?k3_ ?a4 ?l4 ?c4 ?k4_ ?a5 ?l5 ?c5 ?k5_ ?a6 ?l6 ?c6 ?k6_ ?a7 ?l7 ?c7 ?k7_ ?a8 ?l8 ?c8 ?k8_ ?a9 ?l9 ?c9 ?k9_ ?a10 ?l10 ?c10 ?k10_ ?a11 ?l11 ?c11 ?k11_ ?a12 ?l12 ?c12 ?k12_ ?a13 ?l13 ?c13 ?k13_ ?a14 ?l14 ?c14 ?k14_ ?a15 ?l15 ?c15 ?k15_ ?a16 ?l16 ?c16 ?k16_ ?a17 ?l17 ?c17 ?k17_ ?a18 ?l18 ?c18 ?k18_ ?a19 ?l19 ?c19 ?k19_ ?a20 ?l20 ?c20 ?k20_ ?a21 ?l21 ?c21 ?k21_ ?a22 ?l22 ?c22 ?k22_ ?a23 ?l23 ?c23 ?k23_ ?a24 ?l24 ?c24 ?k24_ ?a25 ?l25 ?c25 ?k25_ ?a26 ?l26 ?c26 ?k26_ ?a27 ?l27 ?c27 ?k27_ ?a28 ?l28 ?c28 ?k28_ ?a29 ?l29 ?c29 ?k29_ ?a30 ?l30 ?c30 ?k30_ ?a31 ?l31 ?c31 ?k31_ ?a32 ?l32 ?c32 ?k32_ ?a33 ?l33 ?c33 ?k33_ ?a34 ?l34 ?c34 ?k34_ ?a35 ?l35 ?c35 ?k35_
    (case aB => k_is)
    (case aL => k_is)
    (case aU => k_is)
    (case aM => k_is)
    (case aC => k_is)
    (case aP => k_is)
    (case xLB => k_is)
    (case xVB => decide +kernel)
    (case saB => k_is)
    (case gaB => k_is)
    (case ggB => k_is)
    (case nPB => k_is)
    (case nAB => k_is)
    (case nWB => k_is)
    (case aIB => k_is)
    (case tIB => k_is)
    (case lIB => k_is)
    (case cIB => k_is)
    (case lAB => k_is)
    (case vAB => rfl)
    (case fAB => rfl)
    (case lCB => k_is)
    (case kCB => k_is)
    (case eCB => k_is)
    (case tCB => k_is)
    (case vCB => k_is)
    (case mCB => k_is)
    (case uCB => first | k_is | rfl | decide +kernel)
    (case hCB => k_is)
    (case qaB => k_is)
    (case qmB => k_is)
    (case sCB => first | rfl | k_is)
    (case oq => k_is)
    (case gS => k_is)
    (case ht => decide +kernel)
    (case qn => k_is)
    (case qt => k_is)
    (case kkL => first | kit_is | k_is | rfl)
    (case kkU => first | kit_is | k_is | rfl)
    (case pg => k_is)
    (case hd => k_is)
    (case po => k_is)
    (case sa => k_is)
    (case n_places => k_is)
    (case n_tiles => k_is)
    (case n_basic => k_is)
    (case n_exchange => k_is)
    (case n_usable => k_is)
    (case n_tile_number => k_is)
    (case mk => k_is)
    (case kc => k_is)
    (case rd => k_is)
    (case rg => k_is)
    (case smA => k_is)
    (case smR => k_is)
    (case aI => k_is)
    (case iI => k_is)
    (case lU => k_is)
    (case cU => k_is)
    (case kU => k_is)
    (case aPa => k_is)
    (case iPa => k_is)
    (case lV => k_is)
    (case cV => k_is)
    (case kV => k_is)
    (case lW => k_is)
    (case cW => k_is)
    (case kW => k_is)
    (case lT => k_is)
    (case vT => exact .cons ⟨_, rfl⟩ .nil)
    (case gL => k_is)
    (case gD => k_is)
    (case g_ml => k_is)
    (case g_lp => k_is)
    (case g_mp => k_is)
    (case g_mt => k_is)
    (case g_md => k_is)
    (case g_mh => k_is)
    (case g_mi => k_is)
    (case g_mo => k_is)
    (case g_mb => k_is)
    (case g_mw => k_is)
    (case g_bp => k_is)
    (case lD => k_is)
    (case eD => exact ⟨⟨_, rfl⟩, rfl, ⟨_, rfl⟩, ⟨⟨_, rfl⟩, rfl, ⟨_, rfl⟩, ⟨⟨_, rfl⟩, rfl, ⟨_, rfl⟩, ⟨⟨_, rfl⟩, rfl, ⟨_, rfl⟩, ⟨⟨_, rfl⟩, rfl, ⟨_, rfl⟩, ⟨⟨_, rfl⟩, rfl, ⟨_, rfl⟩, ⟨⟨_, rfl⟩, rfl, ⟨_, rfl⟩, ⟨⟨_, rfl⟩, rfl, ⟨_, rfl⟩, ⟨⟨_, rfl⟩, rfl, ⟨_, rfl⟩, ⟨⟨_, rfl⟩, rfl, ⟨_, rfl⟩, ⟨⟨_, rfl⟩, rfl, ⟨_, rfl⟩, ⟨⟨_, rfl⟩, rfl, ⟨_, rfl⟩, ⟨⟨_, rfl⟩, rfl, ⟨_, rfl⟩, ⟨⟨_, rfl⟩, rfl, ⟨_, rfl⟩, ⟨⟨_, rfl⟩, rfl, ⟨_, rfl⟩, ⟨⟨_, rfl⟩, rfl, ⟨_, rfl⟩, True.intro⟩⟩⟩⟩⟩⟩⟩⟩⟩⟩⟩⟩⟩⟩⟩⟩)
    (case lwD => first | rfl | decide)
    (case lP => k_is)
    (case zP => exact (by decide +kernel))
    (case vP => exact .cons ⟨_, rfl⟩ (.cons ⟨_, rfl⟩ (.cons ⟨_, rfl⟩ (.cons ⟨_, rfl⟩ (.cons ⟨_, rfl⟩ (.cons ⟨_, rfl⟩ (.cons ⟨_, rfl⟩ (.cons ⟨_, rfl⟩ (.cons ⟨_, rfl⟩ (.cons ⟨_, rfl⟩ (.nil)))))))))))
    (case z_len => k_is)
    (case z_list => k_is)
    (case z_tuple => k_is)
    (case z_range => k_is)
    (case z_enumerate => k_is)
    (case z_int => k_is)
    (case z_abs => k_is)
    (case z_sum => k_is)
    (case z_all => k_is)
    (case z_any => k_is)
    (case z_isinstance => k_is)
    (case z_bool => k_is)
    (case z_str => k_is)
    (case a1 => k_is)
    (case l1 => k_is)
    (case c1 => k_is)
    (case k1_ => k_is)
    (case a2 => k_is)
    (case l2 => k_is)
    (case c2 => k_is)
    (case k2_ => k_is)
    (case a3 => k_is)
    (case l3 => k_is)
    (case c3 => k_is)
    (case k3_ => k_is)
    (case a4 => k_is)
    (case l4 => k_is)
    (case c4 => k_is)
    (case k4_ => k_is)
    (case a5 => k_is)
    (case l5 => k_is)
    (case c5 => k_is)
    (case k5_ => k_is)
    (case a6 => k_is)
    (case l6 => k_is)
    (case c6 => k_is)
    (case k6_ => k_is)
    (case a7 => k_is)
    (case l7 => k_is)
    (case c7 => k_is)
    (case k7_ => k_is)
    (case a8 => k_is)
    (case l8 => k_is)
    (case c8 => k_is)
    (case k8_ => k_is)
    (case a9 => k_is)
    (case l9 => k_is)
    (case c9 => k_is)
    (case k9_ => k_is)
    (case a10 => k_is)
    (case l10 => k_is)
    (case c10 => k_is)
    (case k10_ => k_is)
    (case a11 => k_is)
    (case l11 => k_is)
    (case c11 => k_is)
    (case k11_ => k_is)
    (case a12 => k_is)
    (case l12 => k_is)
    (case c12 => k_is)
    (case k12_ => k_is)
    (case a13 => k_is)
    (case l13 => k_is)
    (case c13 => k_is)
    (case k13_ => k_is)
    (case a14 => k_is)
    (case l14 => k_is)
    (case c14 => k_is)
    (case k14_ => k_is)
    (case a15 => k_is)
    (case l15 => k_is)
    (case c15 => k_is)
    (case k15_ => k_is)
    (case a16 => k_is)
    (case l16 => k_is)
    (case c16 => k_is)
    (case k16_ => k_is)
    (case a17 => k_is)
    (case l17 => k_is)
    (case c17 => k_is)
    (case k17_ => k_is)
    (case a18 => k_is)
    (case l18 => k_is)
    (case c18 => k_is)
    (case k18_ => k_is)
    (case a19 => k_is)
    (case l19 => k_is)
    (case c19 => k_is)
    (case k19_ => k_is)
    (case a20 => k_is)
    (case l20 => k_is)
    (case c20 => k_is)
    (case k20_ => k_is)
    (case a21 => k_is)
    (case l21 => k_is)
    (case c21 => k_is)
    (case k21_ => k_is)
    (case a22 => k_is)
    (case l22 => k_is)
    (case c22 => k_is)
    (case k22_ => k_is)
    (case a23 => k_is)
    (case l23 => k_is)
    (case c23 => k_is)
    (case k23_ => k_is)
    (case a24 => k_is)
    (case l24 => k_is)
    (case c24 => k_is)
    (case k24_ => k_is)
    (case a25 => k_is)
    (case l25 => k_is)
    (case c25 => k_is)
    (case k25_ => k_is)
    (case a26 => k_is)
    (case l26 => k_is)
    (case c26 => k_is)
    (case k26_ => k_is)
    (case a27 => k_is)
    (case l27 => k_is)
    (case c27 => k_is)
    (case k27_ => k_is)
    (case a28 => k_is)
    (case l28 => k_is)
    (case c28 => k_is)
    (case k28_ => k_is)
    (case a29 => k_is)
    (case l29 => k_is)
    (case c29 => k_is)
    (case k29_ => k_is)
    (case a30 => k_is)
    (case l30 => k_is)
    (case c30 => k_is)
    (case k30_ => k_is)
    (case a31 => k_is)
    (case l31 => k_is)
    (case c31 => k_is)
    (case k31_ => k_is)
    (case a32 => k_is)
    (case l32 => k_is)
    (case c32 => k_is)
    (case k32_ => k_is)
    (case a33 => k_is)
    (case l33 => k_is)
    (case c33 => k_is)
    (case k33_ => k_is)
    (case a34 => k_is)
    (case l34 => k_is)
    (case c34 => k_is)
    (case k34_ => k_is)
    (case a35 => k_is)
    (case l35 => k_is)
    (case c35 => k_is)
    (case k35_ => k_is)
end
