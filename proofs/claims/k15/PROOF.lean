import PyProof.Rows.All
import Wide.All
import OpenK.AllK
import Wide.FinOn
import HandS.ForMost
import HandS.ForExc
import HandS.IsInst
import HandS.Defaults
import HandS.Wide
import HandS.TupAny
import HandS.SortInts
import HandS.Small
import HandS.SetFor
import KE.KSortedM
import HandS.CallSlots
import HandS.TryOnly
import HandS.Zip
import HandS.HotCalls
import HandS.ExcIs
import KE.KExcIs
import HandS.ExcField
import HandS.Evl
import HandS.ExcInit
import HandS.Head0
import HandS.Head1
import HandS.Head2
import HandS.HeadEnd
import HandS.HeadHook1
import HandS.HeadHook2
import HandS.HeadHook3
import HandS.HeadHook4
import HandS.HeadWalk
import PySem.Challenge.RW_tolddown_k15_parities_of_pages
set_option Elab.async false
set_option linter.all false
set_option maxRecDepth 100000
set_option maxHeartbeats 4000000
/-! PtA: trees, what a tree says of a value and the heap, environments, steps. -/
namespace PT
open PySem PySem.Spec PyProof.Rows L2

inductive Kd where
  | lst | tup | klst | dic (ks : List Key) | dtu (ks : List (List Key))
/-- a value as a tree; the flag: this node is ours alone (it may be changed) -/
inductive T where
  | non | bl (b : Bool) | int (i : Int) | str (x : Str) | hole
  | node (o : Bool) (k : Kd) (ts : List T)
abbrev T.lst (o : Bool) (ts : List T) : T := .node o .lst ts
abbrev T.tup (ts : List T) : T := .node false .tup ts
abbrev T.dic (o : Bool) (ks : List Key) (ts : List T) : T := .node o (.dic ks) ts

mutual
def frz : T → T
  | .node _ k ts => .node false k (frzL ts)
  | .non => .non
  | .bl b => .bl b
  | .int i => .int i
  | .str x => .str x
  | .hole => .hole
def frzL : List T → List T
  | [] => []
  | t :: ts => frz t :: frzL ts
end
mutual
def noSh : T → Bool
  | .node true _ ts => noShL ts
  | .node false .tup ts => noShL ts
  | .node false .lst _ => false
  | .node false .klst _ => false
  | .node false (.dic _) _ => false
  | .node false (.dtu _) _ => false
  | .non => true
  | .bl _ => true
  | .int _ => true
  | .str _ => true
  | .hole => true
def noShL : List T → Bool
  | [] => true
  | t :: ts => noSh t && noShL ts
end
theorem frzL_map : ∀ ts : List T, frzL ts = ts.map frz
  | [] => rfl
  | t :: ts => by rw [frzL, frzL_map ts]; rfl
mutual
theorem frz_frz : ∀ t : T, frz (frz t) = frz t
  | .node _ k ts => by simp only [frz]; rw [frzL_frzL ts]
  | .non => rfl
  | .bl _ => rfl
  | .int _ => rfl
  | .str _ => rfl
  | .hole => rfl
theorem frzL_frzL : ∀ ts : List T, frzL (frzL ts) = frzL ts
  | [] => rfl
  | t :: ts => by simp only [frzL]; rw [frz_frz t, frzL_frzL ts]
end

/-- what stands at the node's address -/
def HoIs : Kd → List V → HO → Prop
  | .lst, vs, o => o = .lst vs
  | .tup, vs, o => o = .tup vs
  | .klst, vs, o => o = .lst vs
  | .dic ks, vs, o => ks.length = vs.length ∧ o = .dK (ks.zip vs)
  | .dtu ks, vs, o => ks.length = vs.length ∧ o = .dT (ks.zip vs)
def Mk : Kd → Prop
  | .tup => False
  | .klst => False
  | _ => True
/-- an object of the module's own (written) part -/
def Wr (K : PySem.W.Frag) (a : Addr) : Kd → List V → Prop
  | .klst, xs => ∃ (o : Obj) (its : Array Value) (n : Nat), K.lookup a = some o ∧ o.cls = .type "list" ∧ o.dict = none ∧ o.data = .seq its n ∧ its.size ≤ sizeLine ∧ Vals xs its.toList
  | .tup, xs => ∃ (o : Obj) (its : Array Value) (n : Nat), K.lookup a = some o ∧ o.cls = .type "tuple" ∧ o.data = .seq its n ∧ its.size ≤ sizeLine ∧ Vals xs its.toList
  | _, _ => False
def Shr (K : PySem.W.Frag) (H : Hp) (Z : Addr → Prop) (a : Addr) (k : Kd) (vs : List V) : Prop :=
  (Z a ∧ ∃ o, HoIs k vs o ∧ (H a = some o ∨ (k ≠ .lst ∧ ∃ ob, H a = some (.frz ob o)))) ∨ Wr K a k vs
def Dj (F G : List Addr) : Prop := ∀ a, a ∈ F → a ∉ G

mutual
inductive Rep (K : PySem.W.Frag) (H : Hp) (Z : Addr → Prop) : T → V → List Addr → Prop
  | non : Rep K H Z .non .non []
  | bl (b : Bool) : Rep K H Z (.bl b) (.bl b) []
  | int (i : Int) : Rep K H Z (.int i) (.int i) []
  | str (x : Str) : Rep K H Z (.str x) (.str x) []
  | hole (v : V) : Rep K H Z .hole v []
  | own (k : Kd) (ts : List T) (a : Addr) (vs : List V) (o : HO) (F : List Addr) (m : Mk k) (e : H a = some o) (ho : HoIs k vs o) (r : RepL K H Z ts vs F) (n : a ∉ F) : Rep K H Z (.node true k ts) (.ref a) (a :: F)
  | shr (k : Kd) (ts : List T) (a : Addr) (vs : List V) (s : Shr K H Z a k vs) (r : RepL K H Z ts vs []) : Rep K H Z (.node false k ts) (.ref a) []
  | tup (ts : List T) (a : Addr) (vs : List V) (F : List Addr) (s : Shr K H Z a .tup vs) (r : RepL K H Z ts vs F) : Rep K H Z (.node false .tup ts) (.ref a) F
inductive RepL (K : PySem.W.Frag) (H : Hp) (Z : Addr → Prop) : List T → List V → List Addr → Prop
  | nil : RepL K H Z [] [] []
  | cons (t : T) (v : V) (F : List Addr) (ts : List T) (vs : List V) (G : List Addr) (r : Rep K H Z t v F) (q : RepL K H Z ts vs G) (d : Dj F G) : RepL K H Z (t :: ts) (v :: vs) (F ++ G)
end

section
variable {K : PySem.W.Frag} {H H' : Hp} {Z Z' : Addr → Prop} {t : T} {v : V} {F : List Addr} {ts : List T} {vs : List V}
theorem Shr.keep {a : Addr} {k : Kd} (s : Shr K H Z a k vs) (hz : ∀ a, Z a → H' a = H a) (zz : ∀ a, Z a → Z' a) : Shr K H' Z' a k vs := by
  rcases s with ⟨z, o, ho, e⟩ | w
  · exact .inl ⟨zz a z, o, ho, by rw [hz a z]; exact e⟩
  · exact .inr w
mutual
theorem Rep.keep {t : T} {v : V} {F : List Addr} (r : Rep K H Z t v F) (hf : ∀ a, a ∈ F → H' a = H a) (hz : ∀ a, Z a → H' a = H a) (zz : ∀ a, Z a → Z' a) : Rep K H' Z' t v F := by
  cases r with
  | non => exact .non
  | bl b => exact .bl b
  | int i => exact .int i
  | str x => exact .str x
  | hole v => exact .hole v
  | own k ts a vs o F m e ho r n => exact .own k ts a vs o F m ((hf a List.mem_cons_self).trans e) ho (RepL.keep r (fun b hb => hf b (List.mem_cons_of_mem _ hb)) hz zz) n
  | shr k ts a vs s r => exact .shr k ts a vs (s.keep hz zz) (RepL.keep r hf hz zz)
  | tup ts a vs F s r => exact .tup ts a vs F (s.keep hz zz) (RepL.keep r hf hz zz)
theorem RepL.keep {ts : List T} {vs : List V} {F : List Addr} (r : RepL K H Z ts vs F) (hf : ∀ a, a ∈ F → H' a = H a) (hz : ∀ a, Z a → H' a = H a) (zz : ∀ a, Z a → Z' a) : RepL K H' Z' ts vs F := by
  cases r with
  | nil => exact .nil
  | cons t v F ts vs G r q d => exact .cons t v F ts vs G (Rep.keep r (fun b hb => hf b (List.mem_append_left _ hb)) hz zz) (RepL.keep q (fun b hb => hf b (List.mem_append_right _ hb)) hz zz) d
end
mutual
/-- frozen: what was ours alone may be read by all from now on -/
theorem Rep.frz {t : T} {v : V} {F : List Addr} (r : Rep K H Z t v F) (hf : ∀ a, a ∈ F → Z' a) (zz : ∀ a, Z a → Z' a) : Rep K H Z' (PT.frz t) v [] := by
  cases r with
  | non => exact .non
  | bl b => exact .bl b
  | int i => exact .int i
  | str x => exact .str x
  | hole v => exact .hole v
  | own k ts a vs o F m e ho r n => exact .shr k _ a vs (.inl ⟨hf a List.mem_cons_self, o, ho, .inl e⟩) (RepL.frz r (fun b hb => hf b (List.mem_cons_of_mem _ hb)) zz)
  | shr k ts a vs s r => exact .shr k _ a vs (s.keep (fun _ _ => rfl) zz) (RepL.frz r hf zz)
  | tup ts a vs F s r => exact .shr .tup _ a vs (s.keep (fun _ _ => rfl) zz) (RepL.frz r hf zz)
theorem RepL.frz {ts : List T} {vs : List V} {F : List Addr} (r : RepL K H Z ts vs F) (hf : ∀ a, a ∈ F → Z' a) (zz : ∀ a, Z a → Z' a) : RepL K H Z' (frzL ts) vs [] := by
  cases r with
  | nil => exact .nil
  | cons t v F ts vs G r q d => exact .cons _ v [] _ vs [] (Rep.frz r (fun b hb => hf b (List.mem_append_left _ hb)) zz) (RepL.frz q (fun b hb => hf b (List.mem_append_right _ hb)) zz) (fun _ z => absurd z (by simp))
end
/-- what may be changed -/
def IsMut : HO → Prop
  | .lst _ => True
  | .dK _ => True
  | .dT _ => True
  | _ => False
theorem HoIs.mut {k : Kd} {o : HO} (m : Mk k) (h : HoIs k vs o) : IsMut o := by
  cases k with
  | lst => rw [show o = _ from h]; trivial
  | tup => exact m.elim
  | klst => exact m.elim
  | dic ks => rw [show o = _ from h.2]; trivial
  | dtu ks => rw [show o = _ from h.2]; trivial
mutual
theorem Rep.muts {t : T} {v : V} {F : List Addr} (r : Rep K H Z t v F) : ∀ a, a ∈ F → ∃ o, H a = some o ∧ IsMut o := by
  cases r with
  | non => intro a h; simp at h
  | bl b => intro a h; simp at h
  | int i => intro a h; simp at h
  | str x => intro a h; simp at h
  | hole v => intro a h; simp at h
  | own k ts a vs o F m e ho r n =>
    intro b hb
    rcases List.mem_cons.mp hb with h | h
    · subst h; exact ⟨o, e, ho.mut m⟩
    · exact RepL.muts r b h
  | shr k ts a vs s r => intro a h; simp at h
  | tup ts a vs F s r => exact RepL.muts r
theorem RepL.muts {ts : List T} {vs : List V} {F : List Addr} (r : RepL K H Z ts vs F) : ∀ a, a ∈ F → ∃ o, H a = some o ∧ IsMut o := by
  cases r with
  | nil => intro a h; simp at h
  | cons t v F ts vs G r q d =>
    intro b hb
    rcases List.mem_append.mp hb with h | h
    · exact Rep.muts r b h
    · exact RepL.muts q b h
end
mutual
/-- a tree without shared things that may change: it leans on no more than it owns, and tuples -/
theorem Rep.less {t : T} {v : V} {F : List Addr} (r : Rep K H Z t v F) (hn : noSh t = true) (zz : ∀ a, Z a → (∀ o, H a = some o → ¬ IsMut o) → Z' a) : Rep K H Z' t v F := by
  cases r with
  | non => exact .non
  | bl b => exact .bl b
  | int i => exact .int i
  | str x => exact .str x
  | hole v => exact .hole v
  | own k ts a vs o F m e ho r n => exact .own k ts a vs o F m e ho (RepL.less r (by simpa [noSh] using hn) zz) n
  | shr k ts a vs s r =>
    cases k with
    | tup =>
      refine .shr .tup ts a vs ?_ (RepL.less r (by simpa [noSh] using hn) zz)
      rcases s with ⟨z, o, ho, e⟩ | w
      · refine .inl ⟨zz a z fun o' e' => ?_, o, ho, e⟩
        have ho2 : o = .tup vs := ho
        subst ho2
        rcases e with e | ⟨_, ob, e⟩
        · rw [e] at e'; cases e'; exact fun z => z
        · rw [e] at e'; cases e'; exact fun z => z
      · exact .inr w
    | lst => simp [noSh] at hn
    | klst => simp [noSh] at hn
    | dic ks => simp [noSh] at hn
    | dtu ks => simp [noSh] at hn
  | tup ts a vs F s r =>
    refine .tup ts a vs F ?_ (RepL.less r (by simpa [noSh] using hn) zz)
    rcases s with ⟨z, o, ho, e⟩ | w
    · refine .inl ⟨zz a z fun o' e' => ?_, o, ho, e⟩
      have ho2 : o = .tup vs := ho
      subst ho2
      rcases e with e | ⟨_, ob, e⟩
      · rw [e] at e'; cases e'; exact fun z => z
      · rw [e] at e'; cases e'; exact fun z => z
    · exact .inr w
theorem RepL.less {ts : List T} {vs : List V} {F : List Addr} (r : RepL K H Z ts vs F) (hn : noShL ts = true) (zz : ∀ a, Z a → (∀ o, H a = some o → ¬ IsMut o) → Z' a) : RepL K H Z' ts vs F := by
  cases r with
  | nil => exact .nil
  | cons t v F ts vs G r q d =>
    simp only [noShL, Bool.and_eq_true] at hn
    exact .cons t v F ts vs G (Rep.less r hn.1 zz) (RepL.less q hn.2 zz) d
end
theorem RepL.length (r : RepL K H Z ts vs F) : ts.length = vs.length := by
  induction ts generalizing vs F with
  | nil => cases r; rfl
  | cons t ts ih => cases r with
    | cons t v F ts vs G r q d => simp [ih q]
end
end PT

/-! PtB: environments of trees, steps of the heap. -/
namespace PT
open PySem PySem.Spec PyProof.Rows L2

abbrev Env := List (Option T)
abbrev Sl := List (Option V)
inductive RepE (K : PySem.W.Frag) (H : Hp) (Z : Addr → Prop) : Env → Sl → List Addr → Prop
  | nil : RepE K H Z [] [] []
  | un (o : Option V) (e : Env) (s : Sl) (F : List Addr) (r : RepE K H Z e s F) : RepE K H Z (none :: e) (o :: s) F
  | pt (t : T) (v : V) (Fv : List Addr) (e : Env) (s : Sl) (F : List Addr) (q : Rep K H Z t v Fv) (r : RepE K H Z e s F) (d : Dj Fv F) : RepE K H Z (some t :: e) (some v :: s) (Fv ++ F)
/-- the owned addresses F, the locked ones Z -/
structure Okk (H : Hp) (Z : Addr → Prop) (F : List Addr) : Prop where
  zf : ∀ a, a ∈ F → ¬ Z a
  zd : ∀ a, Z a → (H a).isSome = true
/-- what a piece of code may do to the heap: F was owned by it ahead, F' behind -/
def Step (H : Hp) (Z : Addr → Prop) (F : List Addr) (H' : Hp) (Z' : Addr → Prop) (F' : List Addr) : Prop :=
  (∀ a, Z a → Z' a) ∧ ∀ a, (H a).isSome = true → a ∉ F → H' a = H a ∧ a ∉ F' ∧ (Z' a → Z a)

section
variable {K : PySem.W.Frag} {H H' H1 H2 : Hp} {Z Z' Z1 Z2 : Addr → Prop} {t : T} {v : V} {F F' G F1 F2 G1 : List Addr} {ts : List T} {vs : List V} {e : Env} {s : Sl}
theorem Dj.symm (d : Dj F G) : Dj G F := fun a h h' => d a h' h
theorem Dj.nilL : Dj [] G := fun _ h => absurd h (by simp)
theorem Dj.nilR : Dj F [] := fun _ _ h => absurd h (by simp)
theorem Dj.app (a : Dj F F') (b : Dj F G) : Dj F (F' ++ G) := fun x h h' => (List.mem_append.mp h').elim (a x h) (b x h)
theorem Dj.appL (a : Dj F G) (b : Dj F' G) : Dj (F ++ F') G := fun x h => (List.mem_append.mp h).elim (a x) (b x)
theorem Rep.dom (r : Rep K H Z t v F) : ∀ a, a ∈ F → (H a).isSome = true := fun a h => by
  obtain ⟨o, e, _⟩ := r.muts a h
  rw [e]; rfl
theorem RepL.dom (r : RepL K H Z ts vs F) : ∀ a, a ∈ F → (H a).isSome = true := fun a h => by
  obtain ⟨o, e, _⟩ := r.muts a h
  rw [e]; rfl
theorem RepE.muts (r : RepE K H Z e s F) : ∀ a, a ∈ F → ∃ o, H a = some o ∧ IsMut o := by
  induction r with
  | nil => intro a h; simp at h
  | un o e s F r ih => exact ih
  | pt t v Fv e s F q r d ih =>
    intro a h
    exact (List.mem_append.mp h).elim (q.muts a) (ih a)
theorem RepE.dom (r : RepE K H Z e s F) : ∀ a, a ∈ F → (H a).isSome = true := fun a h => by
  obtain ⟨o, e, _⟩ := r.muts a h
  rw [e]; rfl
theorem RepE.keep (r : RepE K H Z e s F) (hf : ∀ a, a ∈ F → H' a = H a) (hz : ∀ a, Z a → H' a = H a) (zz : ∀ a, Z a → Z' a) : RepE K H' Z' e s F := by
  induction r with
  | nil => exact .nil
  | un o e s F r ih => exact .un o e s F (ih hf)
  | pt t v Fv e s F q r d ih => exact .pt t v Fv e s F (q.keep (fun b hb => hf b (List.mem_append_left _ hb)) hz zz) (ih fun b hb => hf b (List.mem_append_right _ hb)) d
theorem RepE.length (r : RepE K H Z e s F) : e.length = s.length := by
  induction r with
  | nil => rfl
  | un o e s F r ih => simp [ih]
  | pt t v Fv e s F q r d ih => simp [ih]
/-- a slot looked at: its part of the owned, and the rest -/
theorem RepE.at (r : RepE K H Z e s F) (i : Nat) (hi : i < e.length) : ∃ Fi Fr, (∀ a, a ∈ F ↔ a ∈ Fi ∨ a ∈ Fr) ∧ Dj Fi Fr ∧ (match e[i]? with | Option.some (Option.some t) => ∃ v, s[i]? = Option.some (Option.some v) ∧ Rep K H Z t v Fi | _ => Fi = []) ∧
    (∀ (H' : Hp) (Z' : Addr → Prop) (t' : T) (v' : V) (F' : List Addr), (∀ a, a ∈ Fr → H' a = H a) → (∀ a, Z a → H' a = H a) → (∀ a, Z a → Z' a) → Rep K H' Z' t' v' F' → Dj F' Fr → ∃ F2, (∀ a, a ∈ F2 ↔ a ∈ F' ∨ a ∈ Fr) ∧ RepE K H' Z' (e.set i (Option.some t')) (s.set i (Option.some v')) F2) ∧
    (∀ (H' : Hp) (Z' : Addr → Prop), (∀ a, a ∈ Fr → H' a = H a) → (∀ a, Z a → H' a = H a) → (∀ a, Z a → Z' a) → ∀ o : Option V, ∃ F2, (∀ a, a ∈ F2 ↔ a ∈ Fr) ∧ RepE K H' Z' (e.set i none) (s.set i o) F2) := by
  induction r generalizing i with
  | nil => simp at hi
  | un o e s F r ih =>
    cases i with
    | zero =>
      refine ⟨[], F, by simp, Dj.nilL, by simp, fun H' Z' t' v' F' hf hz zz q d => ⟨F' ++ F, by simp, ?_⟩, fun H' Z' hf hz zz o' => ⟨F, by simp, ?_⟩⟩
      · exact .pt t' v' F' _ _ F q (r.keep hf hz zz) d
      · exact .un o' _ _ F (r.keep hf hz zz)
    | succ i =>
      obtain ⟨Fi, Fr, h1, h2, h3, h4, h5⟩ := ih i (by simpa using hi)
      refine ⟨Fi, Fr, h1, h2, by simpa using h3, fun H' Z' t' v' F' hf hz zz q d => ?_, fun H' Z' hf hz zz o' => ?_⟩
      · obtain ⟨F2, g1, g2⟩ := h4 H' Z' t' v' F' hf hz zz q d
        exact ⟨F2, g1, .un o _ _ F2 g2⟩
      · obtain ⟨F2, g1, g2⟩ := h5 H' Z' hf hz zz o'
        exact ⟨F2, g1, .un o _ _ F2 g2⟩
  | pt t v Fv e s F q r d ih =>
    cases i with
    | zero =>
      refine ⟨Fv, F, by simp, d, by simpa using q, fun H' Z' t' v' F' hf hz zz q d => ⟨F' ++ F, by simp, ?_⟩, fun H' Z' hf hz zz o' => ⟨F, by simp, ?_⟩⟩
      · exact .pt t' v' F' _ _ F q (r.keep hf hz zz) d
      · exact .un o' _ _ F (r.keep hf hz zz)
    | succ i =>
      obtain ⟨Fi, Fr, h1, h2, h3, h4, h5⟩ := ih i (by simpa using hi)
      have dv : Dj Fv Fr := fun a ha hb => d a ha ((h1 a).mpr (.inr hb))
      have di : Dj Fi (Fv ++ Fr) := Dj.app (fun a ha hb => d a hb ((h1 a).mpr (.inl ha))) h2
      refine ⟨Fi, Fv ++ Fr, fun a => ?_, di, by simpa using h3, fun H' Z' t' v' F' hf hz zz q' d' => ?_, fun H' Z' hf hz zz o' => ?_⟩
      · simp only [List.mem_append, h1 a]
        constructor
        · rintro (h | h | h)
          · exact .inr (.inl h)
          · exact .inl h
          · exact .inr (.inr h)
        · rintro (h | h | h)
          · exact .inr (.inl h)
          · exact .inl h
          · exact .inr (.inr h)
      · obtain ⟨F2, g1, g2⟩ := h4 H' Z' t' v' F' (fun a ha => hf a (List.mem_append_right _ ha)) hz zz q' (fun a ha hb => d' a ha (List.mem_append_right _ hb))
        refine ⟨Fv ++ F2, fun a => ?_, .pt t v Fv _ _ F2 (q.keep (fun a ha => hf a (List.mem_append_left _ ha)) hz zz) g2 fun a ha hb => ?_⟩
        · simp only [List.mem_append, g1 a]
          constructor
          · rintro (h | h | h)
            · exact .inr (.inl h)
            · exact .inl h
            · exact .inr (.inr h)
          · rintro (h | h | h)
            · exact .inr (.inl h)
            · exact .inl h
            · exact .inr (.inr h)
        · rcases (g1 a).mp hb with h | h
          · exact d' a h (List.mem_append_left _ ha)
          · exact dv a ha h
      · obtain ⟨F2, g1, g2⟩ := h5 H' Z' (fun a ha => hf a (List.mem_append_right _ ha)) hz zz o'
        refine ⟨Fv ++ F2, fun a => ?_, .pt t v Fv _ _ F2 (q.keep (fun a ha => hf a (List.mem_append_left _ ha)) hz zz) g2 fun a ha hb => dv a ha ((g1 a).mp hb)⟩
        simp only [List.mem_append, g1 a]

theorem Okk.mono (k : Okk H Z F) (h : ∀ a, a ∈ F' → a ∈ F) : Okk H Z F' := ⟨fun a ha => k.zf a (h a ha), k.zd⟩
theorem Step.refl (h : ∀ a, a ∈ F' → a ∈ F) : Step H Z F H Z F' := ⟨fun _ z => z, fun a _ hn => ⟨rfl, fun h' => hn (h a h'), fun z => z⟩⟩
/-- a step, then one of a part, the other part R held -/
theorem Step.trans (a : Step H Z F H1 Z1 F1) (b : Step H1 Z1 G1 H2 Z2 F2) (hg : ∀ x, x ∈ G1 → x ∈ F1) (hf : ∀ x, x ∈ F' → x ∈ F2 ∨ x ∈ F1) : Step H Z F H2 Z2 F' := by
  refine ⟨fun x z => b.1 x (a.1 x z), fun x hx hn => ?_⟩
  obtain ⟨h1, h2, h3⟩ := a.2 x hx hn
  obtain ⟨g1, g2, g3⟩ := b.2 x (by rw [h1]; exact hx) (fun h => h2 (hg x h))
  exact ⟨g1.trans h1, fun h => (hf x h).elim g2 h2, fun z => h3 (g3 z)⟩
theorem Step.weak (a : Step H Z F H1 Z1 F1) (hf : ∀ x, x ∈ F' → x ∈ F1) : Step H Z F H1 Z1 F' :=
  ⟨a.1, fun x hx hn => ⟨(a.2 x hx hn).1, fun h => (a.2 x hx hn).2.1 (hf x h), (a.2 x hx hn).2.2⟩⟩
/-- what the step leaves: a tree that is held -/
theorem Step.hold (a : Step H Z F H1 Z1 F1) (k : Okk H Z F) (kg : ∀ x, x ∈ G → ¬ Z x) (r : Rep K H Z t v G) (d : Dj G F) : Rep K H1 Z1 t v G ∧ Dj G F1 ∧ ∀ x, x ∈ G → ¬ Z1 x := by
  have hs := r.dom
  refine ⟨r.keep (fun x hx => (a.2 x (hs x hx) (d x hx)).1) (fun x z => (a.2 x (k.zd x z) fun h => k.zf x h z).1) a.1, fun x hx => (a.2 x (hs x hx) (d x hx)).2.1, fun x hx z => kg x hx ((a.2 x (hs x hx) (d x hx)).2.2 z)⟩
theorem Step.holdL (a : Step H Z F H1 Z1 F1) (k : Okk H Z F) (kg : ∀ x, x ∈ G → ¬ Z x) (r : RepL K H Z ts vs G) (d : Dj G F) : RepL K H1 Z1 ts vs G ∧ Dj G F1 ∧ ∀ x, x ∈ G → ¬ Z1 x := by
  have hs := r.dom
  refine ⟨r.keep (fun x hx => (a.2 x (hs x hx) (d x hx)).1) (fun x z => (a.2 x (k.zd x z) fun h => k.zf x h z).1) a.1, fun x hx => (a.2 x (hs x hx) (d x hx)).2.1, fun x hx z => kg x hx ((a.2 x (hs x hx) (d x hx)).2.2 z)⟩
theorem Step.holdE (a : Step H Z F H1 Z1 F1) (k : Okk H Z F) (kg : ∀ x, x ∈ G → ¬ Z x) (r : RepE K H Z e s G) (d : Dj G F) : RepE K H1 Z1 e s G ∧ Dj G F1 ∧ ∀ x, x ∈ G → ¬ Z1 x := by
  have hs := r.dom
  refine ⟨r.keep (fun x hx => (a.2 x (hs x hx) (d x hx)).1) (fun x z => (a.2 x (k.zd x z) fun h => k.zf x h z).1) a.1, fun x hx => (a.2 x (hs x hx) (d x hx)).2.1, fun x hx z => kg x hx ((a.2 x (hs x hx) (d x hx)).2.2 z)⟩
/-- a new object, owned -/
theorem Step.new {p : Addr} {o : HO} (hp : H p = none) (hf : ∀ a, a ∈ F' → a ∈ F ∨ a = p) : Step H Z F (upd H p o) Z F' :=
  ⟨fun _ z => z, fun a ha hn => by
    have hap : a ≠ p := fun h => by rw [h, hp] at ha; cases ha
    exact ⟨upd_ne hap, fun h => (hf a h).elim hn hap, fun z => z⟩⟩
/-- a new object, locked -/
theorem Step.newZ {p : Addr} {o : HO} (hp : H p = none) (hf : ∀ a, a ∈ F' → a ∈ F) : Step H Z F (upd H p o) (fun a => Z a ∨ a = p) F' :=
  ⟨fun _ z => .inl z, fun a ha hn => by
    have hap : a ≠ p := fun h => by rw [h, hp] at ha; cases ha
    exact ⟨upd_ne hap, fun h => hn (hf a h), fun z => z.elim id fun h => absurd h hap⟩⟩
/-- an owned object is written -/
theorem Step.set {p : Addr} {o : HO} (hp : p ∈ F) (hf : ∀ a, a ∈ F' → a ∈ F) : Step H Z F (upd H p o) Z F' :=
  ⟨fun _ z => z, fun a ha hn => by
    have hap : a ≠ p := fun h => hn (h ▸ hp)
    exact ⟨upd_ne hap, fun h => hn (hf a h), fun z => z⟩⟩
end
end PT

/-! PtC: the little language and its evaluator over trees. -/
namespace PT
open PySem PySem.Spec PyProof.Rows L2

structure Exn where
  c : Str
  fs : List (Str × T)
inductive FR where
  | ok (t : T) (ts : List T) | exc (x : Exn) | fail
inductive R (α : Type) where
  | ok (a : α) (e : Env) | exc (x : Exn) (e : Env) | fail
/-- a def as callers know it: its name, its parameters, its level, the tails of defaults that a call may lack -/
structure FnI where
  nm : Str
  ps : List Str
  lv : Nat
  ds : List (List T) := [[]]
/-- the text's table: its defs, its constants, the built-in names that it uses -/
structure Tb where
  fn : Nat → Option FnI
  gl : Nat → Option (Str × T)
  bn : List Str
  xc : Str → Option (List Str) := fun _ => none
structure Cf where
  φ : Nat → List T → FR
  tb : Tb
  P : List Bool
def Tb.dfl (tb : Tb) (f k : Nat) : Option (List T) := (tb.fn f).bind fun fi => fi.ds[k]?
abbrev R.bind {α β : Type} (r : R α) (f : α → Env → R β) : R β := match r with
  | .ok a e => f a e
  | .exc x e => .exc x e
  | .fail => .fail
abbrev R.bindO {α β : Type} (r : R α) (f : α → Option β) : R β := match r with
  | .ok a e => (match f a with
    | some b => .ok b e
    | none => .fail)
  | .exc x e => .exc x e
  | .fail => .fail

inductive Bop where | add | sub | mul | mod | fdiv | pow
inductive Cop where | eq | ne | lt | le | gt | ge | isn | notn | inn | nin
inductive Bi where | len | abs | int | list | tuple | sum | max | min | all | any | sorted | dict | repr | str
inductive Ty where | int | bool | list | tuple | str | dict
inductive Mt where | index | count | get
mutual
inductive Tg where
  | nm (i : Nat)
  | tp (ts : TgL)
inductive TgL where
  | nil
  | cons (t : Tg) (r : TgL)
end
mutual
inductive E where
  | non | bl (b : Bool) | int (i : Int) | str (x : Str)
  | var (i : Nat) | mv (i : Nat) | lend (i : Nat)
  | glo (i : Nat)
  | bin (op : Bop) (a b : E)
  | neg (a : E)
  | cmp (op : Cop) (a b : E)
  | chn (op op' : Cop) (a b c : E)
  | not (a : E) | and (a b : E) | or (a b : E) | ife (c a b : E)
  | tup (es : EL) | lst (es : EL)
  | ix (a b : E)
  | sl (a : E) (lo hi : OE)
  | call (f : Nat) (k : Nat) (as : EL)
  | bi (b : Bi) (as : EL)
  | isi (a : E) (t : Ty)
  | meth (m : Mt) (a : E) (as : EL)
  | pop (i : Nat)
  | lc (own : List Nat) (tg : Tg) (it : It) (c : OE) (e : E)
  | ro (m : List Bool) (e : E)
inductive EL where
  | nil
  | cons (e : E) (r : EL)
inductive OE where
  | none
  | some (e : E)
inductive It where
  | seq (e : E)
  | rng1 (a : E)
  | rng2 (a b : E)
  | enum (a : E)
  | zip (a b : E)
end

/-! ### operations on trees -/
def mulOk (i j : Int) : Bool := decide ((-(2 ^ 64) < i ∧ i < 2 ^ 64) ∨ (-(2 ^ 64) < j ∧ j < 2 ^ 64)) || decide (i.natAbs.log2 + j.natAbs.log2 < 1000000)
def divOk (j : Int) : Bool := decide (0 < j ∧ j < 1073741824) || decide (0 < j ∧ j.natAbs.log2 < 9000)
def powOk (i j : Int) : Bool := decide (0 ≤ j ∧ j ≤ 1000000 ∧ i.natAbs < 2 ^ 64)
def fitB (n : Nat) : Bool := decide (n ≤ sizeLine)
def binT : Bop → T → T → Option T
  | .add, .int i, .int j => some (.int (i + j))
  | .add, .str x, .str y => if fitB (x.length + y.length) = true then some (.str (x ++ y)) else none
  | .add, .node _ .lst xs, .node _ .lst ys => if fitB (xs.length + ys.length) = true then some (.node true .lst (xs ++ ys)) else none
  | .add, .node _ .tup xs, .node _ .tup ys => if fitB (xs.length + ys.length) = true then some (.node false .tup (xs ++ ys)) else none
  | .sub, .int i, .int j => some (.int (i - j))
  | .mul, .int i, .int j => if mulOk i j = true then some (.int (i * j)) else none
  | .mul, .node _ .lst xs, .int j => if (decide (-(2 ^ 63) ≤ j ∧ j < 2 ^ 63) && fitB (xs.length * j.toNat)) = true then some (.node true .lst ((List.replicate j.toNat (frzL xs)).flatten)) else none
  | .mod, .int i, .int j => if decide (0 < j) = true then some (.int (i % j)) else none
  | .fdiv, .int i, .int j => if divOk j = true then some (.int (i / j)) else none
  | .pow, .int i, .int j => if powOk i j = true then some (.int (i ^ j.toNat)) else none
  | _, _, _ => none
mutual
/-- the plain data of a tree -/
def dat : T → Option PyData
  | .non => some .none
  | .bl b => some (.bool b)
  | .int i => some (.int i)
  | .str x => some (.str x)
  | .node _ .lst ts => (datL ts).map .list
  | .node _ .klst ts => (datL ts).map .list
  | .node _ .tup ts => (datL ts).map .tuple
  | .node _ (.dic _) _ => none
  | .node _ (.dtu _) _ => none
  | .hole => none
def datL : List T → Option (List PyData)
  | [] => some []
  | t :: ts => (match dat t, datL ts with
    | some d, some ds => some (d :: ds)
    | _, _ => none)
end
def eqT : T → T → Option Bool
  | .int i, .int j => some (decide (i = j))
  | .str i, .str j => some (decide (i = j))
  | .bl i, .bl j => some (decide (i = j))
  | .non, .non => some true
  | .non, .int _ => some false
  | .int _, .non => some false
  | .non, .str _ => some false
  | .str _, .non => some false
  | .non, .bl _ => some false
  | .bl _, .non => some false
  | .int _, .str _ => some false
  | .str _, .int _ => some false
  | .bl _, .str _ => some false
  | .str _, .bl _ => some false
  | a, b => (match dat a, dat b with
    | some d, some e => if (SeqAt.shaped d && SeqAt.shaped e) = true then some (PyData.eqv d e) else none
    | _, _ => none)
/-- ==, of flat things -/
def eqF : T → T → Bool
  | .non, .non => true
  | .bl a, .bl b => a == b
  | .bl a, .int b => (if a then 1 else 0) == b
  | .int a, .bl b => a == (if b then 1 else 0)
  | .int a, .int b => a == b
  | .str a, .str b => a == b
  | _, _ => false
def flatT : T → Bool
  | .non => true
  | .bl _ => true
  | .int _ => true
  | .str _ => true
  | _ => false
def inT (x : T) (ts : List T) : Option Bool := if (flatT x && ts.all flatT) = true then some (ts.any fun y => eqF y x) else none
def keyT : T → Option Key
  | .int i => some (.inl i)
  | .str x => some (.inr x)
  | _ => none
def valT (k : Key) : List Key → List T → Option T
  | k' :: ks, t :: ts => if k' = k then some t else valT k ks ts
  | _, _ => none
def cmpT : Cop → T → T → Option Bool
  | .eq, a, b => eqT a b
  | .ne, a, b => (eqT a b).map (!·)
  | .lt, .int i, .int j => some (decide (i < j))
  | .le, .int i, .int j => some (decide (i ≤ j))
  | .gt, .int i, .int j => some (decide (j < i))
  | .ge, .int i, .int j => some (decide (j ≤ i))
  | .isn, a, .non => (match a with
    | .hole => none
    | .non => some true
    | _ => some false)
  | .notn, a, .non => (match a with
    | .hole => none
    | .non => some false
    | _ => some true)
  | .inn, x, .node _ .lst ts => inT x ts
  | .inn, x, .node _ .klst ts => inT x ts
  | .inn, x, .node _ .tup ts => inT x ts
  | .inn, x, .node _ (.dic ks) ts => (keyT x).map fun k => (valT k ks ts).isSome
  | .nin, x, .node _ .lst ts => (inT x ts).map (!·)
  | .nin, x, .node _ .klst ts => (inT x ts).map (!·)
  | .nin, x, .node _ .tup ts => (inT x ts).map (!·)
  | .nin, x, .node _ (.dic ks) ts => (keyT x).map fun k => !(valT k ks ts).isSome
  | _, _, _ => none
def ixT : T → T → Option T
  | .node _ .lst ts, .int i => atI ts i
  | .node _ .klst ts, .int i => atI ts i
  | .node _ .tup ts, .int i => atI ts i
  | .node _ (.dic ks) ts, k => (keyT k).bind fun k => valT k ks ts
  | .str z, .int i => if fitB z.length = true then (atI z.cps.toList i).map fun c => .str ⟨#[c]⟩ else none
  | _, _ => none
def cutT (ts : List T) (lo hi : Option Int) : List T := (ts.drop (HT.sIx ts.length 0 lo)).take (HT.sIx ts.length ts.length hi - HT.sIx ts.length 0 lo)
def slT : T → Option Int → Option Int → Option T
  | .node _ .lst ts, lo, hi => some (.node true .lst (frzL (cutT ts lo hi)))
  | .node _ .klst ts, lo, hi => some (.node true .lst (frzL (cutT ts lo hi)))
  | .node _ .tup ts, lo, hi => some (.node false .tup (frzL (cutT ts lo hi)))
  | _, _, _ => none
def intsT : List T → Option (List Int)
  | [] => some []
  | .int i :: ts => (intsT ts).map (i :: ·)
  | _ => none
def blsT : List T → Option (List Bool)
  | [] => some []
  | .bl i :: ts => (blsT ts).map (i :: ·)
  | _ => none
def maxL : Int → List Int → Int
  | m, [] => m
  | m, x :: xs => maxL (if x > m then x else m) xs
def minL : Int → List Int → Int
  | m, [] => m
  | m, x :: xs => minL (if x < m then x else m) xs
/-- the items of a sequence -/
def itemsT : T → Option (List T)
  | .node _ .lst ts => some ts
  | .node _ .klst ts => some ts
  | .node _ .tup ts => some ts
  | _ => none
def lstT : T → Option (List T)
  | .node _ .lst ts => some ts
  | .node _ .klst ts => some ts
  | _ => none
def biT : Bi → List T → Option T
  | .len, [.node _ (.dic _) ts] => some (.int ts.length)
  | .len, [.str z] => if fitB z.length = true then some (.int z.length) else none
  | .len, [t] => (itemsT t).map fun ts => .int ts.length
  | .abs, [.int i] => some (.int (if i < 0 then -i else i))
  | .int, [.int i] => some (.int i)
  | .int, [.bl b] => some (.int (if b then 1 else 0))
  | .list, [t] => (itemsT t).map fun ts => .node true .lst (frzL ts)
  | .tuple, [t] => (itemsT t).map fun ts => .node false .tup (frzL ts)
  | .sum, [t] => (lstT t).bind fun ts => (intsT ts).map fun ns => .int ns.sum
  | .max, [.int i, .int j] => some (.int (if j > i then j else i))
  | .min, [.int i, .int j] => some (.int (if j < i then j else i))
  | .max, [t] => (lstT t).bind fun ts => (intsT ts).bind fun ns => (match ns with
    | n :: ns => some (.int (maxL n ns))
    | [] => none)
  | .min, [t] => (lstT t).bind fun ts => (intsT ts).bind fun ns => (match ns with
    | n :: ns => some (.int (minL n ns))
    | [] => none)
  | .all, [t] => (lstT t).bind fun ts => (blsT ts).map fun bs => .bl (bs.all id)
  | .any, [t] => (lstT t).bind fun ts => (blsT ts).map fun bs => .bl (bs.any id)
  | .sorted, [t] => (lstT t).bind fun ts => (intsT ts).map fun ns => .node true .lst ((ns.mergeSort (fun a b => decide (a ≤ b))).map .int)
  | _, _ => none
def isiT : T → Ty → Option Bool
  | .hole, _ => none
  | .node _ (.dtu _) _, _ => none
  | .int _, .int => some true
  | .bl _, .int => some true
  | .bl _, .bool => some true
  | .str _, .str => some true
  | .node _ .lst _, .list => some true
  | .node _ .klst _, .list => some true
  | .node _ .tup _, .tuple => some true
  | .node _ (.dic _) _, .dict => some true
  | _, _ => some false
def firstT (x : T) : List T → Nat → Option Nat
  | [], _ => none
  | y :: ys, n => if eqF y x = true then some n else firstT x ys (n + 1)
def methT : Mt → T → List T → Option T
  | .index, .node _ .lst ts, [x] => (some ts).bind fun ts => if (flatT x && ts.all flatT) = true then (firstT x ts 0).map fun n => .int n else none
  | .count, .node _ .lst ts, [.int i] => (some ts).bind fun ts => (intsT ts).map fun ns => .int (ns.count i)
  | .get, .node _ (.dic ks) ts, [k] => (keyT k).map fun k => (valT k ks ts).getD .non
  | .get, .node _ (.dic ks) ts, [k, d] => (keyT k).map fun k => (valT k ks ts).getD d
  | _, _, _ => none
def recvT : Mt → T → Option Unit
  | .index, .node _ .lst _ => some ()
  | .count, .node _ .lst _ => some ()
  | .get, .node _ (.dic _) _ => some ()
  | _, _ => none
/-! ### environments -/
def okSlot (P : List Bool) (e : Env) (i : Nat) : Bool := decide (i < e.length) && !(P.getD i false)
mutual
def asg (P : List Bool) : Tg → T → Env → Option Env
  | .nm i, t, e => if okSlot P e i = true then some (e.set i (some t)) else none
  | .tp ts, .node _ .tup xs, e => asgL P ts xs e
  | .tp ts, .node _ .lst xs, e => asgL P ts xs e
  | .tp ts, .node _ .klst xs, e => asgL P ts xs e
  | .tp _, _, _ => none
def asgL (P : List Bool) : TgL → List T → Env → Option Env
  | .nil, [], e => some e
  | .cons t r, x :: xs, e => (match asg P t x e with
    | some e1 => asgL P r xs e1
    | none => none)
  | _, _, _ => none
end
def roE : List Bool → Env → Env
  | true :: m, some t :: e => some (frz t) :: roE m e
  | true :: m, none :: e => none :: roE m e
  | false :: m, _ :: e => none :: roE m e
  | [], _ :: e => none :: roE [] e
  | _, [] => []
/-- the slots of m frozen -/
def frE : List Bool → Env → Env
  | true :: m, some t :: e => some (frz t) :: frE m e
  | true :: m, none :: e => none :: frE m e
  | false :: m, o :: e => o :: frE m e
  | [], e => e
  | _, [] => []
def wipeE (e : Env) : List Nat → Env
  | [] => e
  | v :: vs => (wipeE e vs).set v none
def lends : EL → List (Option Nat)
  | .nil => []
  | .cons (.lend i) r => some i :: lends r
  | .cons _ r => none :: lends r
/-- the lent trees are taken out of their slots -/
def take : List (Option Nat) → List T → Env → Option (List T × Env)
  | [], [], e => some ([], e)
  | none :: l, t :: ts, e => (match take l ts e with
    | some (us, e2) => some (t :: us, e2)
    | none => none)
  | some i :: l, _ :: ts, e => (match e[i]? with
    | some (some t) => (match take l ts (e.set i none) with
      | some (us, e2) => some (t :: us, e2)
      | none => none)
    | _ => none)
  | _, _, _ => none
def give : List (Option Nat) → List T → Env → Env
  | none :: l, _ :: ts, e => give l ts e
  | some i :: l, t :: ts, e => give l ts (e.set i (some t))
  | _, _, e => e
def rngT (lo : Int) (n : Nat) : List T := (List.range n).map fun (i : Nat) => T.int (lo + (i : Int))
def rngOk (i : Int) : Bool := decide (-(2 ^ 62) ≤ i ∧ i < 2 ^ 62)
def enumT : Nat → List T → List T
  | _, [] => []
  | n, t :: ts => .node false .tup [.int n, t] :: enumT (n + 1) ts
def zipT : List T → List T → List T
  | a :: as, b :: bs => .node false .tup [a, b] :: zipT as bs
  | _, _ => []
def noShX (x : Exn) : Bool := x.fs.all fun p => noSh p.2
/-! ### small steps, each by its name -/
def boolOf : T → Option Bool
  | .bl b => some b
  | _ => none
def negT : T → Option T
  | .int i => some (.int (-i))
  | _ => none
def notT : T → Option T
  | .bl b => some (.bl (!b))
  | _ => none
def partOf : T → Option (Option Int)
  | .int i => some (some i)
  | _ => none
def rng1T : T → Option (List T)
  | .int j => if rngOk j = true then some (rngT 0 j.toNat) else none
  | _ => none
def rng2T : T → T → Option (List T)
  | .int i, .int j => if (rngOk i && rngOk j) = true then some (rngT i (j - i).toNat) else none
  | _, _ => none
def enum1T : T → Option (List T)
  | .node _ .lst ts => some (enumT 0 (frzL ts))
  | .node _ .klst ts => some (enumT 0 (frzL ts))
  | _ => none
def zip2T : T → T → Option (List T)
  | .node _ .lst xs, .node _ .lst ys => some (zipT (frzL xs) (frzL ys))
  | .node _ .tup xs, .node _ .tup ys => some (zipT (frzL xs) (frzL ys))
  | _, _ => none
def tupT (ts : List T) : Option T := if fitB ts.length = true then some (.node false .tup ts) else none
def newT (ts : List T) : Option T := if fitB ts.length = true then some (.node true .lst ts) else none
def ofO {α : Type} : Option α → Env → R α
  | some a, e => .ok a e
  | none, _ => .fail
def asgE (P : List Bool) (tg : Tg) (t : T) (e : Env) : R Unit := match asg P tg t e with
  | some e2 => .ok () e2
  | none => .fail
def varE (i : Nat) (e : Env) : R T := match e[i]? with
  | some (some t) => .ok (frz t) (e.set i (some (frz t)))
  | _ => .fail
def mvE (i : Nat) (e : Env) : R T := match e[i]? with
  | some (some t) => .ok t (e.set i none)
  | _ => .fail
def lendE (i : Nat) (e : Env) : R T := match e[i]? with
  | some (some _) => .ok .hole e
  | _ => .fail
def gloE (p : Option (Str × T)) (e : Env) : R T := match p with
  | some p => .ok (frz p.2) e
  | none => .fail
def popE (i : Nat) (e : Env) : R T := match e[i]? with
  | some (some (.node true .lst ts)) => (match ts.getLast? with
    | some t => .ok t (e.set i (some (.node true .lst ts.dropLast)))
    | none => .fail)
  | _ => .fail
def backE (l : List (Option Nat)) (e : Env) : FR → R T
  | .ok t us => .ok t (give l us e)
  | .exc x => .exc x e
  | .fail => .fail
def callE (φ : List T → FR) (ds : Option (List T)) (l : List (Option Nat)) (ts : List T) (e : Env) : R T := match take l ts e, ds with
  | some (us, e2), some ds => backE l e2 (φ (us ++ ds))
  | _, _ => .fail
def roEnd (m : List Bool) (e : Env) : R T → R T
  | .ok t _ => if noSh t = true then .ok t e else .ok (frz t) (frE m e)
  | .exc x _ => if noShX x = true then .exc x e else .fail
  | .fail => .fail
/-- a comprehension's turns -/
def lcStep (own : List Nat) (acc : List T) (k : List T → Env → R (List T)) : R (Option T) → R (List T)
  | .ok (some t) e1 => if decide (acc.length < sizeLine) = true then k (acc ++ [t]) (wipeE e1 own) else .fail
  | .ok none e1 => k acc (wipeE e1 own)
  | .exc _ _ => .fail
  | .fail => .fail
def lcGo (own : List Nat) (f : T → Env → R (Option T)) : List T → List T → Env → R (List T)
  | [], acc, e => .ok acc e
  | x :: xs, acc, e => lcStep own acc (fun acc e => lcGo own f xs acc e) (f x e)
def lcBody (P : List Bool) (tg : Tg) (c : Env → R Bool) (x : Env → R T) (t : T) (e : Env) : R (Option T) :=
  (asgE P tg t e).bind fun _ e2 => (c e2).bind fun b e3 => if b = true then (x e3).bindO fun t => some (some t) else .ok none e3
mutual
def ev (C : Cf) : E → Env → R T
  | .non, e => .ok .non e
  | .bl b, e => .ok (.bl b) e
  | .int i, e => .ok (.int i) e
  | .str x, e => .ok (.str x) e
  | .var i, e => varE i e
  | .mv i, e => mvE i e
  | .lend i, e => lendE i e
  | .glo i, e => gloE (C.tb.gl i) e
  | .bin op a b, e => (ev C a e).bind fun x e1 => (ev C b e1).bindO fun y => binT op x y
  | .neg a, e => (ev C a e).bindO negT
  | .cmp op a b, e => (ev C a e).bind fun x e1 => (ev C b e1).bindO fun y => (cmpT op x y).map .bl
  | .chn op op' a b c, e => (ev C a e).bind fun x e1 => (ev C b e1).bind fun y e2 => (ofO (cmpT op x y) e2).bind fun d e3 => if d = true then (ev C c e3).bindO fun z => (cmpT op' y z).map .bl else .ok (.bl false) e3
  | .not a, e => (ev C a e).bindO notT
  | .and a b, e => ((ev C a e).bindO boolOf).bind fun d e1 => if d = true then ev C b e1 else .ok (.bl false) e1
  | .or a b, e => ((ev C a e).bindO boolOf).bind fun d e1 => if d = true then .ok (.bl true) e1 else ev C b e1
  | .ife c a b, e => ((ev C c e).bindO boolOf).bind fun d e1 => if d = true then ev C a e1 else ev C b e1
  | .tup es, e => (evL C es e).bindO tupT
  | .lst es, e => (evL C es e).bindO newT
  | .ix a b, e => (ev C a e).bind fun x e1 => (ev C b e1).bindO fun y => ixT x y
  | .sl a lo hi, e => (ev C a e).bind fun x e1 => (evO C lo e1).bind fun l e2 => (evO C hi e2).bindO fun h => slT x l h
  | .call f k as, e => (evL C as e).bind fun ts e1 => callE (C.φ f) (C.tb.dfl f k) (lends as) ts e1
  | .bi b as, e => (evL C as e).bindO fun ts => biT b ts
  | .isi a t, e => (ev C a e).bindO fun x => (isiT x t).map .bl
  | .meth m a as, e => (ev C a e).bind fun x e1 => (ofO (recvT m x) e1).bind fun _ e2 => (evL C as e2).bindO fun ts => methT m x ts
  | .pop i, e => popE i e
  | .lc own tg it c x, e => (evI C it e).bind fun items e1 => (lcGo own (lcBody C.P tg (fun e => evC C c e) (fun e => ev C x e)) items [] (wipeE e1 own)).bindO fun ts => some (.node true .lst ts)
  | .ro m x, e => roEnd m e (ev C x (roE m e))
def evL (C : Cf) : EL → Env → R (List T)
  | .nil, e => .ok [] e
  | .cons x r, e => (ev C x e).bind fun t e1 => (evL C r e1).bindO fun ts => some (t :: ts)
/-- a part of a slice -/
def evO (C : Cf) : OE → Env → R (Option Int)
  | .none, e => .ok none e
  | .some x, e => (ev C x e).bindO partOf
/-- a comprehension's test -/
def evC (C : Cf) : OE → Env → R Bool
  | .none, e => .ok true e
  | .some x, e => (ev C x e).bindO boolOf
/-- what is walked -/
def evI (C : Cf) : It → Env → R (List T)
  | .seq a, e => (ev C a e).bindO fun t => (itemsT t).map frzL
  | .rng1 a, e => (ev C a e).bindO rng1T
  | .rng2 a b, e => (ev C a e).bind fun x e1 => (ev C b e1).bindO fun y => rng2T x y
  | .enum a, e => (ev C a e).bindO enum1T
  | .zip a b, e => (ev C a e).bind fun x e1 => (ev C b e1).bindO fun y => zip2T x y
end

/-! ### statements -/
inductive S where
  | nop
  | seq (a b : S)
  | asg (tg : Tg) (x : E)
  | par (i j : Nat) (x y : E)
  | seti (i : Nat) (k x : E)
  | exp (x : E)
  | app (i : Nat) (x : E)
  | ext (i : Nat) (x : E)
  | app1 (i j : Nat) (n : Int)
  | ifs (c : E) (a b : S)
  | fors (tg : Tg) (it : It) (b : S)
  | whl (n : Nat) (c : E) (b : S)
  | ret (x : E) | retn | pass | brk | cnt
  | rais (c : Str) (fs : List Str) (as : EL)
  | never
inductive SR where
  | next (e : Env) | ret (t : T) (e : Env) | brk (e : Env) | cnt (e : Env) | exc (x : Exn) (e : Env) | fail
abbrev R.st {α : Type} (r : R α) (f : α → Env → SR) : SR := match r with
  | .ok a e => f a e
  | .exc x e => .exc x e
  | .fail => .fail
abbrev SR.sq (r : SR) (f : Env → SR) : SR := match r with
  | .next e => f e
  | r => r
def hasK (k : Key) (ks : List Key) : Bool := ks.any fun k' => decide (k' = k)
def putT (k : Key) (v : T) : List Key → List T → Option (List Key × List T)
  | [], [] => some ([k], [v])
  | k' :: ks, t :: ts => if k' = k then (if hasK k ks = true then none else some (k' :: ks, v :: ts)) else (match putT k v ks ts with
    | some (ks2, ts2) => some (k' :: ks2, t :: ts2)
    | none => none)
  | _, _ => none
/-- x[k] = v in an owned container -/
def setT : T → T → T → Option T
  | .node true .lst ts, .int i, v => (ixN ts.length i).map fun j => .node true .lst (ts.set j v)
  | .node true (.dic ks) ts, k, v => (keyT k).bind fun k => if decide (ks.length < sizeLine) = true then (putT k v ks ts).map fun p => .node true (.dic p.1) p.2 else none
  | _, _, _ => none
def appT : T → T → Option T
  | .node true .lst ts, v => if decide (ts.length < sizeLine) = true then some (.node true .lst (ts ++ [v])) else none
  | _, _ => none
def extT : T → T → Option T
  | .node true .lst ts, .node _ .lst us => if fitB (ts.length + us.length) = true then some (.node true .lst (ts ++ us)) else none
  | _, _ => none
def app1T (j : Nat) : T → T → Option T
  | .node b .tup ts, v => (match ts[j]? with
    | some (.node true .lst us) => if decide (us.length < sizeLine) = true then some (.node b .tup (ts.set j (.node true .lst (us ++ [v])))) else none
    | _ => none)
  | _, _ => none
abbrev SR.turn (r : SR) (f : Env → SR) : SR := match r with
  | .next e1 => f e1
  | .cnt e1 => f e1
  | .brk e1 => .next e1
  | .ret t e1 => .ret t e1
  | .exc x e1 => .exc x e1
  | .fail => .fail
def goFor (f : T → Env → SR) : List T → Env → SR
  | [], e => .next e
  | x :: xs, e => (f x e).turn fun e1 => goFor f xs e1
def goWhl (c : Env → R Bool) (f : Env → SR) : Nat → Env → SR
  | 0, _ => .fail
  | n + 1, e => (c e).st fun b e1 => if b = true then (f e1).turn fun e2 => goWhl c f n e2 else .next e1
/-- a change of the container in slot i -/
def chg (i : Nat) (f : T → Option T) (e : Env) : SR := match e[i]? with
  | some (some t) => (match f t with
    | some t2 => .next (e.set i (some t2))
    | none => .fail)
  | _ => .fail
/-- a list of its own in slot i -/
def ownL (e : Env) (i : Nat) : Bool := match e[i]? with
  | some (some (.node true .lst _)) => true
  | _ => false
def hasT (e : Env) (i : Nat) : Bool := match e[i]? with
  | some (some _) => true
  | _ => false
def zipF : List Str → List T → List (Str × T)
  | f :: fs, t :: ts => (f, t) :: zipF fs ts
  | _, _ => []
def ex (C : Cf) : S → Env → SR
  | .nop, e => .next e
  | .seq a b, e => (ex C a e).sq fun e1 => ex C b e1
  | .asg tg x, e => (ev C x e).st fun t e1 => (asgE C.P tg t e1).st fun _ e2 => .next e2
  | .par i j x y, e => (ev C x e).st fun t e1 => (ev C y e1).st fun u e2 => if (okSlot C.P e2 i && okSlot C.P e2 j) = true then .next ((e2.set i (some t)).set j (some u)) else .fail
  | .seti i k x, e => (ev C x e).st fun t e1 => if hasT e1 i = true then (ev C k e1).st fun y e2 => chg i (fun c => setT c y t) e2 else .fail
  | .exp x, e => (ev C x e).st fun _ e1 => .next e1
  | .app i x, e => if ownL e i = true then (ev C x e).st fun t e1 => chg i (fun c => appT c t) e1 else .fail
  | .ext i x, e => if ownL e i = true then (ev C x e).st fun t e1 => chg i (fun c => extT c t) e1 else .fail
  | .app1 i j n, e => chg i (fun c => app1T j c (.int n)) e
  | .ifs c a b, e => ((ev C c e).bindO boolOf).st fun d e1 => if d = true then ex C a e1 else ex C b e1
  | .fors tg it b, e => (evI C it e).st fun items e1 => goFor (fun t e2 => (asgE C.P tg t e2).st fun _ e3 => ex C b e3) items e1
  | .whl n c b, e => goWhl (fun e => (ev C c e).bindO boolOf) (fun e => ex C b e) n e
  | .ret x, e => (ev C x e).st fun t e1 => .ret t e1
  | .retn, e => .ret .non e
  | .pass, e => .next e
  | .brk, e => .brk e
  | .cnt, e => .cnt e
  | .rais c fs as, e => (evL C as e).st fun ts e1 => if decide (fs.length = ts.length) = true then .exc ⟨c, (zipF fs (frzL ts)).reverse⟩ e1 else .fail
  | .never, _ => .fail

/-! ### a def -/
/-- np parameters, n slots in all -/
structure Df where
  np : Nat
  n : Nat
  P : List Bool
  b : S
def outs : List Bool → Nat → Env → List T
  | _, 0, _ => []
  | true :: P, n + 1, some t :: e => t :: outs P n e
  | _ :: P, n + 1, _ :: e => .hole :: outs P n e
  | _, n + 1, _ => .hole :: outs [] n []
def run (φ : Nat → List T → FR) (tb : Tb) (d : Df) (ts : List T) : FR :=
  if decide (ts.length = d.np) = true then
    (match ex ⟨φ, tb, d.P⟩ d.b (ts.map some ++ List.replicate (d.n - d.np) none) with
    | .next e => .ok .non (outs d.P d.np e)
    | .ret t e => .ok t (outs d.P d.np e)
    | .exc x _ => .exc x
    | _ => .fail)
  else .fail
end PT

/-! PtD: what an evaluation says of the machine's run. -/
namespace PT
open PySem PySem.Spec PyProof.Rows L2

/-- an exception: its class by name, its fields -/
def XRep (K : PySem.W.Frag) (mg : Str → Option Value) (H : Hp) (Z : Addr → Prop) (x : Exn) (cls : Value) (d : Option Addr) : Prop :=
  ∃ C, mg x.c = some (.ref C) ∧ cls = .ref C ∧ ((x.fs = [] ∧ d = none) ∨ (x.fs ≠ [] ∧ ∃ dd vs, d = some dd ∧ Z dd ∧ H dd = some (.xd ((x.fs.map (·.1)).zip vs)) ∧ RepL K H Z (x.fs.map (·.2)) vs []))
abbrev RA (α β : Type) := Hp → (Addr → Prop) → α → β → List Addr → Prop
section
variable {α β γ δ : Type}
def Post (K : PySem.W.Frag) (mg : Str → Option Value) (A : RA α β) (W : WX) (σ : Sl) (H : Hp) (Z : Addr → Prop) (F : List Addr) (r : R α) (Q : β → Hp → Prop) : Prop := match r with
  | .ok a e => ∀ b H' Z' F' Fa, RepE K H' Z' e σ F' → A H' Z' a b Fa → Dj F' Fa → Okk H' Z' (F' ++ Fa) → Step H Z F H' Z' (F' ++ Fa) → Q b H'
  | .exc x e => ∀ cls d H' Z' F', RepE K H' Z' e σ F' → XRep K mg H' Z' x cls d → Okk H' Z' F' → Step H Z F H' Z' F' → W cls d σ H'
  | .fail => False
def sem (K : PySem.W.Frag) (mg : Str → Option Value) (A : RA α β) (W : WX) (f : Env → R α) : Sl → Hp → (β → Hp → Prop) → Prop := fun σ H Q =>
  ∃ e Z F, RepE K H Z e σ F ∧ Okk H Z F ∧ Post K mg A W σ H Z F (f e) Q
abbrev aT (K : PySem.W.Frag) : RA T V := fun H Z t v F => Rep K H Z t v F
abbrev aL (K : PySem.W.Frag) : RA (List T) (List V) := fun H Z ts vs F => RepL K H Z ts vs F
abbrev aB : RA Bool Bool := fun _ _ a b F => a = b ∧ F = []
abbrev aO : RA (Option Int) (Option Int) := fun _ _ a b F => a = b ∧ F = []

variable {K : PySem.W.Frag} {mg : Str → Option Value} {A : RA α β} {B : RA γ δ} {W : WX} {σ : Sl} {H : Hp} {Z : Addr → Prop} {F G : List Addr} {r : R α} {Q : β → Hp → Prop}
/-- what stands behind a first evaluation, ahead of the rest, G held meanwhile -/
structure Mid (K : PySem.W.Frag) (mg : Str → Option Value) (A : RA α β) (B : RA γ δ) (W : WX) (σ : Sl) (H : Hp) (Z : Addr → Prop) (G : List Addr) (g : α → Env → R γ) (Q : δ → Hp → Prop) (b : β) (H1 : Hp) (a : α) (e1 : Env) (Z1 : Addr → Prop) (F1 Fa : List Addr) : Prop where
  re : RepE K H1 Z1 e1 σ F1
  ra : A H1 Z1 a b Fa
  dj : Dj F1 Fa
  dg : Dj G (F1 ++ Fa)
  ok : Okk H1 Z1 ((F1 ++ Fa) ++ G)
  hg : ∀ x, x ∈ G → H1 x = H x
  hz : ∀ x, Z x → H1 x = H x
  zz : ∀ x, Z x → Z1 x
  po : Post K mg B W σ H1 Z1 ((F1 ++ Fa) ++ G) (g a e1) Q
theorem bind_sem {f : R α} {g : α → Env → R γ} {Q : δ → Hp → Prop} (ok : Okk H Z (F ++ G)) (hs : ∀ x, x ∈ G → (H x).isSome = true) (dj : Dj F G) (h : Post K mg B W σ H Z (F ++ G) (f.bind g) Q) :
    Post K mg A W σ H Z F f (fun b H1 => ∃ a e1 Z1 F1 Fa, Mid K mg A B W σ H Z G g Q b H1 a e1 Z1 F1 Fa) := by
  cases f with
  | fail => exact h
  | exc x e =>
    intro cls d H' Z' F' re xr ok' st
    refine h cls d H' Z' F' re xr ok' ⟨st.1, fun a ha hn => st.2 a ha fun z => hn (List.mem_append_left _ z)⟩
  | ok a e =>
    intro b H1 Z1 F1 Fa re ra d1 ok1 st
    have hg : ∀ x, x ∈ G → H1 x = H x ∧ x ∉ (F1 ++ Fa) ∧ (Z1 x → Z x) := fun x hx => st.2 x (hs x hx) (fun z => dj x z hx)
    refine ⟨a, e, Z1, F1, Fa, re, ra, d1, fun x hx => (hg x hx).2.1, ⟨fun x hx => ?_, ok1.zd⟩, fun x hx => (hg x hx).1, fun x z => ?_, st.1, ?_⟩
    · rcases List.mem_append.mp hx with q | q
      · exact ok1.zf x q
      · exact fun z => ok.zf x (List.mem_append_right _ q) ((hg x q).2.2 z)
    · exact (st.2 x (ok.zd x z) fun q => ok.zf x (List.mem_append_left _ q) z).1
    · have st2 : ∀ {H' : Hp} {Z' : Addr → Prop} {F' : List Addr}, Step H1 Z1 (F1 ++ Fa ++ G) H' Z' F' → Step H Z (F ++ G) H' Z' F' := fun {H' Z' F'} s2 => by
        refine ⟨fun x z => s2.1 x (st.1 x z), fun x hx hn => ?_⟩
        obtain ⟨h1, h2, h3⟩ := st.2 x hx fun z => hn (List.mem_append_left _ z)
        obtain ⟨g1, g2, g3⟩ := s2.2 x (by rw [h1]; exact hx) (fun z => (List.mem_append.mp z).elim h2 fun q => hn (List.mem_append_right _ q))
        exact ⟨g1.trans h1, g2, fun z => h3 (g3 z)⟩
      have h' : Post K mg B W σ H Z (F ++ G) (g a e) Q := h
      cases hq : g a e with
      | fail => rw [hq] at h'; exact h'
      | exc x e2 =>
        rw [hq] at h'
        intro cls d H' Z' F' re xr ok' s2
        exact h' cls d H' Z' F' re xr ok' (st2 s2)
      | ok c e2 =>
        rw [hq] at h'
        intro b' H' Z' F' Fc re' rc d' ok' s2
        exact h' b' H' Z' F' Fc re' rc d' ok' (st2 s2)
/-- the same, nothing held -/
theorem bind_sem0 {f : R α} {g : α → Env → R γ} {Q : δ → Hp → Prop} (ok : Okk H Z F) (h : Post K mg B W σ H Z F (f.bind g) Q) :
    Post K mg A W σ H Z F f (fun b H1 => ∃ a e1 Z1 F1 Fa, Mid K mg A B W σ H Z [] g Q b H1 a e1 Z1 F1 Fa) :=
  bind_sem (G := []) (by rw [List.append_nil]; exact ok) (fun _ z => absurd z (by simp)) Dj.nilR (by rw [List.append_nil]; exact h)
theorem Post.imp {Q Q' : β → Hp → Prop} (h : Post K mg A W σ H Z F r Q) (k : ∀ b H', Q b H' → Q' b H') : Post K mg A W σ H Z F r Q' := by
  cases r with
  | ok a e => exact fun b H' Z' F' Fa h1 h2 h3 h4 h5 => k _ _ (h b H' Z' F' Fa h1 h2 h3 h4 h5)
  | exc x e => exact h
  | fail => exact h
/-- the owned ones may be told as more -/
theorem Post.sub (h : Post K mg A W σ H Z F r Q) (k : ∀ a, a ∈ G → a ∈ F) : Post K mg A W σ H Z G r Q := by
  have st2 : ∀ {H' : Hp} {Z' : Addr → Prop} {F' : List Addr}, Step H Z G H' Z' F' → Step H Z F H' Z' F' := fun {H' Z' F'} s2 => ⟨s2.1, fun x hx hn => s2.2 x hx fun z => hn (k x z)⟩
  cases r with
  | ok a e => exact fun b H' Z' F' Fa h1 h2 h3 h4 h5 => h b H' Z' F' Fa h1 h2 h3 h4 (st2 h5)
  | exc x e => exact fun cls d H' Z' F' h1 h2 h3 h4 => h cls d H' Z' F' h1 h2 h3 (st2 h4)
  | fail => exact h
end
section
variable {K : PySem.W.Frag} {mg : Str → Option Value} {W : WX} {σ : Sl} {H : Hp} {Z : Addr → Prop} {F G : List Addr} {α β γ δ : Type} {A : RA α β} {B : RA γ δ} {g : α → Env → R γ} {Q : δ → Hp → Prop} {b : β} {H1 : Hp} {a : α} {e1 : Env} {Z1 : Addr → Prop} {F1 Fa : List Addr}
/-- behind the middle: what was held is as it was -/
theorem Mid.hold (m : Mid K mg A B W σ H Z G g Q b H1 a e1 Z1 F1 Fa) {t : T} {v : V} (r : Rep K H Z t v G) : Rep K H1 Z1 t v G := r.keep m.hg m.hz m.zz
theorem Mid.holdL (m : Mid K mg A B W σ H Z G g Q b H1 a e1 Z1 F1 Fa) {ts : List T} {vs : List V} (r : RepL K H Z ts vs G) : RepL K H1 Z1 ts vs G := r.keep m.hg m.hz m.zz
theorem Mid.okE (m : Mid K mg A B W σ H Z G g Q b H1 a e1 Z1 F1 Fa) : Okk H1 Z1 F1 := m.ok.mono fun x hx => List.mem_append_left _ (List.mem_append_left _ hx)
end
end PT

/-! PtE: operations by values. -/
namespace PT
open PySem PySem.Spec PyProof.Rows L2

/-- F1: the environment's own; F: all that is ours -/
structure Sit (H : Hp) (Z : Addr → Prop) (F1 F : List Addr) : Prop where
  ok : Okk H Z F
  sub : ∀ x, x ∈ F1 → x ∈ F
  hs : ∀ x, x ∈ F → (H x).isSome = true
/-- what is wanted of a result z -/
def Out (K : PySem.W.Frag) (H : Hp) (Z : Addr → Prop) (F1 F : List Addr) (z : T) (Q : VK) : Prop :=
  ∀ v H' Z' Fz, Rep K H' Z' z v Fz → (∀ x, x ∈ F1 → H' x = H x) → Dj F1 Fz → Okk H' Z' (F1 ++ Fz) → Step H Z F H' Z' (F1 ++ Fz) → Q v H'
section
variable {K : PySem.W.Frag} {H : Hp} {Z : Addr → Prop} {F1 F Fz Ft Fu G : List Addr} {z t u : T} {ts us : List T} {v w : V} {vs ws : List V} {Q : VK}
theorem Out.same (o : Out K H Z F1 F z Q) (S : Sit H Z F1 F) (r : Rep K H Z z v Fz) (d : Dj F1 Fz) (h : ∀ x, x ∈ Fz → x ∈ F) : Q v H :=
  o v H Z Fz r (fun _ _ => rfl) d (S.ok.mono fun x hx => (List.mem_append.mp hx).elim (S.sub x) (h x)) (Step.refl fun x hx => (List.mem_append.mp hx).elim (S.sub x) (h x))
theorem Out.int {i : Int} (o : Out K H Z F1 F (.int i) Q) (S : Sit H Z F1 F) : Q (.int i) H := o.same S (.int i) Dj.nilR fun _ h => absurd h (by simp)
theorem Out.bl {i : Bool} (o : Out K H Z F1 F (.bl i) Q) (S : Sit H Z F1 F) : Q (.bl i) H := o.same S (.bl i) Dj.nilR fun _ h => absurd h (by simp)
theorem Out.str {i : Str} (o : Out K H Z F1 F (.str i) Q) (S : Sit H Z F1 F) : Q (.str i) H := o.same S (.str i) Dj.nilR fun _ h => absurd h (by simp)
theorem Out.non (o : Out K H Z F1 F .non Q) (S : Sit H Z F1 F) : Q .non H := o.same S .non Dj.nilR fun _ h => absurd h (by simp)
/-- frozen in place: more is locked, nothing is changed -/
theorem Out.froz (o : Out K H Z F1 F (frz z) Q) (S : Sit H Z F1 F) (r : Rep K H Z z v Fz) (d : Dj F1 Fz) (h : ∀ x, x ∈ Fz → x ∈ F) : Q v H := by
  refine o v H (fun a => Z a ∨ a ∈ Fz) [] (r.frz (fun a ha => .inr ha) fun _ z => .inl z) (fun _ _ => rfl) Dj.nilR ⟨fun a ha => ?_, fun a ha => ?_⟩ ⟨fun _ z => .inl z, fun a ha hn => ⟨rfl, fun q => ?_, fun q => ?_⟩⟩
  · rw [List.append_nil] at ha
    exact fun q => q.elim (S.ok.zf a (S.sub a ha)) (d a ha)
  · exact ha.elim (S.ok.zd a) fun q => S.hs a (h a q)
  · rw [List.append_nil] at q
    exact hn (S.sub a q)
  · exact q.elim id fun q => absurd (h a q) hn
/-- a new owned object -/
theorem Out.new {k : Kd} {ho : HO} (o : Out K H Z F1 F (.node true k ts) Q) (S : Sit H Z F1 F) (m : Mk k) (hk : HoIs k vs ho) (r : RepL K H Z ts vs Fz) (d : Dj F1 Fz) (h : ∀ x, x ∈ Fz → x ∈ F) (p : Addr) (hp : H p = none) : Q (.ref p) (upd H p ho) := by
  have np : ∀ x, x ∈ F → x ≠ p := fun x hx q => by
    have := S.hs x hx
    rw [q, hp] at this; cases this
  have e0 : ∀ a, a ∈ F → upd H p ho a = H a := fun a ha => upd_ne (np a ha)
  have ez : ∀ a, Z a → upd H p ho a = H a := fun a ha => upd_ne fun q => by
    have := S.ok.zd a ha
    rw [q, hp] at this; cases this
  refine o (.ref p) _ Z (p :: Fz) (.own k ts p vs ho Fz m upd_same hk (r.keep (fun a ha => e0 a (h a ha)) ez fun _ z => z) fun q => np p (h p q) rfl) (fun x hx => e0 x (S.sub x hx)) (fun a ha q => ?_) ⟨fun a ha => ?_, fun a ha => ?_⟩ (Step.new hp fun a ha => ?_)
  · rcases List.mem_cons.mp q with q | q
    · exact np a (S.sub a ha) q
    · exact d a ha q
  · rcases List.mem_append.mp ha with q | q
    · exact S.ok.zf a (S.sub a q)
    · rcases List.mem_cons.mp q with q | q
      · intro z
        have := S.ok.zd a z
        rw [q, hp] at this; cases this
      · exact S.ok.zf a (h a q)
  · rw [ez a ha]; exact S.ok.zd a ha
  · rcases List.mem_append.mp ha with q | q
    · exact .inl (S.sub a q)
    · rcases List.mem_cons.mp q with q | q
      · exact .inr q
      · exact .inl (h a q)
/-- a new tuple -/
theorem Out.newT (o : Out K H Z F1 F (.node false .tup ts) Q) (S : Sit H Z F1 F) (r : RepL K H Z ts vs Fz) (d : Dj F1 Fz) (h : ∀ x, x ∈ Fz → x ∈ F) (p : Addr) (hp : H p = none) : Q (.ref p) (upd H p (.tup vs)) := by
  have np : ∀ x, x ∈ F → x ≠ p := fun x hx q => by
    have := S.hs x hx
    rw [q, hp] at this; cases this
  have e0 : ∀ a, a ∈ F → upd H p (.tup vs) a = H a := fun a ha => upd_ne (np a ha)
  have ez : ∀ a, Z a → upd H p (.tup vs) a = H a := fun a ha => upd_ne fun q => by
    have := S.ok.zd a ha
    rw [q, hp] at this; cases this
  refine o (.ref p) _ (fun a => Z a ∨ a = p) Fz (.tup ts p vs Fz (.inl ⟨.inr rfl, _, rfl, .inl upd_same⟩) (r.keep (fun a ha => e0 a (h a ha)) ez fun _ z => .inl z)) (fun x hx => e0 x (S.sub x hx)) d ⟨fun a ha => ?_, fun a ha => ?_⟩ (Step.newZ hp fun a ha => ?_)
  · have hF : a ∈ F := (List.mem_append.mp ha).elim (S.sub a) (h a)
    exact fun q => q.elim (S.ok.zf a hF) (np a hF)
  · rcases ha with q | q
    · rw [ez a q]; exact S.ok.zd a q
    · rw [q, upd_same]; rfl
  · exact (List.mem_append.mp ha).elim (S.sub a) (h a)
/-- more locked: what follows may lean on less -/
theorem Out.lock (o : Out K H Z F1 F z Q) (S : Sit H Z F1 F) (d : Dj F1 Fz) (h : ∀ x, x ∈ Fz → x ∈ F) : ∃ Z1 : Addr → Prop, (∀ a, Z a → Z1 a) ∧ (∀ a, a ∈ Fz → Z1 a) ∧ Out K H Z1 F1 F1 z Q ∧ Sit H Z1 F1 F1 := by
  refine ⟨fun a => Z a ∨ a ∈ Fz, fun _ q => .inl q, fun _ q => .inr q, ?_, ⟨fun a ha q => ?_, fun a ha => ?_⟩, fun _ q => q, fun x hx => S.hs x (S.sub x hx)⟩
  · intro v H' Z' Fy r e dj ok st
    refine o v H' Z' Fy r e dj ok ⟨fun a q => st.1 a (.inl q), fun a ha hn => ?_⟩
    obtain ⟨h1, h2, h3⟩ := st.2 a ha fun q => hn (S.sub a q)
    exact ⟨h1, h2, fun q => (h3 q).elim id fun q => absurd (h a q) hn⟩
  · exact q.elim (S.ok.zf a (S.sub a ha)) (d a ha)
  · exact ha.elim (S.ok.zd a) fun q => S.hs a (h a q)

/-! ### what a tree says of its object -/
theorem Shr.sq {a : Addr} (s : Shr K H Z a .klst vs) : SqL K H a vs := by
  rcases s with ⟨_, o, ho, e⟩ | w
  · have h2 : o = .lst vs := ho
    subst h2
    exact .inl (e.elim .inl fun e => .inr e.2)
  · exact .inr w
theorem Shr.sqL {a : Addr} (s : Shr K H Z a .lst vs) : H a = some (.lst vs) := by
  rcases s with ⟨_, o, ho, e⟩ | w
  · have h2 : o = .lst vs := ho
    subst h2
    exact e.elim id fun e => absurd rfl e.1
  · exact w.elim
theorem Shr.sqT {a : Addr} (s : Shr K H Z a .tup vs) : SqT K H a vs := by
  rcases s with ⟨_, o, ho, e⟩ | w
  · have h2 : o = .tup vs := ho
    subst h2
    exact .inl (e.elim .inl fun e => .inr e.2)
  · exact .inr w
theorem Shr.dk {a : Addr} {ks : List Key} (s : Shr K H Z a (.dic ks) vs) : ks.length = vs.length ∧ Rd H a (.dK (ks.zip vs)) := by
  rcases s with ⟨_, o, ho, e⟩ | w
  · obtain ⟨hl, h2⟩ := ho
    subst h2
    exact ⟨hl, e.elim .inl fun e => .inr e.2⟩
  · exact w.elim
/-- the list at a node -/
theorem Rep.lst {b : Bool} (r : Rep K H Z (.node b .lst ts) v Ft) : ∃ a vs F', v = .ref a ∧ H a = some (.lst vs) ∧ RepL K H Z ts vs F' ∧ ∀ x, x ∈ F' → x ∈ Ft := by
  cases r with
  | own k ts a vs o F m e ho r n =>
    have h2 : o = .lst vs := ho
    subst h2
    exact ⟨a, vs, F, rfl, e, r, fun x hx => List.mem_cons_of_mem _ hx⟩
  | shr k ts a vs s r => exact ⟨a, vs, [], rfl, s.sqL, r, fun x hx => hx⟩
theorem Rep.tupl {b : Bool} (r : Rep K H Z (.node b .tup ts) v Ft) : ∃ a vs, v = .ref a ∧ SqT K H a vs ∧ RepL K H Z ts vs Ft := by
  cases r with
  | own k ts a vs o F m e ho r n => exact m.elim
  | shr k ts a vs s r => exact ⟨a, vs, rfl, s.sqT, r⟩
  | tup ts a vs F s r => exact ⟨a, vs, rfl, s.sqT, r⟩
theorem Rep.klst {b : Bool} (r : Rep K H Z (.node b .klst ts) v Ft) : ∃ a vs, v = .ref a ∧ SqL K H a vs ∧ RepL K H Z ts vs Ft := by
  cases r with
  | own k ts a vs o F m e ho r n => exact m.elim
  | shr k ts a vs s r => exact ⟨a, vs, rfl, s.sq, r⟩
theorem Rep.dicl {b : Bool} {ks : List Key} (r : Rep K H Z (.node b (.dic ks) ts) v Ft) : ∃ a vs F', v = .ref a ∧ ks.length = vs.length ∧ Rd H a (.dK (ks.zip vs)) ∧ RepL K H Z ts vs F' ∧ ∀ x, x ∈ F' → x ∈ Ft := by
  cases r with
  | own k ts a vs o F m e ho r n =>
    obtain ⟨hl, h2⟩ := ho
    subst h2
    exact ⟨a, vs, F, rfl, hl, .inl e, r, fun x hx => List.mem_cons_of_mem _ hx⟩
  | shr k ts a vs s r => exact ⟨a, vs, [], rfl, s.dk.1, s.dk.2, r, fun x hx => hx⟩
/-- any sequence -/
theorem Rep.seq {t : T} (r : Rep K H Z t v Ft) (h : itemsT t = some ts) : ∃ a vs F', v = .ref a ∧ (SqL K H a vs ∨ SqT K H a vs) ∧ RepL K H Z ts vs F' ∧ ∀ x, x ∈ F' → x ∈ Ft := by
  cases t with
  | node b k us =>
    cases k with
    | lst =>
      cases h
      obtain ⟨a, vs, F', e, h1, h2, h3⟩ := r.lst
      exact ⟨a, vs, F', e, .inl (SqL.of h1), h2, h3⟩
    | tup =>
      cases h
      obtain ⟨a, vs, e, h1, h2⟩ := r.tupl
      exact ⟨a, vs, Ft, e, .inr h1, h2, fun _ h => h⟩
    | klst =>
      cases h
      obtain ⟨a, vs, e, h1, h2⟩ := r.klst
      exact ⟨a, vs, Ft, e, .inl h1, h2, fun _ h => h⟩
    | dic ks => cases h
    | dtu ks => cases h
  | _ => cases h
theorem RepL.app (r : RepL K H Z ts vs Ft) (q : RepL K H Z us ws Fu) (d : Dj Ft Fu) : ∃ F', RepL K H Z (ts ++ us) (vs ++ ws) F' ∧ ∀ x, x ∈ F' ↔ x ∈ Ft ∨ x ∈ Fu := by
  induction ts generalizing vs Ft with
  | nil =>
    cases r
    exact ⟨Fu, q, by simp⟩
  | cons t ts ih =>
    cases r with
    | cons t v F ts vs G r1 r2 d1 =>
      obtain ⟨F', h1, h2⟩ := ih r2 fun a ha => d a (List.mem_append_right _ ha)
      refine ⟨F ++ F', .cons t v F _ _ F' r1 h1 fun a ha hb => ?_, fun x => ?_⟩
      · rcases (h2 a).mp hb with h | h
        · exact d1 a ha h
        · exact d a (List.mem_append_left _ ha) h
      · simp only [List.mem_append, h2 x]
        constructor
        · rintro (h | h | h)
          · exact .inl (.inl h)
          · exact .inl (.inr h)
          · exact .inr h
        · rintro ((h | h) | h)
          · exact .inl h
          · exact .inr (.inl h)
          · exact .inr (.inr h)
/-- a part of a frozen list -/
theorem RepL.at (r : RepL K H Z ts vs []) {i : Nat} {t : T} (h : ts[i]? = some t) : ∃ v, vs[i]? = some v ∧ Rep K H Z t v [] := by
  induction ts generalizing vs i with
  | nil => simp at h
  | cons x ts ih =>
    generalize hn : ([] : List Addr) = N at r
    cases r with
    | cons t' v F ts vs G r1 r2 d =>
      have e := List.append_eq_nil_iff.mp hn.symm
      obtain ⟨rfl, rfl⟩ := e
      cases i with
      | zero =>
        cases h
        exact ⟨v, rfl, r1⟩
      | succ i => exact ih r2 (by simpa using h)
theorem RepL.take (n : Nat) (r : RepL K H Z ts vs []) : RepL K H Z (ts.take n) (vs.take n) [] := by
  induction ts generalizing vs n with
  | nil => cases r; simp; exact .nil
  | cons x ts ih =>
    generalize hn : ([] : List Addr) = N at r
    cases r with
    | cons t' v F ts vs G r1 r2 d =>
      obtain ⟨rfl, rfl⟩ := List.append_eq_nil_iff.mp hn.symm
      cases n with
      | zero => exact .nil
      | succ n => exact .cons _ _ [] _ _ [] r1 (ih n r2) Dj.nilL
theorem RepL.drop (n : Nat) (r : RepL K H Z ts vs []) : RepL K H Z (ts.drop n) (vs.drop n) [] := by
  induction ts generalizing vs n with
  | nil => cases r; simp; exact .nil
  | cons x ts ih =>
    generalize hn : ([] : List Addr) = N at r
    cases r with
    | cons t' v F ts vs G r1 r2 d =>
      obtain ⟨rfl, rfl⟩ := List.append_eq_nil_iff.mp hn.symm
      cases n with
      | zero => exact .cons _ _ [] ts vs [] r1 r2 d
      | succ n => exact ih n r2
theorem RepL.rep (r : RepL K H Z ts vs []) : ∀ n : Nat, RepL K H Z (List.replicate n ts).flatten (List.replicate n vs).flatten []
  | 0 => .nil
  | n + 1 => by
    obtain ⟨F', h1, h2⟩ := r.app (RepL.rep r n) Dj.nilL
    have e : F' = [] := List.eq_nil_iff_forall_not_mem.mpr fun x hx => by simpa using (h2 x).mp hx
    subst e
    simpa [List.replicate_succ] using h1
theorem RepL.cut (lo hi : Option Int) (r : RepL K H Z ts vs []) : RepL K H Z (cutT ts lo hi) (cutV vs lo hi) [] := by
  unfold cutT cutV
  rw [r.length]
  exact (r.drop _).take _
theorem frzL_cut (lo hi : Option Int) : frzL (cutT ts lo hi) = cutT (frzL ts) lo hi := by
  unfold cutT
  simp only [frzL_map, List.map_take, List.map_drop, List.length_map]
theorem frzL_length : (frzL ts).length = ts.length := by rw [frzL_map, List.length_map]
theorem fitB_le {n : Nat} (h : fitB n = true) : n ≤ sizeLine := of_decide_eq_true h
theorem intsT_some {ns : List Int} (h : intsT ts = some ns) : ts = ns.map .int := by
  induction ts generalizing ns with
  | nil => cases h; rfl
  | cons t ts ih =>
    cases t with
    | int i =>
      simp only [intsT, Option.map_eq_some_iff] at h
      obtain ⟨ms, h1, rfl⟩ := h
      rw [ih h1]; rfl
    | _ => cases h
theorem blsT_some {ns : List Bool} (h : blsT ts = some ns) : ts = ns.map .bl := by
  induction ts generalizing ns with
  | nil => cases h; rfl
  | cons t ts ih =>
    cases t with
    | bl i =>
      simp only [blsT, Option.map_eq_some_iff] at h
      obtain ⟨ms, h1, rfl⟩ := h
      rw [ih h1]; rfl
    | _ => cases h
theorem RepL.ints {ns : List Int} (r : RepL K H Z (ns.map .int) vs Ft) : vs = ns.map V.int := by
  induction ns generalizing vs Ft with
  | nil => cases r; rfl
  | cons n ns ih => cases r with
    | cons t v F ts vs G r q d =>
      cases r
      rw [ih q]; rfl
theorem RepL.bls {ns : List Bool} (r : RepL K H Z (ns.map .bl) vs Ft) : vs = ns.map V.bl := by
  induction ns generalizing vs Ft with
  | nil => cases r; rfl
  | cons n ns ih => cases r with
    | cons t v F ts vs G r q d =>
      cases r
      rw [ih q]; rfl
theorem repL_ints (ns : List Int) : RepL K H Z (ns.map .int) (ns.map V.int) [] := by
  induction ns with
  | nil => exact .nil
  | cons n ns ih => exact .cons _ _ [] _ _ [] (.int n) ih Dj.nilL
end
end PT

/-! PtF: the operators. -/
namespace PT
open PySem PySem.Spec PyProof.Rows L2

def bopS : Bop → Operator
  | .add => .Add | .sub => .Sub | .mul => .Mult | .mod => .Mod | .fdiv => .FloorDiv | .pow => .Pow
def rStr : R2 := fun x y H Q => ∃ i j, x = .str i ∧ y = .str j ∧ i.length + j.length ≤ sizeLine ∧ Q (.str (i ++ j)) H
def rBin (K : PySem.W.Frag) : Bop → R2
  | .add => fun x y H Q => (rI0 (fun i j => .int (i + j)) x y H Q ∨ rStr x y H Q) ∨ (rCat x y H Q ∨ rCatA K x y H Q)
  | .sub => rI0 fun i j => .int (i - j)
  | .mul => fun x y H Q => (rI CMul (fun i j => .int (i * j)) x y H Q ∨ rI CMulW (fun i j => .int (i * j)) x y H Q) ∨ rRep x y H Q
  | .mod => rI (fun _ j => 0 < j) fun i j => .int (i % j)
  | .fdiv => fun x y H Q => rI CDiv (fun i j => .int (i / j)) x y H Q ∨ rI CDivW (fun i j => .int (i / j)) x y H Q
  | .pow => rI CPow fun i j => .int (i ^ j.toNat)
theorem op_bin {X : Cx} (op : Bop) : OpR X (binaryOp (bopS op)) (rBin X.K op) := by
  cases op with
  | add => exact (op_add.or op_add_str).or (op_cat.or op_catA)
  | sub => exact op_sub
  | mul => exact (op_mul.or op_mulW).or op_rep
  | mod => exact op_mod
  | fdiv => exact op_fdiv.or op_fdivW
  | pow => exact op_pow
section
variable {K : PySem.W.Frag} {H : Hp} {Z : Addr → Prop} {F1 F Fz Ft Fu G : List Addr} {z t u : T} {ts us : List T} {v w : V} {vs ws : List V} {Q : VK}
theorem mulOk_c {i j : Int} (h : mulOk i j = true) : CMul i j ∨ CMulW i j := (Bool.or_eq_true_iff.mp h).imp (fun h => by have := of_decide_eq_true h; exact this) fun h => by have := of_decide_eq_true h; exact this
theorem divOk_c {i j : Int} (h : divOk j = true) : CDiv i j ∨ CDivW i j := (Bool.or_eq_true_iff.mp h).imp (fun h => by have := of_decide_eq_true h; exact this) fun h => by have := of_decide_eq_true h; exact this
theorem powOk_c {i j : Int} (h : powOk i j = true) : CPow i j := by have := of_decide_eq_true h; exact this
theorem Rep.tupf {b : Bool} (r : Rep K H Z (.node b .tup ts) v Ft) : Rep K H Z (.node false .tup ts) v Ft := by
  cases r with
  | own k ts a vs o F m e ho r n => exact m.elim
  | shr k ts a vs s r => exact .shr .tup ts a vs s r
  | tup ts a vs F s r => exact .tup ts a vs _ s r
theorem bin_out {op : Bop} (S : Sit H Z F1 F) (rt : Rep K H Z t v Ft) (ru : Rep K H Z u w Fu) (dt : Dj F1 Ft) (du : Dj F1 Fu) (dtu : Dj Ft Fu) (ht : ∀ x, x ∈ Ft → x ∈ F) (hu : ∀ x, x ∈ Fu → x ∈ F)
    (h : binT op t u = some z) (o : Out K H Z F1 F z Q) : rBin K op v w H Q := by
  cases op with
  | add =>
    cases t with
    | int i => cases u <;> simp [binT] at h <;> (try subst h) <;> (cases rt; cases ru; exact .inl (.inl ⟨_, _, rfl, rfl, o.int S⟩))
    | str i => cases u <;> simp [binT] at h <;> (cases rt; cases ru; obtain ⟨h1, rfl⟩ := h; exact .inl (.inr ⟨_, _, rfl, rfl, fitB_le h1, o.str S⟩))
    | node b k xs =>
      cases u with
      | node b' k' ys =>
        cases k <;> cases k' <;> simp [binT] at h
        · obtain ⟨h1, rfl⟩ := h
          obtain ⟨a, vs, F2, rfl, e1, r1, s1⟩ := rt.lst
          obtain ⟨a', vs', F3, rfl, e2, r2, s2⟩ := ru.lst
          obtain ⟨F', r3, h3⟩ := r1.app r2 fun x hx hy => dtu x (s1 x hx) (s2 x hy)
          refine .inr (.inl ⟨a, a', vs, vs', rfl, rfl, e1, e2, ?_, o.new S (k := .lst) True.intro rfl r3 (fun x hx hy => ?_) fun x hx => ?_⟩)
          · rw [← r1.length, ← r2.length]; exact fitB_le h1
          · exact ((h3 x).mp hy).elim (fun q => dt x hx (s1 x q)) fun q => du x hx (s2 x q)
          · exact ((h3 x).mp hx).elim (fun q => ht x (s1 x q)) fun q => hu x (s2 x q)
        · obtain ⟨h1, rfl⟩ := h
          obtain ⟨a, vs, rfl, e1, r1⟩ := rt.tupl
          obtain ⟨a', vs', rfl, e2, r2⟩ := ru.tupl
          obtain ⟨F', r3, h3⟩ := r1.app r2 dtu
          refine .inr (.inr ⟨a, a', vs, vs', rfl, rfl, e1, e2, ?_, fun q => ?_, fun _ q => ?_, fun _ _ => o.newT S r3 (fun x hx hy => ((h3 x).mp hy).elim (dt x hx) (du x hx)) fun x hx => ((h3 x).mp hx).elim (ht x) (hu x)⟩)
          · rw [← r1.length, ← r2.length]; exact fitB_le h1
          · subst q
            cases r1
            exact o.same S (by simpa using ru.tupf) du hu
          · subst q
            cases r2
            exact o.same S (by simpa using rt.tupf) dt ht
      | _ => cases k <;> simp [binT] at h
    | _ => cases u <;> simp [binT] at h
  | sub =>
    cases t with
    | int i => cases u <;> simp [binT] at h <;> (subst h; cases rt; cases ru; exact ⟨_, _, rfl, rfl, o.int S⟩)
    | _ => cases u <;> simp [binT] at h
  | mul =>
    cases t with
    | int i =>
      cases u <;> simp [binT] at h
      obtain ⟨h1, rfl⟩ := h
      cases rt; cases ru
      rcases mulOk_c h1 with h1 | h1
      · exact .inl (.inl ⟨_, _, rfl, rfl, h1, o.int S⟩)
      · exact .inl (.inr ⟨_, _, rfl, rfl, h1, o.int S⟩)
    | node b k xs =>
      cases u with
      | int j =>
        cases k <;> simp [binT] at h
        obtain ⟨⟨h1, h2⟩, rfl⟩ := h
        obtain ⟨a, vs, F2, rfl, e1, r1, s1⟩ := rt.lst
        cases ru
        obtain ⟨Z1, z1, z2, o1, S1⟩ := o.lock (Fz := F2) S (fun x hx hy => dt x hx (s1 x hy)) fun x hx => ht x (s1 x hx)
        refine .inr ⟨a, j, vs, rfl, rfl, e1, h1.1, h1.2, ?_, o1.new S1 (k := .lst) True.intro rfl ((r1.frz z2 z1).rep j.toNat) Dj.nilR fun _ q => absurd q (by simp)⟩
        rw [← r1.length]; exact fitB_le h2
      | _ => cases k <;> simp [binT] at h
    | _ => cases u <;> simp [binT] at h
  | mod =>
    cases t with
    | int i =>
      cases u <;> simp [binT] at h
      obtain ⟨h1, rfl⟩ := h
      cases rt; cases ru
      exact ⟨_, _, rfl, rfl, h1, o.int S⟩
    | _ => cases u <;> simp [binT] at h
  | fdiv =>
    cases t with
    | int i =>
      cases u <;> simp [binT] at h
      obtain ⟨h1, rfl⟩ := h
      cases rt; cases ru
      rcases divOk_c (i := i) h1 with h1 | h1
      · exact .inl ⟨_, _, rfl, rfl, h1, o.int S⟩
      · exact .inr ⟨_, _, rfl, rfl, h1, o.int S⟩
    | _ => cases u <;> simp [binT] at h
  | pow =>
    cases t with
    | int i =>
      cases u <;> simp [binT] at h
      obtain ⟨h1, rfl⟩ := h
      cases rt; cases ru
      exact ⟨_, _, rfl, rfl, powOk_c h1, o.int S⟩
    | _ => cases u <;> simp [binT] at h

/-! ### comparisons -/
def copS : Cop → CmpOp
  | .eq => .Eq | .ne => .NotEq | .lt => .Lt | .le => .LtE | .gt => .Gt | .ge => .GtE | .isn => .Is | .notn => .IsNot | .inn => .In | .nin => .NotIn
def rDIn : R2 := fun y x H Q => ∃ a o, x = .ref a ∧ DGet H a y o ∧ Q (.bl o.isSome) H
def rDNotIn : R2 := fun y x H Q => ∃ a o, x = .ref a ∧ DGet H a y o ∧ Q (.bl (!o.isSome)) H
def rCmp (K : PySem.W.Frag) : Cop → R2
  | .eq => fun x y H Q => rEq x y H Q ∨ rEqD K x y H Q
  | .ne => fun x y H Q => rNe x y H Q ∨ rNeD K x y H Q
  | .lt => rI0 fun i j => .bl (decide (i < j))
  | .le => rI0 fun i j => .bl (decide (i ≤ j))
  | .gt => rI0 fun i j => .bl (decide (j < i))
  | .ge => rI0 fun i j => .bl (decide (j ≤ i))
  | .isn => fun x y H Q => y = .non ∧ Q (.bl (decide (x = .non))) H
  | .notn => fun x y H Q => y = .non ∧ Q (.bl (!decide (x = .non))) H
  | .inn => fun x y H Q => rIn K false x y H Q ∨ rDIn x y H Q
  | .nin => fun x y H Q => rIn K true x y H Q ∨ rDNotIn x y H Q
theorem op_din {X : Cx} (hu : X.A.units + 1 < cLine) : OpR X (compareOp .In) rDIn := by
  intro pins s σ H y x v u Q I ry rx h
  obtain ⟨a, o, rfl, g, q⟩ := h
  cases rx
  exact d_in hu I g ry fun s' I' => ⟨.bl _, H, I', rfl, q⟩
theorem op_dnin {X : Cx} (hu : X.A.units + 1 < cLine) : OpR X (compareOp .NotIn) rDNotIn := by
  intro pins s σ H y x v u Q I ry rx h
  obtain ⟨a, o, rfl, g, q⟩ := h
  cases rx
  exact d_notIn hu I g ry fun s' I' => ⟨.bl _, H, I', rfl, q⟩
theorem op_cmp {X : Cx} (hu : X.A.units + 64 < cLine) (op : Cop) : OpR X (compareOp (copS op)) (rCmp X.K op) := by
  cases op with
  | eq => exact op_eq.or (op_eqD hu)
  | ne => exact op_ne.or (op_neD hu)
  | lt => exact op_lt
  | le => exact op_le
  | gt => exact op_gt
  | ge => exact op_ge
  | isn => exact op_isN
  | notn => exact op_notN
  | inn => exact op_in_seq.or (op_din (by omega))
  | nin => exact op_notIn_seq.or (op_dnin (by omega))
mutual
theorem Rep.dp {t : T} {v : V} {F : List Addr} (r : Rep K H Z t v F) : ∀ d, dat t = some d → Dp K H v d := by
  intro d h
  cases r with
  | non => cases h; exact .non
  | bl b => cases h; exact .bl b
  | int i => cases h; exact .int i
  | str x => cases h; exact .str x
  | hole v => cases h
  | own k ts a vs o F m e ho r n =>
    cases k with
    | lst =>
      simp only [dat, Option.map_eq_some_iff] at h
      obtain ⟨ds, h1, rfl⟩ := h
      have h2 : o = .lst vs := ho
      subst h2
      exact .lst (SqL.of e) (RepL.dp r ds h1)
    | tup => exact m.elim
    | klst => exact m.elim
    | dic ks => simp [dat] at h
    | dtu ks => simp [dat] at h
  | shr k ts a vs s r =>
    cases k with
    | lst =>
      simp only [dat, Option.map_eq_some_iff] at h
      obtain ⟨ds, h1, rfl⟩ := h
      exact .lst (SqL.of s.sqL) (RepL.dp r ds h1)
    | tup =>
      simp only [dat, Option.map_eq_some_iff] at h
      obtain ⟨ds, h1, rfl⟩ := h
      exact .tup s.sqT (RepL.dp r ds h1)
    | klst =>
      simp only [dat, Option.map_eq_some_iff] at h
      obtain ⟨ds, h1, rfl⟩ := h
      exact .lst s.sq (RepL.dp r ds h1)
    | dic ks => simp [dat] at h
    | dtu ks => simp [dat] at h
  | tup ts a vs F s r =>
    simp only [dat, Option.map_eq_some_iff] at h
    obtain ⟨ds, h1, rfl⟩ := h
    exact .tup s.sqT (RepL.dp r ds h1)
theorem RepL.dp {ts : List T} {vs : List V} {F : List Addr} (r : RepL K H Z ts vs F) : ∀ ds, datL ts = some ds → DpAll K H vs ds := by
  intro ds h
  cases r with
  | nil => cases h; exact .nil
  | cons t v F ts vs G r q d =>
    unfold datL at h
    split at h
    · rename_i d' ds' h1 h2
      cases h
      exact .cons (Rep.dp r _ h1) (RepL.dp q _ h2)
    · cases h
end
theorem eqT_out {b : Bool} (rt : Rep K H Z t v Ft) (ru : Rep K H Z u w Fu) (h : eqT t u = some b) : (scal v w = true ∧ b = decide (v = w)) ∨ ∃ d e, Dp K H v d ∧ Dp K H w e ∧ SeqAt.shaped d = true ∧ SeqAt.shaped e = true ∧ b = PyData.eqv d e := by
  have deep : ∀ {t u : T} {v w : V}, Rep K H Z t v Ft → Rep K H Z u w Fu → (match dat t, dat u with
    | some d, some e => if (SeqAt.shaped d && SeqAt.shaped e) = true then some (PyData.eqv d e) else none
    | _, _ => none) = some b → ∃ d e, Dp K H v d ∧ Dp K H w e ∧ SeqAt.shaped d = true ∧ SeqAt.shaped e = true ∧ b = PyData.eqv d e := by
    intro t u v w rt ru h
    split at h
    · rename_i d e h1 h2
      split at h
      · rename_i h3
        cases h
        obtain ⟨h4, h5⟩ := Bool.and_eq_true_iff.mp h3
        exact ⟨d, e, rt.dp d h1, ru.dp e h2, h4, h5, rfl⟩
      · cases h
    · cases h
  cases t with
  | non => cases u <;> first | (simp only [eqT, Option.some.injEq] at h; cases rt; cases ru; subst h; exact .inl ⟨rfl, by simp⟩) | exact .inr (deep rt ru h)
  | bl i => cases u <;> first | (simp only [eqT, Option.some.injEq] at h; cases rt; cases ru; subst h; exact .inl ⟨rfl, by simp⟩) | exact .inr (deep rt ru h)
  | int i => cases u <;> first | (simp only [eqT, Option.some.injEq] at h; cases rt; cases ru; subst h; exact .inl ⟨rfl, by simp⟩) | exact .inr (deep rt ru h)
  | str i => cases u <;> first | (simp only [eqT, Option.some.injEq] at h; cases rt; cases ru; subst h; exact .inl ⟨rfl, by simp⟩) | exact .inr (deep rt ru h)
  | hole => cases u <;> exact .inr (deep rt ru h)
  | node b k xs => cases u <;> exact .inr (deep rt ru h)
theorem flat_rep (rt : Rep K H Z t v Ft) (h : flatT t = true) : flatV v = true := by
  cases rt <;> first | rfl | (cases h)
theorem flat_repL (r : RepL K H Z ts vs Ft) (h : ts.all flatT = true) : vs.all flatV = true := by
  induction ts generalizing vs Ft with
  | nil => cases r; rfl
  | cons t ts ih => cases r with
    | cons t v F ts vs G r q d =>
      rw [List.all_cons, Bool.and_eq_true] at h
      rw [List.all_cons, flat_rep r h.1, ih q h.2]; rfl
theorem eqF_rep (rt : Rep K H Z t v Ft) (ru : Rep K H Z u w Fu) (h1 : flatT t = true) (h2 : flatT u = true) : eqF t u = eqV v w := by
  cases rt <;> first | (cases h1; done) | (cases ru <;> first | rfl | (cases h2; done))
theorem any_rep {x : T} {y : V} (rx : Rep K H Z x y Fu) (hx : flatT x = true) (r : RepL K H Z ts vs Ft) (h : ts.all flatT = true) : (ts.any fun t => eqF t x) = inV y vs := by
  induction ts generalizing vs Ft with
  | nil => cases r; rfl
  | cons t ts ih => cases r with
    | cons t v F ts vs G r q d =>
      rw [List.all_cons, Bool.and_eq_true] at h
      have e := ih q h.2
      unfold inV at e ⊢
      rw [List.any_cons, List.any_cons, eqF_rep r rx h.1 hx, e]
theorem valT_rep {ks : List Key} {k : Key} {F : List Addr} (r : RepL K H Z ts vs F) : (valT k ks ts = none ∧ valV (ks.zip vs) k = none) ∨ ∃ t v G, valT k ks ts = some t ∧ valV (ks.zip vs) k = some v ∧ Rep K H Z t v G ∧ ∀ x, x ∈ G → x ∈ F := by
  induction ks generalizing ts vs F with
  | nil => cases ts <;> exact .inl ⟨rfl, rfl⟩
  | cons k' ks ih =>
    cases r with
    | nil => exact .inl ⟨rfl, rfl⟩
    | cons t v F ts vs G r q d =>
      by_cases hk : k' = k
      · exact .inr ⟨t, v, F, by simp [valT, hk], valV_pos (p := (k', v)) hk, r, fun x hx => List.mem_append_left _ hx⟩
      · have e1 : valT k (k' :: ks) (t :: ts) = valT k ks ts := by simp [valT, hk]
        have e2 : valV ((k' :: ks).zip (v :: vs)) k = valV (ks.zip vs) k := valV_neg (p := (k', v)) hk
        rw [e1, e2]
        rcases ih q with h | ⟨t', v', G', h1, h2, h3, h4⟩
        · exact .inl h
        · exact .inr ⟨t', v', G', h1, h2, h3, fun x hx => List.mem_append_right _ (h4 x hx)⟩
theorem keyT_rep {k : Key} (rt : Rep K H Z t v Ft) (h : keyT t = some k) : v = kV k := by
  cases t with
  | int i => cases h; cases rt; rfl
  | str i => cases h; cases rt; rfl
  | _ => cases h
theorem cmp_val {op : Cop} {b : Bool} (rt : Rep K H Z t v Ft) (ru : Rep K H Z u w Fu) (h : cmpT op t u = some b) (q : Q (.bl b) H) : rCmp K op v w H Q := by
  have seqIn : ∀ {neg : Bool} {ts : List T}, itemsT u = some ts → (inT t ts).map (fun b => if neg then !b else b) = some b → rIn K neg v w H Q := by
    intro neg ts h1 h2
    simp only [inT, Option.map_eq_some_iff] at h2
    obtain ⟨c, h2, h3⟩ := h2
    split at h2
    · rename_i hf
      obtain ⟨hf1, hf2⟩ := Bool.and_eq_true_iff.mp hf
      cases h2
      obtain ⟨a, vs, F', rfl, hs, r, _⟩ := ru.seq h1
      refine ⟨a, vs, rfl, hs, flat_rep rt hf1, flat_repL r hf2, ?_⟩
      rw [← any_rep rt hf1 r hf2]
      cases neg
      · subst h3; exact q
      · subst h3; exact q
    · cases h2
  cases op with
  | eq =>
    rcases eqT_out rt ru h with ⟨h1, rfl⟩ | ⟨d, e, h1, h2, h3, h4, rfl⟩
    · exact .inl ⟨h1, q⟩
    · exact .inr ⟨d, e, h1, h2, h3, h4, q⟩
  | ne =>
    simp only [cmpT, Option.map_eq_some_iff] at h
    obtain ⟨c, h, rfl⟩ := h
    rcases eqT_out rt ru h with ⟨h1, rfl⟩ | ⟨d, e, h1, h2, h3, h4, rfl⟩
    · exact .inl ⟨h1, q⟩
    · exact .inr ⟨d, e, h1, h2, h3, h4, q⟩
  | lt => cases t <;> cases u <;> simp [cmpT] at h <;> (subst h; cases rt; cases ru; exact ⟨_, _, rfl, rfl, q⟩)
  | le => cases t <;> cases u <;> simp [cmpT] at h <;> (subst h; cases rt; cases ru; exact ⟨_, _, rfl, rfl, q⟩)
  | gt => cases t <;> cases u <;> simp [cmpT] at h <;> (subst h; cases rt; cases ru; exact ⟨_, _, rfl, rfl, q⟩)
  | ge => cases t <;> cases u <;> simp [cmpT] at h <;> (subst h; cases rt; cases ru; exact ⟨_, _, rfl, rfl, q⟩)
  | isn =>
    cases u <;> simp [cmpT] at h
    cases ru
    refine ⟨rfl, ?_⟩
    have e : decide (v = V.non) = b := by
      cases rt <;> simp at h <;> (subst h; simp)
    rw [e]; exact q
  | notn =>
    cases u <;> simp [cmpT] at h
    cases ru
    refine ⟨rfl, ?_⟩
    have e : (!decide (v = V.non)) = b := by
      cases rt <;> simp at h <;> (subst h; simp)
    rw [e]; exact q
  | inn =>
    cases u with
    | node c k xs =>
      cases k with
      | lst => exact .inl (seqIn (neg := false) (ts := xs) rfl (by simpa [cmpT] using h))
      | klst => exact .inl (seqIn (neg := false) (ts := xs) rfl (by simpa [cmpT] using h))
      | tup => exact .inl (seqIn (neg := false) (ts := xs) rfl (by simpa [cmpT] using h))
      | dic ks =>
        simp only [cmpT, Option.map_eq_some_iff] at h
        obtain ⟨k, hk, rfl⟩ := h
        obtain ⟨a, vs, F', rfl, hl, hr, r, _⟩ := ru.dicl
        refine .inr ⟨a, valV (ks.zip vs) k, rfl, .inl ⟨_, k, hr, keyT_rep rt hk, rfl⟩, ?_⟩
        rcases valT_rep (k := k) (ks := ks) r with ⟨h1, h2⟩ | ⟨t', v', G', h1, h2, _⟩
        · rw [h2]; rw [h1] at q; exact q
        · rw [h2]; rw [h1] at q; exact q
      | dtu ks => simp [cmpT] at h
    | _ => simp [cmpT] at h
  | nin =>
    cases u with
    | node c k xs =>
      cases k with
      | lst => exact .inl (seqIn (neg := true) (ts := xs) rfl (by simpa [cmpT] using h))
      | klst => exact .inl (seqIn (neg := true) (ts := xs) rfl (by simpa [cmpT] using h))
      | tup => exact .inl (seqIn (neg := true) (ts := xs) rfl (by simpa [cmpT] using h))
      | dic ks =>
        simp only [cmpT, Option.map_eq_some_iff] at h
        obtain ⟨k, hk, rfl⟩ := h
        obtain ⟨a, vs, F', rfl, hl, hr, r, _⟩ := ru.dicl
        refine .inr ⟨a, valV (ks.zip vs) k, rfl, .inl ⟨_, k, hr, keyT_rep rt hk, rfl⟩, ?_⟩
        rcases valT_rep (k := k) (ks := ks) r with ⟨h1, h2⟩ | ⟨t', v', G', h1, h2, _⟩
        · rw [h2]; rw [h1] at q; exact q
        · rw [h2]; rw [h1] at q; exact q
      | dtu ks => simp [cmpT] at h
    | _ => simp [cmpT] at h
theorem cmp_out {op : Cop} {b : Bool} (S : Sit H Z F1 F) (rt : Rep K H Z t v Ft) (ru : Rep K H Z u w Fu) (h : cmpT op t u = some b) (o : Out K H Z F1 F (.bl b) Q) : rCmp K op v w H Q := cmp_val rt ru h (o.bl S)
end
end PT

/-! PtG: subscripts, slices, built-in calls, methods. -/
namespace PT
open PySem PySem.Spec PyProof.Rows L2

/-! ### subscripts -/
def rIxD : R2 := fun x y H Q => ∃ a v, x = .ref a ∧ DGet H a y (some v) ∧ Q v H
theorem ix_dict {X : Cx} (hu : X.A.units + 1 < cLine) : IxR X rIxD := by
  intro value slice pins s σ H x y v u Q I rx ry h hs
  obtain ⟨a, w, rfl, g, q⟩ := h
  cases rx
  have ht := dict_typeIs I g
  have key : wpAny (model X.prog X.w) X.A (subscripted slice false (.ref a) u) (fun r s3 => wpAny (model X.prog X.w) X.A (do letTemporaryGo value (.ref a) r; pure r) (EP X pins σ Q) X.xe s3) X.xe s := by
    rw [hs]
    exact wpAny_operating (thn (d_getItem hu I g ry fun w' s' I' r' => (⟨w, H, I', r', q⟩ : EP X pins σ Q w' s')) fun r s3 h3 => wpAny_bind (wpAny_letTemporaryGo (wpAny_pure h3)))
  unfold subscriptTail
  refine wpAny_bind ?_
  rw [getitemInPython_of_ne ht.not_modules]
  refine wpAny_bind (wpAny_specialOf ht (Slot.lookup PySem.F.slot_dict_getitem) ?_)
  first
    | exact wpAny_pure (wpAny_bind key)
    | exact wpAny_bind (wpAny_pure (wpAny_bind key))
    | exact wpAny_bind key
def rIxA (K : PySem.W.Frag) : R2 := fun x y H Q => rIx K x y H Q ∨ rIxD x y H Q
theorem ix_any {X : Cx} (hu : X.A.units + 1 < cLine) : IxR X (rIxA X.K) := ix_seq.or (ix_dict hu)
section
variable {K : PySem.W.Frag} {H : Hp} {Z : Addr → Prop} {F1 F Fz Ft Fu G : List Addr} {z t u : T} {ts us : List T} {v w : V} {vs ws : List V} {Q : VK}
theorem RepL.get {i : Nat} (r : RepL K H Z ts vs Ft) (h : ts[i]? = some t) : ∃ v F', vs[i]? = some v ∧ Rep K H Z t v F' ∧ ∀ x, x ∈ F' → x ∈ Ft := by
  induction ts generalizing vs i Ft with
  | nil => simp at h
  | cons x ts ih =>
    cases r with
    | cons t' v F ts vs G r1 r2 d =>
      cases i with
      | zero =>
        cases h
        exact ⟨v, F, rfl, r1, fun x hx => List.mem_append_left _ hx⟩
      | succ i =>
        obtain ⟨v', F', h1, h2, h3⟩ := ih r2 (by simpa using h)
        exact ⟨v', F', h1, h2, fun x hx => List.mem_append_right _ (h3 x hx)⟩
theorem RepL.atI {i : Int} (r : RepL K H Z ts vs Ft) (h : atI ts i = some t) : ∃ v F', L2.atI vs i = some v ∧ Rep K H Z t v F' ∧ ∀ x, x ∈ F' → x ∈ Ft := by
  unfold L2.atI at h ⊢
  rw [← r.length]
  cases e : ixN ts.length i with
  | none => rw [e] at h; cases h
  | some j =>
    rw [e] at h
    exact r.get h
theorem ix_out (S : Sit H Z F1 F) (rt : Rep K H Z t v Ft) (ru : Rep K H Z u w Fu) (dt : Dj F1 Ft) (ht : ∀ x, x ∈ Ft → x ∈ F) (h : ixT t u = some z) (o : Out K H Z F1 F z Q) : rIxA K v w H Q := by
  have fin : ∀ {v' : V} {F' : List Addr}, Rep K H Z z v' F' → (∀ x, x ∈ F' → x ∈ Ft) → Q v' H := fun r s => o.same S r (fun x hx hy => dt x hx (s x hy)) fun x hx => ht x (s x hx)
  cases t with
  | str zz =>
    cases u <;> simp [ixT] at h
    obtain ⟨h1, c, h2, rfl⟩ := h
    cases rt; cases ru
    exact .inl (.inr (.inr ⟨_, _, c, rfl, rfl, fitB_le h1, h2, o.str S⟩))
  | node b k xs =>
    cases k with
    | lst =>
      cases u <;> simp [ixT] at h
      obtain ⟨a, vs, F', rfl, e, r, s⟩ := rt.lst
      cases ru
      obtain ⟨v', F'', h1, h2, h3⟩ := r.atI h
      exact .inl (.inl ⟨a, vs, _, v', rfl, rfl, SqL.of e, h1, fin h2 fun x hx => s x (h3 x hx)⟩)
    | klst =>
      cases u <;> simp [ixT] at h
      obtain ⟨a, vs, rfl, e, r⟩ := rt.klst
      cases ru
      obtain ⟨v', F'', h1, h2, h3⟩ := r.atI h
      exact .inl (.inl ⟨a, vs, _, v', rfl, rfl, e, h1, fin h2 h3⟩)
    | tup =>
      cases u <;> simp [ixT] at h
      obtain ⟨a, vs, rfl, e, r⟩ := rt.tupl
      cases ru
      obtain ⟨v', F'', h1, h2, h3⟩ := r.atI h
      exact .inl (.inr (.inl ⟨a, vs, _, v', rfl, rfl, e, h1, fin h2 h3⟩))
    | dic ks =>
      simp only [ixT, Option.bind_eq_some_iff] at h
      obtain ⟨k, hk, h⟩ := h
      obtain ⟨a, vs, F', rfl, hl, hr, r, s⟩ := rt.dicl
      rcases valT_rep (k := k) (ks := ks) r with ⟨h1, _⟩ | ⟨t', v', G', h1, h2, h3, h4⟩
      · rw [h1] at h; cases h
      · rw [h1] at h
        cases h
        exact .inr ⟨a, v', rfl, .inl ⟨_, k, hr, keyT_rep ru hk, h2.symm⟩, fin h3 fun x hx => s x (h4 x hx)⟩
    | dtu ks => simp [ixT] at h
  | _ => simp [ixT] at h

/-! ### slices -/
def rSlX (K : PySem.W.Frag) : V → Option Int → Option Int → Hp → VK → Prop := fun x lo hi H Q => rSlL K x lo hi H Q ∨ rSlA K x lo hi H Q
theorem sl_any {X : Cx} : SlR X (rSlX X.K) := sl_list.or sl_tupA
theorem sl_out {lo hi : Option Int} (S : Sit H Z F1 F) (rt : Rep K H Z t v Ft) (dt : Dj F1 Ft) (ht : ∀ x, x ∈ Ft → x ∈ F) (h : slT t lo hi = some z) (o : Out K H Z F1 F z Q) : rSlX K v lo hi H Q := by
  obtain ⟨Z1, z1, z2, o1, S1⟩ := o.lock (Fz := Ft) S dt ht
  cases t with
  | node b k xs =>
    cases k with
    | lst =>
      simp only [slT, Option.some.injEq] at h
      subst h
      obtain ⟨a, vs, F', rfl, e, r, s⟩ := rt.lst
      rw [frzL_cut] at o1
      exact .inl ⟨a, vs, rfl, SqL.of e, o1.new S1 (k := .lst) True.intro rfl ((r.frz (fun x hx => z2 x (s x hx)) z1).cut lo hi) Dj.nilR fun _ q => absurd q (by simp)⟩
    | klst =>
      simp only [slT, Option.some.injEq] at h
      subst h
      obtain ⟨a, vs, rfl, e, r⟩ := rt.klst
      rw [frzL_cut] at o1
      exact .inl ⟨a, vs, rfl, e, o1.new S1 (k := .lst) True.intro rfl ((r.frz z2 z1).cut lo hi) Dj.nilR fun _ q => absurd q (by simp)⟩
    | tup =>
      simp only [slT, Option.some.injEq] at h
      subst h
      have rf : Rep K H Z1 (.node false .tup (frzL xs)) v [] := by simpa [frz] using rt.frz z2 z1
      obtain ⟨a, vs, rfl, e, r⟩ := rf.tupl
      rw [frzL_cut] at o1
      refine .inr ⟨a, vs, rfl, e, fun q => ?_, fun _ => o1.newT S1 (r.cut lo hi) Dj.nilR fun _ q => absurd q (by simp)⟩
      have ec : cutT (frzL xs) lo hi = frzL xs := by
        have hl := r.length
        unfold cutT
        rw [hl, q.1, q.2, ← hl]
        simp
      rw [ec] at o1
      exact o1.same S1 rf Dj.nilR fun _ q => absurd q (by simp)
    | dic ks => simp [slT] at h
    | dtu ks => simp [slT] at h
  | _ => simp [slT] at h

/-! ### isinstance -/
def tyS : Ty → String
  | .int => "int" | .bool => "bool" | .list => "list" | .tuple => "tuple" | .str => "str" | .dict => "dict"
/-- a tree's type -/
def tyT : T → Option String
  | .non => some "NoneType" | .bl _ => some "bool" | .int _ => some "int" | .str _ => some "str" | .hole => none
  | .node _ .lst _ => some "list" | .node _ .klst _ => some "list" | .node _ .tup _ => some "tuple" | .node _ (.dic _) _ => some "dict" | .node _ (.dtu _) _ => none
theorem tyT_rep {n : String} (rt : Rep K H Z t v Ft) (h : tyT t = some n) : TyX K H v (.type n) := by
  cases rt with
  | non => cases h; exact .base .non
  | bl b => cases h; exact .base (.bl b)
  | int i => cases h; exact .base (.int i)
  | str x => cases h; exact .base (.str x)
  | hole v => cases h
  | own k ts a vs o F m e ho r n =>
    cases k with
    | lst =>
      cases h
      have h2 : o = .lst vs := ho
      subst h2
      exact .base (.lst e)
    | tup => exact m.elim
    | klst => exact m.elim
    | dic ks =>
      cases h
      obtain ⟨_, h2⟩ := ho
      subst h2
      exact .base (.dK e)
    | dtu ks => cases h
  | shr k ts a vs s r =>
    cases k with
    | lst => cases h; exact .base (.lst s.sqL)
    | tup =>
      cases h
      rcases s.sqT with (h1 | ⟨o, h1⟩) | ⟨o, its, n, h1, h2, _⟩
      · exact .base (.tup h1)
      · exact .fTuple h1
      · exact .kTuple h1 h2
    | klst =>
      cases h
      rcases s.sq with (h1 | ⟨o, h1⟩) | ⟨o, its, n, h1, h2, _⟩
      · exact .base (.lst h1)
      · exact .base (.frz h1)
      · exact .kList h1 h2
    | dic ks =>
      cases h
      rcases s.dk.2 with h1 | ⟨o, h1⟩
      · exact .base (.dK h1)
      · exact .fDict h1
    | dtu ks => cases h
  | tup ts a vs F s r =>
    cases h
    rcases s.sqT with (h1 | ⟨o, h1⟩) | ⟨o, its, n, h1, h2, _⟩
    · exact .base (.tup h1)
    · exact .fTuple h1
    · exact .kTuple h1 h2
end
end PT

/-! PtH: built-in calls, methods. -/
namespace PT
open PySem PySem.Spec PyProof.Rows L2

def biS : Bi → Str
  | .len => "len" | .abs => "abs" | .int => "int" | .list => "list" | .tuple => "tuple" | .sum => "sum" | .max => "max" | .min => "min" | .all => "all" | .any => "any" | .sorted => "sorted"
  | .dict => "dict" | .repr => "repr" | .str => "str"
def biV : Bi → Value
  | .len => .builtin "len" | .abs => .builtin "abs" | .int => .type "int" | .list => .type "list" | .tuple => .type "tuple" | .sum => .builtin "sum" | .max => .builtin "max" | .min => .builtin "min"
  | .all => .builtin "all" | .any => .builtin "any" | .sorted => .builtin "sorted" | .dict => .type "dict" | .repr => .builtin "repr" | .str => .type "str"
theorem boot_bi (b : Bi) : bootBuiltins (biS b) = some (biV b) := by cases b <;> decide +kernel
theorem nodbg_bi (b : Bi) : (biS b == ("__debug__" : Str)) = false := by cases b <;> decide
theorem noname_bi (b : Bi) : biS b ≠ "__name__" := by cases b <;> decide
abbrev R1 := List V → Hp → VK → Prop
def rLenX (K : PySem.W.Frag) : R1 := fun xs H Q => (∃ x n, xs = [x] ∧ LenV K x H n ∧ Q (.int n) H) ∨ ∃ a kvs, xs = [.ref a] ∧ Rd H a (.dK kvs) ∧ Q (.int kvs.length) H
def rBi (K : PySem.W.Frag) : Bi → R1
  | .len => rLenX K
  | .abs => fun xs H Q => ∃ i, xs = [.int i] ∧ Q (.int (if i < 0 then -i else i)) H
  | .int => fun xs H Q => (∃ i, xs = [.int i] ∧ Q (.int i) H) ∨ ∃ k, xs = [.bl k] ∧ Q (.int (if k then 1 else 0)) H
  | .list => fun xs H Q => ∃ p ys, xs = [.ref p] ∧ (SqL K H p ys ∨ SqT K H p ys) ∧ ∀ l, H l = none → Q (.ref l) (upd H l (.lst ys))
  | .tuple => fun xs H Q => ∃ p ys, xs = [.ref p] ∧ ((SqL K H p ys ∧ ∀ l, H l = none → Q (.ref l) (upd H l (.tup ys))) ∨ (SqT K H p ys ∧ Q (.ref p) H))
  | .sum => rSum K
  | .max => fun xs H Q => (∃ i j, xs = [.int i, .int j] ∧ Q (.int (if j > i then j else i)) H) ∨ rMax K xs H Q
  | .min => fun xs H Q => (∃ i j, xs = [.int i, .int j] ∧ Q (.int (if j < i then j else i)) H) ∨ rMin K xs H Q
  | .all => rAll K
  | .any => rAny K
  | .sorted => rSortedI K
  | .dict => fun _ _ _ => False
  | .repr => fun _ _ _ => False
  | .str => fun _ _ _ => False
theorem call_dlen {X : Cx} : CallR X (.builtin "len") (fun xs H Q => ∃ a kvs, xs = [.ref a] ∧ Rd H a (.dK kvs) ∧ Q (.int kvs.length) H) := by
  intro pins s σ H xs us Q I r h
  obtain ⟨a, kvs, rfl, e, q⟩ := h
  obtain ⟨u, rfl, rx⟩ := vals1 r
  cases rx
  exact d_len I e fun t s' I' => ⟨.int kvs.length, H, I', ⟨t, rfl⟩, q⟩
theorem call_never {X : Cx} {f : Value} : CallR X f (fun _ _ _ => False) := fun _ _ _ _ _ _ _ _ _ h => h.elim
theorem call_bi {X : Cx} (hc : X.calm = true) (b : Bi) : CallR X (biV b) (rBi X.K b) := by
  cases b with
  | len => exact call_len.or call_dlen
  | abs => exact call_abs
  | int => exact call_int1
  | list => exact call_list_of
  | tuple => exact call_tuple_of
  | sum => exact cr_sum hc
  | max => exact (call_max2 hc).or (cr_max hc)
  | min => exact (call_min2 hc).or (cr_min hc)
  | all => exact cr_all hc
  | any => exact cr_any hc
  | sorted => exact cr_sortedI
  | dict => exact call_never
  | repr => exact call_never
  | str => exact call_never
section
variable {X : Cx} {pos p : Pos} {e : Expr} {es : List Expr} {t : TA}
theorem pe_bi (hc : X.calm = true) (b : Bi) (hg : Gl X (biS b)) (hm : X.mg (biS b) = none) (ha : PA X (e :: es) t)
    (he : starEach (e :: es) X.env = (false, eval e X.env) :: starEach es X.env) (hpl : (backTo pos (starEach es X.env)).any (·.1) = false) : PE X (.Call (.Name (biS b) p) (e :: es) [] pos) (tCB (rBi X.K b) t) := by
  have hr := call_bi hc b
  have hv := boot_bi b
  cases b with
  | len => exact pe_callB hr hg hm hv ha (noname_bi .len) (nodbg_bi .len) he hpl
  | abs => exact pe_callB hr hg hm hv ha (noname_bi .abs) (nodbg_bi .abs) he hpl
  | int => exact pe_callTy hr hg hm hv ha (noname_bi .int) (nodbg_bi .int) he hpl
  | list => exact pe_callTy hr hg hm hv ha (noname_bi .list) (nodbg_bi .list) he hpl
  | tuple => exact pe_callTy hr hg hm hv ha (noname_bi .tuple) (nodbg_bi .tuple) he hpl
  | sum => exact pe_callB hr hg hm hv ha (noname_bi .sum) (nodbg_bi .sum) he hpl
  | max => exact pe_callB hr hg hm hv ha (noname_bi .max) (nodbg_bi .max) he hpl
  | min => exact pe_callB hr hg hm hv ha (noname_bi .min) (nodbg_bi .min) he hpl
  | all => exact pe_callB hr hg hm hv ha (noname_bi .all) (nodbg_bi .all) he hpl
  | any => exact pe_callB hr hg hm hv ha (noname_bi .any) (nodbg_bi .any) he hpl
  | sorted => exact pe_callB hr hg hm hv ha (noname_bi .sorted) (nodbg_bi .sorted) he hpl
  | dict => exact pe_callTy hr hg hm hv ha (noname_bi .dict) (nodbg_bi .dict) he hpl
  | repr => exact pe_callB hr hg hm hv ha (noname_bi .repr) (nodbg_bi .repr) he hpl
  | str => exact pe_callTy hr hg hm hv ha (noname_bi .str) (nodbg_bi .str) he hpl
end
section
variable {K : PySem.W.Frag} {H : Hp} {Z : Addr → Prop} {F1 F Fz Ft Fu G : List Addr} {z t u : T} {ts us : List T} {v w : V} {vs ws : List V} {Q : VK}
theorem maxL_ge : ∀ (ns : List Int) (m : Int), m ≤ maxL m ns ∧ (∀ y, y ∈ ns → y ≤ maxL m ns) ∧ (maxL m ns = m ∨ maxL m ns ∈ ns)
  | [], m => ⟨Int.le_refl _, fun _ h => absurd h (by simp), .inl rfl⟩
  | x :: xs, m => by
    obtain ⟨h1, h2, h3⟩ := maxL_ge xs (if x > m then x else m)
    have e : maxL m (x :: xs) = maxL (if x > m then x else m) xs := rfl
    rw [e]
    by_cases h : x > m
    · rw [if_pos h] at h1 h2 h3 ⊢
      refine ⟨by omega, fun y hy => ?_, ?_⟩
      · rcases List.mem_cons.mp hy with q | q
        · subst q; exact h1
        · exact h2 y q
      · rcases h3 with q | q
        · rw [q]; exact .inr List.mem_cons_self
        · exact .inr (List.mem_cons_of_mem _ q)
    · rw [if_neg h] at h1 h2 h3 ⊢
      refine ⟨h1, fun y hy => ?_, ?_⟩
      · rcases List.mem_cons.mp hy with q | q
        · subst q; omega
        · exact h2 y q
      · rcases h3 with q | q
        · exact .inl q
        · exact .inr (List.mem_cons_of_mem _ q)
theorem minL_le : ∀ (ns : List Int) (m : Int), minL m ns ≤ m ∧ (∀ y, y ∈ ns → minL m ns ≤ y) ∧ (minL m ns = m ∨ minL m ns ∈ ns)
  | [], m => ⟨Int.le_refl _, fun _ h => absurd h (by simp), .inl rfl⟩
  | x :: xs, m => by
    obtain ⟨h1, h2, h3⟩ := minL_le xs (if x < m then x else m)
    have e : minL m (x :: xs) = minL (if x < m then x else m) xs := rfl
    rw [e]
    by_cases h : x < m
    · rw [if_pos h] at h1 h2 h3 ⊢
      refine ⟨by omega, fun y hy => ?_, ?_⟩
      · rcases List.mem_cons.mp hy with q | q
        · subst q; exact h1
        · exact h2 y q
      · rcases h3 with q | q
        · rw [q]; exact .inr List.mem_cons_self
        · exact .inr (List.mem_cons_of_mem _ q)
    · rw [if_neg h] at h1 h2 h3 ⊢
      refine ⟨h1, fun y hy => ?_, ?_⟩
      · rcases List.mem_cons.mp hy with q | q
        · subst q; omega
        · exact h2 y q
      · rcases h3 with q | q
        · exact .inl q
        · exact .inr (List.mem_cons_of_mem _ q)
theorem Rep.lsts {t : T} (r : Rep K H Z t v Ft) (h : lstT t = some ts) : ∃ a vs F', v = .ref a ∧ SqL K H a vs ∧ RepL K H Z ts vs F' ∧ ∀ x, x ∈ F' → x ∈ Ft := by
  cases t with
  | node b k us =>
    cases k with
    | lst =>
      cases h
      obtain ⟨a, vs, F', e, h1, h2, h3⟩ := r.lst
      exact ⟨a, vs, F', e, SqL.of h1, h2, h3⟩
    | klst =>
      cases h
      obtain ⟨a, vs, e, h1, h2⟩ := r.klst
      exact ⟨a, vs, Ft, e, h1, h2, fun _ h => h⟩
    | tup => cases h
    | dic ks => cases h
    | dtu ks => cases h
  | _ => cases h
theorem RepL.one {t : T} (r : RepL K H Z [t] vs Ft) : ∃ v, vs = [v] ∧ Rep K H Z t v Ft := by
  cases r with
  | cons t v F ts vs G r q d =>
    cases q
    exact ⟨v, rfl, by simpa using r⟩
theorem RepL.two {t u : T} (r : RepL K H Z [t, u] vs Ft) : ∃ v w F1 F2, vs = [v, w] ∧ Rep K H Z t v F1 ∧ Rep K H Z u w F2 ∧ Ft = F1 ++ F2 ∧ Dj F1 F2 := by
  cases r with
  | cons t v F ts vs G r q d =>
    obtain ⟨w, rfl, r2⟩ := q.one
    exact ⟨v, w, F, G, rfl, r, r2, rfl, d⟩
theorem lstT_items {t : T} (h : lstT t = some ts) : itemsT t = some ts := by
  cases t with
  | node b k us => cases k <;> simp [lstT] at h <;> simp [itemsT, h]
  | _ => simp [lstT] at h
theorem bi_out {b : Bi} (S : Sit H Z F1 F) (r : RepL K H Z ts vs Ft) (dt : Dj F1 Ft) (ht : ∀ x, x ∈ Ft → x ∈ F) (h : biT b ts = some z) (o : Out K H Z F1 F z Q) : rBi K b vs H Q := by
  have one : ∀ {b : Bi}, biT b ts = some z → (∀ t u us, ts = t :: u :: us → biT b ts = none) → ts ≠ [] → ∃ t v, ts = [t] ∧ vs = [v] ∧ Rep K H Z t v Ft := by
    intro b h h1 h2
    cases ts with
    | nil => exact absurd rfl h2
    | cons t ts =>
      cases ts with
      | cons u us => rw [h1 t u us rfl] at h; cases h
      | nil =>
        obtain ⟨v, rfl, q⟩ := r.one
        exact ⟨t, v, rfl, rfl, q⟩
  cases b with
  | len =>
    cases ts with
    | nil => simp [biT] at h
    | cons t ts =>
      cases ts with
      | cons u us => simp [biT] at h
      | nil =>
        obtain ⟨v, rfl, q⟩ := r.one
        cases t with
        | str zz =>
          simp [biT] at h
          obtain ⟨h1, rfl⟩ := h
          cases q
          exact .inl ⟨_, _, rfl, ⟨fitB_le h1, rfl⟩, o.int S⟩
        | node c k us =>
          cases k with
          | lst =>
            simp [biT, itemsT] at h
            subst h
            obtain ⟨a, vs, F', rfl, e, r, _⟩ := q.lst
            refine .inl ⟨_, us.length, rfl, .inl ⟨vs, SqL.of e, r.length⟩, o.int S⟩
          | klst =>
            simp [biT, itemsT] at h
            subst h
            obtain ⟨a, vs, rfl, e, r⟩ := q.klst
            refine .inl ⟨_, us.length, rfl, .inl ⟨vs, e, r.length⟩, o.int S⟩
          | tup =>
            simp [biT, itemsT] at h
            subst h
            obtain ⟨a, vs, rfl, e, r⟩ := q.tupl
            refine .inl ⟨_, us.length, rfl, .inr ⟨vs, e, r.length⟩, o.int S⟩
          | dic ks =>
            simp [biT] at h
            subst h
            obtain ⟨a, vs, F', rfl, hl, e, r, _⟩ := q.dicl
            refine .inr ⟨a, _, rfl, e, ?_⟩
            have hz : (ks.zip vs).length = us.length := by rw [List.length_zip, hl, Nat.min_self, r.length]
            rw [hz]
            exact o.int S
          | dtu ks => simp [biT, itemsT] at h
        | _ => simp [biT, itemsT] at h
  | abs =>
    cases ts with
    | nil => simp [biT] at h
    | cons t ts =>
      cases ts with
      | cons u us => cases t <;> simp [biT] at h
      | nil =>
        obtain ⟨v, rfl, q⟩ := r.one
        cases t <;> simp [biT] at h
        subst h
        cases q
        exact ⟨_, rfl, o.int S⟩
  | int =>
    cases ts with
    | nil => simp [biT] at h
    | cons t ts =>
      cases ts with
      | cons u us => cases t <;> simp [biT] at h
      | nil =>
        obtain ⟨v, rfl, q⟩ := r.one
        cases t <;> simp [biT] at h
        · subst h
          cases q
          exact .inr ⟨_, rfl, o.int S⟩
        · subst h
          cases q
          exact .inl ⟨_, rfl, o.int S⟩
  | list =>
    obtain ⟨t, v, rfl, rfl, q⟩ := one h (by rintro t u us rfl; rfl) (by rintro rfl; simp [biT] at h)
    simp only [biT, Option.map_eq_some_iff] at h
    obtain ⟨us, h1, rfl⟩ := h
    obtain ⟨Z1, z1, z2, o1, S1⟩ := o.lock (Fz := Ft) S dt ht
    obtain ⟨a, ws, F', rfl, e, r, s⟩ := q.seq h1
    exact ⟨a, ws, rfl, e, o1.new S1 (k := .lst) True.intro rfl (r.frz (fun x hx => z2 x (s x hx)) z1) Dj.nilR fun _ q => absurd q (by simp)⟩
  | tuple =>
    obtain ⟨t, v, rfl, rfl, q⟩ := one h (by rintro t u us rfl; rfl) (by rintro rfl; simp [biT] at h)
    simp only [biT, Option.map_eq_some_iff] at h
    obtain ⟨us, h1, rfl⟩ := h
    obtain ⟨Z1, z1, z2, o1, S1⟩ := o.lock (Fz := Ft) S dt ht
    have sq : ∀ {a : Addr} {ws : List V} {F' : List Addr}, v = .ref a → SqL K H a ws → RepL K H Z us ws F' → (∀ x, x ∈ F' → x ∈ Ft) → rBi K .tuple [v] H Q := by
      rintro a ws F' rfl e r s
      exact ⟨a, ws, rfl, .inl ⟨e, o1.newT S1 (r.frz (fun x hx => z2 x (s x hx)) z1) Dj.nilR fun _ q => absurd q (by simp)⟩⟩
    cases t with
    | node c k xs =>
      cases k with
      | lst =>
        cases h1
        obtain ⟨a, ws, F', e0, e, r, s⟩ := q.lst
        exact sq e0 (SqL.of e) r s
      | klst =>
        cases h1
        obtain ⟨a, ws, e0, e, r⟩ := q.klst
        exact sq e0 e r fun _ h => h
      | tup =>
        cases h1
        have rf : Rep K H Z1 (.node false .tup (frzL us)) v [] := by simpa [frz] using q.frz z2 z1
        have fin := o1.same S1 rf Dj.nilR fun _ q => absurd q (by simp)
        obtain ⟨a, ws, rfl, e, r⟩ := q.tupl
        exact ⟨a, ws, rfl, .inr ⟨e, fin⟩⟩
      | dic ks => cases h1
      | dtu ks => cases h1
    | _ => cases h1
  | sum =>
    obtain ⟨t, v, rfl, rfl, q⟩ := one h (by rintro t u us rfl; rfl) (by rintro rfl; simp [biT] at h)
    simp only [biT, Option.bind_eq_some_iff, Option.map_eq_some_iff] at h
    obtain ⟨us, h1, ns, h2, rfl⟩ := h
    obtain ⟨a, ws, F', rfl, e, r, s⟩ := q.lsts h1
    have e2 := intsT_some h2
    subst e2
    have e3 := r.ints
    subst e3
    exact ⟨a, ns, rfl, e, o.int S⟩
  | max =>
    cases ts with
    | nil => simp [biT] at h
    | cons t ts =>
      cases ts with
      | cons u us =>
        cases us with
        | cons _ _ => cases t <;> cases u <;> simp [biT] at h
        | nil =>
          obtain ⟨v, w, Fa, Fb, rfl, q1, q2, _, _⟩ := r.two
          cases t <;> cases u <;> simp [biT] at h
          subst h
          cases q1; cases q2
          exact .inl ⟨_, _, rfl, o.int S⟩
      | nil =>
        obtain ⟨v, rfl, q⟩ := r.one
        simp only [biT, Option.bind_eq_some_iff] at h
        obtain ⟨us, h1, ns, h2, h3⟩ := h
        cases ns with
        | nil => cases h3
        | cons n ns =>
          cases h3
          obtain ⟨a, ws, F', rfl, e, r, s⟩ := q.lsts h1
          have e2 := intsT_some h2
          subst e2
          have e3 := r.ints
          subst e3
          refine .inr ⟨a, n :: ns, rfl, e, by simp, fun m hm hle => ?_⟩
          obtain ⟨g1, g2, g3⟩ := maxL_ge ns n
          have em : m = maxL n ns := by
            have k1 : maxL n ns ≤ m := by
              rcases g3 with q | q
              · rw [q]; exact hle n List.mem_cons_self
              · exact hle _ (List.mem_cons_of_mem _ q)
            have k2 : m ≤ maxL n ns := by
              rcases List.mem_cons.mp hm with q | q
              · rw [q]; exact g1
              · exact g2 m q
            omega
          rw [em]
          exact o.int S
  | min =>
    cases ts with
    | nil => simp [biT] at h
    | cons t ts =>
      cases ts with
      | cons u us =>
        cases us with
        | cons _ _ => cases t <;> cases u <;> simp [biT] at h
        | nil =>
          obtain ⟨v, w, Fa, Fb, rfl, q1, q2, _, _⟩ := r.two
          cases t <;> cases u <;> simp [biT] at h
          subst h
          cases q1; cases q2
          exact .inl ⟨_, _, rfl, o.int S⟩
      | nil =>
        obtain ⟨v, rfl, q⟩ := r.one
        simp only [biT, Option.bind_eq_some_iff] at h
        obtain ⟨us, h1, ns, h2, h3⟩ := h
        cases ns with
        | nil => cases h3
        | cons n ns =>
          cases h3
          obtain ⟨a, ws, F', rfl, e, r, s⟩ := q.lsts h1
          have e2 := intsT_some h2
          subst e2
          have e3 := r.ints
          subst e3
          refine .inr ⟨a, n :: ns, rfl, e, by simp, fun m hm hle => ?_⟩
          obtain ⟨g1, g2, g3⟩ := minL_le ns n
          have em : m = minL n ns := by
            have k1 : m ≤ minL n ns := by
              rcases g3 with q | q
              · rw [q]; exact hle n List.mem_cons_self
              · exact hle _ (List.mem_cons_of_mem _ q)
            have k2 : minL n ns ≤ m := by
              rcases List.mem_cons.mp hm with q | q
              · rw [q]; exact g1
              · exact g2 m q
            omega
          rw [em]
          exact o.int S
  | all =>
    obtain ⟨t, v, rfl, rfl, q⟩ := one h (by rintro t u us rfl; rfl) (by rintro rfl; simp [biT] at h)
    simp only [biT, Option.bind_eq_some_iff, Option.map_eq_some_iff] at h
    obtain ⟨us, h1, bs, h2, rfl⟩ := h
    obtain ⟨a, ws, F', rfl, e, r, s⟩ := q.lsts h1
    have e2 := blsT_some h2
    subst e2
    have e3 := r.bls
    subst e3
    exact ⟨a, bs, rfl, e, o.bl S⟩
  | any =>
    obtain ⟨t, v, rfl, rfl, q⟩ := one h (by rintro t u us rfl; rfl) (by rintro rfl; simp [biT] at h)
    simp only [biT, Option.bind_eq_some_iff, Option.map_eq_some_iff] at h
    obtain ⟨us, h1, bs, h2, rfl⟩ := h
    obtain ⟨a, ws, F', rfl, e, r, s⟩ := q.lsts h1
    have e2 := blsT_some h2
    subst e2
    have e3 := r.bls
    subst e3
    exact ⟨a, bs, rfl, e, o.bl S⟩
  | sorted =>
    obtain ⟨t, v, rfl, rfl, q⟩ := one h (by rintro t u us rfl; rfl) (by rintro rfl; simp [biT] at h)
    simp only [biT, Option.bind_eq_some_iff, Option.map_eq_some_iff] at h
    obtain ⟨us, h1, ns, h2, rfl⟩ := h
    obtain ⟨a, ws, F', rfl, e, r, s⟩ := q.lsts h1
    have e2 := intsT_some h2
    subst e2
    have e3 := r.ints
    subst e3
    refine ⟨a, ns, rfl, e, fun ns' p hp hs hn => ?_⟩
    have hs2 : (ns.mergeSort (fun a b => decide (a ≤ b))).Pairwise (· ≤ ·) := by
      have := List.pairwise_mergeSort (le := fun a b : Int => decide (a ≤ b)) (fun a b c h1 h2 => by simp at *; omega) (fun a b => by simp; omega) ns
      exact this.imp fun h => by simpa using h
    have es : ns' = ns.mergeSort (fun a b => decide (a ≤ b)) := PySem.W.ksm_same (hp.trans (List.mergeSort_perm ns _).symm) hs hs2
    rw [es]
    exact o.new S (k := .lst) True.intro rfl (repL_ints _) Dj.nilR (fun _ q => absurd q (by simp)) p hn
  | dict => simp [biT] at h
  | repr => simp [biT] at h
  | str => simp [biT] at h
end
end PT

/-! PtI: whether the little language's text is the Python text. -/
namespace PT
open PySem PySem.Spec PyProof.Rows L2

def visB (sc : Scope) (x : Str) : Bool := match sc.names.lookup x with
  | some .local => true
  | some .cell => true
  | some .free => true
  | _ => false
def locB (sc : Scope) (x : Str) : Bool := match sc.names.lookup x with
  | some .local => true
  | some .cell => true
  | _ => false
def glB (sc : Scope) (x : Str) : Bool := match sc.names.lookup x with
  | some .globalImplicit => true
  | _ => false
def nmB (N : List Str) (i : Nat) (x : Str) : Bool := match N[i]? with
  | some y => decide (y = x)
  | none => false
def okNm (x : Str) : Bool := !(x == ("__debug__" : Str)) && !(x == ("__classdict__" : Str))
/-- an argument, an item without a star -/
def plainE : Expr → Bool
  | .Starred _ _ => false
  | _ => true
def noSlE : Expr → Bool
  | .Slice _ _ _ _ => false
  | _ => true
/-- no call without arguments (super() is one) -/
def noC0 : Expr → Bool
  | .Call _ _ _ _ => false
  | _ => true
def noSetE : Expr → Bool
  | .Set _ _ _ => false
  | _ => true
def oneB : Expr → Expr
  | .BoolOp _ [c] _ => c
  | e => e
def varB (N : List Str) (sc : Scope) (i : Nat) : Expr → Bool
  | .Name x _ => nmB N i x && visB sc x && okNm x
  | _ => false
mutual
def mTg (N : List Str) (sc : Scope) : Tg → Expr → Bool
  | .nm i, .Name x _ => nmB N i x && locB sc x
  | .tp ts, .Tuple es _ _ => mTgL N sc ts es
  | _, _ => false
def mTgL (N : List Str) (sc : Scope) : TgL → List Expr → Bool
  | .nil, [] => true
  | .cons t r, e :: es => mTg N sc t e && mTgL N sc r es
  | _, _ => false
end
mutual
def tgIn : Tg → List Nat → Bool
  | .nm i, own => own.contains i
  | .tp ts, own => tgInL ts own
def tgInL : TgL → List Nat → Bool
  | .nil, _ => true
  | .cons t r, own => tgIn t own && tgInL r own
end
def tyB (n : Str) (t : Ty) : Bool := decide (n = Str.ofString (tyS t))
def mtS : Mt → Str
  | .index => "index" | .count => "count" | .get => "get"
def ownB (N : List Str) (own : List Nat) : List (Str × Nat) := own.map fun i => (N.getD i Str.empty, i)
def lenEL : EL → Nat
  | .nil => 0
  | .cons _ r => lenEL r + 1
def callB (tb : Tb) (k f d : Nat) (x : Str) (n : Nat) : Bool := match tb.fn f with
  | some fi => decide (fi.nm = x) && decide (fi.lv ≤ k) && (match fi.ds[d]? with
    | some ds => decide (n + ds.length = fi.ps.length)
    | none => false)
  | none => false
mutual
def mE (tb : Tb) (N : List Str) (k : Nat) (sc : Scope) : E → Expr → Bool
  | .non, .Constant .none _ _ => true
  | .bl b, .Constant (.bool c) _ _ => b == c
  | .int i, .Constant (.int j) _ _ => decide (i = j)
  | .str x, .Constant (.str y) _ _ => decide (x = y)
  | .var i, a => varB N sc i a
  | .mv i, a => varB N sc i a
  | .lend i, a => varB N sc i a
  | .glo i, .Name x _ => glB sc x && okNm x && (match tb.gl i with
    | some p => decide (p.1 = x)
    | none => false)
  | .bin op a b, .BinOp l o r _ => decide (bopS op = o) && mE tb N k sc a l && mE tb N k sc b r
  | .neg a, .UnaryOp .USub x _ => mE tb N k sc a x
  | .cmp op a b, .Compare l [o] [r] _ => decide (copS op = o) && mE tb N k sc a l && mE tb N k sc b r && !(behindInMarks o r)
  | .chn op op' a b c, .Compare l [o, o'] [r, r'] _ => decide (copS op = o) && decide (copS op' = o') && mE tb N k sc a l && mE tb N k sc b r && mE tb N k sc c r' && !(behindInMarks o' r')
  | .not a, .UnaryOp .Not x _ => mE tb N k sc a x
  | .and a b, .BoolOp .And (l :: r :: rest) p => mE tb N k sc a l && mE tb N k sc b (oneB (.BoolOp .And (r :: rest) p))
  | .or a b, .BoolOp .Or (l :: r :: rest) p => mE tb N k sc a l && mE tb N k sc b (oneB (.BoolOp .Or (r :: rest) p))
  | .ife c a b, .IfExp c' a' b' _ => mE tb N k sc c c' && mE tb N k sc a a' && mE tb N k sc b b'
  | .tup es, .Tuple xs _ _ => mEL tb N k sc es xs
  | .lst es, .List xs _ => mEL tb N k sc es xs
  | .ix a b, .Subscript v s _ => noSlE s && mE tb N k sc a v && mE tb N k sc b s
  | .sl a lo hi, .Subscript v (.Slice l h none _) _ => mE tb N k sc a v && mO tb N k sc lo l && mO tb N k sc hi h
  | .call f d as, .Call (.Name x _) args [] _ => glB sc x && okNm x && callB tb k f d x args.length && mEL tb N k sc as args
  | .bi b as, .Call (.Name x _) (e :: es) [] _ => glB sc x && decide (x = biS b) && tb.bn.contains x && mEL tb N k sc as (e :: es)
  | .isi a t, .Call (.Name x _) [y, .Name n _] [] _ => glB sc x && decide (x = Str.ofString "isinstance") && tb.bn.contains x && plainE y && glB sc n && tyB n t && tb.bn.contains n && mE tb N k sc a y
  | .meth m a as, .Call (.Attribute o n ap) (e :: es) [] cp => decide (n = mtS m) && (ap.endLine == cp.line) && noC0 o && decide ((e :: es).length < 3) && mE tb N k sc a o && mEL tb N k sc as (e :: es)
  | .pop i, .Call (.Attribute o n ap) [] [] cp => decide (n = Str.ofString "pop") && (ap.endLine == cp.line) && varB N sc i o
  | .lc own tg it c x, .ListComp elt [⟨tg', iter, ifs, 0⟩] scope _ => blkC N sc scope (ownB N own) && mTg N scope tg tg' && tgIn tg own && noSetE iter && mI tb N k sc it iter tg' && mC tb N k (relS scope sc) c ifs && mE tb N k (relS scope sc) x elt
  | .ro _ x, a => mE tb N k sc x a
  | _, _ => false
def mEL (tb : Tb) (N : List Str) (k : Nat) (sc : Scope) : EL → List Expr → Bool
  | .nil, [] => true
  | .cons e r, x :: xs => plainE x && mE tb N k sc e x && mEL tb N k sc r xs
  | _, _ => false
def mO (tb : Tb) (N : List Str) (k : Nat) (sc : Scope) : OE → Option Expr → Bool
  | .none, none => true
  | .some e, some x => mE tb N k sc e x
  | _, _ => false
def mC (tb : Tb) (N : List Str) (k : Nat) (sc : Scope) : OE → List Expr → Bool
  | .none, [] => true
  | .some e, [x] => mE tb N k sc e x
  | _, _ => false
def mI (tb : Tb) (N : List Str) (k : Nat) (sc : Scope) : It → Expr → Expr → Bool
  | .seq a, x, _ => mE tb N k sc a x
  | .rng1 a, .Call (.Name n _) [x] [] _, _ => glB sc n && decide (n = Str.ofString "range") && tb.bn.contains n && plainE x && mE tb N k sc a x
  | .rng2 a b, .Call (.Name n _) [x, y] [] _, _ => glB sc n && decide (n = Str.ofString "range") && tb.bn.contains n && plainE x && plainE y && mE tb N k sc a x && mE tb N k sc b y
  | .enum a, .Call (.Name n _) [x] [] _, .Tuple _ _ _ => glB sc n && decide (n = Str.ofString "enumerate") && tb.bn.contains n && plainE x && mE tb N k sc a x
  | .zip a b, .Call (.Name n _) [x, y] [] _, .Tuple _ _ _ => glB sc n && decide (n = Str.ofString "zip") && tb.bn.contains n && plainE x && plainE y && mE tb N k sc a x && mE tb N k sc b y
  | _, _, _ => false
end
/-- no comprehension at the top of a value (its store may be exchanged) -/
def noLc : Expr → Bool
  | .ListComp _ _ _ _ => false
  | .SetComp _ _ _ _ => false
  | .DictComp _ _ _ _ _ => false
  | _ => true
def noSD : Expr → Bool
  | .SetComp _ _ _ _ => false
  | .DictComp _ _ _ _ _ => false
  | _ => true
def noTupE : Expr → Bool
  | .Tuple _ _ _ => false
  | _ => true
def mBase (N : List Str) (sc : Scope) (i : Nat) (n : Str) : Expr → Bool
  | .Call (.Attribute o m ap) [_] [] cp => decide (m = n) && (ap.endLine == cp.line) && varB N sc i o
  | _ => false
/-- x[j].append(n) -/
def mB1 (N : List Str) (sc : Scope) (i j : Nat) (n : Int) : Expr → Bool
  | .Call (.Attribute (.Subscript o (.Constant (.int j') _ _) _) m ap) [.Constant (.int n') _ _] [] cp => decide (m = Str.ofString "append") && (ap.endLine == cp.line) && varB N sc i o && decide (j' = (j : Int)) && decide (n = n')
  | _ => false
def argB : Expr → Expr
  | .Call _ [x] _ _ => x
  | e => e
def parB (tb : Tb) (N : List Str) (k : Nat) (sc : Scope) (i j : Nat) (x y : E) : Expr → Expr → Bool
  | .Tuple [.Name a pa, .Name b pb] _ _, .Tuple [v, w] _ _ => nmB N i a && nmB N j b && (sc.names.lookup a == some .local) && (sc.names.lookup b == some .local) && !(decide (i = j)) && (pa.line == pb.line)
      && plainE v && plainE w && mE tb N k sc x v && mE tb N k sc y w && !([v, w].all (foldedForSure 8)) && !([v, w].all (constantsAlone 8))
  | _, _ => false
def setiB (tb : Tb) (N : List Str) (k : Nat) (sc : Scope) (i : Nat) (kx x : E) : Expr → Expr → Bool
  | .Subscript o s _, v => varB N sc i o && noSlE s && mE tb N k sc kx s && mE tb N k sc x v
  | _, _ => false
def raisB (tb : Tb) (N : List Str) (k : Nat) (sc : Scope) (c : Str) (fs : List Str) (as : EL) : Expr → Bool
  | .Call (.Name x _) args [] _ => glB sc x && okNm x && decide (x = c) && (tb.xc c == some fs) && decide (args.length = fs.length) && mEL tb N k sc as args
  | _ => false
mutual
def mS (tb : Tb) (N : List Str) (k : Nat) (sc : Scope) : S → Stmt → Bool
  | .asg tg x, .Assign [t] v _ => noSD v && mTg N sc tg t && mE tb N k sc x v && (noTupE t || (noLc v && noTupE v))
  | .par i j x y, .Assign [t] v _ => parB tb N k sc i j x y t v
  | .seti i kx x, .Assign [t] v _ => setiB tb N k sc i kx x t v
  | .exp x, .Expr v _ => noLc v && mE tb N k sc x v
  | .app i x, .Expr v _ => mBase N sc i "append" v && plainE (argB v) && mE tb N k sc x (argB v)
  | .ext i x, .Expr v _ => mBase N sc i "extend" v && plainE (argB v) && mE tb N k sc x (argB v)
  | .app1 i j n, .Expr v _ => mB1 N sc i j n v
  | .ifs c a b, .If c' a' b' _ => mE tb N k sc c c' && mB tb N k sc a a' && mB tb N k sc b b'
  | .fors tg it b, .For tg' iter body [] _ => mTg N sc tg tg' && noSetE iter && mI tb N k sc it iter tg' && mB tb N k sc b body
  | .whl _ c b, .While c' body [] _ => mE tb N k sc c c' && mB tb N k sc b body
  | .ret x, .Return (some v) _ => mE tb N k sc x v
  | .retn, .Return none _ => true
  | .pass, .Pass _ => true
  | .brk, .Break _ => true
  | .cnt, .Continue _ => true
  | .rais c fs as, .Raise (some e) none _ => raisB tb N k sc c fs as e
  | .never, _ => true
  | _, _ => false
def mB (tb : Tb) (N : List Str) (k : Nat) (sc : Scope) : S → List Stmt → Bool
  | .nop, [] => true
  | .seq a b, s :: ss => mS tb N k sc a s && mB tb N k sc b ss
  | .never, _ => true
  | _, _ => false
end
end PT

/-! PtJ: the context, and the leaves. -/
namespace PT
open PySem PySem.Spec PyProof.Rows L2

/-- what a def promises, by its function on trees -/
def spF (K : PySem.W.Frag) (mg : Str → Option Value) (n : Nat) (φ : List T → FR) : Sp := fun vs H Q E => vs.length = n ∧ ∃ ts Z F, RepL K H Z ts vs F ∧ Okk H Z F ∧ (match φ ts with
  | .ok t ts' => ∀ v H' Z' F' Ft, RepL K H' Z' ts' vs F' → Rep K H' Z' t v Ft → Dj F' Ft → Okk H' Z' (F' ++ Ft) → Step H Z F H' Z' (F' ++ Ft) → Q v H'
  | .exc x => ∀ cls d H' Z', XRep K mg H' Z' x cls d → (∀ a, Z' a → (H' a).isSome = true) → Step H Z F H' Z' [] → E cls d H'
  | .fail => False)
structure Cal (X : Cx) (C : Cf) (f : Nat) (fi : FnI) (a : Addr) (fd : FuncData) : Prop where
  ok : FnOk X.prog X.w X.K X.mg X.base (L2.CX X.prog X.w) fi.lv a fd fi.ps (spF X.K X.mg fi.ps.length (C.φ f))
  mg : X.mg fi.nm = some (.ref a)
  kp : PySem.W.keepIn X.K (.ref a) = true
  bd : ∀ (d : Nat) (ds : List T), fi.ds[d]? = some ds → ∃ us dvs, Binds X.K fd fi.ps us ∧ Vals dvs us ∧ ∀ H Z, RepL X.K H Z ds dvs []
structure Kx (C : Cf) (W : WX) (k : Nat) (N : List Str) (sc : Scope) (X : Cx) : Prop where
  hN : X.N = N
  nd : N.Nodup
  hsc : X.env.scope = sc
  kind : sc.kind = .function
  calm : X.calm = true
  room : Room k X.A
  tk : Takes X W
  bn : ∀ x, x ∈ C.tb.bn → X.mg x = none
  gl : ∀ i p, C.tb.gl i = some p → ∃ v u, X.mg p.1 = some u ∧ RelV v u ∧ ∀ H Z, Rep X.K H Z (frz p.2) v []
  cal : ∀ f fi, C.tb.fn f = some fi → fi.lv ≤ k → ∃ a fd, Cal X C f fi a fd
  po : PassesOwn (model X.prog X.w) X.A X.env X.xe
section
variable {X : Cx} {C : Cf} {W : WX} {k : Nat} {N : List Str} {sc : Scope}
abbrev sE (X : Cx) (W : WX) (C : Cf) (x : E) : TE := sem X.K X.mg (aT X.K) W (ev C x)
abbrev sT (X : Cx) (W : WX) (C : Cf) (x : E) : TT := sem X.K X.mg aB W (fun e => (ev C x e).bindO boolOf)
abbrev sL (X : Cx) (W : WX) (C : Cf) (x : EL) : TA := sem X.K X.mg (aL X.K) W (evL C x)
theorem PE.imp {a : Expr} {t t' : TE} (h : PE X a t) (k : ∀ σ H Q, t' σ H Q → t σ H Q) : PE X a t' := ⟨fun pins s σ H Q I q => h.run pins s σ H Q I (k σ H Q q)⟩
theorem PT.imp {a : Expr} {t t' : TT} (h : L2.PT X a t) (k : ∀ σ H Q, t' σ H Q → t σ H Q) : L2.PT X a t' := ⟨fun pins s σ H Q I q => h.run pins s σ H Q I (k σ H Q q)⟩
theorem PA.imp {a : List Expr} {t t' : TA} (h : PA X a t) (k : ∀ σ H Q, t' σ H Q → t σ H Q) : PA X a t' := ⟨fun pos pins s σ H Q I q => h.run pos pins s σ H Q I (k σ H Q q)⟩
theorem PS.imp {a : Stmt} {t t' : TS} (h : PS X a t) (k : ∀ D σ H, t' D σ H → t D σ H) : PS X a t' := ⟨fun pins s σ H D I q => h.run pins s σ H D I (k D σ H q)⟩
theorem PSs.imp {a : List Stmt} {t t' : TS} (h : PSs X a t) (k : ∀ D σ H, t' D σ H → t D σ H) : PSs X a t' := ⟨fun pins s σ H D I q => h.run pins s σ H D I (k D σ H q)⟩
theorem vis_of {sc : Scope} {x : Str} (h : visB sc x = true) : Vis sc x := by
  unfold visB at h
  split at h
  · exact .inl (by assumption)
  · exact .inr (.inl (by assumption))
  · exact .inr (.inr (by assumption))
  · cases h
theorem loc_of {sc : Scope} {x : Str} (h : locB sc x = true) : Loc sc x := by
  unfold locB at h
  split at h
  · exact .inl (by assumption)
  · exact .inr (by assumption)
  · cases h
theorem gl_of {x : Str} (c : Kx C W k N sc X) (h : glB sc x = true) : Gl X x := by
  unfold glB at h
  split at h
  · show X.env.scope.names.lookup x = _
    rw [c.hsc]; assumption
  · cases h
theorem nm_of {i : Nat} {x : Str} (h : nmB N i x = true) : N[i]? = some x := by
  unfold nmB at h
  split at h
  · rename_i y e
    rw [e, of_decide_eq_true h]
  · cases h
theorem nm1 {x : Str} (h : okNm x = true) : (x == ("__debug__" : Str)) = false := by
  have := (Bool.and_eq_true_iff.mp h).1
  simpa using this
theorem nm2 {x : Str} (h : okNm x = true) : (x == ("__classdict__" : Str)) = false := by
  have := (Bool.and_eq_true_iff.mp h).2
  simpa using this
/-- a slot's name is read -/
theorem pe_slot {i : Nat} {a : Expr} (c : Kx C W k N sc X) (h : varB N sc i a = true) : PE X a (tVar i) := by
  unfold varB at h
  split at h
  · rename_i x pos
    simp only [Bool.and_eq_true] at h
    obtain ⟨⟨h1, h2⟩, h3⟩ := h
    exact pe_var (by rw [c.hN]; exact nm_of h1) (by rw [c.hsc]; exact vis_of h2) (nm1 h3) (nm2 h3)
  · cases h
theorem set_self {α : Type} {l : List α} {i : Nat} {x : α} (h : l[i]? = some x) : l.set i x = l := by
  apply List.ext_getElem?
  intro j
  rw [List.getElem?_set]
  by_cases hj : i = j
  · subst hj
    rw [if_pos rfl]
    split
    · exact h.symm
    · rename_i hn
      rw [List.getElem?_eq_none (by omega)] at h; cases h
  · rw [if_neg hj]
theorem get_lt {α : Type} {l : List α} {i : Nat} {x : α} (h : l[i]? = some x) : i < l.length := by
  by_cases hn : i < l.length
  · exact hn
  · rw [List.getElem?_eq_none (by omega)] at h; cases h
theorem s_var {i : Nat} {K : PySem.W.Frag} {mg : Str → Option Value} {σ : Sl} {H : Hp} {Q : VK} (h : sem K mg (aT K) W (ev C (.var i)) σ H Q) : tVar i σ H Q := by
  obtain ⟨e, Z, F, re, ok, po⟩ := h
  cases q : e[i]? with
  | none => simp only [ev, varE, mvE, lendE, q] at po; exact po.elim
  | some o =>
    cases o with
    | none => simp only [ev, varE, mvE, lendE, q] at po; exact po.elim
    | some t =>
      simp only [ev, varE, mvE, lendE, q] at po
      obtain ⟨Fi, Fr, h1, h2, h3, h4, _⟩ := re.at i (get_lt q)
      rw [q] at h3
      obtain ⟨v, e1, r⟩ := h3
      have kz : ∀ a, a ∈ F → (H a).isSome = true := re.dom
      obtain ⟨F2, g1, g2⟩ := h4 H (fun a => Z a ∨ a ∈ Fi) (frz t) v [] (fun _ _ => rfl) (fun _ _ => rfl) (fun _ z => .inl z) (r.frz (fun a ha => .inr ha) fun _ z => .inl z) Dj.nilL
      rw [set_self e1] at g2
      have sub : ∀ a, a ∈ F2 → a ∈ Fr := fun a ha => ((g1 a).mp ha).elim (fun z => absurd z (by simp)) id
      refine ⟨v, e1, po v H _ F2 [] g2 (r.frz (fun a ha => .inr ha) fun _ z => .inl z) Dj.nilR ⟨fun a ha z => ?_, fun a z => ?_⟩ ⟨fun _ z => .inl z, fun a ha hn => ⟨rfl, fun z => ?_, fun z => ?_⟩⟩⟩
      · rw [List.append_nil] at ha
        rcases z with z | z
        · exact ok.zf a ((h1 a).mpr (.inr (sub a ha))) z
        · exact h2 a z (sub a ha)
      · exact z.elim (ok.zd a) fun z => kz a ((h1 a).mpr (.inl z))
      · rw [List.append_nil] at z
        exact hn ((h1 a).mpr (.inr (sub a z)))
      · exact z.elim id fun z => absurd ((h1 a).mpr (.inl z)) hn
theorem s_mv {i : Nat} {K : PySem.W.Frag} {mg : Str → Option Value} {σ : Sl} {H : Hp} {Q : VK} (h : sem K mg (aT K) W (ev C (.mv i)) σ H Q) : tVar i σ H Q := by
  obtain ⟨e, Z, F, re, ok, po⟩ := h
  cases q : e[i]? with
  | none => simp only [ev, varE, mvE, lendE, q] at po; exact po.elim
  | some o =>
    cases o with
    | none => simp only [ev, varE, mvE, lendE, q] at po; exact po.elim
    | some t =>
      simp only [ev, varE, mvE, lendE, q] at po
      obtain ⟨Fi, Fr, h1, h2, h3, _, h5⟩ := re.at i (get_lt q)
      rw [q] at h3
      obtain ⟨v, e1, r⟩ := h3
      obtain ⟨F2, g1, g2⟩ := h5 H Z (fun _ _ => rfl) (fun _ _ => rfl) (fun _ z => z) (some v)
      rw [set_self e1] at g2
      have all : ∀ a, a ∈ F2 ++ Fi → a ∈ F := fun a ha => (h1 a).mpr ((List.mem_append.mp ha).elim (fun z => .inr ((g1 a).mp z)) .inl)
      exact ⟨v, e1, po v H Z F2 Fi g2 r (fun a ha hb => h2 a hb ((g1 a).mp ha)) (ok.mono all) (Step.refl all)⟩
theorem s_lend {i : Nat} {K : PySem.W.Frag} {mg : Str → Option Value} {σ : Sl} {H : Hp} {Q : VK} (h : sem K mg (aT K) W (ev C (.lend i)) σ H Q) : tVar i σ H Q := by
  obtain ⟨e, Z, F, re, ok, po⟩ := h
  cases q : e[i]? with
  | none => simp only [ev, varE, mvE, lendE, q] at po; exact po.elim
  | some o =>
    cases o with
    | none => simp only [ev, varE, mvE, lendE, q] at po; exact po.elim
    | some t =>
      simp only [ev, varE, mvE, lendE, q] at po
      obtain ⟨Fi, Fr, h1, h2, h3, _, _⟩ := re.at i (get_lt q)
      rw [q] at h3
      obtain ⟨v, e1, r⟩ := h3
      have all : ∀ a, a ∈ F ++ [] → a ∈ F := fun a ha => by simpa using ha
      exact ⟨v, e1, po v H Z F [] re (.hole v) Dj.nilR (ok.mono all) (Step.refl all)⟩
theorem s_lit {x : E} {t : T} {v : V} {K : PySem.W.Frag} {mg : Str → Option Value} {σ : Sl} {H : Hp} {Q : VK} (hx : ∀ e, ev C x e = .ok t e) (hr : ∀ H Z, Rep K H Z t v []) (h : sem K mg (aT K) W (ev C x) σ H Q) : Q v H := by
  obtain ⟨e, Z, F, re, ok, po⟩ := h
  rw [hx] at po
  have all : ∀ a, a ∈ F ++ [] → a ∈ F := fun a ha => by simpa using ha
  exact po v H Z F [] re (hr H Z) Dj.nilR (ok.mono all) (Step.refl all)
/-- the middle, ready for an operation -/
theorem Mid.sit {K : PySem.W.Frag} {mg : Str → Option Value} {γ δ : Type} {B : RA γ δ} {σ : Sl} {H H1 : Hp} {Z Z1 : Addr → Prop} {G F1 Fa : List Addr} {g : T → Env → R γ} {Q : δ → Hp → Prop} {b : V} {a : T} {e1 : Env}
    (m : Mid K mg (aT K) B W σ H Z G g Q b H1 a e1 Z1 F1 Fa) (hs : ∀ x, x ∈ G → (H x).isSome = true) : Sit H1 Z1 F1 ((F1 ++ Fa) ++ G) :=
  ⟨m.ok, fun x hx => List.mem_append_left _ (List.mem_append_left _ hx), fun x hx => by
    rcases List.mem_append.mp hx with q | q
    · rcases List.mem_append.mp q with q | q
      · exact m.re.dom x q
      · exact m.ra.dom x q
    · rw [m.hg x q]; exact hs x q⟩
theorem Mid.sitL {K : PySem.W.Frag} {mg : Str → Option Value} {γ δ : Type} {B : RA γ δ} {σ : Sl} {H H1 : Hp} {Z Z1 : Addr → Prop} {G F1 Fa : List Addr} {g : List T → Env → R γ} {Q : δ → Hp → Prop} {b : List V} {a : List T} {e1 : Env}
    (m : Mid K mg (aL K) B W σ H Z G g Q b H1 a e1 Z1 F1 Fa) (hs : ∀ x, x ∈ G → (H x).isSome = true) : Sit H1 Z1 F1 ((F1 ++ Fa) ++ G) :=
  ⟨m.ok, fun x hx => List.mem_append_left _ (List.mem_append_left _ hx), fun x hx => by
    rcases List.mem_append.mp hx with q | q
    · rcases List.mem_append.mp q with q | q
      · exact m.re.dom x q
      · exact m.ra.dom x q
    · rw [m.hg x q]; exact hs x q⟩
theorem Mid.sitE {K : PySem.W.Frag} {mg : Str → Option Value} {α β γ δ : Type} {A : RA α β} {B : RA γ δ} {σ : Sl} {H H1 : Hp} {Z Z1 : Addr → Prop} {G F1 Fa : List Addr} {g : α → Env → R γ} {Q : δ → Hp → Prop} {b : β} {a : α} {e1 : Env}
    (m : Mid K mg A B W σ H Z G g Q b H1 a e1 Z1 F1 Fa) (hs : ∀ x, x ∈ G → (H x).isSome = true) (ha : ∀ x, x ∈ Fa → (H1 x).isSome = true) : Sit H1 Z1 F1 ((F1 ++ Fa) ++ G) :=
  ⟨m.ok, fun x hx => List.mem_append_left _ (List.mem_append_left _ hx), fun x hx => by
    rcases List.mem_append.mp hx with q | q
    · rcases List.mem_append.mp q with q | q
      · exact m.re.dom x q
      · exact ha x q
    · rw [m.hg x q]; exact hs x q⟩
/-- the end of an operation -/
theorem out_of {K : PySem.W.Frag} {mg : Str → Option Value} {σ : Sl} {H : Hp} {Z : Addr → Prop} {F1 F : List Addr} {e : Env} {Q : VK} {z : T} (S : Sit H Z F1 F) (re : RepE K H Z e σ F1) (po : Post K mg (aT K) W σ H Z F (.ok z e) Q) : Out K H Z F1 F z Q := by
  intro v H' Z' Fz r e1 dj ok st
  refine po v H' Z' F1 Fz (re.keep e1 (fun a z => ?_) st.1) r dj ok st
  exact (st.2 a (S.ok.zd a z) fun q => S.ok.zf a q z).1
end
end PT

/-! PtK: expressions: what an evaluation says, construct by construct. -/
namespace PT
open PySem PySem.Spec PyProof.Rows L2
section
variable {X : Cx} {C : Cf} {W : WX} {k : Nat} {N : List Str} {sc : Scope} {K : PySem.W.Frag} {mg : Str → Option Value} {σ : Sl} {H : Hp}
abbrev semE (K : PySem.W.Frag) (mg : Str → Option Value) (W : WX) (f : Env → R T) : TE := sem K mg (aT K) W f
abbrev semB (K : PySem.W.Frag) (mg : Str → Option Value) (W : WX) (f : Env → R Bool) : TT := sem K mg aB W f
theorem bindO_bind {α β : Type} (r : R α) (f : α → Option β) : r.bindO f = r.bind fun a e => (match f a with
    | some b => .ok b e
    | none => .fail) := by cases r <;> rfl
/-- two operands, then an operation by values -/
theorem s_two {f : Env → R T} {g : Env → R T} {op : T → T → Option T} {r : R2} {Q : VK}
    (hr : ∀ {H : Hp} {Z : Addr → Prop} {F1 F Ft Fu : List Addr} {t u z : T} {v w : V}, Sit H Z F1 F → Rep K H Z t v Ft → Rep K H Z u w Fu → Dj F1 Ft → Dj F1 Fu → Dj Ft Fu → (∀ x, x ∈ Ft → x ∈ F) → (∀ x, x ∈ Fu → x ∈ F) → op t u = some z → Out K H Z F1 F z Q → r v w H Q)
    (h : semE K mg W (fun e => (f e).bind fun x e1 => (g e1).bindO fun y => op x y) σ H Q) : tOp r (semE K mg W f) (semE K mg W g) σ H Q := by
  obtain ⟨e, Z, F, re, ok, po⟩ := h
  refine ⟨e, Z, F, re, ok, (bind_sem0 (A := aT K) ok po).imp ?_⟩
  rintro v H1 ⟨t, e1, Z1, F1, Ft, m⟩
  have po1 := m.po
  rw [List.append_nil, bindO_bind] at po1
  have ok1 : Okk H1 Z1 (F1 ++ Ft) := by have := m.ok; rwa [List.append_nil] at this
  refine ⟨e1, Z1, F1, m.re, m.okE, (bind_sem (A := aT K) (G := Ft) ok1 m.ra.dom m.dj po1).imp ?_⟩
  rintro w H2 ⟨u, e2, Z2, F2, Fu, m2⟩
  have rt := m2.hold m.ra
  have po2 := m2.po
  cases hg : op t u with
  | none => simp only [hg] at po2; exact po2.elim
  | some z =>
    simp only [hg] at po2
    have S := m2.sit m.ra.dom
    exact hr S rt m2.ra (fun x hx hy => m2.dg x hy (List.mem_append_left _ hx)) m2.dj (fun x hx hy => m2.dg x hx (List.mem_append_right _ hy)) (fun x hx => List.mem_append_right _ hx)
      (fun x hx => List.mem_append_left _ (List.mem_append_right _ hx)) hg (out_of S m2.re po2)
/-- one operand -/
theorem s_one {f : Env → R T} {op : T → Option T} {r : V → Hp → VK → Prop} {Q : VK}
    (hr : ∀ {H : Hp} {Z : Addr → Prop} {F1 F Ft : List Addr} {t z : T} {v : V}, Sit H Z F1 F → Rep K H Z t v Ft → Dj F1 Ft → (∀ x, x ∈ Ft → x ∈ F) → op t = some z → Out K H Z F1 F z Q → r v H Q)
    (h : semE K mg W (fun e => (f e).bindO op) σ H Q) : semE K mg W f σ H fun v H1 => r v H1 Q := by
  obtain ⟨e, Z, F, re, ok, po⟩ := h
  replace po : Post K mg (aT K) W σ H Z F ((f e).bindO op) Q := po
  rw [bindO_bind] at po
  refine ⟨e, Z, F, re, ok, (bind_sem0 (A := aT K) ok po).imp ?_⟩
  rintro v H1 ⟨t, e1, Z1, F1, Ft, m⟩
  have po1 := m.po
  cases hg : op t with
  | none => simp only [hg] at po1; exact po1.elim
  | some z =>
    simp only [hg] at po1
    have S := m.sit (fun x hx => absurd hx (by simp))
    exact hr S m.ra m.dj (fun x hx => List.mem_append_left _ (List.mem_append_right _ hx)) hg (out_of S m.re po1)
/-- an argument list, then an operation -/
theorem s_args {f : Env → R (List T)} {op : List T → Option T} {r : List V → Hp → VK → Prop} {Q : VK}
    (hr : ∀ {H : Hp} {Z : Addr → Prop} {F1 F Ft : List Addr} {ts : List T} {z : T} {vs : List V}, Sit H Z F1 F → RepL K H Z ts vs Ft → Dj F1 Ft → (∀ x, x ∈ Ft → x ∈ F) → op ts = some z → Out K H Z F1 F z Q → r vs H Q)
    (h : semE K mg W (fun e => (f e).bindO op) σ H Q) : sem K mg (aL K) W f σ H fun vs H1 => r vs H1 Q := by
  obtain ⟨e, Z, F, re, ok, po⟩ := h
  replace po : Post K mg (aT K) W σ H Z F ((f e).bindO op) Q := po
  rw [bindO_bind] at po
  refine ⟨e, Z, F, re, ok, (bind_sem0 (A := aL K) ok po).imp ?_⟩
  rintro v H1 ⟨t, e1, Z1, F1, Ft, m⟩
  have po1 := m.po
  cases hg : op t with
  | none => simp only [hg] at po1; exact po1.elim
  | some z =>
    simp only [hg] at po1
    have S := m.sitL (fun x hx => absurd hx (by simp))
    exact hr S m.ra m.dj (fun x hx => List.mem_append_left _ (List.mem_append_right _ hx)) hg (out_of S m.re po1)
theorem boolOf_some {t : T} {b : Bool} (h : boolOf t = some b) : t = .bl b := by
  cases t <;> simp [boolOf] at h
  rw [h]
/-- a test by its value -/
theorem t_of_e {f : Env → R T} {Q : Bool → Hp → Prop} (h : semB K mg W (fun e => (f e).bindO boolOf) σ H Q) : semE K mg W f σ H fun v H1 => ∃ k, v = .bl k ∧ Q k H1 := by
  obtain ⟨e, Z, F, re, ok, po⟩ := h
  replace po : Post K mg aB W σ H Z F ((f e).bindO boolOf) Q := po
  rw [bindO_bind] at po
  refine ⟨e, Z, F, re, ok, (bind_sem0 (A := aT K) ok po).imp ?_⟩
  rintro v H1 ⟨t, e1, Z1, F1, Ft, m⟩
  have po1 := m.po
  cases hg : boolOf t with
  | none => simp only [hg] at po1; exact po1.elim
  | some b =>
    simp only [hg] at po1
    have e2 := boolOf_some hg
    subst e2
    have ra := m.ra
    cases ra
    have all : ∀ a, a ∈ F1 ++ [] → a ∈ F1 ++ [] ++ [] := fun a ha => by simpa using ha
    exact ⟨b, rfl, po1 b H1 Z1 F1 [] m.re ⟨rfl, rfl⟩ Dj.nilR (m.ok.mono all) (Step.refl all)⟩
/-- first a bool, then one of two ways -/
theorem s_cond {α β : Type} {A : RA α β} {f : Env → R Bool} {g1 g2 : Env → R α} {Q : β → Hp → Prop}
    (h : sem K mg A W (fun e => (f e).bind fun b e1 => if b = true then g1 e1 else g2 e1) σ H Q) : semB K mg W f σ H fun b H1 => if b = true then sem K mg A W g1 σ H1 Q else sem K mg A W g2 σ H1 Q := by
  obtain ⟨e, Z, F, re, ok, po⟩ := h
  refine ⟨e, Z, F, re, ok, (bind_sem0 (A := aB) ok po).imp ?_⟩
  rintro b H1 ⟨t, e1, Z1, F1, Ft, m⟩
  have po1 := m.po
  obtain ⟨rfl, rfl⟩ := m.ra
  rw [List.append_nil, List.append_nil] at po1
  cases t with
  | true => exact ⟨e1, Z1, F1, m.re, m.okE, po1⟩
  | false => exact ⟨e1, Z1, F1, m.re, m.okE, po1⟩
theorem s_bool {b : Bool} {Q : VK} {e : Env} {Z : Addr → Prop} {F : List Addr} (re : RepE K H Z e σ F) (ok : Okk H Z F) (po : Post K mg (aT K) W σ H Z F (.ok (.bl b) e) Q) : Q (.bl b) H := by
  have all : ∀ a, a ∈ F ++ [] → a ∈ F := fun a ha => by simpa using ha
  exact po (.bl b) H Z F [] re (.bl b) Dj.nilR (ok.mono all) (Step.refl all)

/-! ### the constructs -/
theorem k_bin {op : Bop} {a b : E} {Q : VK} (h : semE K mg W (ev C (.bin op a b)) σ H Q) : tOp (rBin K op) (semE K mg W (ev C a)) (semE K mg W (ev C b)) σ H Q :=
  s_two (op := binT op) (fun S rt ru dt du d ht hu e o => bin_out S rt ru dt du d ht hu e o) (by simpa only [ev] using h)
theorem k_cmp {op : Cop} {a b : E} {Q : VK} (h : semE K mg W (ev C (.cmp op a b)) σ H Q) : tOp (rCmp K op) (semE K mg W (ev C a)) (semE K mg W (ev C b)) σ H Q :=
  s_two (op := fun x y => (cmpT op x y).map .bl) (fun S rt ru dt du d ht hu e o => by
    obtain ⟨c, e1, rfl⟩ := Option.map_eq_some_iff.mp e
    exact cmp_out S rt ru e1 o) (by simpa only [ev] using h)
theorem k_ix {a b : E} {Q : VK} (h : semE K mg W (ev C (.ix a b)) σ H Q) : tOp (rIxA K) (semE K mg W (ev C a)) (semE K mg W (ev C b)) σ H Q :=
  s_two (op := ixT) (fun S rt ru dt du d ht hu e o => ix_out S rt ru dt ht e o) (by simpa only [ev] using h)
theorem k_neg {a : E} {Q : VK} (h : semE K mg W (ev C (.neg a)) σ H Q) : tUn (rU fun i => .int (-i)) (semE K mg W (ev C a)) σ H Q :=
  s_one (r := rU fun i => .int (-i)) (op := negT) (fun S rt d ht e o => by
    rename_i t z v
    cases t with
    | int i =>
      cases e
      cases rt
      exact ⟨i, rfl, o.int S⟩
    | _ => cases e) (by simpa only [ev] using h)
theorem k_not {a : E} {Q : VK} (h : semE K mg W (ev C (.not a)) σ H Q) : tNotV (semE K mg W (ev C a)) σ H Q :=
  s_one (r := fun x H1 Q => ∃ c, x = .bl c ∧ Q (.bl (!c)) H1) (op := notT) (fun S rt d ht e o => by
    rename_i t z v
    cases t with
    | bl i =>
      cases e
      cases rt
      exact ⟨i, rfl, o.bl S⟩
    | _ => cases e) (by simpa only [ev] using h)
theorem k_notB {a : E} {Q : Bool → Hp → Prop} (h : semB K mg W (fun e => (ev C (.not a) e).bindO boolOf) σ H Q) : tNot (semB K mg W (fun e => (ev C a e).bindO boolOf)) σ H Q := by
  obtain ⟨e, Z, F, re, ok, po⟩ := h
  refine ⟨e, Z, F, re, ok, ?_⟩
  have e0 : ((ev C (.not a) e).bindO boolOf : R Bool) = ((ev C a e).bindO boolOf).bindO fun b => some (!b) := by
    simp only [ev]
    cases ev C a e with
    | ok t e1 => cases t <;> rfl
    | exc x e1 => rfl
    | fail => rfl
  simp only [e0] at po
  show Post K mg aB W σ H Z F ((ev C a e).bindO boolOf) _
  cases q : (ev C a e).bindO boolOf with
  | fail => rw [q] at po; exact po
  | exc x e1 => rw [q] at po; exact po
  | ok b e1 =>
    rw [q] at po
    intro b' H' Z' F' Fa re ra dj ok st
    obtain ⟨rfl, rfl⟩ := ra
    exact po _ H' Z' F' [] re ⟨rfl, rfl⟩ dj ok st
theorem k_and {a b : E} {Q : VK} (h : semE K mg W (ev C (.and a b)) σ H Q) : tAndV (semE K mg W (ev C a)) (semE K mg W (ev C b)) σ H Q := by
  have h1 := t_of_e (s_cond (f := fun e => (ev C a e).bindO boolOf) (g1 := ev C b) (g2 := fun e1 => .ok (.bl false) e1) (A := aT K) (by
    have e : ev C (.and a b) = fun e => ((ev C a e).bindO boolOf).bind fun d e1 => if d = true then ev C b e1 else .ok (.bl false) e1 := by funext e; simp only [ev]
    rw [e] at h; exact h))
  obtain ⟨e, Z, F, re, ok, po⟩ := h1
  refine ⟨e, Z, F, re, ok, po.imp fun v H1 ⟨c, e1, q⟩ => ⟨c, e1, ?_⟩⟩
  cases c with
  | true => exact q
  | false =>
    obtain ⟨e2, Z2, F2, re2, ok2, po2⟩ := (show semE K mg W (fun e1 => .ok (.bl false) e1) σ H1 Q from q)
    exact s_bool re2 ok2 po2
theorem k_or {a b : E} {Q : VK} (h : semE K mg W (ev C (.or a b)) σ H Q) : tOrV (semE K mg W (ev C a)) (semE K mg W (ev C b)) σ H Q := by
  have h1 := t_of_e (s_cond (f := fun e => (ev C a e).bindO boolOf) (g2 := ev C b) (g1 := fun e1 => .ok (.bl true) e1) (A := aT K) (by
    have e : ev C (.or a b) = fun e => ((ev C a e).bindO boolOf).bind fun d e1 => if d = true then .ok (.bl true) e1 else ev C b e1 := by funext e; simp only [ev]
    rw [e] at h; exact h))
  obtain ⟨e, Z, F, re, ok, po⟩ := h1
  refine ⟨e, Z, F, re, ok, po.imp fun v H1 ⟨c, e1, q⟩ => ⟨c, e1, ?_⟩⟩
  cases c with
  | false => exact q
  | true =>
    obtain ⟨e2, Z2, F2, re2, ok2, po2⟩ := (show semE K mg W (fun e1 => .ok (.bl true) e1) σ H1 Q from q)
    exact s_bool re2 ok2 po2
theorem bindO_if {α : Type} (r : R Bool) (g1 g2 : Env → R T) (f : T → Option α) : (r.bind fun d e1 => if d = true then g1 e1 else g2 e1).bindO f = r.bind fun d e1 => if d = true then (g1 e1).bindO f else (g2 e1).bindO f := by
  cases r with
  | ok b e => cases b <;> rfl
  | exc x e => rfl
  | fail => rfl
theorem s_boolB {b : Bool} {Q : Bool → Hp → Prop} {e : Env} {Z : Addr → Prop} {F : List Addr} (re : RepE K H Z e σ F) (ok : Okk H Z F) (po : Post K mg aB W σ H Z F (.ok b e) Q) : Q b H := by
  have all : ∀ a, a ∈ F ++ [] → a ∈ F := fun a ha => by simpa using ha
  exact po b H Z F [] re ⟨rfl, rfl⟩ Dj.nilR (ok.mono all) (Step.refl all)
theorem k_andB {a b : E} {Q : Bool → Hp → Prop} (h : semB K mg W (fun e => (ev C (.and a b) e).bindO boolOf) σ H Q) : tAnd (semB K mg W (fun e => (ev C a e).bindO boolOf)) (semB K mg W (fun e => (ev C b e).bindO boolOf)) σ H Q := by
  have h1 := s_cond (f := fun e => (ev C a e).bindO boolOf) (g1 := fun e1 => (ev C b e1).bindO boolOf) (g2 := fun e1 => .ok false e1) (A := aB) (by
    have e : (fun e => (ev C (.and a b) e).bindO boolOf) = fun e => ((ev C a e).bindO boolOf).bind fun d e1 => if d = true then (ev C b e1).bindO boolOf else .ok false e1 := by funext e; simp only [ev]; exact bindO_if _ _ (fun e1 => .ok (.bl false) e1) _
    rw [e] at h; exact h)
  obtain ⟨e, Z, F, re, ok, po⟩ := h1
  refine ⟨e, Z, F, re, ok, po.imp fun c H1 q => ?_⟩
  cases c with
  | true => exact q
  | false =>
    obtain ⟨e2, Z2, F2, re2, ok2, po2⟩ := (show semB K mg W (fun e1 => .ok false e1) σ H1 Q from q)
    exact s_boolB re2 ok2 po2
theorem k_orB {a b : E} {Q : Bool → Hp → Prop} (h : semB K mg W (fun e => (ev C (.or a b) e).bindO boolOf) σ H Q) : tOr (semB K mg W (fun e => (ev C a e).bindO boolOf)) (semB K mg W (fun e => (ev C b e).bindO boolOf)) σ H Q := by
  have h1 := s_cond (f := fun e => (ev C a e).bindO boolOf) (g2 := fun e1 => (ev C b e1).bindO boolOf) (g1 := fun e1 => .ok true e1) (A := aB) (by
    have e : (fun e => (ev C (.or a b) e).bindO boolOf) = fun e => ((ev C a e).bindO boolOf).bind fun d e1 => if d = true then .ok true e1 else (ev C b e1).bindO boolOf := by funext e; simp only [ev]; exact bindO_if _ (fun e1 => .ok (.bl true) e1) _ _
    rw [e] at h; exact h)
  obtain ⟨e, Z, F, re, ok, po⟩ := h1
  refine ⟨e, Z, F, re, ok, po.imp fun c H1 q => ?_⟩
  cases c with
  | false => exact q
  | true =>
    obtain ⟨e2, Z2, F2, re2, ok2, po2⟩ := (show semB K mg W (fun e1 => .ok true e1) σ H1 Q from q)
    exact s_boolB re2 ok2 po2
theorem k_ife {c a b : E} {Q : VK} (h : semE K mg W (ev C (.ife c a b)) σ H Q) : tIf (semB K mg W (fun e => (ev C c e).bindO boolOf)) (semE K mg W (ev C a)) (semE K mg W (ev C b)) σ H Q :=
  s_cond (f := fun e => (ev C c e).bindO boolOf) (g1 := ev C a) (g2 := ev C b) (A := aT K) (by
    have e : ev C (.ife c a b) = fun e => ((ev C c e).bindO boolOf).bind fun d e1 => if d = true then ev C a e1 else ev C b e1 := by funext e; simp only [ev]
    rw [e] at h; exact h)
theorem k_ifeB {c a b : E} {Q : Bool → Hp → Prop} (h : semB K mg W (fun e => (ev C (.ife c a b) e).bindO boolOf) σ H Q) :
    (semB K mg W (fun e => (ev C c e).bindO boolOf)) σ H fun d H1 => if d = true then semB K mg W (fun e => (ev C a e).bindO boolOf) σ H1 Q else semB K mg W (fun e => (ev C b e).bindO boolOf) σ H1 Q :=
  s_cond (f := fun e => (ev C c e).bindO boolOf) (g1 := fun e1 => (ev C a e1).bindO boolOf) (g2 := fun e1 => (ev C b e1).bindO boolOf) (A := aB) (by
    have e : (fun e => (ev C (.ife c a b) e).bindO boolOf) = fun e => ((ev C c e).bindO boolOf).bind fun d e1 => if d = true then (ev C a e1).bindO boolOf else (ev C b e1).bindO boolOf := by funext e; simp only [ev]; exact bindO_if _ _ _ _
    rw [e] at h; exact h)
/-- a if t else b, as a test -/
theorem pt_ife {c a b : Expr} {pos : Pos} {tc ta tb : TT} (hc : L2.PT X c tc) (ha : L2.PT X a ta) (hb : L2.PT X b tb) : L2.PT X (.IfExp c a b pos) (fun σ H Q => tc σ H fun d H1 => if d = true then ta σ H1 Q else tb σ H1 Q) := by
  refine ⟨fun pins s σ H Q I h => ?_⟩
  show wpAny _ _ (do if ← isTrue c X.env (eval c X.env) then isTrue a X.env (eval a X.env) else isTrue b X.env (eval b X.env)) _ _ _
  refine wpAny_bind (thn (hc.run pins s σ H _ I h) fun d s1 ⟨H1, I1, q1⟩ => ?_)
  cases d with
  | true => exact ha.run pins s1 σ H1 Q I1 q1
  | false => exact hb.run pins s1 σ H1 Q I1 q1
theorem k_isi {a : E} {t : Ty} {Q : VK} (h : semE K mg W (ev C (.isi a t)) σ H Q) : semE K mg W (ev C a) σ H fun v H1 => ∃ n b, TyX K H1 v (.type n) ∧ kitB n (tyS t) = some b ∧ Q (.bl b) H1 :=
  s_one (r := fun v H1 Q => ∃ n b, TyX K H1 v (.type n) ∧ kitB n (tyS t) = some b ∧ Q (.bl b) H1) (op := fun x => (isiT x t).map .bl) (fun S rt d ht e o => by
    rename_i u z v
    obtain ⟨b, e1, rfl⟩ := Option.map_eq_some_iff.mp e
    have q := o.bl S
    have key : ∃ n, tyT u = some n ∧ kitB n (tyS t) = some b := by
      cases u with
      | node o k ts => cases k <;> cases t <;> simp [isiT] at e1 <;> (subst e1; exact ⟨_, rfl, by decide +kernel⟩)
      | hole => cases t <;> simp [isiT] at e1
      | _ => cases t <;> simp [isiT] at e1 <;> (subst e1; exact ⟨_, rfl, by decide +kernel⟩)
    obtain ⟨n, h1, h2⟩ := key
    exact ⟨n, b, tyT_rep rt h1, h2, q⟩) (by simpa only [ev] using h)
end
end PT

/-! PtL: argument lists, displays, calls of one's own defs. -/
namespace PT
open PySem PySem.Spec PyProof.Rows L2
def LendOk (σ : Sl) : List (Option Nat) → List V → Prop
  | [], [] => True
  | none :: l, _ :: vs => LendOk σ l vs
  | some i :: l, v :: vs => σ[i]? = some (some v) ∧ LendOk σ l vs
  | _, _ => False
abbrev aLl (K : PySem.W.Frag) (σ : Sl) (l : List (Option Nat)) : RA (List T) (List V) := fun H Z ts vs F => RepL K H Z ts vs F ∧ LendOk σ l vs
section
variable {X : Cx} {C : Cf} {W : WX} {k : Nat} {N : List Str} {sc : Scope} {K : PySem.W.Frag} {mg : Str → Option Value} {σ : Sl} {H : Hp}
/-- an argument list's reading -/
abbrev semA (K : PySem.W.Frag) (mg : Str → Option Value) (W : WX) (C : Cf) (as : EL) : TA := fun σ H Q => sem K mg (aLl K σ (lends as)) W (evL C as) σ H Q
theorem semA_of {as : EL} {Q : List V → Hp → Prop} (h : sem K mg (aL K) W (evL C as) σ H Q) : semA K mg W C as σ H Q := by
  obtain ⟨e, Z, F, re, ok, po⟩ := h
  refine ⟨e, Z, F, re, ok, ?_⟩
  cases q : evL C as e with
  | fail => rw [q] at po; exact po
  | exc x e1 => rw [q] at po; exact po
  | ok ts e1 =>
    rw [q] at po
    exact fun b H' Z' F' Fa h1 h2 h3 h4 h5 => po b H' Z' F' Fa h1 h2.1 h3 h4 h5
theorem Step.wide {Z Z' : Addr → Prop} {H' : Hp} {F G F' G' : List Addr} (st : Step H Z G H' Z' G') (hg : ∀ x, x ∈ G → x ∈ F) (hf : ∀ x, x ∈ F' → x ∈ G' ∨ x ∈ F) : Step H Z F H' Z' F' :=
  ⟨st.1, fun a ha hn => by
    obtain ⟨h1, h2, h3⟩ := st.2 a ha fun z => hn (hg a z)
    exact ⟨h1, fun z => (hf a z).elim h2 hn, h3⟩⟩
theorem k_nil {Q : List V → Hp → Prop} (h : semA K mg W C .nil σ H Q) : tNil σ H Q := by
  obtain ⟨e, Z, F, re, ok, po⟩ := h
  have all : ∀ a, a ∈ F ++ [] → a ∈ F := fun a ha => by simpa using ha
  have po' : Post K mg (aLl K σ (lends .nil)) W σ H Z F (.ok [] e) Q := by simpa only [evL] using po
  exact po' [] H Z F [] re ⟨.nil, True.intro⟩ Dj.nilR (ok.mono all) (Step.refl all)
theorem k_cons {x : E} {r : EL} {Q : List V → Hp → Prop} (hl : lends (.cons x r) = none :: lends r) (h : semA K mg W C (.cons x r) σ H Q) : tCons (semE K mg W (ev C x)) (semA K mg W C r) σ H Q := by
  obtain ⟨e, Z, F, re, ok, po⟩ := h
  have po0 : Post K mg (aLl K σ (lends (.cons x r))) W σ H Z F ((ev C x e).bind fun t e1 => (evL C r e1).bindO fun ts => some (t :: ts)) Q := by simpa only [evL] using po
  refine ⟨e, Z, F, re, ok, (bind_sem0 (A := aT K) ok po0).imp ?_⟩
  rintro v H1 ⟨t, e1, Z1, F1, Ft, m⟩
  have po1 := m.po
  rw [List.append_nil, bindO_bind] at po1
  have ok1 : Okk H1 Z1 (F1 ++ Ft) := by have := m.ok; rwa [List.append_nil] at this
  refine ⟨e1, Z1, F1, m.re, m.okE, (bind_sem (A := aLl K σ (lends r)) (G := Ft) ok1 m.ra.dom m.dj po1).imp ?_⟩
  rintro vs H2 ⟨ts, e2, Z2, F2, Fu, m2⟩
  have rt := m2.hold m.ra
  obtain ⟨rs, lo⟩ := m2.ra
  have d1 : Dj Ft Fu := fun x hx hy => m2.dg x hx (List.mem_append_right _ hy)
  have d2 : Dj F2 Ft := fun x hx hy => m2.dg x hy (List.mem_append_left _ hx)
  have all : ∀ a, a ∈ F2 ++ (Ft ++ Fu) → a ∈ F2 ++ Fu ++ Ft := fun a ha => by
    simp only [List.mem_append] at ha ⊢
    rcases ha with h | h | h
    · exact .inl (.inl h)
    · exact .inr h
    · exact .inl (.inr h)
  have po2 : Post K mg (aLl K σ (lends (.cons x r))) W σ H2 Z2 (F2 ++ Fu ++ Ft) (.ok (t :: ts) e2) Q := m2.po
  exact po2 (v :: vs) H2 Z2 F2 (Ft ++ Fu) m2.re ⟨.cons t v Ft ts vs Fu rt rs d1, by rw [hl]; exact lo⟩ (d2.app m2.dj) (m2.ok.mono all) (Step.refl all)
theorem k_consL {i : Nat} {r : EL} {Q : List V → Hp → Prop} (h : semA K mg W C (.cons (.lend i) r) σ H Q) : tCons (tVar i) (semA K mg W C r) σ H Q := by
  obtain ⟨e, Z, F, re, ok, po⟩ := h
  have po0 : Post K mg (aLl K σ (some i :: lends r)) W σ H Z F ((lendE i e).bind fun t e1 => (evL C r e1).bindO fun ts => some (t :: ts)) Q := by simpa only [evL, ev, lends] using po
  cases q : e[i]? with
  | none => simp only [lendE, q] at po0; exact po0.elim
  | some o =>
    cases o with
    | none => simp only [lendE, q] at po0; exact po0.elim
    | some t =>
      simp only [lendE, q] at po0
      obtain ⟨Fi, Fr, h1, h2, h3, _, _⟩ := re.at i (get_lt q)
      rw [q] at h3
      obtain ⟨v, e1, rv⟩ := h3
      refine ⟨v, e1, e, Z, F, re, ok, ?_⟩
      have po1 : Post K mg (aLl K σ (some i :: lends r)) W σ H Z F ((evL C r e).bindO fun ts => some (.hole :: ts)) Q := po0
      rw [bindO_bind] at po1
      refine (bind_sem0 (A := aLl K σ (lends r)) ok po1).imp ?_
      rintro vs H2 ⟨ts, e2, Z2, F2, Fu, m2⟩
      obtain ⟨rs, lo⟩ := m2.ra
      have po2 : Post K mg (aLl K σ (some i :: lends r)) W σ H2 Z2 (F2 ++ Fu ++ []) (.ok (.hole :: ts) e2) Q := m2.po
      have all : ∀ a, a ∈ F2 ++ ([] ++ Fu) → a ∈ F2 ++ Fu ++ [] := fun a ha => by simpa using ha
      exact po2 (v :: vs) H2 Z2 F2 ([] ++ Fu) m2.re ⟨.cons .hole v [] ts vs Fu (.hole v) rs Dj.nilL, e1, lo⟩ (by simpa using m2.dj) (m2.ok.mono all) (Step.refl all)
theorem k_args {as : EL} {op : List T → Option T} {r : List V → Hp → VK → Prop} {Q : VK}
    (hr : ∀ {H : Hp} {Z : Addr → Prop} {F1 F Ft : List Addr} {ts : List T} {z : T} {vs : List V}, Sit H Z F1 F → RepL K H Z ts vs Ft → Dj F1 Ft → (∀ x, x ∈ Ft → x ∈ F) → op ts = some z → Out K H Z F1 F z Q → r vs H Q)
    (h : semE K mg W (fun e => (evL C as e).bindO op) σ H Q) : semA K mg W C as σ H fun vs H1 => r vs H1 Q := semA_of (s_args hr h)
theorem k_tup {es : EL} {Q : VK} (h : semE K mg W (ev C (.tup es)) σ H Q) : tTup (semA K mg W C es) σ H Q :=
  k_args (r := fun xs H1 Q => xs.length ≤ sizeLine ∧ ∀ p, H1 p = none → Q (.ref p) (upd H1 p (.tup xs))) (op := tupT) (fun S r d hf e o => by
    rename_i ts z vs
    unfold tupT at e
    split at e
    · rename_i hl
      cases e
      exact ⟨by rw [← r.length]; exact fitB_le hl, o.newT S r d hf⟩
    · cases e) (by simpa only [ev] using h)
theorem k_lst {es : EL} {Q : VK} (h : semE K mg W (ev C (.lst es)) σ H Q) : tLst (semA K mg W C es) σ H Q :=
  k_args (r := fun xs H1 Q => xs.length ≤ sizeLine ∧ ∀ p, H1 p = none → Q (.ref p) (upd H1 p (.lst xs))) (op := newT) (fun S r d hf e o => by
    rename_i ts z vs
    unfold newT at e
    split at e
    · rename_i hl
      cases e
      exact ⟨by rw [← r.length]; exact fitB_le hl, o.new S (k := .lst) True.intro rfl r d hf⟩
    · cases e) (by simpa only [ev] using h)
theorem k_bi {b : Bi} {as : EL} {Q : VK} (h : semE K mg W (ev C (.bi b as)) σ H Q) : semA K mg W C as σ H fun vs H1 => rBi K b vs H1 Q :=
  k_args (op := biT b) (fun S r d hf e o => bi_out S r d hf e o) (by simpa only [ev] using h)

/-! ### calls -/
theorem take_ok {Z : Addr → Prop} {l : List (Option Nat)} : ∀ {ts : List T} {vs : List V} {e e2 : Env} {us : List T} {F1 Ft : List Addr}, RepE K H Z e σ F1 → RepL K H Z ts vs Ft → Dj F1 Ft → LendOk σ l vs → take l ts e = some (us, e2) →
    ∃ F2 Fu, RepE K H Z e2 σ F2 ∧ RepL K H Z us vs Fu ∧ Dj F2 Fu ∧ (∀ x, x ∈ F2 → x ∈ F1) ∧ ∀ x, x ∈ Fu → x ∈ F1 ∨ x ∈ Ft := by
  induction l with
  | nil =>
    intro ts vs e e2 us F1 Ft re r d lo h
    cases ts with
    | nil =>
      cases r
      cases h
      exact ⟨F1, [], re, .nil, Dj.nilR, fun _ h => h, fun _ h => absurd h (by simp)⟩
    | cons t ts => cases h
  | cons o l ih =>
    intro ts vs e e2 us F1 Ft re r d lo h
    cases ts with
    | nil => cases o <;> cases h
    | cons t ts =>
      cases r with
      | cons t v F ts vs G r1 r2 d1 =>
        cases o with
        | none =>
          simp only [take] at h
          cases q : take l ts e with
          | none => rw [q] at h; cases h
          | some p =>
            obtain ⟨us', e'⟩ := p
            rw [q] at h
            cases h
            obtain ⟨F2, Fu, g1, g2, g3, g4, g5⟩ := ih re r2 (fun a ha hb => d a ha (List.mem_append_right _ hb)) lo q
            have dF : Dj F Fu := fun a ha hb => (g5 a hb).elim (fun z => d a z (List.mem_append_left _ ha)) (d1 a ha)
            refine ⟨F2, F ++ Fu, g1, .cons t v F _ _ Fu r1 g2 dF, Dj.app (F := F2) (F' := F) (fun a ha hb => d a (g4 a ha) (List.mem_append_left _ hb)) g3, g4, fun x hx => ?_⟩
            rcases List.mem_append.mp hx with z | z
            · exact .inr (List.mem_append_left _ z)
            · exact (g5 x z).elim .inl fun z => .inr (List.mem_append_right _ z)
        | some i =>
          obtain ⟨lo1, lo2⟩ := lo
          simp only [take] at h
          cases q : e[i]? with
          | none => rw [q] at h; cases h
          | some o =>
            cases o with
            | none => rw [q] at h; cases h
            | some t0 =>
              rw [q] at h
              simp only at h
              cases q2 : take l ts (e.set i none) with
              | none => rw [q2] at h; cases h
              | some p =>
                obtain ⟨us', e'⟩ := p
                rw [q2] at h
                cases h
                obtain ⟨Fi, Fr, h1, h2, h3, _, h5⟩ := re.at i (get_lt q)
                rw [q] at h3
                obtain ⟨v0, e1, r0⟩ := h3
                rw [lo1] at e1
                cases e1
                obtain ⟨F0, k1, k2⟩ := h5 H Z (fun _ _ => rfl) (fun _ _ => rfl) (fun _ z => z) (some v)
                rw [set_self lo1] at k2
                obtain ⟨F2, Fu, g1, g2, g3, g4, g5⟩ := ih k2 r2 (fun a ha hb => d a ((h1 a).mpr (.inr ((k1 a).mp ha))) (List.mem_append_right _ hb)) lo2 q2
                have dF : Dj Fi Fu := fun a ha hb => (g5 a hb).elim (fun z => h2 a ha ((k1 a).mp z)) fun z => d a ((h1 a).mpr (.inl ha)) (List.mem_append_right _ z)
                refine ⟨F2, Fi ++ Fu, g1, .cons t0 v Fi _ _ Fu r0 g2 dF, Dj.app (F := F2) (F' := Fi) (fun a ha hb => h2 a hb ((k1 a).mp (g4 a ha))) g3, fun x hx => (h1 x).mpr (.inr ((k1 x).mp (g4 x hx))), fun x hx => ?_⟩
                rcases List.mem_append.mp hx with z | z
                · exact .inl ((h1 x).mpr (.inl z))
                · exact (g5 x z).elim (fun z => .inl ((h1 x).mpr (.inr ((k1 x).mp z)))) fun z => .inr (List.mem_append_right _ z)
theorem give_ok {Z : Addr → Prop} {l : List (Option Nat)} : ∀ {ts : List T} {vs dvs : List V} {e : Env} {F1 Ft : List Addr}, RepE K H Z e σ F1 → RepL K H Z ts (vs ++ dvs) Ft → Dj F1 Ft → LendOk σ l vs →
    ∃ F2, RepE K H Z (give l ts e) σ F2 ∧ ∀ x, x ∈ F2 → x ∈ F1 ∨ x ∈ Ft := by
  induction l with
  | nil =>
    intro ts vs dvs e F1 Ft re r d lo
    exact ⟨F1, by cases ts <;> exact re, fun _ h => .inl h⟩
  | cons o l ih =>
    intro ts vs dvs e F1 Ft re r d lo
    cases vs with
    | nil => cases o <;> exact lo.elim
    | cons v vs =>
      cases r with
      | cons t v F ts vs' G r1 r2 d1 =>
        cases o with
        | none =>
          obtain ⟨F2, g1, g2⟩ := ih re r2 (fun a ha hb => d a ha (List.mem_append_right _ hb)) lo
          exact ⟨F2, g1, fun x hx => (g2 x hx).imp id fun z => List.mem_append_right _ z⟩
        | some i =>
          obtain ⟨lo1, lo2⟩ := lo
          have hi : i < e.length := by rw [re.length]; exact get_lt lo1
          obtain ⟨Fi, Fr, h1, h2, h3, h4, _⟩ := re.at i hi
          obtain ⟨F0, k1, k2⟩ := h4 H Z t v F (fun _ _ => rfl) (fun _ _ => rfl) (fun _ z => z) r1 (fun a ha hb => d a ((h1 a).mpr (.inr hb)) (List.mem_append_left _ ha))
          rw [set_self lo1] at k2
          obtain ⟨F2, g1, g2⟩ := ih k2 r2 (fun a ha hb => ((k1 a).mp ha).elim (fun z => d1 a z hb) fun z => d a ((h1 a).mpr (.inr z)) (List.mem_append_right _ hb)) lo2
          refine ⟨F2, g1, fun x hx => ?_⟩
          rcases g2 x hx with z | z
          · exact ((k1 x).mp z).elim (fun z => .inr (List.mem_append_left _ z)) fun z => .inl ((h1 x).mpr (.inr z))
          · exact .inr (List.mem_append_right _ z)
theorem k_call {f d : Nat} {as : EL} {Q : VK} {n : Nat} {dvs : List V} (hd : ∀ ds, C.tb.dfl f d = some ds → ∀ H Z, RepL K H Z ds dvs []) (hn : ∀ vs : List V, vs.length = lenEL as → vs.length + dvs.length = n)
    (h : semE K mg W (ev C (.call f d as)) σ H Q) : semA K mg W C as σ H fun vs H1 => vs.length = lenEL as → spF K mg n (C.φ f) (vs ++ dvs) H1 Q (WE W σ) := by
  obtain ⟨e, Z, F, re, ok, po⟩ := h
  have po0 : Post K mg (aT K) W σ H Z F ((evL C as e).bind fun ts e1 => callE (C.φ f) (C.tb.dfl f d) (lends as) ts e1) Q := by simpa only [ev] using po
  refine ⟨e, Z, F, re, ok, (bind_sem0 (A := aLl K σ (lends as)) ok po0).imp ?_⟩
  rintro vs H1 ⟨ts, e1, Z1, F1, Ft, m⟩ hl
  have po1 := m.po
  rw [List.append_nil] at po1
  obtain ⟨rs, lo⟩ := m.ra
  have ok1 : Okk H1 Z1 (F1 ++ Ft) := by have := m.ok; rwa [List.append_nil] at this
  unfold callE at po1
  cases q : take (lends as) ts e1 with
  | none => simp only [q] at po1; exact po1.elim
  | some p =>
    obtain ⟨us, e2⟩ := p
    cases q2 : C.tb.dfl f d with
    | none => simp only [q, q2] at po1; exact po1.elim
    | some ds =>
      simp only [q, q2] at po1
      obtain ⟨F2, Fu, g1, g2, g3, g4, g5⟩ := take_ok m.re rs m.dj lo q
      obtain ⟨F3, r3, h3⟩ := g2.app (hd ds q2 H1 Z1) Dj.nilR
      have h3' : ∀ x, x ∈ F3 → x ∈ Fu := fun x hx => by simpa using (h3 x).mp hx
      have sub3 : ∀ x, x ∈ F3 → x ∈ F1 ++ Ft := fun x hx => List.mem_append.mpr (g5 x (h3' x hx))
      have sub2 : ∀ x, x ∈ F2 → x ∈ F1 ++ Ft := fun x hx => List.mem_append_left _ (g4 x hx)
      refine ⟨by rw [List.length_append]; exact hn vs hl, us ++ ds, Z1, F3, r3, ok1.mono sub3, ?_⟩
      have okE2 : Okk H1 Z1 F2 := ok1.mono sub2
      have d23 : Dj F2 F3 := fun a ha hb => g3 a ha (h3' a hb)
      cases q3 : C.φ f (us ++ ds) with
      | fail => simp only [q3, backE] at po1; exact po1.elim
      | exc x =>
        simp only [q3, backE] at po1
        intro cls d' H' Z' xr zd st
        obtain ⟨re', dn, nz⟩ := st.holdE (ok1.mono sub3) okE2.zf g1 d23
        exact po1 cls d' H' Z' F2 re' xr ⟨nz, zd⟩ (st.wide sub3 fun a ha => .inr (sub2 a ha))
      | ok t us' =>
        simp only [q3, backE] at po1
        intro v H' Z' F' Ft' r' rt' dj' ok' st
        obtain ⟨re', dn, nz⟩ := st.holdE (ok1.mono sub3) okE2.zf g1 d23
        have dn1 : Dj F2 F' := fun a ha hb => dn a ha (List.mem_append_left _ hb)
        obtain ⟨F4, k1, k2⟩ := give_ok re' r' dn1 lo
        refine po1 v H' Z' F4 Ft' k1 rt' (fun a ha hb => (k2 a ha).elim (fun z => dn a z (List.mem_append_right _ hb)) fun z => dj' a z hb) ⟨fun a ha => ?_, ok'.zd⟩ (st.wide sub3 fun a ha => ?_)
        · rcases List.mem_append.mp ha with z | z
          · exact (k2 a z).elim (nz a) fun z => ok'.zf a (List.mem_append_left _ z)
          · exact ok'.zf a (List.mem_append_right _ z)
        · rcases List.mem_append.mp ha with z | z
          · exact (k2 a z).elim (fun z => .inr (sub2 a z)) fun z => .inl (List.mem_append_left _ z)
          · exact .inl (List.mem_append_right _ z)
end
end PT

/-! PtM: constants, slices, chains, methods, pop, looking without taking. -/
namespace PT
open PySem PySem.Spec PyProof.Rows L2
section
variable {X : Cx} {C : Cf} {W : WX} {k : Nat} {N : List Str} {sc : Scope} {K : PySem.W.Frag} {mg : Str → Option Value} {σ : Sl} {H : Hp}
theorem k_glo {i : Nat} {p : Str × T} {v : V} {Q : VK} (hp : C.tb.gl i = some p) (hv : ∀ H Z, Rep K H Z (frz p.2) v []) (h : semE K mg W (ev C (.glo i)) σ H Q) : tC v σ H Q :=
  s_lit (x := .glo i) (t := frz p.2) (fun e => by simp only [ev, gloE, hp]) hv h
abbrev semO (K : PySem.W.Frag) (mg : Str → Option Value) (W : WX) (f : Env → R (Option Int)) : TO := sem K mg aO W f
theorem k_po0 {Q : Option Int → Hp → Prop} (h : semO K mg W (evO C .none) σ H Q) : tNoPart σ H Q := by
  obtain ⟨e, Z, F, re, ok, po⟩ := h
  have all : ∀ a, a ∈ F ++ [] → a ∈ F := fun a ha => by simpa using ha
  have po' : Post K mg aO W σ H Z F (.ok none e) Q := by simpa only [evO] using po
  exact po' none H Z F [] re ⟨rfl, rfl⟩ Dj.nilR (ok.mono all) (Step.refl all)
theorem k_po1 {x : E} {Q : Option Int → Hp → Prop} (h : semO K mg W (evO C (.some x)) σ H Q) : tPart (semE K mg W (ev C x)) σ H Q := by
  obtain ⟨e, Z, F, re, ok, po⟩ := h
  have po0 : Post K mg aO W σ H Z F ((ev C x e).bindO partOf) Q := by simpa only [evO] using po
  rw [bindO_bind] at po0
  refine ⟨e, Z, F, re, ok, (bind_sem0 (A := aT K) ok po0).imp ?_⟩
  rintro v H1 ⟨t, e1, Z1, F1, Ft, m⟩
  have po1 := m.po
  cases t with
  | int i =>
    have ra := m.ra
    cases ra
    have all : ∀ a, a ∈ F1 ++ [] → a ∈ F1 ++ [] ++ [] := fun a ha => by simpa using ha
    exact ⟨i, rfl, po1 (some i) H1 Z1 F1 [] m.re ⟨rfl, rfl⟩ Dj.nilR (m.ok.mono all) (Step.refl all)⟩
  | _ => exact (show False from po1).elim
theorem k_sl {a : E} {lo hi : OE} {Q : VK} (h : semE K mg W (ev C (.sl a lo hi)) σ H Q) : tSl (rSlX K) (semE K mg W (ev C a)) (semO K mg W (evO C lo)) (semO K mg W (evO C hi)) σ H Q := by
  obtain ⟨e, Z, F, re, ok, po⟩ := h
  have po0 : Post K mg (aT K) W σ H Z F ((ev C a e).bind fun x e1 => (evO C lo e1).bind fun l e2 => (evO C hi e2).bindO fun h => slT x l h) Q := by simpa only [ev] using po
  refine ⟨e, Z, F, re, ok, (bind_sem0 (A := aT K) ok po0).imp ?_⟩
  rintro v H1 ⟨t, e1, Z1, F1, Ft, m⟩
  have po1 := m.po
  rw [List.append_nil] at po1
  have ok1 : Okk H1 Z1 (F1 ++ Ft) := by have := m.ok; rwa [List.append_nil] at this
  refine ⟨e1, Z1, F1, m.re, m.okE, (bind_sem (A := aO) (G := Ft) ok1 m.ra.dom m.dj po1).imp ?_⟩
  rintro l H2 ⟨l', e2, Z2, F2, Fu, m2⟩
  obtain ⟨rfl, rfl⟩ := m2.ra
  have rt := m2.hold m.ra
  have po2 := m2.po
  rw [List.append_nil, bindO_bind] at po2
  have ok2 : Okk H2 Z2 (F2 ++ Ft) := by have := m2.ok; rwa [List.append_nil] at this
  have d2 : Dj F2 Ft := fun x hx hy => m2.dg x hy (List.mem_append_left _ hx)
  refine ⟨e2, Z2, F2, m2.re, m2.okE, (bind_sem (A := aO) (G := Ft) ok2 rt.dom d2 po2).imp ?_⟩
  rintro u H3 ⟨u', e3, Z3, F3, Fw, m3⟩
  obtain ⟨rfl, rfl⟩ := m3.ra
  have rt3 := m3.hold rt
  have po3 := m3.po
  cases hg : slT t l' u' with
  | none => simp only [hg] at po3; exact po3.elim
  | some z =>
    simp only [hg] at po3
    have S := m3.sitE rt.dom (fun x hx => absurd hx (by simp))
    exact sl_out S rt3 (fun x hx hy => m3.dg x hy (List.mem_append_left _ hx)) (fun x hx => List.mem_append_right _ hx) hg (out_of S m3.re po3)
theorem k_chn {op op' : Cop} {a b c : E} {Q : VK} (h : semE K mg W (ev C (.chn op op' a b c)) σ H Q) : tChain (rCmp K op) (rCmp K op') (semE K mg W (ev C a)) (semE K mg W (ev C b)) (semE K mg W (ev C c)) σ H Q := by
  obtain ⟨e, Z, F, re, ok, po⟩ := h
  have po0 : Post K mg (aT K) W σ H Z F ((ev C a e).bind fun x e1 => (ev C b e1).bind fun y e2 => (ofO (cmpT op x y) e2).bind fun d e3 => if d = true then (ev C c e3).bindO fun z => (cmpT op' y z).map .bl else .ok (.bl false) e3) Q := by simpa only [ev] using po
  refine ⟨e, Z, F, re, ok, (bind_sem0 (A := aT K) ok po0).imp ?_⟩
  rintro v H1 ⟨t, e1, Z1, F1, Ft, m⟩
  have po1 := m.po
  rw [List.append_nil] at po1
  have ok1 : Okk H1 Z1 (F1 ++ Ft) := by have := m.ok; rwa [List.append_nil] at this
  refine ⟨e1, Z1, F1, m.re, m.okE, (bind_sem (A := aT K) (G := Ft) ok1 m.ra.dom m.dj po1).imp ?_⟩
  rintro w H2 ⟨u, e2, Z2, F2, Fu, m2⟩
  have rt := m2.hold m.ra
  have ru := m2.ra
  have po2 := m2.po
  cases hg : cmpT op t u with
  | none => simp only [hg, ofO] at po2; exact po2.elim
  | some d =>
    simp only [hg, ofO] at po2
    refine cmp_val rt ru hg ⟨d, rfl, ?_⟩
    cases d with
    | true =>
      have po3 : Post K mg (aT K) W σ H2 Z2 (F2 ++ Fu ++ Ft) ((ev C c e2).bindO fun z => (cmpT op' u z).map .bl) Q := po2
      have po4 := po3.sub (G := F2 ++ Fu) fun a ha => List.mem_append_left _ ha
      rw [bindO_bind] at po4
      have ok2 : Okk H2 Z2 (F2 ++ Fu) := m2.ok.mono fun a ha => List.mem_append_left _ ha
      refine ⟨e2, Z2, F2, m2.re, m2.okE, (bind_sem (A := aT K) (G := Fu) ok2 ru.dom m2.dj po4).imp ?_⟩
      rintro w3 H3 ⟨u3, e3, Z3, F3, Fw, m3⟩
      have ru3 := m3.hold ru
      have po5 := m3.po
      cases hg2 : cmpT op' u u3 with
      | none => simp only [hg2, Option.map_none] at po5; exact po5.elim
      | some d2 =>
        simp only [hg2, Option.map_some] at po5
        have S := m3.sit ru.dom
        exact cmp_out S ru3 m3.ra hg2 (out_of S m3.re po5)
    | false =>
      have po3 : Post K mg (aT K) W σ H2 Z2 (F2 ++ Fu ++ Ft) (.ok (.bl false) e2) Q := po2
      have S := m2.sit m.ra.dom
      exact (out_of S m2.re po3).bl S

/-! ### methods -/
theorem s_meth {m : Mt} {a : E} {as : EL} {r : V → List V → Hp → VK → Prop} {ty : V → Hp → Prop} {Q : VK}
    (hty : ∀ {H : Hp} {Z : Addr → Prop} {Ft : List Addr} {t : T} {v : V}, Rep K H Z t v Ft → recvT m t = some () → ty v H)
    (hr : ∀ {H : Hp} {Z : Addr → Prop} {F1 F Ft Fu : List Addr} {t : T} {v : V} {ts : List T} {vs : List V} {z : T}, Sit H Z F1 F → Rep K H Z t v Ft → RepL K H Z ts vs Fu → Dj F1 Ft → Dj F1 Fu → (∀ x, x ∈ Ft → x ∈ F) → (∀ x, x ∈ Fu → x ∈ F) → methT m t ts = some z → Out K H Z F1 F z Q → r v vs H Q)
    (h : semE K mg W (ev C (.meth m a as)) σ H Q) : semE K mg W (ev C a) σ H fun v H1 => ty v H1 ∧ semA K mg W C as σ H1 fun vs H2 => r v vs H2 Q := by
  obtain ⟨e, Z, F, re, ok, po⟩ := h
  have po0 : Post K mg (aT K) W σ H Z F ((ev C a e).bind fun x e1 => (ofO (recvT m x) e1).bind fun _ e2 => (evL C as e2).bindO fun ts => methT m x ts) Q := by simpa only [ev] using po
  refine ⟨e, Z, F, re, ok, (bind_sem0 (A := aT K) ok po0).imp ?_⟩
  rintro v H1 ⟨t, e1, Z1, F1, Ft, mm⟩
  have po1 := mm.po
  rw [List.append_nil] at po1
  cases hv : recvT m t with
  | none => simp only [hv, ofO] at po1; exact po1.elim
  | some u =>
    simp only [hv, ofO] at po1
    replace po1 : Post K mg (aT K) W σ H1 Z1 (F1 ++ Ft) ((evL C as e1).bindO fun ts => methT m t ts) Q := po1
    rw [bindO_bind] at po1
    have ok1 : Okk H1 Z1 (F1 ++ Ft) := by have := mm.ok; rwa [List.append_nil] at this
    refine ⟨hty mm.ra hv, semA_of ⟨e1, Z1, F1, mm.re, mm.okE, (bind_sem (A := aL K) (G := Ft) ok1 mm.ra.dom mm.dj po1).imp ?_⟩⟩
    rintro vs H2 ⟨ts, e2, Z2, F2, Fu, m2⟩
    have rt := mm.ra
    have rt2 := m2.hold rt
    have po2 := m2.po
    cases hg : methT m t ts with
    | none => simp only [hg] at po2; exact po2.elim
    | some z =>
      simp only [hg] at po2
      have S := m2.sitL rt.dom
      exact hr S rt2 m2.ra (fun x hx hy => m2.dg x hy (List.mem_append_left _ hx)) m2.dj (fun x hx => List.mem_append_right _ hx) (fun x hx => List.mem_append_left _ (List.mem_append_right _ hx)) hg (out_of S m2.re po2)
theorem firstT_ok {x : T} {y : V} {Fu : List Addr} {Z : Addr → Prop} (rx : Rep K H Z x y Fu) (hx : flatT x = true) : ∀ {ts : List T} {vs : List V} {F : List Addr} {n j : Nat}, RepL K H Z ts vs F → ts.all flatT = true → firstT x ts n = some j →
    ∃ i z, j = n + i ∧ vs[i]? = some z ∧ eqV z y = true ∧ ∀ (m : Nat) (z' : V), m < i → vs[m]? = some z' → eqV z' y = false := by
  intro ts
  induction ts with
  | nil => intro vs F n j r ha h; cases h
  | cons t ts ih =>
    intro vs F n j r ha h
    cases r with
    | cons t v F ts vs G r q d =>
      rw [List.all_cons, Bool.and_eq_true] at ha
      unfold firstT at h
      have e0 := eqF_rep r rx ha.1 hx
      split at h
      · rename_i he
        cases h
        exact ⟨0, v, rfl, rfl, by rw [← e0]; exact he, fun m z' hm => absurd hm (by omega)⟩
      · rename_i he
        obtain ⟨i, z, h1, h2, h3, h4⟩ := ih q ha.2 h
        refine ⟨i + 1, z, by omega, by simpa using h2, h3, fun m z' hm hz => ?_⟩
        cases m with
        | zero =>
          have : v = z' := by simpa using hz
          subst this
          rw [← e0]
          simpa using he
        | succ m => exact h4 m z' (by omega) (by simpa using hz)
theorem k_index {a : E} {as : EL} {Q : VK} (h : semE K mg W (ev C (.meth .index a as)) σ H Q) : tBM K "list" (rIndex K) (semE K mg W (ev C a)) (semA K mg W C as) σ H Q :=
  s_meth (r := rIndex K) (ty := fun v H => tyV K "list" v H) (fun r hv => by
    rename_i H Z Ft t v
    cases t with
    | node b k ts =>
      cases k <;> simp [recvT] at hv
      obtain ⟨a, vs, F', rfl, e, _⟩ := r.lst
      exact .inl ⟨rfl, vs, SqL.of e⟩
    | _ => simp [recvT] at hv) (fun S rt rs dt du ht hu e o => by
    rename_i H Z F1 F Ft Fu t v ts vs z
    cases t with
    | node b k us =>
      cases k <;> try (simp [methT] at e; done)
      cases ts with
      | nil => simp [methT] at e
      | cons x xs =>
        cases xs with
        | cons _ _ => simp [methT] at e
        | nil =>
          obtain ⟨y, rfl, rx⟩ := rs.one
          simp only [methT, Option.bind_some] at e
          split at e
          · rename_i hf
            obtain ⟨hf1, hf2⟩ := Bool.and_eq_true_iff.mp hf
            cases hj : firstT x us 0 with
            | none => rw [hj] at e; cases e
            | some j =>
              rw [hj] at e
              cases e
              obtain ⟨a, ws, F', rfl, e1, r1, _⟩ := rt.lst
              obtain ⟨i, zz, h1, h2, h3, h4⟩ := firstT_ok rx hf1 r1 hf2 hj
              have ei : j = i := by omega
              subst ei
              exact ⟨a, ws, y, j, zz, rfl, rfl, SqL.of e1, flat_rep rx hf1, flat_repL r1 hf2, h2, h3, h4, o.int S⟩
          · cases e
    | _ => simp [methT] at e) h
theorem k_count {a : E} {as : EL} {Q : VK} (h : semE K mg W (ev C (.meth .count a as)) σ H Q) : tBM K "list" (rCntI K) (semE K mg W (ev C a)) (semA K mg W C as) σ H Q :=
  s_meth (r := rCntI K) (ty := fun v H => tyV K "list" v H) (fun r hv => by
    rename_i H Z Ft t v
    cases t with
    | node b k ts =>
      cases k <;> simp [recvT] at hv
      obtain ⟨a, vs, F', rfl, e, _⟩ := r.lst
      exact .inl ⟨rfl, vs, SqL.of e⟩
    | _ => simp [recvT] at hv) (fun S rt rs dt du ht hu e o => by
    rename_i H Z F1 F Ft Fu t v ts vs z
    cases t with
    | node b k us =>
      cases k <;> try (simp [methT] at e; done)
      cases ts with
      | nil => simp [methT] at e
      | cons x xs =>
        cases xs with
        | cons _ _ => cases x <;> simp [methT] at e
        | nil =>
          obtain ⟨y, rfl, rx⟩ := rs.one
          cases x with
          | int i =>
            simp only [methT, Option.bind_some, Option.map_eq_some_iff] at e
            obtain ⟨ns, h1, rfl⟩ := e
            obtain ⟨a, ws, F', rfl, e1, r1, _⟩ := rt.lst
            have e2 := intsT_some h1
            subst e2
            have e3 := r1.ints
            subst e3
            cases rx
            exact ⟨a, ns, i, rfl, rfl, SqL.of e1, o.int S⟩
          | _ => simp [methT] at e
    | _ => simp [methT] at e) h
/-- d.get(k), d.get(k, x) -/
def rGet : V → List V → Hp → VK → Prop := fun v vs H Q => ∃ a y o, v = .ref a ∧ DGet H a y o ∧ ((vs = [y] ∧ Q (o.getD .non) H) ∨ ∃ z, vs = [y, z] ∧ Q (o.getD z) H)
theorem k_get {a : E} {as : EL} {Q : VK} (h : semE K mg W (ev C (.meth .get a as)) σ H Q) : semE K mg W (ev C a) σ H fun v H1 => (∃ a, v = .ref a ∧ IsD H1 a) ∧ semA K mg W C as σ H1 fun vs H2 => rGet v vs H2 Q :=
  s_meth (r := rGet) (ty := fun v H => ∃ a, v = .ref a ∧ IsD H a) (fun r hv => by
    rename_i H Z Ft t v
    cases t with
    | node b k ts =>
      cases k <;> simp [recvT] at hv
      obtain ⟨a, vs, F', rfl, _, e, _⟩ := r.dicl
      exact ⟨a, rfl, .inl ⟨_, e⟩⟩
    | _ => simp [recvT] at hv) (fun S rt rs dt du ht hu e o => by
    rename_i H Z F1 F Ft Fu t v ts vs z
    cases t with
    | node b k us =>
      cases k <;> try (simp [methT] at e; done)
      rename_i ks
      obtain ⟨a, ws, F', rfl, hl, hr, r1, s1⟩ := rt.dicl
      cases ts with
      | nil => simp [methT] at e
      | cons x xs =>
        cases xs with
        | nil =>
          obtain ⟨y, rfl, rx⟩ := rs.one
          simp only [methT, Option.map_eq_some_iff] at e
          obtain ⟨kk, hk, rfl⟩ := e
          refine ⟨a, y, valV (ks.zip ws) kk, rfl, .inl ⟨_, kk, hr, keyT_rep rx hk, rfl⟩, .inl ⟨rfl, ?_⟩⟩
          rcases valT_rep (k := kk) (ks := ks) r1 with ⟨h1, h2⟩ | ⟨t', v', G', h1, h2, h3, h4⟩
          · rw [h2]; rw [h1] at o
            exact o.non S
          · rw [h2]; rw [h1] at o
            exact o.same S h3 (fun x hx hy => dt x hx (s1 x (h4 x hy))) fun x hx => ht x (s1 x (h4 x hx))
        | cons d ds =>
          cases ds with
          | cons _ _ => simp [methT] at e
          | nil =>
            obtain ⟨y, zz, Fa, Fb, rfl, rx, rd, ef, dd⟩ := rs.two
            subst ef
            simp only [methT, Option.map_eq_some_iff] at e
            obtain ⟨kk, hk, rfl⟩ := e
            refine ⟨a, y, valV (ks.zip ws) kk, rfl, .inl ⟨_, kk, hr, keyT_rep rx hk, rfl⟩, .inr ⟨zz, rfl, ?_⟩⟩
            rcases valT_rep (k := kk) (ks := ks) r1 with ⟨h1, h2⟩ | ⟨t', v', G', h1, h2, h3, h4⟩
            · rw [h2]; rw [h1] at o
              exact o.same S (by simpa using rd) (fun x hx hy => du x hx (List.mem_append_right _ hy)) fun x hx => hu x (List.mem_append_right _ hx)
            · rw [h2]; rw [h1] at o
              exact o.same S h3 (fun x hx hy => dt x hx (s1 x (h4 x hy))) fun x hx => ht x (s1 x (h4 x hx))
    | _ => simp [methT] at e) h
end
end PT

/-! PtN: pop; looking without taking. -/
namespace PT
open PySem PySem.Spec PyProof.Rows L2
section
variable {X : Cx} {C : Cf} {W : WX} {k : Nat} {N : List Str} {sc : Scope} {K : PySem.W.Frag} {mg : Str → Option Value} {σ : Sl} {H : Hp}
/-- the last item and the others -/
theorem RepL.last {Z : Addr → Prop} : ∀ {ts : List T} {vs : List V} {F : List Addr} {t : T}, RepL K H Z ts vs F → ts.getLast? = some t →
    ∃ v Fl Fd, vs[vs.length - 1]? = some v ∧ RepL K H Z ts.dropLast vs.dropLast Fd ∧ Rep K H Z t v Fl ∧ Dj Fd Fl ∧ ∀ x, x ∈ F ↔ x ∈ Fd ∨ x ∈ Fl := by
  intro ts
  induction ts with
  | nil => intro vs F t r h; cases h
  | cons x ts ih =>
    intro vs F t r h
    cases r with
    | cons x v Fx ts vs G r q d =>
      cases ts with
      | nil =>
        cases q
        cases h
        exact ⟨v, Fx, [], rfl, .nil, r, Dj.nilL, by simp⟩
      | cons y ys =>
        have h2 : (y :: ys).getLast? = some t := by simpa [List.getLast?_cons_cons] using h
        obtain ⟨w, Fl, Fd, h3, h4, h5, h6, h7⟩ := ih q h2
        cases vs with
        | nil => cases q
        | cons v2 vs =>
          refine ⟨w, Fl, Fx ++ Fd, by simpa using h3, ?_, h5, fun a ha hb => ?_, fun a => ?_⟩
          · have := RepL.cons x v Fx _ _ Fd r h4 fun a ha hb => d a ha ((h7 a).mpr (.inl hb))
            simpa using this
          · rcases List.mem_append.mp ha with z | z
            · exact d a z ((h7 a).mpr (.inr hb))
            · exact h6 a z hb
          · simp only [List.mem_append, h7 a]
            constructor
            · rintro (z | z | z)
              · exact .inl (.inl z)
              · exact .inl (.inr z)
              · exact .inr z
            · rintro ((z | z) | z)
              · exact .inl z
              · exact .inr (.inl z)
              · exact .inr (.inr z)
/-- an owned object in slot i is written -/
theorem slot_write {e : Env} {Z : Addr → Prop} {F : List Addr} {i : Nat} {k : Kd} {ts : List T} (re : RepE K H Z e σ F) (ok : Okk H Z F) (q : e[i]? = some (some (.node true k ts))) :
    ∃ a vs o F0 Fr, σ[i]? = some (some (.ref a)) ∧ H a = some o ∧ HoIs k vs o ∧ RepL K H Z ts vs F0 ∧ a ∉ F0 ∧ a ∈ F ∧ (∀ x, x ∈ F0 → x ∈ F) ∧ Dj F0 Fr ∧ a ∉ Fr ∧
      (∀ x, x ∈ F ↔ x = a ∨ x ∈ F0 ∨ x ∈ Fr) ∧ Mk k ∧
      ∀ (k2 : Kd) (ts2 : List T) (vs2 : List V) (o2 : HO) (F2 : List Addr) (Z2 : Addr → Prop), Mk k2 → HoIs k2 vs2 o2 → RepL K H Z2 ts2 vs2 F2 → (∀ x, Z x → Z2 x) → (¬ Z2 a) → (∀ x, x ∈ Fr → ¬ Z2 x) → a ∉ F2 → Dj F2 Fr → (∀ x, Z2 x → x ≠ a) →
        ∃ F3, RepE K (upd H a o2) Z2 (e.set i (some (.node true k2 ts2))) σ F3 ∧ ∀ x, x ∈ F3 ↔ x = a ∨ x ∈ F2 ∨ x ∈ Fr := by
  obtain ⟨Fi, Fr, h1, h2, h3, h4, _⟩ := re.at i (get_lt q)
  rw [q] at h3
  obtain ⟨v, e1, r⟩ := h3
  cases r with
  | own k ts a vs o F0 m ea ho r n =>
    have hF : ∀ x, x ∈ F ↔ x = a ∨ x ∈ F0 ∨ x ∈ Fr := fun x => by
      rw [h1 x, List.mem_cons]
      constructor
      · rintro ((z | z) | z)
        · exact .inl z
        · exact .inr (.inl z)
        · exact .inr (.inr z)
      · rintro (z | z | z)
        · exact .inl (.inl z)
        · exact .inl (.inr z)
        · exact .inr z
    refine ⟨a, vs, o, F0, Fr, e1, ea, ho, r, n, (hF a).mpr (.inl rfl), fun x hx => (hF x).mpr (.inr (.inl hx)), fun x hx hy => h2 x (List.mem_cons_of_mem _ hx) hy, h2 a List.mem_cons_self, hF, m, ?_⟩
    intro k2 ts2 vs2 o2 F2 Z2 m2 ho2 r2 zz na nr naF d2 nza
    have ez : ∀ x, Z2 x → upd H a o2 x = H x := fun x hx => upd_ne (nza x hx)
    have e2 : ∀ x, x ∈ F2 → upd H a o2 x = H x := fun x hx => upd_ne fun z => naF (z ▸ hx)
    obtain ⟨F3, k1, k3⟩ := h4 (upd H a o2) Z2 (.node true k2 ts2) (.ref a) (a :: F2) (fun x hx => upd_ne fun z => h2 a List.mem_cons_self (z ▸ hx)) (fun x hx => ez x (zz x hx)) zz
      (.own k2 ts2 a vs2 o2 F2 m2 upd_same ho2 (r2.keep e2 ez fun _ z => z) naF) (fun x hx hy => by
        rcases List.mem_cons.mp hx with z | z
        · exact h2 a List.mem_cons_self (z ▸ hy)
        · exact d2 x z hy)
    rw [set_self e1] at k3
    refine ⟨F3, k3, fun x => ?_⟩
    rw [k1 x, List.mem_cons]
    constructor
    · rintro ((z | z) | z)
      · exact .inl z
      · exact .inr (.inl z)
      · exact .inr (.inr z)
    · rintro (z | z | z)
      · exact .inl (.inl z)
      · exact .inl (.inr z)
      · exact .inr z
theorem k_pop {i : Nat} {Q : VK} (h : semE K mg W (ev C (.pop i)) σ H Q) : tBM0 K "list" rPop (tVar i) σ H Q := by
  obtain ⟨e, Z, F, re, ok, po⟩ := h
  have po0 : Post K mg (aT K) W σ H Z F (popE i e) Q := by simpa only [ev] using po
  unfold popE at po0
  split at po0
  · rename_i ts q
    split at po0
    · rename_i t hl
      obtain ⟨a, vs, o, F0, Fr, e1, ea, ho, r, n, ha, h0, hd, hr, hF, m, wr⟩ := slot_write re ok q
      have h2 : o = .lst vs := ho
      subst h2
      obtain ⟨v, Fl, Fd, g1, g2, g3, g4, g5⟩ := r.last hl
      have naZ : ∀ x, Z x → x ≠ a := fun x hx z => ok.zf a ha (z ▸ hx)
      obtain ⟨F3, k1, k2⟩ := wr .lst _ _ (.lst vs.dropLast) Fd Z True.intro rfl g2 (fun _ z => z) (ok.zf a ha) (fun x hx => ok.zf x ((hF x).mpr (.inr (.inr hx)))) (fun z => n ((g5 a).mpr (.inl z))) (fun x hx hy => hd x ((g5 x).mpr (.inl hx)) hy) naZ
      have el : ∀ x, x ∈ Fl → upd H a (.lst vs.dropLast) x = H x := fun x hx => upd_ne fun z => n ((g5 a).mpr (.inr (z ▸ hx)))
      have ez : ∀ x, Z x → upd H a (.lst vs.dropLast) x = H x := fun x hx => upd_ne (naZ x hx)
      have all : ∀ x, x ∈ F3 ++ Fl → x ∈ F := fun x hx => by
        rcases List.mem_append.mp hx with z | z
        · rcases (k2 x).mp z with z | z | z
          · exact (hF x).mpr (.inl z)
          · exact (hF x).mpr (.inr (.inl ((g5 x).mpr (.inl z))))
          · exact (hF x).mpr (.inr (.inr z))
        · exact (hF x).mpr (.inr (.inl ((g5 x).mpr (.inr z))))
      refine ⟨.ref a, e1, .inl ⟨rfl, vs, SqL.of ea⟩, a, vs, v, rfl, rfl, ea, g1, ?_⟩
      refine po0 v _ Z F3 Fl k1 (g3.keep el ez fun _ z => z) (fun x hx hy => ?_) ⟨fun x hx => ok.zf x (all x hx), fun x z => by rw [ez x z]; exact ok.zd x z⟩ (Step.set ha all)
      rcases (k2 x).mp hx with z | z | z
      · exact n ((g5 a).mpr (.inr (z ▸ hy)))
      · exact g4 x z hy
      · exact hd x ((g5 x).mpr (.inr hy)) z
    · exact po0.elim
  · exact po0.elim

/-! ### looking without taking -/
def RoOk (K : PySem.W.Frag) (H : Hp) (Z : Addr → Prop) (e : Env) (σ : Sl) (F : List Addr) (m : List Bool) : Prop := ∃ Fm Fr, (∀ a, a ∈ F ↔ a ∈ Fm ∨ a ∈ Fr) ∧ Dj Fm Fr ∧
    (∀ Z' : Addr → Prop, (∀ a, Z a → Z' a) → (∀ a, a ∈ Fm → Z' a) → RepE K H Z' (roE m e) σ []) ∧
    (∀ (H' : Hp) (Z' : Addr → Prop), (∀ a, a ∈ F → H' a = H a) → (∀ a, Z a → H' a = H a) → (∀ a, Z a → Z' a) → (∀ a, a ∈ Fm → Z' a) → ∃ F', (∀ a, a ∈ F' ↔ a ∈ Fr) ∧ RepE K H' Z' (frE m e) σ F')
theorem roE_ok {Z : Addr → Prop} {e : Env} {F : List Addr} (re : RepE K H Z e σ F) : ∀ m : List Bool, RoOk K H Z e σ F m := by
  induction re with
  | nil =>
    intro m
    refine ⟨[], [], by simp, Dj.nilL, fun Z' _ _ => ?_, fun H' Z' _ _ _ _ => ⟨[], by simp, ?_⟩⟩
    · cases m with
      | nil => exact .nil
      | cons b m => cases b <;> exact .nil
    · cases m with
      | nil => exact .nil
      | cons b m => cases b <;> exact .nil
  | un o e s F r ih =>
    intro m
    have go : ∀ m2 : List Bool, (∀ e2 : Env, roE m (none :: e2) = none :: roE m2 e2) → (∀ e2 : Env, frE m (none :: e2) = none :: frE m2 e2) → RoOk K H Z (none :: e) (o :: s) F m := fun m2 h1 h2 => by
      obtain ⟨Fm, Fr, g1, g2, g3, g4⟩ := ih m2
      refine ⟨Fm, Fr, g1, g2, fun Z' a b => ?_, fun H' Z' a b c d => ?_⟩
      · rw [h1]
        exact .un o _ _ _ (g3 Z' a b)
      · obtain ⟨F', k1, k2⟩ := g4 H' Z' a b c d
        rw [h2]
        exact ⟨F', k1, .un o _ _ _ k2⟩
    cases m with
    | nil => exact go [] (fun _ => rfl) (fun e2 => by cases e2 <;> rfl)
    | cons b m => cases b <;> exact go m (fun _ => rfl) (fun _ => rfl)
  | pt t v Fv e s F q r d ih =>
    intro m
    cases m with
    | nil =>
      obtain ⟨Fm, Fr, g1, g2, g3, g4⟩ := ih []
      refine ⟨Fm, Fv ++ Fr, fun a => ?_, Dj.app (fun a ha hb => d a hb ((g1 a).mpr (.inl ha))) g2, fun Z' a b => .un _ _ _ _ (g3 Z' a b), fun H' Z' a b c z => ?_⟩
      · simp only [List.mem_append, g1 a]
        constructor
        · rintro (z | z | z)
          · exact .inr (.inl z)
          · exact .inl z
          · exact .inr (.inr z)
        · rintro (z | z | z)
          · exact .inr (.inl z)
          · exact .inl z
          · exact .inr (.inr z)
      · obtain ⟨F', k1, k2⟩ := g4 H' Z' (fun x hx => a x (List.mem_append_right _ hx)) b c z
        have e0 : frE [] e = e := by cases e <;> rfl
        rw [e0] at k2
        refine ⟨Fv ++ F', fun x => by simp only [List.mem_append, k1 x], ?_⟩
        show RepE K H' Z' (some t :: e) (some v :: s) (Fv ++ F')
        exact .pt t v Fv _ _ F' (q.keep (fun x hx => a x (List.mem_append_left _ hx)) b c) k2 fun x hx hy => d x hx ((g1 x).mpr (.inr ((k1 x).mp hy)))
    | cons b m =>
      obtain ⟨Fm, Fr, g1, g2, g3, g4⟩ := ih m
      cases b with
      | true =>
        refine ⟨Fv ++ Fm, Fr, fun a => by simp only [List.mem_append, g1 a, or_assoc], Dj.appL (fun a ha hb => d a ha ((g1 a).mpr (.inr hb))) g2, fun Z' a b => ?_, fun H' Z' a b c z => ?_⟩
        · exact .pt (frz t) v [] _ _ [] (q.frz (fun x hx => b x (List.mem_append_left _ hx)) a) (g3 Z' a fun x hx => b x (List.mem_append_right _ hx)) Dj.nilL
        · obtain ⟨F', k1, k2⟩ := g4 H' Z' (fun x hx => a x (List.mem_append_right _ hx)) b c fun x hx => z x (List.mem_append_right _ hx)
          refine ⟨F', k1, ?_⟩
          have q2 : Rep K H' Z t v Fv := q.keep (fun x hx => a x (List.mem_append_left _ hx)) b fun _ z => z
          exact .pt (frz t) v [] _ _ F' (q2.frz (fun x hx => z x (List.mem_append_left _ hx)) c) k2 Dj.nilL
      | false =>
        refine ⟨Fm, Fv ++ Fr, fun a => ?_, Dj.app (fun a ha hb => d a hb ((g1 a).mpr (.inl ha))) g2, fun Z' a b => .un _ _ _ _ (g3 Z' a b), fun H' Z' a b c z => ?_⟩
        · simp only [List.mem_append, g1 a]
          constructor
          · rintro (z | z | z)
            · exact .inr (.inl z)
            · exact .inl z
            · exact .inr (.inr z)
          · rintro (z | z | z)
            · exact .inr (.inl z)
            · exact .inl z
            · exact .inr (.inr z)
        · obtain ⟨F', k1, k2⟩ := g4 H' Z' (fun x hx => a x (List.mem_append_right _ hx)) b c z
          refine ⟨Fv ++ F', fun x => by simp only [List.mem_append, k1 x], ?_⟩
          show RepE K H' Z' (some t :: frE m e) (some v :: s) (Fv ++ F')
          exact .pt t v Fv _ _ F' (q.keep (fun x hx => a x (List.mem_append_left _ hx)) b c) k2 fun x hx hy => d x hx ((g1 x).mpr (.inr ((k1 x).mp hy)))
theorem noShX_L {x : Exn} (h : noShX x = true) : noShL (x.fs.map (·.2)) = true := by
  unfold noShX at h
  generalize x.fs = l at h
  induction l with
  | nil => rfl
  | cons p l ih =>
    simp only [List.all_cons, Bool.and_eq_true] at h
    simp only [List.map_cons, noShL, Bool.and_eq_true]
    exact ⟨h.1, ih h.2⟩
theorem s_ro {m : List Bool} {f : Env → R T} {Q : VK} (h : semE K mg W (fun e => roEnd m e (f (roE m e))) σ H Q) : semE K mg W f σ H Q := by
  obtain ⟨e, Z, F, re, ok, po⟩ := h
  have po0 : Post K mg (aT K) W σ H Z F (roEnd m e (f (roE m e))) Q := po
  obtain ⟨Fm, Fr, h1, h2, h3, h4⟩ := roE_ok re m
  have inF : ∀ a, a ∈ Fm → a ∈ F := fun a ha => (h1 a).mpr (.inl ha)
  refine ⟨roE m e, fun a => Z a ∨ a ∈ Fm, [], h3 _ (fun _ z => .inl z) (fun _ z => .inr z), ⟨fun _ z => absurd z (by simp), fun a z => z.elim (ok.zd a) fun z => re.dom a (inF a z)⟩, ?_⟩
  -- what a step from the frozen state leaves
  have fact : ∀ {H2 : Hp} {Z2 : Addr → Prop} {F2 : List Addr}, Step H (fun a => Z a ∨ a ∈ Fm) [] H2 Z2 F2 → (∀ a, a ∈ F → H2 a = H a ∧ a ∉ F2) ∧ (∀ a, Z a → H2 a = H a) ∧ (∀ a, a ∈ Fr → ¬ Z2 a) ∧ (∀ a, Z a → Z2 a) ∧ (∀ a, a ∈ Fm → Z2 a) := fun {H2 Z2 F2} st => by
    refine ⟨fun a ha => ?_, fun a z => ?_, fun a ha z => ?_, fun a z => st.1 a (.inl z), fun a z => st.1 a (.inr z)⟩
    · obtain ⟨g1, g2, _⟩ := st.2 a (re.dom a ha) (by simp)
      exact ⟨g1, g2⟩
    · exact (st.2 a (ok.zd a z) (by simp)).1
    · rcases (st.2 a (re.dom a ((h1 a).mpr (.inr ha))) (by simp)).2.2 z with z | z
      · exact ok.zf a ((h1 a).mpr (.inr ha)) z
      · exact h2 a z ha
  cases q : f (roE m e) with
  | fail => rw [q] at po0; exact po0
  | exc y e2 =>
    rw [q] at po0
    simp only [roEnd] at po0
    split at po0
    · rename_i hn
      intro cls d H2 Z2 F2 re2 xr ok2 st
      obtain ⟨f1, f2, f3, f4, f5⟩ := fact st
      have less : ∀ a, Z2 a → (∀ o, H2 a = some o → ¬ IsMut o) → Z2 a ∧ a ∉ Fm := fun a z nm => ⟨z, fun ha => by
        obtain ⟨o, e1, mu⟩ := re.muts a (inF a ha)
        exact nm o ((f1 a (inF a ha)).1.trans e1) mu⟩
      refine po0 cls d H2 (fun a => Z2 a ∧ a ∉ Fm) F (re.keep (fun a ha => (f1 a ha).1) f2 fun a z => ⟨f4 a z, fun ha => ok.zf a (inF a ha) z⟩) ?_ ⟨fun a ha z => ?_, fun a z => ok2.zd a z.1⟩ ⟨fun a z => ⟨f4 a z, fun ha => ok.zf a (inF a ha) z⟩, fun a ha hn => ⟨(st.2 a ha (by simp)).1, hn, fun z => ?_⟩⟩
      · obtain ⟨Cc, c1, c2, c3⟩ := xr
        refine ⟨Cc, c1, c2, ?_⟩
        rcases c3 with c3 | ⟨c3, dd, vs, d1, d2, d3, d4⟩
        · exact .inl c3
        · exact .inr ⟨c3, dd, vs, d1, less dd d2 (fun o e1 => by rw [d3] at e1; cases e1; exact fun z => z), d3, d4.less (noShX_L hn) less⟩
      · rcases (h1 a).mp ha with w | w
        · exact z.2 w
        · exact f3 a w z.1
      · rcases (st.2 a ha (by simp)).2.2 z.1 with w | w
        · exact w
        · exact absurd (inF a w) hn
    · exact po0.elim
  | ok t e2 =>
    rw [q] at po0
    simp only [roEnd] at po0
    intro v H2 Z2 F2 Ft re2 rt dj ok2 st
    obtain ⟨f1, f2, f3, f4, f5⟩ := fact st
    have nFt : ∀ a, a ∈ F → a ∉ Ft := fun a ha hb => (f1 a ha).2 (List.mem_append_right _ hb)
    split at po0
    · rename_i hn
      have less : ∀ a, Z2 a → (∀ o, H2 a = some o → ¬ IsMut o) → Z2 a ∧ a ∉ Fm := fun a z nm => ⟨z, fun ha => by
        obtain ⟨o, e1, mu⟩ := re.muts a (inF a ha)
        exact nm o ((f1 a (inF a ha)).1.trans e1) mu⟩
      refine po0 v H2 (fun a => Z2 a ∧ a ∉ Fm) F Ft (re.keep (fun a ha => (f1 a ha).1) f2 fun a z => ⟨f4 a z, fun ha => ok.zf a (inF a ha) z⟩) (rt.less hn less) nFt ⟨fun a ha z => ?_, fun a z => ok2.zd a z.1⟩ ⟨fun a z => ⟨f4 a z, fun ha => ok.zf a (inF a ha) z⟩, fun a ha hn => ⟨(st.2 a ha (by simp)).1, fun hb => ?_, fun z => ?_⟩⟩
      · rcases List.mem_append.mp ha with ha | ha
        · rcases (h1 a).mp ha with w | w
          · exact z.2 w
          · exact f3 a w z.1
        · exact ok2.zf a (List.mem_append_right _ ha) z.1
      · rcases List.mem_append.mp hb with hb | hb
        · exact hn hb
        · exact (st.2 a ha (by simp)).2.1 (List.mem_append_right _ hb)
      · rcases (st.2 a ha (by simp)).2.2 z.1 with w | w
        · exact w
        · exact absurd (inF a w) hn
    · obtain ⟨F', k1, k2⟩ := h4 H2 (fun a => Z2 a ∨ a ∈ Ft) (fun a ha => (f1 a ha).1) f2 (fun a z => .inl (f4 a z)) (fun a z => .inl (f5 a z))
      have nF' : ∀ a, a ∈ F' → a ∈ F := fun a ha => (h1 a).mpr (.inr ((k1 a).mp ha))
      refine po0 v H2 (fun a => Z2 a ∨ a ∈ Ft) F' [] k2 (rt.frz (fun a ha => .inr ha) fun _ z => .inl z) Dj.nilR ⟨fun a ha z => ?_, fun a z => ?_⟩ ⟨fun a z => .inl (f4 a z), fun a ha hn => ⟨(st.2 a ha (by simp)).1, fun hb => ?_, fun z => ?_⟩⟩
      · rw [List.append_nil] at ha
        rcases z with z | z
        · exact f3 a ((k1 a).mp ha) z
        · exact nFt a (nF' a ha) z
      · exact z.elim (ok2.zd a) fun z => rt.dom a z
      · rw [List.append_nil] at hb
        exact hn (nF' a hb)
      · rcases z with z | z
        · rcases (st.2 a ha (by simp)).2.2 z with w | w
          · exact w
          · exact absurd (inF a w) hn
        · exact absurd (List.mem_append_right _ z) (st.2 a ha (by simp)).2.1
theorem k_ro {m : List Bool} {x : E} {Q : VK} (h : semE K mg W (ev C (.ro m x)) σ H Q) : semE K mg W (ev C x) σ H Q := by
  have e0 : ev C (.ro m x) = fun e => roEnd m e (ev C x (roE m e)) := by funext e; simp only [ev]
  rw [e0] at h
  exact s_ro h
theorem frz_bool {t : T} (h : boolOf t = none) : boolOf (frz t) = none := by
  cases t <;> first | rfl | (simp [boolOf] at h; done) | simp [frz, boolOf]
theorem k_roB {m : List Bool} {x : E} {Q : Bool → Hp → Prop} (h : semB K mg W (fun e => (ev C (.ro m x) e).bindO boolOf) σ H Q) : semB K mg W (fun e => (ev C x e).bindO boolOf) σ H Q := by
  let g : Env → R T := fun e => (ev C x e).bindO fun t => (boolOf t).map .bl
  have e1 : ∀ e, ((ev C (.ro m x) e).bindO boolOf : R Bool) = (roEnd m e (g (roE m e))).bindO boolOf := fun e => by
    simp only [ev, g]
    cases ev C x (roE m e) with
    | fail => rfl
    | exc y e2 => rfl
    | ok t e2 =>
      cases q : boolOf t with
      | some b =>
        have := boolOf_some q
        subst this
        rfl
      | none =>
        have q2 := frz_bool q
        by_cases hn : noSh t = true <;> simp [R.bindO, roEnd, q, q2, hn]
  have e2 : (fun e => ((ev C (.ro m x) e).bindO boolOf : R Bool)) = fun e => (roEnd m e (g (roE m e))).bindO boolOf := funext e1
  rw [e2] at h
  obtain ⟨e, Z, F, re, ok, po⟩ := s_ro (t_of_e h)
  refine ⟨e, Z, F, re, ok, ?_⟩
  show Post K mg aB W σ H Z F ((ev C x e).bindO boolOf) Q
  cases q : ev C x e with
  | fail => simp only [g, q, R.bindO] at po; exact po
  | exc y e2 => simp only [g, q, R.bindO] at po; exact po
  | ok t e2 =>
    cases q2 : boolOf t with
    | none => simp only [g, q, q2, R.bindO, Option.map_none] at po; exact po.elim
    | some b =>
      simp only [g, q, q2, R.bindO, Option.map_some] at po ⊢
      rintro b' H' Z' F' Fa re' ⟨rfl, rfl⟩ dj ok' st
      obtain ⟨k, e3, q3⟩ := po (.bl b) H' Z' F' [] re' (.bl b) dj ok' st
      cases e3
      exact q3
end
end PT

/-! PtO: targets; what is walked. -/
namespace PT
open PySem PySem.Spec PyProof.Rows L2
theorem wipe_get {σ : Sl} : ∀ {vs : List Nat} (i : Nat), (L2.wipe σ vs)[i]? = if i ∈ vs then (σ[i]?).map (fun _ => none) else σ[i]? := by
  intro vs
  induction vs with
  | nil => intro i; simp [L2.wipe]
  | cons v vs ih =>
    intro i
    unfold L2.wipe
    rw [List.getElem?_set]
    by_cases hi : v = i
    · subst hi
      rw [if_pos rfl, if_pos List.mem_cons_self, wipe_length]
      split
      · rename_i h
        rw [List.getElem?_eq_getElem h]; rfl
      · rename_i h
        rw [List.getElem?_eq_none (by omega)]; rfl
    · rw [if_neg hi, ih i]
      by_cases h2 : i ∈ vs
      · rw [if_pos h2, if_pos (List.mem_cons_of_mem _ h2)]
      · rw [if_neg h2, if_neg fun z => (List.mem_cons.mp z).elim (fun z => hi z.symm) h2]
theorem wipe_set {σ : Sl} {vs : List Nat} {i : Nat} {o : Option V} (h : i ∈ vs) : L2.wipe (σ.set i o) vs = L2.wipe σ vs := by
  apply List.ext_getElem?
  intro j
  rw [wipe_get, wipe_get]
  by_cases hj : j ∈ vs
  · rw [if_pos hj, if_pos hj, List.getElem?_set]
    by_cases hij : i = j
    · subst hij
      rw [if_pos rfl]
      by_cases hl : i < σ.length
      · rw [if_pos hl, List.getElem?_eq_getElem hl]; rfl
      · rw [if_neg hl, List.getElem?_eq_none (by omega)]
    · rw [if_neg hij]
  · have hij : i ≠ j := by
      rintro rfl
      exact hj h
    rw [if_neg hj, if_neg hj, List.getElem?_set_ne hij]
theorem wipe_wipe {σ : Sl} {vs : List Nat} : L2.wipe (L2.wipe σ vs) vs = L2.wipe σ vs := by
  apply List.ext_getElem?
  intro j
  rw [wipe_get, wipe_get]
  by_cases hj : j ∈ vs
  · simp only [if_pos hj]
    cases σ[j]? <;> rfl
  · simp only [if_neg hj]
section
variable {X : Cx} {C : Cf} {W : WX} {k : Nat} {N : List Str} {sc s0 : Scope} {K : PySem.W.Frag} {mg : Str → Option Value} {σ : Sl} {H : Hp}
theorem wipe_ok {Z : Addr → Prop} : ∀ {own : List Nat} {e : Env} {F : List Addr}, RepE K H Z e σ F → ∃ F', RepE K H Z (wipeE e own) (L2.wipe σ own) F' ∧ ∀ x, x ∈ F' → x ∈ F := by
  intro own
  induction own with
  | nil => intro e F re; exact ⟨F, re, fun _ h => h⟩
  | cons v vs ih =>
    intro e F re
    obtain ⟨F1, r1, s1⟩ := ih re
    show ∃ F', RepE K H Z ((wipeE e vs).set v none) ((L2.wipe σ vs).set v none) F' ∧ _
    by_cases hv : v < (wipeE e vs).length
    · obtain ⟨Fi, Fr, h1, _, _, _, h5⟩ := r1.at v hv
      obtain ⟨F2, g1, g2⟩ := h5 H Z (fun _ _ => rfl) (fun _ _ => rfl) (fun _ z => z) none
      exact ⟨F2, g2, fun x hx => s1 x ((h1 x).mpr (.inr ((g1 x).mp hx)))⟩
    · rw [List.set_eq_of_length_le (by omega), List.set_eq_of_length_le (by rw [← r1.length]; omega)]
      exact ⟨F1, r1, s1⟩
theorem unset_ok {Z : Addr → Prop} {e : Env} {F : List Addr} : ∀ {σ σ' : Sl}, RepE K H Z e σ' F → σ.length = σ'.length → (∀ (i : Nat) (v : V), σ'[i]? = some (some v) → σ[i]? = some (some v)) → RepE K H Z e σ F := by
  intro σ σ' re
  induction re generalizing σ with
  | nil =>
    intro hl h
    cases σ with
    | nil => exact .nil
    | cons _ _ => simp at hl
  | un o e s F r ih =>
    intro hl h
    cases σ with
    | nil => simp at hl
    | cons o' σ => exact .un o' e σ F (ih (by simpa using hl) fun i v hv => by simpa using h (i + 1) v (by simpa using hv))
  | pt t v Fv e s F q r d ih =>
    intro hl h
    cases σ with
    | nil => simp at hl
    | cons o' σ =>
      have e0 := h 0 v rfl
      have e1 : o' = some v := by simpa using e0
      subst e1
      exact .pt t v Fv e σ F q (ih (by simpa using hl) fun i v hv => by simpa using h (i + 1) v (by simpa using hv)) d
theorem unwipe_ok {Z : Addr → Prop} {own : List Nat} {e : Env} {F : List Addr} (re : RepE K H Z e (L2.wipe σ own) F) : RepE K H Z e σ F :=
  unset_ok re (wipe_length σ own).symm fun i v hv => (L2.wipe_some hv).1

/-! ### targets -/
/-- behind a store: the slots that are not to change, those of a comprehension -/
structure Kept (P : List Bool) (own : List Nat → Bool) (σ σ2 : Sl) : Prop where
  p : ∀ i, P.getD i false = true → σ2[i]? = σ[i]?
  w : ∀ vs, own vs = true → L2.wipe σ2 vs = L2.wipe σ vs
def semG (K : PySem.W.Frag) (P : List Bool) (tg : Tg) : TG := fun v σ H Q => ∃ t e Z F Ft, Rep K H Z t v Ft ∧ RepE K H Z e σ F ∧ Dj F Ft ∧ (match asg P tg t e with
  | some e2 => ∀ σ2 F2, RepE K H Z e2 σ2 F2 → (∀ x, x ∈ F2 → x ∈ F ∨ x ∈ Ft) → Kept P (tgIn tg) σ σ2 → Q σ2 H
  | none => False)
def semGs (K : PySem.W.Frag) (P : List Bool) (tg : TgL) : TGs := fun vs σ H Q => ∃ ts e Z F Ft, RepL K H Z ts vs Ft ∧ RepE K H Z e σ F ∧ Dj F Ft ∧ (match asgL P tg ts e with
  | some e2 => ∀ σ2 F2, RepE K H Z e2 σ2 F2 → (∀ x, x ∈ F2 → x ∈ F ∨ x ∈ Ft) → Kept P (tgInL tg) σ σ2 → Q σ2 H
  | none => False)
theorem PG.imp {a : Expr} {t t' : TG} (h : PG X a t) (k : ∀ v σ H Q, t' v σ H Q → t v σ H Q) : PG X a t' := ⟨fun pins s σ H v u Q I r q => h.run pins s σ H v u Q I r (k v σ H Q q)⟩
theorem PGs.imp {a : List Expr} {t t' : TGs} (h : PGs X a t) (k : ∀ v σ H Q, t' v σ H Q → t v σ H Q) : PGs X a t' := ⟨fun pins s σ H v u Q I r q => h.run pins s σ H v u Q I r (k v σ H Q q)⟩
theorem PG.or {a : Expr} {t t' : TG} (h : PG X a t) (h' : PG X a t') : PG X a (fun v σ H Q => t v σ H Q ∨ t' v σ H Q) := ⟨fun pins s σ H v u Q I r q => q.elim (h.run pins s σ H v u Q I r) (h'.run pins s σ H v u Q I r)⟩
theorem g_name {P : List Bool} {i : Nat} (v : V) (σ : Sl) (H : Hp) (Q : Sl → Hp → Prop) (h : semG K P (.nm i) v σ H Q) : gName i v σ H Q := by
  obtain ⟨t, e, Z, F, Ft, rt, re, dj, h⟩ := h
  unfold asg at h
  split at h
  · rename_i e2 he
    split at he
    · rename_i hs
      cases he
      unfold okSlot at hs
      obtain ⟨hi, hp⟩ := Bool.and_eq_true_iff.mp hs
      have hi := of_decide_eq_true hi
      obtain ⟨Fi, Fr, h1, h2, h3, h4, _⟩ := re.at i hi
      obtain ⟨F2, g1, g2⟩ := h4 H Z t v Ft (fun _ _ => rfl) (fun _ _ => rfl) (fun _ z => z) rt (fun a ha hb => dj a ((h1 a).mpr (.inr hb)) ha)
      refine h _ F2 g2 (fun x hx => ((g1 x).mp hx).elim .inr fun z => .inl ((h1 x).mpr (.inr z))) ⟨fun j hj => ?_, fun vs hv => ?_⟩
      · refine List.getElem?_set_ne fun z => ?_
        subst z
        rw [hj] at hp
        cases hp
      · exact wipe_set (by unfold tgIn at hv; simpa using hv)
    · cases he
  · exact h.elim
theorem g_tup {P : List Bool} {ts : TgL} {n : Nat} (hn : ∀ (xs : List T) (e e2 : Env), asgL P ts xs e = some e2 → xs.length = n) (v : V) (σ : Sl) (H : Hp) (Q : Sl → Hp → Prop) (h : semG K P (.tp ts) v σ H Q) :
    gTup K n (semGs K P ts) v σ H Q ∨ gLst K n (semGs K P ts) v σ H Q := by
  obtain ⟨t, e, Z, F, Ft, rt, re, dj, h⟩ := h
  have key : ∀ {xs : List T} {vs : List V} {F' : List Addr}, asg P (.tp ts) t e = asgL P ts xs e → RepL K H Z xs vs F' → (∀ x, x ∈ F' → x ∈ Ft) → vs.length = n ∧ semGs K P ts vs σ H Q := by
    intro xs vs F' ea r s
    rw [ea] at h
    cases q : asgL P ts xs e with
    | none => rw [q] at h; exact h.elim
    | some e2 =>
      rw [q] at h
      refine ⟨by rw [← r.length]; exact hn xs e e2 q, xs, e, Z, F, F', r, re, fun x hx hy => dj x hx (s x hy), ?_⟩
      rw [q]
      exact fun σ2 F2 r2 s2 kp => h σ2 F2 r2 (fun x hx => (s2 x hx).imp id (s x)) ⟨kp.p, fun vs hv => kp.w vs (by unfold tgIn at hv; exact hv)⟩
  cases t with
  | node b kd xs =>
    cases kd with
    | lst =>
      obtain ⟨a, vs, F', rfl, e1, r, s⟩ := rt.lst
      obtain ⟨k1, k2⟩ := key (by cases b <;> rfl) r s
      exact .inr ⟨a, vs, rfl, SqL.of e1, k1, k2⟩
    | klst =>
      obtain ⟨a, vs, rfl, e1, r⟩ := rt.klst
      obtain ⟨k1, k2⟩ := key (by cases b <;> rfl) r fun _ h => h
      exact .inr ⟨a, vs, rfl, e1, k1, k2⟩
    | tup =>
      obtain ⟨a, vs, rfl, e1, r⟩ := rt.tupl
      obtain ⟨k1, k2⟩ := key (by cases b <;> rfl) r fun _ h => h
      exact .inl ⟨a, vs, rfl, e1, k1, k2⟩
    | dic ks => simp only [asg] at h
    | dtu ks => simp only [asg] at h
  | _ => simp only [asg] at h
theorem g_cons {P : List Bool} {t : Tg} {r : TgL} (vs : List V) (σ : Sl) (H : Hp) (Q : Sl → Hp → Prop) (h : semGs K P (.cons t r) vs σ H Q) : gCons (semG K P t) (semGs K P r) vs σ H Q := by
  obtain ⟨ts, e, Z, F, Ft, rt, re, dj, h⟩ := h
  cases ts with
  | nil => simp only [asgL] at h
  | cons x xs =>
    cases rt with
    | cons x v Fx xs vs' G r1 r2 d =>
      simp only [asgL] at h
      cases q : asg P t x e with
      | none => rw [q] at h; exact h.elim
      | some e1 =>
        rw [q] at h
        refine ⟨v, vs', rfl, x, e, Z, F, Fx, r1, re, fun a ha hb => dj a ha (List.mem_append_left _ hb), ?_⟩
        rw [q]
        intro σ2 F2 re2 s2 kp
        refine ⟨xs, e1, Z, F2, G, r2, re2, fun a ha hb => (s2 a ha).elim (fun z => dj a z (List.mem_append_right _ hb)) fun z => d a z hb, ?_⟩
        cases q2 : asgL P r xs e1 with
        | none => simp only [q2] at h
        | some e2 =>
          simp only [q2] at h
          intro σ3 F3 re3 s3 kp3
          refine h σ3 F3 re3 (fun a ha => ?_) ⟨fun i hi => (kp3.p i hi).trans (kp.p i hi), fun vs hv => ?_⟩
          · rcases s3 a ha with z | z
            · exact (s2 a z).imp id fun z => List.mem_append_left _ z
            · exact .inr (List.mem_append_right _ z)
          · unfold tgInL at hv
            obtain ⟨a1, a2⟩ := Bool.and_eq_true_iff.mp hv
            exact (kp3.w vs a2).trans (kp.w vs a1)
theorem asgL_len {P : List Bool} : ∀ {ts : TgL} {xs : List T} {e e2 : Env} {es : List Expr} , asgL P ts xs e = some e2 → mTgL N sc ts es = true → xs.length = es.length
  | .nil, xs, e, e2, es, h, m => by
    cases xs with
    | nil => cases es with
      | nil => rfl
      | cons _ _ => simp [mTgL] at m
    | cons _ _ => simp [asgL] at h
  | .cons t r, xs, e, e2, es, h, m => by
    cases xs with
    | nil => simp [asgL] at h
    | cons x xs =>
      cases es with
      | nil => simp [mTgL] at m
      | cons y ys =>
        simp only [asgL] at h
        simp only [mTgL, Bool.and_eq_true] at m
        cases q : asg P t x e with
        | none => rw [q] at h; cases h
        | some e1 =>
          rw [q] at h
          simp only [List.length_cons]
          rw [asgL_len (ts := r) h m.2]
/-- a target is no starred one -/
theorem mTg_plain {t : Tg} {e : Expr} (h : mTg N sc t e = true) : ∀ (es : List Expr) (env : PySem.Env), assignEach (e :: es) env = (false, assign e env) :: assignEach es env := by
  cases t <;> cases e <;> first | (simp [mTg] at h; done) | (intro es env; rfl)
theorem mTgL_each : ∀ {ts : TgL} {es : List Expr} (env : PySem.Env), mTgL N sc ts es = true → (assignEach es env).length = es.length ∧ (assignEach es env).findIdx? (·.1) = none
  | .nil, es, env, h => by
    cases es with
    | nil => exact ⟨rfl, rfl⟩
    | cons _ _ => simp [mTgL] at h
  | .cons t r, es, env, h => by
    cases es with
    | nil => simp [mTgL] at h
    | cons e es =>
      simp only [mTgL, Bool.and_eq_true] at h
      obtain ⟨h1, h2⟩ := mTgL_each (ts := r) env h.2
      rw [mTg_plain h.1 es env]
      refine ⟨by simp [h1], ?_⟩
      rw [List.findIdx?_cons]
      simp [h2]
mutual
theorem p_tg (c : Kx C W k N sc X) (ht : ∀ x, locB s0 x = true → Loc X.env.scope x ∧ (X.fn x = true ∨ X.env.scope.names.lookup x = some .local)) : ∀ {t : Tg} {e : Expr}, mTg N s0 t e = true → PG X e (semG X.K C.P t)
  | .nm i, e, h => by
    cases e <;> first | (simp [mTg] at h; done) | skip
    rename_i x pos
    simp only [mTg, Bool.and_eq_true] at h
    obtain ⟨h1, h2⟩ := h
    exact PG.imp (pg_name (by rw [c.hN]; exact c.nd) (by rw [c.hN]; exact nm_of h1) (ht x h2).1 (ht x h2).2) g_name
  | .tp ts, e, h => by
    cases e <;> first | (simp [mTg] at h; done) | skip
    rename_i es kk pos
    simp only [mTg] at h
    obtain ⟨h1, h2⟩ := mTgL_each X.env h
    have g := p_tgs c ht h
    exact PG.imp (PG.or (pg_tup c.calm g h1 h2) (pg_lst c.calm g h1 h2)) (g_tup fun xs e e2 q => asgL_len q h)
theorem p_tgs (c : Kx C W k N sc X) (ht : ∀ x, locB s0 x = true → Loc X.env.scope x ∧ (X.fn x = true ∨ X.env.scope.names.lookup x = some .local)) : ∀ {ts : TgL} {es : List Expr}, mTgL N s0 ts es = true → PGs X es (semGs X.K C.P ts)
  | .nil, es, h => by
    cases es with
    | nil =>
      refine PGs.imp pgs_nil fun vs σ H Q h => ?_
      obtain ⟨ts, e, Z, F, Ft, rt, re, dj, h⟩ := h
      cases ts with
      | nil =>
        cases rt
        exact ⟨rfl, h σ F re (fun _ h => .inl h) ⟨fun _ _ => rfl, fun _ _ => rfl⟩⟩
      | cons _ _ => simp only [asgL] at h
    | cons _ _ => simp [mTgL] at h
  | .cons t r, es, h => by
    cases es with
    | nil => simp [mTgL] at h
    | cons e es =>
      simp only [mTgL, Bool.and_eq_true] at h
      refine PGs.imp (pgs_cons (p_tg c ht h.1) (p_tgs c ht h.2) ?_) g_cons
      rw [mTg_plain h.1 es X.env]
      rfl
end
end
end PT

/-! PtP: what is walked. -/
namespace PT
open PySem PySem.Spec PyProof.Rows L2
/-- an iterator that yields these trees, while what is locked stands -/
def aI (K : PySem.W.Frag) : RA (List T) L2.It := fun H Z items J F => F = [] ∧ ∀ (H1 : Hp) (Z1 : Addr → Prop), (∀ a, Z a → H1 a = H a) → (∀ a, Z a → Z1 a) → (∀ a, Z1 a → (H1 a).isSome = true) →
  (∀ i t, items[i]? = some t → J.go i H1 ∧ ∀ x H2, J.yld i H1 x H2 → ∃ Z2, Step H1 Z1 [] H2 Z2 [] ∧ (∀ a, Z2 a → (H2 a).isSome = true) ∧ Rep K H2 Z2 t x []) ∧ ∀ i, items.length ≤ i → J.stop i H1
section
variable {X : Cx} {C : Cf} {W : WX} {k : Nat} {N : List Str} {sc : Scope} {K : PySem.W.Frag} {mg : Str → Option Value} {σ : Sl} {H : Hp}
abbrev semI (K : PySem.W.Frag) (mg : Str → Option Value) (W : WX) (f : Env → R (List T)) : TI := sem K mg (aI K) W f
theorem same_step {Z : Addr → Prop} : Step H Z [] H Z [] := Step.refl fun _ h => h
/-- a locked list, a locked tuple -/
theorem Rep.sqZ {Z : Addr → Prop} {ts : List T} {v : V} {kd : Kd} (r : Rep K H Z (.node false kd ts) v []) (hk : kd = .lst ∨ kd = .klst) : ∃ a vs, v = .ref a ∧ RepL K H Z ts vs [] ∧ ∀ H1 : Hp, (∀ a, Z a → H1 a = H a) → SqL K H1 a vs := by
  have go : ∀ {a : Addr} {vs : List V}, Shr K H Z a kd vs → ∀ H1 : Hp, (∀ a, Z a → H1 a = H a) → SqL K H1 a vs := fun {a vs} s H1 h => by
    have s1 : Shr K H1 Z a kd vs := s.keep h fun _ z => z
    rcases hk with rfl | rfl
    · exact SqL.of s1.sqL
    · exact s1.sq
  cases r with
  | shr k ts a vs s r => exact ⟨a, vs, rfl, r, go s⟩
  | tup ts a vs F s r => rcases hk with h | h <;> cases h
theorem Rep.sqTZ {Z : Addr → Prop} {ts : List T} {v : V} (r : Rep K H Z (.node false .tup ts) v []) : ∃ a vs, v = .ref a ∧ RepL K H Z ts vs [] ∧ ∀ H1 : Hp, (∀ a, Z a → H1 a = H a) → SqT K H1 a vs := by
  cases r with
  | shr k ts a vs s r => exact ⟨a, vs, rfl, r, fun H1 h => (s.keep (Z' := Z) h fun _ z => z).sqT⟩
  | tup ts a vs F s r => exact ⟨a, vs, rfl, r, fun H1 h => (s.keep (Z' := Z) h fun _ z => z).sqT⟩
theorem keepL0 {H1 : Hp} {Z Z1 : Addr → Prop} {t : T} {v : V} (r : Rep K H Z t v []) (h : ∀ a, Z a → H1 a = H a) (zz : ∀ a, Z a → Z1 a) : Rep K H1 Z1 t v [] := r.keep (fun _ h => absurd h (by simp)) h zz
theorem it_list {Z : Addr → Prop} {ts : List T} {a : Addr} {vs : List V} (r : RepL K H Z ts vs []) (hs : ∀ H1 : Hp, (∀ a, Z a → H1 a = H a) → SqL K H1 a vs) : aI K H Z ts (Itl K a) [] := by
  refine ⟨rfl, fun H1 Z1 h1 z1 d1 => ⟨fun i t ht => ?_, fun i hi => ⟨vs, hs H1 h1, by rw [← r.length]; exact hi⟩⟩⟩
  obtain ⟨v, e, rv⟩ := r.at ht
  refine ⟨⟨vs, v, hs H1 h1, e⟩, fun x H2 y => ?_⟩
  obtain ⟨rfl, y⟩ := y
  have ex := y vs (hs _ h1)
  rw [e] at ex
  cases ex
  exact ⟨Z1, same_step, d1, keepL0 rv h1 z1⟩
theorem it_tup {Z : Addr → Prop} {ts : List T} {a : Addr} {vs : List V} (r : RepL K H Z ts vs []) (hs : ∀ H1 : Hp, (∀ a, Z a → H1 a = H a) → SqT K H1 a vs) : aI K H Z ts (Itt K a) [] := by
  refine ⟨rfl, fun H1 Z1 h1 z1 d1 => ⟨fun i t ht => ?_, fun i hi => ⟨vs, hs H1 h1, by rw [← r.length]; exact hi⟩⟩⟩
  obtain ⟨v, e, rv⟩ := r.at ht
  refine ⟨⟨vs, v, hs H1 h1, e⟩, fun x H2 y => ?_⟩
  obtain ⟨rfl, y⟩ := y
  have ex := y vs (hs _ h1)
  rw [e] at ex
  cases ex
  exact ⟨Z1, same_step, d1, keepL0 rv h1 z1⟩
theorem it_rng {Z : Addr → Prop} {lo : Int} {n : Nat} : aI K H Z (rngT lo n) (Itr lo n) [] := by
  refine ⟨rfl, fun H1 Z1 h1 z1 d1 => ⟨fun i t ht => ?_, fun i hi => by unfold rngT at hi; exact (by simpa using hi : n ≤ i)⟩⟩
  unfold rngT at ht
  rw [List.getElem?_map] at ht
  cases q : (List.range n)[i]? with
  | none => rw [q] at ht; cases ht
  | some j =>
    rw [q] at ht
    cases ht
    have hj : i < n ∧ j = i := by
      have h := List.getElem?_eq_some_iff.mp q
      obtain ⟨h1, h2⟩ := h
      exact ⟨by simpa using h1, by rw [← h2]; simp⟩
    obtain ⟨h2, rfl⟩ := hj
    refine ⟨h2, fun x H2 y => ?_⟩
    obtain ⟨rfl, rfl⟩ := y
    exact ⟨Z1, same_step, d1, .int _⟩
theorem enumT_get {n : Nat} : ∀ {ts : List T} {i : Nat} {t : T}, (enumT n ts)[i]? = some t → ∃ x, ts[i]? = some x ∧ t = .node false .tup [.int ((n + i : Nat) : Int), x] := by
  intro ts
  induction ts generalizing n with
  | nil => intro i t h; cases h
  | cons x xs ih =>
    intro i t h
    cases i with
    | zero => cases h; exact ⟨x, rfl, rfl⟩
    | succ i =>
      obtain ⟨y, h1, h2⟩ := ih (n := n + 1) (by simpa [enumT] using h)
      refine ⟨y, by simpa using h1, ?_⟩
      rw [h2]
      have : n + 1 + i = n + (i + 1) := by omega
      rw [this]
theorem enumT_len {n : Nat} : ∀ {ts : List T}, (enumT n ts).length = ts.length := by
  intro ts
  induction ts generalizing n with
  | nil => rfl
  | cons x xs ih => simp [enumT, ih]
theorem zipT_get : ∀ {as bs : List T} {i : Nat} {t : T}, (zipT as bs)[i]? = some t → ∃ x y, as[i]? = some x ∧ bs[i]? = some y ∧ t = .node false .tup [x, y] := by
  intro as
  induction as with
  | nil => intro bs i t h; cases bs <;> cases h
  | cons a as ih =>
    intro bs i t h
    cases bs with
    | nil => cases h
    | cons b bs =>
      cases i with
      | zero => cases h; exact ⟨a, b, rfl, rfl, rfl⟩
      | succ i => exact ih (by simpa [zipT] using h)
theorem zipT_len : ∀ {as bs : List T}, (zipT as bs).length = min as.length bs.length := by
  intro as
  induction as with
  | nil => intro bs; cases bs <;> simp [zipT]
  | cons a as ih =>
    intro bs
    cases bs with
    | nil => simp [zipT]
    | cons b bs => simp [zipT, ih]
theorem new_pair {H1 : Hp} {Z1 : Addr → Prop} {p : Addr} {ts : List T} {vs : List V} (hp : H1 p = none) (d1 : ∀ a, Z1 a → (H1 a).isSome = true) (r : RepL K H1 Z1 ts vs []) :
    ∃ Z2, Step H1 Z1 [] (upd H1 p (.tup vs)) Z2 [] ∧ (∀ a, Z2 a → (upd H1 p (.tup vs) a).isSome = true) ∧ Rep K (upd H1 p (.tup vs)) Z2 (.node false .tup ts) (.ref p) [] := by
  have ez : ∀ a, Z1 a → upd H1 p (.tup vs) a = H1 a := fun a ha => upd_ne fun q => by
    have := d1 a ha
    rw [q, hp] at this; cases this
  refine ⟨fun a => Z1 a ∨ a = p, Step.newZ hp (fun _ h => h), fun a ha => ?_, .shr .tup ts p vs (.inl ⟨.inr rfl, _, rfl, .inl upd_same⟩) (r.keep (fun _ h => absurd h (by simp)) ez fun _ z => .inl z)⟩
  rcases ha with q | q
  · rw [ez a q]; exact d1 a q
  · rw [q, upd_same]; rfl
theorem pair_rep {Z : Addr → Prop} {t u : T} {v w : V} (r : Rep K H Z t v []) (q : Rep K H Z u w []) : RepL K H Z [t, u] [v, w] [] := .cons t v [] _ _ [] r (.cons u w [] _ _ [] q .nil Dj.nilL) Dj.nilL
theorem it_enum {Z : Addr → Prop} {ts : List T} {a : Addr} {vs : List V} (r : RepL K H Z ts vs []) (hs : ∀ H1 : Hp, (∀ a, Z a → H1 a = H a) → SqL K H1 a vs) : aI K H Z (enumT 0 ts) (Ite K a) [] := by
  refine ⟨rfl, fun H1 Z1 h1 z1 d1 => ⟨fun i t ht => ?_, fun i hi => ⟨vs, hs H1 h1, by rw [← r.length]; rw [enumT_len] at hi; exact hi⟩⟩⟩
  obtain ⟨u, h2, rfl⟩ := enumT_get ht
  obtain ⟨v, e, rv⟩ := r.at h2
  refine ⟨⟨vs, v, hs H1 h1, e⟩, fun x H2 y => ?_⟩
  obtain ⟨p, z, rfl, hp, rfl, y⟩ := y
  have ex := y vs (hs _ h1)
  rw [e] at ex
  cases ex
  have e0 : (0 + i : Nat) = i := by omega
  rw [e0]
  exact new_pair hp d1 (pair_rep (.int _) (keepL0 rv h1 z1))
theorem it_zip {Z : Addr → Prop} {ts us : List T} {a b : Addr} {vs ws : List V} (r : RepL K H Z ts vs []) (q : RepL K H Z us ws []) (hs : ∀ H1 : Hp, (∀ a, Z a → H1 a = H a) → SqL K H1 a vs) (ht : ∀ H1 : Hp, (∀ a, Z a → H1 a = H a) → SqL K H1 b ws) :
    aI K H Z (zipT ts us) (Itz K a b) [] := by
  refine ⟨rfl, fun H1 Z1 h1 z1 d1 => ⟨fun i t h => ?_, fun i hi => ⟨vs, ws, hs H1 h1, ht H1 h1, by rw [← r.length, ← q.length]; rw [zipT_len] at hi; omega⟩⟩⟩
  obtain ⟨x, y, h2, h3, rfl⟩ := zipT_get h
  obtain ⟨v, e, rv⟩ := r.at h2
  obtain ⟨w, e2, rw'⟩ := q.at h3
  refine ⟨⟨vs, ws, v, w, hs H1 h1, ht H1 h1, e, e2⟩, fun x H2 y => ?_⟩
  obtain ⟨p, z1', z2', rfl, hp, rfl, y1, y2⟩ := y
  have ex := y1 vs (hs _ h1)
  rw [e] at ex
  cases ex
  have ey := y2 ws (ht _ h1)
  rw [e2] at ey
  cases ey
  exact new_pair hp d1 (pair_rep (keepL0 rv h1 z1) (keepL0 rw' h1 z1))
theorem it_zipT {Z : Addr → Prop} {ts us : List T} {a b : Addr} {vs ws : List V} (r : RepL K H Z ts vs []) (q : RepL K H Z us ws []) (hs : ∀ H1 : Hp, (∀ a, Z a → H1 a = H a) → SqT K H1 a vs) (ht : ∀ H1 : Hp, (∀ a, Z a → H1 a = H a) → SqT K H1 b ws) :
    aI K H Z (zipT ts us) (RZ.ItzT K a b) [] := by
  refine ⟨rfl, fun H1 Z1 h1 z1 d1 => ⟨fun i t h => ?_, fun i hi => ⟨vs, ws, hs H1 h1, ht H1 h1, by rw [← r.length, ← q.length]; rw [zipT_len] at hi; omega⟩⟩⟩
  obtain ⟨x, y, h2, h3, rfl⟩ := zipT_get h
  obtain ⟨v, e, rv⟩ := r.at h2
  obtain ⟨w, e2, rw'⟩ := q.at h3
  refine ⟨⟨vs, ws, v, w, hs H1 h1, ht H1 h1, e, e2⟩, fun x H2 y => ?_⟩
  obtain ⟨p, z1', z2', rfl, hp, rfl, y1, y2⟩ := y
  have ex := y1 vs (hs _ h1)
  rw [e] at ex
  cases ex
  have ey := y2 ws (ht _ h1)
  rw [e2] at ey
  cases ey
  exact new_pair hp d1 (pair_rep (keepL0 rv h1 z1) (keepL0 rw' h1 z1))

/-- one operand, then an iterator over it, all locked -/
theorem s_it1 {f : Env → R T} {op : T → Option (List T)} {r : V → Hp → (L2.It → Hp → Prop) → Prop} {Q : L2.It → Hp → Prop}
    (hr : ∀ {H : Hp} {Z : Addr → Prop} {t : T} {v : V} {items : List T}, Rep K H Z (frz t) v [] → op t = some items → (∀ J, aI K H Z items J [] → Q J H) → r v H Q)
    (h : semI K mg W (fun e => (f e).bindO op) σ H Q) : semE K mg W f σ H fun v H1 => r v H1 Q := by
  obtain ⟨e, Z, F, re, ok, po⟩ := h
  replace po : Post K mg (aI K) W σ H Z F ((f e).bindO op) Q := po
  rw [bindO_bind] at po
  refine ⟨e, Z, F, re, ok, (bind_sem0 (A := aT K) ok po).imp ?_⟩
  rintro v H1 ⟨t, e1, Z1, F1, Ft, m⟩
  have po1 := m.po
  cases hg : op t with
  | none => simp only [hg] at po1; exact po1.elim
  | some items =>
    simp only [hg] at po1
    refine hr (Z := fun a => Z1 a ∨ a ∈ Ft) (m.ra.frz (fun _ z => .inr z) fun _ z => .inl z) hg fun J hJ => ?_
    refine po1 J H1 _ F1 [] (m.re.keep (fun _ _ => rfl) (fun _ _ => rfl) fun _ z => .inl z) hJ Dj.nilR ⟨fun a ha z => ?_, fun a z => ?_⟩ ⟨fun _ z => .inl z, fun a ha hn => ⟨rfl, fun hb => ?_, fun z => ?_⟩⟩
    · rw [List.append_nil] at ha
      exact z.elim (m.okE.zf a ha) (m.dj a ha)
    · exact z.elim (m.ok.zd a) fun z => m.ra.dom a z
    · rw [List.append_nil] at hb
      exact hn (List.mem_append_left _ (List.mem_append_left _ hb))
    · exact z.elim id fun z => absurd (List.mem_append_left _ (List.mem_append_right _ z)) hn
theorem s_it2 {f g : Env → R T} {op : T → T → Option (List T)} {r : V → V → Hp → (L2.It → Hp → Prop) → Prop} {Q : L2.It → Hp → Prop}
    (hr : ∀ {H : Hp} {Z : Addr → Prop} {t u : T} {v w : V} {items : List T}, Rep K H Z (frz t) v [] → Rep K H Z (frz u) w [] → op t u = some items → (∀ J, aI K H Z items J [] → Q J H) → r v w H Q)
    (h : semI K mg W (fun e => (f e).bind fun x e1 => (g e1).bindO fun y => op x y) σ H Q) : semE K mg W f σ H fun v H1 => semE K mg W g σ H1 fun w H2 => r v w H2 Q := by
  obtain ⟨e, Z, F, re, ok, po⟩ := h
  refine ⟨e, Z, F, re, ok, (bind_sem0 (A := aT K) ok po).imp ?_⟩
  rintro v H1 ⟨t, e1, Z1, F1, Ft, m⟩
  have po1 := m.po
  rw [List.append_nil, bindO_bind] at po1
  have ok1 : Okk H1 Z1 (F1 ++ Ft) := by have := m.ok; rwa [List.append_nil] at this
  refine ⟨e1, Z1, F1, m.re, m.okE, (bind_sem (A := aT K) (G := Ft) ok1 m.ra.dom m.dj po1).imp ?_⟩
  rintro w H2 ⟨u, e2, Z2, F2, Fu, m2⟩
  have rt := m2.hold m.ra
  have po2 := m2.po
  cases hg : op t u with
  | none => simp only [hg] at po2; exact po2.elim
  | some items =>
    simp only [hg] at po2
    refine hr (Z := fun a => Z2 a ∨ a ∈ Ft ∨ a ∈ Fu) (rt.frz (fun _ z => .inr (.inl z)) fun _ z => .inl z) (m2.ra.frz (fun _ z => .inr (.inr z)) fun _ z => .inl z) hg fun J hJ => ?_
    refine po2 J H2 _ F2 [] (m2.re.keep (fun _ _ => rfl) (fun _ _ => rfl) fun _ z => .inl z) hJ Dj.nilR ⟨fun a ha z => ?_, fun a z => ?_⟩ ⟨fun _ z => .inl z, fun a ha hn => ⟨rfl, fun hb => ?_, fun z => ?_⟩⟩
    · rw [List.append_nil] at ha
      rcases z with z | z | z
      · exact m2.okE.zf a ha z
      · exact m2.dg a z (List.mem_append_left _ ha)
      · exact m2.dj a ha z
    · rcases z with z | z | z
      · exact m2.ok.zd a z
      · exact rt.dom a z
      · exact m2.ra.dom a z
    · rw [List.append_nil] at hb
      exact hn (List.mem_append_left _ (List.mem_append_left _ hb))
    · rcases z with z | z | z
      · exact z
      · exact absurd (List.mem_append_right _ z) hn
      · exact absurd (List.mem_append_left _ (List.mem_append_right _ z)) hn
theorem PI.or {tg iter : Expr} {t t' : TI} (h : PI X tg iter t) (h' : PI X tg iter t') : PI X tg iter (fun σ H R => t σ H R ∨ t' σ H R) := ⟨fun pins s σ H R I q => q.elim (h.run pins s σ H R I) (h'.run pins s σ H R I)⟩
theorem PI.imp {tg iter : Expr} {t t' : TI} (h : PI X tg iter t) (k : ∀ σ H R, t' σ H R → t σ H R) : PI X tg iter t' := ⟨fun pins s σ H R I q => h.run pins s σ H R I (k σ H R q)⟩
/-- what was owned is locked -/
theorem lock_okk {H1 : Hp} {Z Z1 : Addr → Prop} {F F1 Ft : List Addr} {t : T} {v : V} (rt : Rep K H1 Z1 t v Ft) (dj : Dj F1 Ft) (ok : Okk H1 Z1 (F1 ++ Ft)) (st : Step H Z F H1 Z1 (F1 ++ Ft)) :
    Okk H1 (fun a => Z1 a ∨ a ∈ Ft) (F1 ++ []) ∧ Step H Z F H1 (fun a => Z1 a ∨ a ∈ Ft) (F1 ++ []) := by
  refine ⟨⟨fun a ha z => ?_, fun a z => z.elim (ok.zd a) fun z => rt.dom a z⟩, ⟨fun a z => .inl (st.1 a z), fun a ha hn => ?_⟩⟩
  · rw [List.append_nil] at ha
    exact z.elim (ok.zf a (List.mem_append_left _ ha)) (dj a ha)
  · obtain ⟨h1, h2, h3⟩ := st.2 a ha hn
    exact ⟨h1, fun hb => h2 (List.mem_append_left _ (by rwa [List.append_nil] at hb)), fun z => z.elim h3 fun z => absurd (List.mem_append_right _ z) h2⟩
theorem k_seq {a : E} {Q : L2.It → Hp → Prop} (h : semI K mg W (evI C (.seq a)) σ H Q) : iList K (semE K mg W (ev C a)) σ H Q ∨ iTup K (semE K mg W (ev C a)) σ H Q := by
  obtain ⟨e, Z, F, re, ok, po⟩ := h
  have po0 : Post K mg (aI K) W σ H Z F ((ev C a e).bindO fun t => (itemsT t).map frzL) Q := by simpa only [evI] using po
  cases q : ev C a e with
  | fail => rw [q] at po0; exact po0.elim
  | exc x e1 =>
    rw [q] at po0
    refine .inl ⟨e, Z, F, re, ok, ?_⟩
    rw [q]
    exact po0
  | ok t e1 =>
    rw [q] at po0
    cases hi : itemsT t with
    | none => simp only [R.bindO, hi, Option.map_none] at po0; exact po0.elim
    | some ts =>
      simp only [R.bindO, hi, Option.map_some] at po0
      have go : ∀ v H1 Z1 F1 Ft, RepE K H1 Z1 e1 σ F1 → Rep K H1 Z1 t v Ft → Dj F1 Ft → Okk H1 Z1 (F1 ++ Ft) → Step H Z F H1 Z1 (F1 ++ Ft) → ∀ J, aI K H1 (fun a => Z1 a ∨ a ∈ Ft) (frzL ts) J [] → Q J H1 :=
        fun v H1 Z1 F1 Ft re1 rt dj ok1 st J hJ => by
          obtain ⟨o2, s2⟩ := lock_okk rt dj ok1 st
          exact po0 J H1 _ F1 [] (re1.keep (fun _ _ => rfl) (fun _ _ => rfl) fun _ z => .inl z) hJ Dj.nilR o2 s2
      have fz : ∀ {v H1 Z1 Ft}, Rep K H1 Z1 t v Ft → Rep K H1 (fun a => Z1 a ∨ a ∈ Ft) (frz t) v [] := fun rt => rt.frz (fun _ z => .inr z) fun _ z => .inl z
      cases t with
      | node b kd us =>
        have lst : kd = .lst ∨ kd = .klst → us = ts → iList K (semE K mg W (ev C a)) σ H Q := fun hk he => by
          subst he
          refine ⟨e, Z, F, re, ok, ?_⟩
          rw [q]
          intro v H1 Z1 F1 Ft re1 rt dj ok1 st
          obtain ⟨p, vs, rfl, r2, hs⟩ := (fz rt).sqZ hk
          exact ⟨p, rfl, ⟨vs, hs H1 fun _ _ => rfl⟩, go _ H1 Z1 F1 Ft re1 rt dj ok1 st _ (it_list r2 hs)⟩
        cases kd with
        | lst => cases hi; exact .inl (lst (.inl rfl) rfl)
        | klst => cases hi; exact .inl (lst (.inr rfl) rfl)
        | tup =>
          cases hi
          refine .inr ⟨e, Z, F, re, ok, ?_⟩
          rw [q]
          intro v H1 Z1 F1 Ft re1 rt dj ok1 st
          obtain ⟨p, vs, rfl, r2, hs⟩ := (fz rt).sqTZ
          exact ⟨p, rfl, ⟨vs, hs H1 fun _ _ => rfl⟩, go _ H1 Z1 F1 Ft re1 rt dj ok1 st _ (it_tup r2 hs)⟩
        | _ => cases hi
      | _ => cases hi
theorem rngOk_iff {i : Int} (h : rngOk i = true) : -(2 ^ 62) ≤ i ∧ i < 2 ^ 62 := of_decide_eq_true h
theorem k_rng1 {a : E} {Q : L2.It → Hp → Prop} (h : semI K mg W (evI C (.rng1 a)) σ H Q) : iRng1 (tCons (semE K mg W (ev C a)) tNil) σ H Q := by
  refine s_it1 (op := rng1T) (r := fun v H1 Q => ∃ j : Int, [v] = [.int j] ∧ -(2 ^ 62) ≤ j ∧ j < 2 ^ 62 ∧ Q (Itr 0 j.toNat) H1) ?_ (by simpa only [evI] using h)
  intro H Z t v items rt ho hQ
  cases t with
  | int j =>
    simp only [rng1T] at ho
    split at ho
    case isFalse => cases ho
    rename_i hb
    cases ho
    cases rt
    exact ⟨j, rfl, (rngOk_iff hb).1, (rngOk_iff hb).2, hQ _ it_rng⟩
  | _ => simp only [rng1T] at ho; cases ho
theorem k_rng2 {a b : E} {Q : L2.It → Hp → Prop} (h : semI K mg W (evI C (.rng2 a b)) σ H Q) : iRng2 (tCons (semE K mg W (ev C a)) (tCons (semE K mg W (ev C b)) tNil)) σ H Q := by
  refine s_it2 (op := rng2T) (r := fun v w H1 Q => ∃ i j : Int, [v, w] = [.int i, .int j] ∧ (-(2 ^ 62) ≤ i ∧ i < 2 ^ 62 ∧ -(2 ^ 62) ≤ j ∧ j < 2 ^ 62) ∧ Q (Itr i (j - i).toNat) H1) ?_ (by simpa only [evI] using h)
  intro H Z t u v w items rt ru ho hQ
  cases t with
  | int i =>
    cases u with
    | int j =>
      simp only [rng2T] at ho
      split at ho
      case isFalse => cases ho
      rename_i hb
      cases ho
      cases rt
      cases ru
      rw [Bool.and_eq_true] at hb
      exact ⟨i, j, rfl, ⟨(rngOk_iff hb.1).1, (rngOk_iff hb.1).2, (rngOk_iff hb.2).1, (rngOk_iff hb.2).2⟩, hQ _ it_rng⟩
    | _ => simp only [rng2T] at ho; cases ho
  | _ => simp only [rng2T] at ho; cases ho
theorem k_enum {a : E} {Q : L2.It → Hp → Prop} (h : semI K mg W (evI C (.enum a)) σ H Q) : iEnum K (tCons (semE K mg W (ev C a)) tNil) σ H Q := by
  refine s_it1 (op := enum1T) (r := fun v H1 Q => ∃ a xs, [v] = [.ref a] ∧ SqL K H1 a xs ∧ Q (Ite K a) H1) ?_ (by simpa only [evI] using h)
  intro H Z t v items rt ho hQ
  cases t <;> try cases ho
  rename_i b kd ts
  have go : kd = .lst ∨ kd = .klst → items = enumT 0 (frzL ts) → ∃ a xs, [v] = [.ref a] ∧ SqL K H a xs ∧ Q (Ite K a) H := fun hk he => by
    subst he
    obtain ⟨p, vs, rfl, r2, hs⟩ := rt.sqZ hk
    exact ⟨p, vs, rfl, hs H fun _ _ => rfl, hQ _ (it_enum r2 hs)⟩
  cases kd <;> cases ho
  · exact go (.inl rfl) rfl
  · exact go (.inr rfl) rfl
theorem k_zip {a b : E} {Q : L2.It → Hp → Prop} (h : semI K mg W (evI C (.zip a b)) σ H Q) : RZ.iZipA K (tCons (semE K mg W (ev C a)) (tCons (semE K mg W (ev C b)) tNil)) σ H Q := by
  refine s_it2 (op := zip2T) (r := fun v w H1 Q => ∃ a b xs ys, [v, w] = [.ref a, .ref b] ∧ ((SqL K H1 a xs ∧ SqL K H1 b ys ∧ Q (Itz K a b) H1) ∨ (SqT K H1 a xs ∧ SqT K H1 b ys ∧ Q (RZ.ItzT K a b) H1))) ?_ (by simpa only [evI] using h)
  intro H Z t u v w items rt ru ho hQ
  cases t with
  | node o kd ts =>
    cases u with
    | node o2 kd2 us =>
      cases kd <;> cases kd2 <;> cases ho
      · obtain ⟨p, vs, rfl, r2, hs⟩ := rt.sqZ (.inl rfl)
        obtain ⟨p2, vs2, rfl, r3, hs2⟩ := ru.sqZ (.inl rfl)
        exact ⟨p, p2, vs, vs2, rfl, .inl ⟨hs H fun _ _ => rfl, hs2 H fun _ _ => rfl, hQ _ (it_zip r2 r3 hs hs2)⟩⟩
      · obtain ⟨p, vs, rfl, r2, hs⟩ := rt.sqTZ
        obtain ⟨p2, vs2, rfl, r3, hs2⟩ := ru.sqTZ
        exact ⟨p, p2, vs, vs2, rfl, .inr ⟨hs H fun _ _ => rfl, hs2 H fun _ _ => rfl, hQ _ (it_zipT r2 r3 hs hs2)⟩⟩
    | _ => cases kd <;> cases ho
  | _ => cases ho
end
end PT

/-! PtQ: comprehensions. -/
namespace PT
open PySem PySem.Spec PyProof.Rows L2
abbrev W0 : WX := fun _ _ _ _ => False
/-- the new list at D, held while a turn is run -/
structure Held (K : PySem.W.Frag) (H1 : Hp) (Z1 : Addr → Prop) (F1 : List Addr) (D : Addr) (acc : List T) (accV : List V) (Fa : List Addr) (H : Hp) (Z : Addr → Prop) (F : List Addr) : Prop where
  hD : H D = some (.lst accV)
  ra : RepL K H Z acc accV Fa
  dj : Dj F Fa
  dF : D ∉ F
  dA : D ∉ Fa
  dZ : ¬ Z D
  az : ∀ x, x ∈ Fa → ¬ Z x
  ok : Okk H Z F
  st : Step H1 Z1 F1 H Z (D :: (F ++ Fa))
section
variable {K : PySem.W.Frag} {H1 H H' : Hp} {Z1 Z Z' : Addr → Prop} {F1 F F' Fa Fu : List Addr} {D : Addr} {acc : List T} {accV : List V}
theorem Held.step (h : Held K H1 Z1 F1 D acc accV Fa H Z F) (s : Step H Z F H' Z' F') (ok : Okk H' Z' F') : Held K H1 Z1 F1 D acc accV Fa H' Z' F' := by
  obtain ⟨r1, d1, a1⟩ := s.holdL h.ok h.az h.ra h.dj.symm
  obtain ⟨g1, g2, g3⟩ := s.2 D (by rw [h.hD]; rfl) h.dF
  refine ⟨g1.trans h.hD, r1, d1.symm, g2, h.dA, fun z => h.dZ (g3 z), a1, ok, h.st.trans s (fun x hx => List.mem_cons_of_mem _ (List.mem_append_left _ hx)) fun x hx => ?_⟩
  rcases List.mem_cons.mp hx with q | q
  · exact .inr (q ▸ List.mem_cons_self)
  · rcases List.mem_append.mp q with q | q
    · exact .inl q
    · exact .inr (List.mem_cons_of_mem _ (List.mem_append_right _ q))
theorem Held.mono (h : Held K H1 Z1 F1 D acc accV Fa H Z F) (k : ∀ x, x ∈ F' → x ∈ F) : Held K H1 Z1 F1 D acc accV Fa H Z F' :=
  ⟨h.hD, h.ra, fun x hx => h.dj x (k x hx), fun z => h.dF (k D z), h.dA, h.dZ, h.az, h.ok.mono k, h.st.weak fun x hx => by
    rcases List.mem_cons.mp hx with q | q
    · exact q ▸ List.mem_cons_self
    · rcases List.mem_append.mp q with q | q
      · exact List.mem_cons_of_mem _ (List.mem_append_left _ (k x q))
      · exact List.mem_cons_of_mem _ (List.mem_append_right _ q)⟩
theorem Held.push {u : T} {y : V} (h : Held K H1 Z1 F1 D acc accV Fa H Z (F ++ Fu)) (ru : Rep K H Z u y Fu) (d : Dj F Fu) : ∃ Fb, Held K H1 Z1 F1 D (acc ++ [u]) (accV ++ [y]) Fb (upd H D (.lst (accV ++ [y]))) Z F := by
  have ru1 : RepL K H Z [u] [y] Fu := by
    have := RepL.cons u y Fu [] [] [] ru .nil Dj.nilR
    rwa [List.append_nil] at this
  obtain ⟨Fb, r1, m1⟩ := h.ra.app ru1 (fun x hx hy => h.dj x (List.mem_append_right _ hy) hx)
  have dB : D ∉ Fb := fun z => ((m1 D).mp z).elim h.dA fun z => h.dF (List.mem_append_right _ z)
  refine ⟨Fb, upd_same, r1.keep (fun x hx => upd_ne fun q => dB (q ▸ hx)) (fun x hx => upd_ne fun q => h.dZ (q ▸ hx)) (fun _ z => z), fun x hx hy => ?_, fun z => h.dF (List.mem_append_left _ z), dB, h.dZ, fun x hx z => ?_, ⟨fun x hx => h.ok.zf x (List.mem_append_left _ hx), fun x z => ?_⟩, ?_⟩
  · exact ((m1 x).mp hy).elim (h.dj x (List.mem_append_left _ hx)) (d x hx)
  · exact ((m1 x).mp hx).elim (fun q => h.az x q z) fun q => h.ok.zf x (List.mem_append_right _ q) z
  · rw [upd_ne (show x ≠ D from fun q => h.dZ (q ▸ z))]
    exact h.ok.zd x z
  · refine h.st.trans (Step.set (F := D :: (F ++ Fu ++ Fa)) (F' := D :: (F ++ Fb)) List.mem_cons_self fun x hx => ?_) (fun _ hx => hx) fun x hx => .inl hx
    rcases List.mem_cons.mp hx with q | q
    · exact q ▸ List.mem_cons_self
    · refine List.mem_cons_of_mem _ ?_
      rcases List.mem_append.mp q with q | q
      · exact List.mem_append_left _ (List.mem_append_left _ q)
      · rcases (m1 x).mp q with q | q
        · exact List.mem_append_right _ q
        · exact List.mem_append_left _ (List.mem_append_right _ q)
end
section
variable {X : Cx} {C : Cf} {W : WX} {k : Nat} {N : List Str} {sc : Scope} {K : PySem.W.Frag} {mg : Str → Option Value} {σ : Sl} {H : Hp}
/-- where a comprehension stands ahead of turn i -/
def lcInv (K : PySem.W.Frag) (own : List Nat) (f : T → Env → R (Option T)) (items : List T) (r0 : R (List T)) (σ : Sl) (H1 : Hp) (Z1 : Addr → Prop) (F1 : List Addr) (D : Addr) (i : Nat) (H : Hp) : Prop :=
  ∃ acc accV Fa e Z F, Held K H1 Z1 F1 D acc accV Fa H Z F ∧ RepE K H Z e (L2.wipe σ own) F ∧ lcGo own f (items.drop i) acc e = r0
theorem lcInv.next {own : List Nat} {f : T → Env → R (Option T)} {items : List T} {r0 : R (List T)} {H1 H : Hp} {Z1 Z : Addr → Prop} {F1 F Fa : List Addr} {D : Addr} {i : Nat} {acc : List T} {accV : List V} {e : Env} {σ2 : Sl}
    (h : Held K H1 Z1 F1 D acc accV Fa H Z F) (re : RepE K H Z e σ2 F) (hw : L2.wipe σ2 own = L2.wipe σ own) (eq : lcGo own f (items.drop i) acc (wipeE e own) = r0) : lcInv K own f items r0 σ H1 Z1 F1 D i H := by
  obtain ⟨F2, r2, s2⟩ := wipe_ok (own := own) re
  rw [hw] at r2
  exact ⟨acc, accV, Fa, _, Z, F2, h.mono s2, r2, eq⟩
theorem k_lc {own : List Nat} {tg : Tg} {it : It} {c : OE} {x : E} (ho : tgIn tg own = true) {Q : VK} (h : semE K mg W (ev C (.lc own tg it c x)) σ H Q) :
    tLc (semI K mg W (evI C it)) (semG K C.P tg) (sem K mg aB W0 (evC C c)) (semE K mg W0 (ev C x)) own σ H Q := by
  obtain ⟨e, Z, F, re, ok, po⟩ := h
  simp only [ev] at po
  refine ⟨e, Z, F, re, ok, (bind_sem0 (A := aI K) ok po).imp ?_⟩
  rintro J H1 ⟨items, e1, Z1, F1, Fa, m⟩ D hD
  obtain ⟨rfl, hJ⟩ := m.ra
  have po1 := m.po
  simp only [List.append_nil] at po1
  have ok1 : Okk H1 Z1 F1 := m.okE
  have dF1 : D ∉ F1 := fun z => by have := m.re.dom D z; rw [hD] at this; cases this
  have dZ1 : ¬ Z1 D := fun z => by have := ok1.zd D z; rw [hD] at this; cases this
  generalize hf : lcBody C.P tg (fun e => evC C c e) (fun e => ev C x e) = f at po1
  generalize hr0 : lcGo own f items [] (wipeE e1 own) = r0 at po1
  -- the list's own start
  have st0 : Held K H1 Z1 F1 D [] [] [] (upd H1 D (.lst [])) Z1 F1 := by
    refine ⟨upd_same, .nil, Dj.nilR, dF1, by simp, dZ1, fun _ z => absurd z (by simp), ⟨ok1.zf, fun a z => ?_⟩, Step.new hD fun a ha => ?_⟩
    · rw [upd_ne (show a ≠ D from fun q => dZ1 (q ▸ z))]; exact ok1.zd a z
    · rcases List.mem_cons.mp ha with q | q
      · exact .inr q
      · exact .inl (by simpa using q)
  have re0 : RepE K (upd H1 D (.lst [])) Z1 e1 σ F1 := m.re.keep (fun a ha => upd_ne fun q => dF1 (q ▸ ha)) (fun a z => upd_ne fun q => dZ1 (q ▸ z)) fun _ z => z
  refine ⟨fun i m H => m = items.length - i ∧ i ≤ items.length ∧ lcInv K own f items r0 σ H1 Z1 F1 D i H, ⟨items.length, by simp, Nat.zero_le _, lcInv.next st0 re0 rfl (by simpa using hr0)⟩, ?_⟩
  rintro i mm H2 ⟨rfl, hi, acc, accV, Fa, e2, Z2, F2, hd, re2, eq⟩
  have hz : ∀ a, Z1 a → H2 a = H1 a := fun a z => (hd.st.2 a (ok1.zd a z) fun q => ok1.zf a q z).1
  obtain ⟨j1, j2⟩ := hJ H2 Z2 hz hd.st.1 hd.ok.zd
  by_cases hlt : i < items.length
  · refine .inr ?_
    have hg : items[i]? = some items[i] := by simp [hlt]
    generalize ht : items[i] = t at hg
    obtain ⟨g1, g2⟩ := j1 i t hg
    refine ⟨g1, lcInv K own f items r0 σ H1 Z1 F1 D (i + 1), fun H' n => ⟨items.length - (i + 1), by omega, rfl, hlt, n⟩, fun xv H3 hy => ?_⟩
    obtain ⟨Z3, s3, d3, rt⟩ := g2 xv H3 hy
    have edr : items.drop i = t :: items.drop (i + 1) := by rw [← ht]; exact List.drop_eq_getElem_cons hlt
    rw [edr] at eq
    simp only [lcGo] at eq
    have s3' : Step H2 Z2 F2 H3 Z3 F2 := by
      refine ⟨s3.1, fun a ha hn => ?_⟩
      obtain ⟨h1, h2, h3⟩ := s3.2 a ha (by simp)
      exact ⟨h1, hn, h3⟩
    have all3 : ∀ a, (H2 a).isSome = true → H3 a = H2 a := fun a ha => (s3.2 a ha (by simp)).1
    have re3 : RepE K H3 Z3 e2 (L2.wipe σ own) F2 := re2.keep (fun a ha => all3 a (re2.dom a ha)) (fun a z => all3 a (hd.ok.zd a z)) s3.1
    have ok3 : Okk H3 Z3 F2 := ⟨fun a ha z => hd.ok.zf a ha ((s3.2 a (re2.dom a ha) (by simp)).2.2 z), d3⟩
    have hd3 := hd.step s3' ok3
    refine ⟨t, e2, Z3, F2, [], rt, re3, Dj.nilR, ?_⟩
    subst hf
    unfold lcBody asgE at eq
    cases q : asg C.P tg t e2 with
    | none =>
      rw [q] at eq
      simp only [R.bind, lcStep] at eq
      subst eq
      exact po1.elim
    | some e4 =>
      rw [q] at eq
      simp only [R.bind] at eq
      intro σ2 F4 re4 s4 kp
      have hw : L2.wipe σ2 own = L2.wipe σ own := (kp.w own ho).trans wipe_wipe
      have hd4 : Held K H1 Z1 F1 D acc accV Fa H3 Z3 F4 := hd3.mono fun a ha => (s4 a ha).elim id fun z => absurd z (by simp)
      refine ⟨hw, e4, Z3, F4, re4, hd4.ok, ?_⟩
      cases qc : evC C c e4 with
      | fail =>
        rw [qc] at eq
        simp only [lcStep] at eq
        subst eq
        exact po1.elim
      | exc y e5 =>
        rw [qc] at eq
        simp only [lcStep] at eq
        subst eq
        exact po1.elim
      | ok b e5 =>
        rw [qc] at eq
        rintro b' H5 Z5 F5 Fb re5 ⟨rfl, rfl⟩ _ ok5 s5
        rw [List.append_nil] at ok5 s5
        have hd5 := hd4.step s5 ok5
        cases b with
        | false =>
          simp only [Bool.false_eq_true, if_false] at eq ⊢
          simp only [lcStep] at eq
          exact lcInv.next hd5 re5 hw eq
        | true =>
          simp only [if_true] at eq ⊢
          refine ⟨e5, Z5, F5, re5, ok5, ?_⟩
          cases qx : ev C x e5 with
          | fail =>
            rw [qx] at eq
            simp only [R.bindO, lcStep] at eq
            subst eq
            exact po1.elim
          | exc y e6 =>
            rw [qx] at eq
            simp only [R.bindO, lcStep] at eq
            subst eq
            exact po1.elim
          | ok u e6 =>
            rw [qx] at eq
            intro y H6 Z6 F6 Fu re6 ru dj6 ok6 s6
            simp only [R.bindO, lcStep] at eq
            split at eq
            case isFalse => subst eq; exact po1.elim
            rename_i hsz
            have hd6 := hd5.step s6 ok6
            obtain ⟨Fb, hd7⟩ := hd6.push ru dj6
            have dF6 : D ∉ F6 := fun z => hd6.dF (List.mem_append_left _ z)
            exact ⟨accV, hd6.hD, by rw [← hd6.ra.length]; exact of_decide_eq_true hsz, lcInv.next hd7 (re6.keep (fun a ha => upd_ne fun q => dF6 (q ▸ ha)) (fun a z => upd_ne fun q => hd6.dZ (q ▸ z)) fun _ z => z) hw eq⟩
  · have e0 : i = items.length := by omega
    refine .inl ⟨j2 i (by omega), ?_⟩
    rw [e0, List.drop_length] at eq
    simp only [lcGo] at eq
    subst eq
    simp only [R.bindO] at po1
    refine po1 (.ref D) H2 Z2 F2 (D :: Fa) (unwipe_ok re2) (.own .lst acc D accV (.lst accV) Fa trivial hd.hD rfl hd.ra hd.dA) (fun a ha hb => ?_) ⟨fun a ha z => ?_, hd.ok.zd⟩ (hd.st.weak fun a ha => ?_)
    · rcases List.mem_cons.mp hb with q | q
      · exact hd.dF (q ▸ ha)
      · exact hd.dj a ha q
    · rcases List.mem_append.mp ha with q | q
      · exact hd.ok.zf a q z
      · rcases List.mem_cons.mp q with q | q
        · exact hd.dZ (q ▸ z)
        · exact hd.az a q z
    · rcases List.mem_append.mp ha with q | q
      · exact List.mem_cons_of_mem _ (List.mem_append_left _ q)
      · rcases List.mem_cons.mp q with q | q
        · exact q ▸ List.mem_cons_self
        · exact List.mem_cons_of_mem _ (List.mem_append_right _ q)
end
end PT

/-! PtR: every expression of the little language is its Python text. -/
namespace PT
open PySem PySem.Spec PyProof.Rows L2
section
variable {X : Cx} {C : Cf} {W : WX} {k : Nat} {N : List Str} {sc : Scope}
theorem ptv {a : Expr} {f : Env → R T} (h : PE X a (semE X.K X.mg W f)) (he : ∀ whole, isTrue a X.env whole = (do let v ← whole; standAt a.pos; holding [v] (truthy v)) := by intro _; rfl) : L2.PT X a (semB X.K X.mg W fun e => (f e).bindO boolOf) :=
  PT.imp (pt_val h he) fun σ H Q q => t_of_e q
theorem plain_star {e : Expr} {es : List Expr} {env : PySem.Env} (h : plainE e = true) : starEach (e :: es) env = (false, eval e env) :: starEach es env := by
  cases e <;> first | rfl | simp [plainE] at h
theorem plain_any : ∀ {es : List Expr} {env : PySem.Env} {pos : Pos}, es.all plainE = true → (backTo pos (starEach es env)).any (·.1) = false
  | [], _, _, _ => rfl
  | e :: es, env, pos, h => by
    simp only [List.all_cons, Bool.and_eq_true] at h
    rw [plain_star h.1]
    show (false || (backTo pos (starEach es env)).any (·.1)) = false
    rw [plain_any h.2]; rfl
theorem plain_all : ∀ {es : List Expr} {env : PySem.Env} {pos : Pos}, es.all plainE = true → (backTo pos (starEach es env)).all (fun x => !x.1) = true
  | [], _, _, _ => rfl
  | e :: es, env, pos, h => by
    simp only [List.all_cons, Bool.and_eq_true] at h
    rw [plain_star h.1]
    show (true && (backTo pos (starEach es env)).all (fun x => !x.1)) = true
    rw [plain_all h.2]; rfl
theorem plain_few {es : List Expr} {env : PySem.Env} {pos : Pos} (h : es.all plainE = true) (hl : es.length < 3) : ((backTo pos (starEach es env)).all (fun x => !x.1) && (backToKw pos (keywordEach [] env)).all (fun x => x.1.isSome)
      && decide (es.length + ([] : List Keyword).length + (if ([] : List Keyword).isEmpty then 0 else 1) < 30)) = true := by
  rw [plain_all h]
  have : es.length + ([] : List Keyword).length + (if ([] : List Keyword).isEmpty then 0 else 1) < 30 := by simp; omega
  rw [decide_eq_true this]
  rfl
theorem noSl_ix {b : Expr} (h : noSlE b = true) : PlainIx b := by
  cases b <;> first | (exact fun _ _ => rfl) | simp [noSlE] at h
theorem noC0_base {o : Expr} {n : Str} {env : PySem.Env} (h : noC0 o = true) : attributeBase o n env (eval o env) = eval o env := by
  cases o <;> first | rfl | simp [noC0] at h
theorem noSet_it {o : Expr} {env : PySem.Env} (h : noSetE o = true) : ∀ x, foldedSetIterable o env x = pure x := by
  intro x
  cases o <;> first | rfl | simp [noSetE] at h
theorem mEL_plain : ∀ {as : EL} {es : List Expr}, mEL C.tb N k sc as es = true → es.all plainE = true ∧ es.length = lenEL as
  | .nil, [], _ => ⟨rfl, rfl⟩
  | .nil, _ :: _, h => by simp [mEL] at h
  | .cons _ _, [], h => by simp [mEL] at h
  | .cons e r, x :: xs, h => by
    simp only [mEL, Bool.and_eq_true] at h
    obtain ⟨h1, h2⟩ := mEL_plain h.2
    exact ⟨by simp [h.1.1, h1], by simp [lenEL, h2]⟩
theorem bnOf {x : Str} (c : Kx C W k N sc X) (h : C.tb.bn.contains x = true) : X.mg x = none := c.bn x (by simpa using h)
theorem kx_blk {scope : Scope} (c : Kx C W k N sc X) (hk : scope.kind = .function) (s : Shared) (H : Hp) (D : Addr) (cl : List (Str × Addr)) (fp : List Addr) : Kx C W0 k N (relS scope sc) (X.blk s H scope (compEnvC scope cl D X.env) fp) where
  hN := c.hN
  nd := c.nd
  hsc := by show relS scope X.env.scope = _; rw [c.hsc]
  kind := hk
  calm := c.calm
  room := c.room
  tk := takes0
  bn := c.bn
  gl := c.gl
  cal := fun f fi h1 h2 => let ⟨a, fd, q⟩ := c.cal f fi h1 h2; ⟨a, fd, q.ok, q.mg, q.kp, q.bd⟩
  po := PassesOwn.never
/-- f(..) -/
theorem pe_callSD0 {CX : CXT} {f : Addr} {fd : FuncData} {ps : List Str} {sp : Sp} {dvs : List V} {ds : List Value} {E : L2.St → XK} {x : Str} {p pos : Pos} (F : FnOk X.prog X.w X.K X.mg X.base CX k f fd ps sp) (hr : Room k X.A) (hg : Gl X x) (hm : X.mg x = some (.ref f)) (hk : PySem.W.keepIn X.K (.ref f) = true) (hb : Binds X.K fd ps ds) (hd : Vals dvs ds) (hx : ∀ σ, PassesAt CX X σ (E σ))
    (hdb : (x == ("__debug__" : Str)) = false := by decide) : PE X (.Call (.Name x p) [] [] pos) (tCallSD sp dvs E tNil) := by
  refine ⟨fun pins s σ H Q I h => ?_⟩
  refine wpAny_Call_Name_kw (ld_glob I hg hm ?_ hdb)
  exact PySem.W.callWith_K0 I.kIn hk (run_fnSD (us := []) F hr hb hd (hx σ) I .nil h)
/-- d.get(..) -/
theorem pe_getA {o e : Expr} {es : List Expr} {to : TE} {t : TA} {apos cpos : Pos} (hu : X.A.units + 1 < cLine) (ho : PE X o to) (ha : PA X (e :: es) t)
    (hbase : attributeBase o "get" X.env (eval o X.env) = eval o X.env)
    (hfew : ((backTo cpos (starEach (e :: es) X.env)).all (fun x => !x.1) && (backToKw cpos (keywordEach [] X.env)).all (fun x => x.1.isSome)
      && decide ((e :: es).length + ([] : List Keyword).length + (if ([] : List Keyword).isEmpty then 0 else 1) < 30)) = true)
    (hline : (apos.endLine == cpos.line) = true) (hs : starEach (e :: es) X.env = (false, eval e X.env) :: starEach es X.env) (hplain : (backTo cpos (starEach es X.env)).any (·.1) = false) :
    PE X (.Call (.Attribute o "get" apos) (e :: es) [] cpos) (fun σ H Q => to σ H fun x H1 => (∃ a, x = .ref a ∧ IsD H1 a) ∧ t σ H1 fun xs H2 => rGet x xs H2 Q) := by
  refine ⟨fun pins s σ H Q I h => ?_⟩
  refine wpAny_Call_method hbase hfew hline PySem.F.plainAttrs_dict PySem.F.slot_dict_get PySem.F.type_dict_get (thn (ho.run pins s σ H _ I h) fun u s1 ⟨x, H1, I1, rx, ⟨a, ex, d⟩, q1⟩ => ?_)
  subst ex
  obtain rfl : u = Value.ref a := rx
  obtain ⟨t1, t2, _⟩ := isD_at I1 d
  refine ⟨t1, t2, ?_⟩
  have hA := ha.run cpos pins s1 σ H1 _ I1 q1
  rw [hs] at hA ⊢
  refine Calls.callWith_builtin (by show (false || (backTo cpos (starEach es X.env)).any (·.1)) = false; rw [hplain] <;> rfl) (Calls.evalArgs_plain ?_)
  refine thn hA fun us s2 ⟨vs, H2, I2, r2, a', y, o', e1, g, q2⟩ => ?_
  cases e1
  rcases q2 with ⟨rfl, q2⟩ | ⟨z, rfl, q2⟩
  · obtain ⟨u1, rfl, ru⟩ := r2.one
    exact d_get1 hu I2 g ru fun w' s3 I3 rw' => ⟨_, H2, I3, rw', q2⟩
  · obtain ⟨u1, u2, rfl, ru, rz⟩ := r2.two
    exact d_get2 hu I2 g ru rz fun w' s3 I3 rw' => ⟨_, H2, I3, rw', q2⟩
theorem nlend {x : E} {r : EL} (h : ∀ i, x ≠ .lend i) : lends (.cons x r) = none :: lends r := by
  cases x <;> first | rfl | exact absurd rfl (h _)
/-! ### what the text looks like -/
theorem i_bin {op : Bop} {a b : E} {e : Expr} (h : mE C.tb N k sc (.bin op a b) e = true) : ∃ l r p, e = .BinOp l (bopS op) r p ∧ mE C.tb N k sc a l = true ∧ mE C.tb N k sc b r = true := by
  cases e <;> try (simp [mE] at h; done)
  simp only [mE, Bool.and_eq_true, decide_eq_true_eq] at h
  obtain ⟨⟨rfl, h1⟩, h2⟩ := h
  exact ⟨_, _, _, rfl, h1, h2⟩
theorem i_neg {a : E} {e : Expr} (h : mE C.tb N k sc (.neg a) e = true) : ∃ x p, e = .UnaryOp .USub x p ∧ mE C.tb N k sc a x = true := by
  cases e <;> try (simp [mE] at h; done)
  rename_i op x p
  cases op <;> try (simp [mE] at h; done)
  exact ⟨_, _, rfl, by simpa [mE] using h⟩
theorem i_not {a : E} {e : Expr} (h : mE C.tb N k sc (.not a) e = true) : ∃ x p, e = .UnaryOp .Not x p ∧ mE C.tb N k sc a x = true := by
  cases e <;> try (simp [mE] at h; done)
  rename_i op x p
  cases op <;> try (simp [mE] at h; done)
  exact ⟨_, _, rfl, by simpa [mE] using h⟩
theorem i_cmp {op : Cop} {a b : E} {e : Expr} (h : mE C.tb N k sc (.cmp op a b) e = true) : ∃ l r p, e = .Compare l [copS op] [r] p ∧ mE C.tb N k sc a l = true ∧ mE C.tb N k sc b r = true ∧ behindInMarks (copS op) r = false := by
  cases e <;> try (simp [mE] at h; done)
  rename_i l ops rs p
  cases ops with
  | nil => simp [mE] at h
  | cons o ops =>
    cases ops with
    | cons _ _ => simp [mE] at h
    | nil =>
      cases rs with
      | nil => simp [mE] at h
      | cons r rs =>
        cases rs with
        | cons _ _ => simp [mE] at h
        | nil =>
          simp only [mE, Bool.and_eq_true, decide_eq_true_eq] at h
          obtain ⟨⟨⟨rfl, h1⟩, h2⟩, h3⟩ := h
          exact ⟨_, _, _, rfl, h1, h2, by simpa using h3⟩
theorem i_chn {op op' : Cop} {a b c : E} {e : Expr} (h : mE C.tb N k sc (.chn op op' a b c) e = true) : ∃ l r r' p, e = .Compare l [copS op, copS op'] [r, r'] p ∧ mE C.tb N k sc a l = true ∧ mE C.tb N k sc b r = true ∧ mE C.tb N k sc c r' = true ∧ behindInMarks (copS op') r' = false := by
  cases e <;> try (simp [mE] at h; done)
  rename_i l ops rs p
  rcases ops with _ | ⟨o, _ | ⟨o', _ | ⟨_, _⟩⟩⟩ <;> rcases rs with _ | ⟨r, _ | ⟨r', _ | ⟨_, _⟩⟩⟩ <;> try (simp [mE] at h; done)
  simp only [mE, Bool.and_eq_true, decide_eq_true_eq] at h
  obtain ⟨⟨⟨⟨⟨rfl, rfl⟩, h1⟩, h2⟩, h4⟩, h3⟩ := h
  exact ⟨_, _, _, _, rfl, h1, h2, h4, by simpa using h3⟩
theorem i_and {a b : E} {e : Expr} (h : mE C.tb N k sc (.and a b) e = true) : ∃ l r rest p, e = .BoolOp .And (l :: r :: rest) p ∧ mE C.tb N k sc a l = true ∧ mE C.tb N k sc b (oneB (.BoolOp .And (r :: rest) p)) = true := by
  cases e <;> try (simp [mE] at h; done)
  rename_i op vs p
  cases op <;> try (simp [mE] at h; done)
  rcases vs with _ | ⟨l, _ | ⟨r, rest⟩⟩ <;> try (simp [mE] at h; done)
  simp only [mE, Bool.and_eq_true] at h
  exact ⟨_, _, _, _, rfl, h.1, h.2⟩
theorem i_or {a b : E} {e : Expr} (h : mE C.tb N k sc (.or a b) e = true) : ∃ l r rest p, e = .BoolOp .Or (l :: r :: rest) p ∧ mE C.tb N k sc a l = true ∧ mE C.tb N k sc b (oneB (.BoolOp .Or (r :: rest) p)) = true := by
  cases e <;> try (simp [mE] at h; done)
  rename_i op vs p
  cases op <;> try (simp [mE] at h; done)
  rcases vs with _ | ⟨l, _ | ⟨r, rest⟩⟩ <;> try (simp [mE] at h; done)
  simp only [mE, Bool.and_eq_true] at h
  exact ⟨_, _, _, _, rfl, h.1, h.2⟩
theorem i_ife {c a b : E} {e : Expr} (h : mE C.tb N k sc (.ife c a b) e = true) : ∃ c' a' b' p, e = .IfExp c' a' b' p ∧ mE C.tb N k sc c c' = true ∧ mE C.tb N k sc a a' = true ∧ mE C.tb N k sc b b' = true := by
  cases e <;> try (simp [mE] at h; done)
  simp only [mE, Bool.and_eq_true] at h
  exact ⟨_, _, _, _, rfl, h.1.1, h.1.2, h.2⟩
theorem i_tup {es : EL} {e : Expr} (h : mE C.tb N k sc (.tup es) e = true) : ∃ xs x1 p, e = .Tuple xs x1 p ∧ mEL C.tb N k sc es xs = true := by
  cases e <;> try (simp [mE] at h; done)
  simp only [mE] at h
  exact ⟨_, _, _, rfl, h⟩
theorem i_lst {es : EL} {e : Expr} (h : mE C.tb N k sc (.lst es) e = true) : ∃ xs p, e = .List xs p ∧ mEL C.tb N k sc es xs = true := by
  cases e <;> try (simp [mE] at h; done)
  simp only [mE] at h
  exact ⟨_, _, rfl, h⟩
theorem i_ix {a b : E} {e : Expr} (h : mE C.tb N k sc (.ix a b) e = true) : ∃ v s p, e = .Subscript v s p ∧ noSlE s = true ∧ mE C.tb N k sc a v = true ∧ mE C.tb N k sc b s = true := by
  cases e <;> try (simp [mE] at h; done)
  simp only [mE, Bool.and_eq_true] at h
  exact ⟨_, _, _, rfl, h.1.1, h.1.2, h.2⟩
theorem i_sl {a : E} {lo hi : OE} {e : Expr} (h : mE C.tb N k sc (.sl a lo hi) e = true) : ∃ v l hh p2 p, e = .Subscript v (.Slice l hh none p2) p ∧ mE C.tb N k sc a v = true ∧ mO C.tb N k sc lo l = true ∧ mO C.tb N k sc hi hh = true := by
  cases e <;> try (simp [mE] at h; done)
  rename_i v s p
  cases s <;> try (simp [mE] at h; done)
  rename_i l hh st p2
  cases st <;> try (simp [mE] at h; done)
  simp only [mE, Bool.and_eq_true] at h
  exact ⟨_, _, _, _, _, rfl, h.1.1, h.1.2, h.2⟩
theorem i_call {f d : Nat} {as : EL} {e : Expr} (h : mE C.tb N k sc (.call f d as) e = true) : ∃ x p1 args p, e = .Call (.Name x p1) args [] p ∧ glB sc x = true ∧ okNm x = true ∧ callB C.tb k f d x args.length = true ∧ mEL C.tb N k sc as args = true := by
  cases e <;> try (simp [mE] at h; done)
  rename_i g args kws p
  cases g <;> try (simp [mE] at h; done)
  cases kws <;> try (simp [mE] at h; done)
  simp only [mE, Bool.and_eq_true] at h
  exact ⟨_, _, _, _, rfl, h.1.1.1, h.1.1.2, h.1.2, h.2⟩
theorem i_bi {b : Bi} {as : EL} {e : Expr} (h : mE C.tb N k sc (.bi b as) e = true) : ∃ p1 x xs p, e = .Call (.Name (biS b) p1) (x :: xs) [] p ∧ glB sc (biS b) = true ∧ C.tb.bn.contains (biS b) = true ∧ mEL C.tb N k sc as (x :: xs) = true := by
  cases e <;> try (simp [mE] at h; done)
  rename_i g args kws p
  cases g <;> try (simp [mE] at h; done)
  cases kws <;> try (simp [mE] at h; done)
  cases args <;> try (simp [mE] at h; done)
  simp only [mE, Bool.and_eq_true, decide_eq_true_eq] at h
  obtain ⟨⟨⟨h1, rfl⟩, h2⟩, h3⟩ := h
  exact ⟨_, _, _, _, rfl, h1, h2, h3⟩
theorem i_isi {a : E} {t : Ty} {e : Expr} (h : mE C.tb N k sc (.isi a t) e = true) : ∃ p1 y p2 p, e = .Call (.Name (Str.ofString "isinstance") p1) [y, .Name (Str.ofString (tyS t)) p2] [] p ∧ glB sc (Str.ofString "isinstance") = true ∧ C.tb.bn.contains (Str.ofString "isinstance") = true ∧ plainE y = true ∧
    glB sc (Str.ofString (tyS t)) = true ∧ C.tb.bn.contains (Str.ofString (tyS t)) = true ∧ mE C.tb N k sc a y = true := by
  cases e <;> try (simp [mE] at h; done)
  rename_i g args kws p
  cases g <;> try (simp [mE] at h; done)
  cases kws <;> try (simp [mE] at h; done)
  rcases args with _ | ⟨y, _ | ⟨z, _ | ⟨_, _⟩⟩⟩ <;> try (simp [mE] at h; done)
  cases z <;> try (simp [mE] at h; done)
  simp only [mE, Bool.and_eq_true, decide_eq_true_eq, tyB] at h
  obtain ⟨⟨⟨⟨⟨⟨⟨h1, rfl⟩, h2⟩, h3⟩, h4⟩, rfl⟩, h5⟩, h6⟩ := h
  exact ⟨_, _, _, _, rfl, h1, h2, h3, h4, h5, h6⟩
theorem i_meth {m : Mt} {a : E} {as : EL} {e : Expr} (h : mE C.tb N k sc (.meth m a as) e = true) : ∃ o ap x xs p, e = .Call (.Attribute o (mtS m) ap) (x :: xs) [] p ∧ (ap.endLine == p.line) = true ∧ noC0 o = true ∧ (x :: xs).length < 3 ∧ mE C.tb N k sc a o = true ∧ mEL C.tb N k sc as (x :: xs) = true := by
  cases e <;> try (simp [mE] at h; done)
  rename_i g args kws p
  cases g <;> try (simp [mE] at h; done)
  cases kws <;> try (simp [mE] at h; done)
  cases args <;> try (simp [mE] at h; done)
  simp only [mE, Bool.and_eq_true, decide_eq_true_eq] at h
  obtain ⟨⟨⟨⟨⟨rfl, h1⟩, h2⟩, h3⟩, h4⟩, h5⟩ := h
  exact ⟨_, _, _, _, _, rfl, h1, h2, h3, h4, h5⟩
theorem i_pop {i : Nat} {e : Expr} (h : mE C.tb N k sc (.pop i) e = true) : ∃ o ap p, e = .Call (.Attribute o (Str.ofString "pop") ap) [] [] p ∧ (ap.endLine == p.line) = true ∧ varB N sc i o = true := by
  cases e <;> try (simp [mE] at h; done)
  rename_i g args kws p
  cases g <;> try (simp [mE] at h; done)
  cases kws <;> cases args <;> try (simp [mE] at h; done)
  simp only [mE, Bool.and_eq_true, decide_eq_true_eq] at h
  obtain ⟨⟨rfl, h1⟩, h2⟩ := h
  exact ⟨_, _, _, rfl, h1, h2⟩
theorem i_lc {own : List Nat} {tg : Tg} {it : It} {c : OE} {x : E} {e : Expr} (h : mE C.tb N k sc (.lc own tg it c x) e = true) : ∃ elt tg' iter ifs scope p, e = .ListComp elt [⟨tg', iter, ifs, 0⟩] scope p ∧ blkC N sc scope (ownB N own) = true ∧ mTg N scope tg tg' = true ∧ tgIn tg own = true ∧ noSetE iter = true ∧
    mI C.tb N k sc it iter tg' = true ∧ mC C.tb N k (relS scope sc) c ifs = true ∧ mE C.tb N k (relS scope sc) x elt = true := by
  cases e <;> try (simp [mE] at h; done)
  rename_i elt gs scope p
  rcases gs with _ | ⟨⟨tg', iter, ifs, n⟩, _ | ⟨_, _⟩⟩ <;> try (simp [mE] at h; done)
  by_cases hn : n = 0
  case neg => simp [mE, hn] at h
  subst hn
  simp only [mE, Bool.and_eq_true] at h
  obtain ⟨⟨⟨⟨⟨⟨h1, h2⟩, h3⟩, h4⟩, h5⟩, h6⟩, h7⟩ := h
  exact ⟨_, _, _, _, _, _, rfl, h1, h2, h3, h4, h5, h6, h7⟩
theorem PO.imp {a : Option Expr} {t t' : TO} (h : PO X a t) (k : ∀ σ H Q, t' σ H Q → t σ H Q) : PO X a t' := ⟨fun pins s σ H Q I q => h.run pins s σ H Q I (k σ H Q q)⟩
theorem PTs.imp {a : List Expr} {t t' : TT} (h : PTs X a t) (k : ∀ σ H Q, t' σ H Q → t σ H Q) : PTs X a t' := ⟨fun pins s σ H Q I q => h.run pins s σ H Q I (k σ H Q q)⟩
theorem k_c0 {K : PySem.W.Frag} {mg : Str → Option Value} {σ : Sl} {H : Hp} {Q : Bool → Hp → Prop} (h : semB K mg W (evC C .none) σ H Q) : tYes σ H Q := by
  obtain ⟨e, Z, F, re, ok, po⟩ := h
  have all : ∀ a, a ∈ F ++ [] → a ∈ F := fun a ha => by simpa using ha
  have po' : Post K mg aB W σ H Z F (.ok true e) Q := by simpa only [evC] using po
  exact po' true H Z F [] re ⟨rfl, rfl⟩ Dj.nilR (ok.mono all) (Step.refl all)
theorem i_rng1 {a : E} {iter tg : Expr} (h : mI C.tb N k sc (.rng1 a) iter tg = true) : ∃ p1 x p, iter = .Call (.Name "range" p1) [x] [] p ∧ glB sc "range" = true ∧ C.tb.bn.contains ("range" : Str) = true ∧ plainE x = true ∧ mE C.tb N k sc a x = true := by
  cases iter <;> try (simp [mI] at h; done)
  rename_i g args kws p
  cases g <;> try (simp [mI] at h; done)
  rcases args with _ | ⟨y, _ | ⟨_, _⟩⟩ <;> rcases kws with _ | ⟨kw, kws⟩ <;> try (simp [mI] at h; done)
  simp only [mI, Bool.and_eq_true, decide_eq_true_eq] at h
  obtain ⟨⟨⟨⟨h1, rfl⟩, h2⟩, h3⟩, h4⟩ := h
  exact ⟨_, _, _, rfl, h1, h2, h3, h4⟩
theorem i_rng2 {a b : E} {iter tg : Expr} (h : mI C.tb N k sc (.rng2 a b) iter tg = true) : ∃ p1 x y p, iter = .Call (.Name "range" p1) [x, y] [] p ∧ glB sc "range" = true ∧ C.tb.bn.contains ("range" : Str) = true ∧ plainE x = true ∧ plainE y = true ∧ mE C.tb N k sc a x = true ∧ mE C.tb N k sc b y = true := by
  cases iter <;> try (simp [mI] at h; done)
  rename_i g args kws p
  cases g <;> try (simp [mI] at h; done)
  rcases args with _ | ⟨y, _ | ⟨z, _ | ⟨_, _⟩⟩⟩ <;> rcases kws with _ | ⟨kw, kws⟩ <;> try (simp [mI] at h; done)
  simp only [mI, Bool.and_eq_true, decide_eq_true_eq] at h
  obtain ⟨⟨⟨⟨⟨⟨h1, rfl⟩, h2⟩, h3⟩, h4⟩, h5⟩, h6⟩ := h
  exact ⟨_, _, _, _, rfl, h1, h2, h3, h4, h5, h6⟩
theorem i_enum {a : E} {iter tg : Expr} (h : mI C.tb N k sc (.enum a) iter tg = true) : ∃ p1 x p l kk tp, iter = .Call (.Name "enumerate" p1) [x] [] p ∧ tg = .Tuple l kk tp ∧ glB sc "enumerate" = true ∧ C.tb.bn.contains ("enumerate" : Str) = true ∧ plainE x = true ∧ mE C.tb N k sc a x = true := by
  cases iter <;> try (simp [mI] at h; done)
  rename_i g args kws p
  cases g <;> try (simp [mI] at h; done)
  rcases args with _ | ⟨y, _ | ⟨_, _⟩⟩ <;> rcases kws with _ | ⟨kw, kws⟩ <;> try (simp [mI] at h; done)
  cases tg <;> try (simp [mI] at h; done)
  simp only [mI, Bool.and_eq_true, decide_eq_true_eq] at h
  obtain ⟨⟨⟨⟨h1, rfl⟩, h2⟩, h3⟩, h4⟩ := h
  exact ⟨_, _, _, _, _, _, rfl, rfl, h1, h2, h3, h4⟩
theorem i_zip {a b : E} {iter tg : Expr} (h : mI C.tb N k sc (.zip a b) iter tg = true) : ∃ p1 x y p l kk tp, iter = .Call (.Name "zip" p1) [x, y] [] p ∧ tg = .Tuple l kk tp ∧ glB sc "zip" = true ∧ C.tb.bn.contains ("zip" : Str) = true ∧ plainE x = true ∧ plainE y = true ∧ mE C.tb N k sc a x = true ∧ mE C.tb N k sc b y = true := by
  cases iter <;> try (simp [mI] at h; done)
  rename_i g args kws p
  cases g <;> try (simp [mI] at h; done)
  rcases args with _ | ⟨y, _ | ⟨z, _ | ⟨_, _⟩⟩⟩ <;> rcases kws with _ | ⟨kw, kws⟩ <;> try (simp [mI] at h; done)
  cases tg <;> try (simp [mI] at h; done)
  simp only [mI, Bool.and_eq_true, decide_eq_true_eq] at h
  obtain ⟨⟨⟨⟨⟨⟨h1, rfl⟩, h2⟩, h3⟩, h4⟩, h5⟩, h6⟩ := h
  exact ⟨_, _, _, _, _, _, _, rfl, rfl, h1, h2, h3, h4, h5, h6⟩
end
end PT

/-! PtS: every expression of the little language is its Python text (the proof). -/
namespace PT
open PySem PySem.Spec PyProof.Rows L2
section
variable {X : Cx} {C : Cf} {W : WX} {k : Nat} {N : List Str} {sc : Scope}
theorem evL_len : ∀ {as : EL} {e e1 : Env} {ts : List T}, evL C as e = .ok ts e1 → ts.length = lenEL as
  | .nil, e, e1, ts, h => by
    simp only [evL] at h
    cases h
    rfl
  | .cons x r, e, e1, ts, h => by
    simp only [evL] at h
    cases q : ev C x e with
    | ok t e2 =>
      rw [q] at h
      simp only [R.bind] at h
      cases q2 : evL C r e2 with
      | ok us e3 =>
        rw [q2] at h
        simp only [R.bindO] at h
        cases h
        simp [lenEL, evL_len q2]
      | exc y e3 => rw [q2] at h; cases h
      | fail => rw [q2] at h; cases h
    | exc y e2 => rw [q] at h; cases h
    | fail => rw [q] at h; cases h
theorem semA_len {K : PySem.W.Frag} {mg : Str → Option Value} {as : EL} {σ : Sl} {H : Hp} {P : List V → Hp → Prop} (h : semA K mg W C as σ H fun vs H1 => vs.length = lenEL as → P vs H1) : semA K mg W C as σ H P := by
  obtain ⟨e, Z, F, re, ok, po⟩ := h
  refine ⟨e, Z, F, re, ok, ?_⟩
  cases q : evL C as e with
  | fail => rw [q] at po; exact po
  | exc x e1 => rw [q] at po; exact po
  | ok ts e1 =>
    rw [q] at po
    exact fun b H' Z' F' Fa h1 h2 h3 h4 h5 => po b H' Z' F' Fa h1 h2 h3 h4 h5 (by rw [← h2.1.length]; exact evL_len q)
theorem pw_of {op : BoolOp} {vs : List Expr} {p : Pos} {t : TT} (h : L2.PT X (.BoolOp op vs p) t) : PW X (.BoolOp op vs p) t := ⟨fun wh pins s σ H Q I hw => h.run pins s σ H Q I hw⟩
theorem pt_of {op : BoolOp} {vs : List Expr} {p : Pos} {t : TT} (h : PW X (.BoolOp op vs p) t) : L2.PT X (.BoolOp op vs p) t := ⟨fun pins s σ H Q I hw => h.run _ pins s σ H Q I hw⟩
abbrev WE1 (X : Cx) (W : WX) (C : Cf) (x : E) : TE := semE X.K X.mg W (ev C x)
abbrev WB1 (X : Cx) (W : WX) (C : Cf) (x : E) : TT := semB X.K X.mg W fun e => (ev C x e).bindO boolOf
/-- both readings -/
def Both (X : Cx) (W : WX) (C : Cf) (x : E) (a : Expr) : Prop := PE X a (WE1 X W C x) ∧ L2.PT X a (WB1 X W C x)
theorem Both.of {x : E} {a : Expr} (h : PE X a (WE1 X W C x)) (he : ∀ whole, isTrue a X.env whole = (do let v ← whole; standAt a.pos; holding [v] (truthy v)) := by intro _; rfl) : Both X W C x a := ⟨h, ptv h he⟩
theorem cmp_t {l r : Expr} {op : CmpOp} {p : Pos} {t : TE} {f : Env → R T} (h : L2.PT X (.Compare l [op] [r] p) (tTest t)) (k : ∀ σ H Q, semE X.K X.mg W f σ H Q → t σ H Q) : L2.PT X (.Compare l [op] [r] p) (semB X.K X.mg W fun e => (f e).bindO boolOf) :=
  PT.imp h fun σ H Q q => k σ H _ (t_of_e q)
mutual
theorem goE : ∀ (x : E) {X : Cx} {W : WX} {sc : Scope} (c : Kx C W k N sc X) {a : Expr}, mE C.tb N k sc x a = true → Both X W C x a
  | .non, X, W, sc, c, a, h => by
    cases a <;> try (simp [mE] at h; done)
    rename_i u _ _
    cases u <;> try (simp [mE] at h; done)
    exact Both.of (PE.imp pe_non fun σ H Q q => s_lit (fun e => by simp only [ev]) (fun _ _ => .non) q)
  | .bl b, X, W, sc, c, a, h => by
    cases a <;> try (simp [mE] at h; done)
    rename_i u _ _
    cases u <;> try (simp [mE] at h; done)
    simp only [mE, beq_iff_eq] at h
    subst h
    exact Both.of (PE.imp pe_bl fun σ H Q q => s_lit (fun e => by simp only [ev]) (fun _ _ => .bl _) q)
  | .int i, X, W, sc, c, a, h => by
    cases a <;> try (simp [mE] at h; done)
    rename_i u _ _
    cases u <;> try (simp [mE] at h; done)
    simp only [mE, decide_eq_true_eq] at h
    subst h
    exact Both.of (PE.imp pe_int fun σ H Q q => s_lit (fun e => by simp only [ev]) (fun _ _ => .int _) q)
  | .str x, X, W, sc, c, a, h => by
    cases a <;> try (simp [mE] at h; done)
    rename_i u _ _
    cases u <;> try (simp [mE] at h; done)
    simp only [mE, decide_eq_true_eq] at h
    subst h
    exact Both.of (PE.imp pe_str fun σ H Q q => s_lit (fun e => by simp only [ev]) (fun _ _ => .str _) q)
  | .var i, X, W, sc, c, a, h => by
    simp only [mE] at h
    have := pe_slot c h
    cases a <;> try (simp [varB] at h; done)
    exact Both.of (PE.imp this fun σ H Q q => s_var q)
  | .mv i, X, W, sc, c, a, h => by
    simp only [mE] at h
    have := pe_slot c h
    cases a <;> try (simp [varB] at h; done)
    exact Both.of (PE.imp this fun σ H Q q => s_mv q)
  | .lend i, X, W, sc, c, a, h => by
    simp only [mE] at h
    have := pe_slot c h
    cases a <;> try (simp [varB] at h; done)
    exact Both.of (PE.imp this fun σ H Q q => s_lend q)
  | .glo i, X, W, sc, c, a, h => by
    cases a <;> try (simp [mE] at h; done)
    simp only [mE, Bool.and_eq_true] at h
    obtain ⟨⟨h1, h2⟩, h3⟩ := h
    split at h3
    · rename_i p hp
      have := of_decide_eq_true h3
      subst this
      obtain ⟨v, u, e1, r, q1⟩ := c.gl i p hp
      exact Both.of (PE.imp (pe_glob (gl_of c h1) e1 r (nm1 h2)) fun σ H Q q => k_glo hp q1 q)
    · cases h3
  | .bin op a b, X, W, sc, c, e, h => by
    obtain ⟨l, r, p, rfl, h1, h2⟩ := i_bin h
    exact Both.of (PE.imp (pe_op (op_bin op) (goE a c h1).1 (goE b c h2).1) fun σ H Q q => k_bin q)
  | .neg a, X, W, sc, c, e, h => by
    obtain ⟨y, p, rfl, h1⟩ := i_neg h
    exact Both.of (PE.imp (pe_un un_neg (goE a c h1).1) fun σ H Q q => k_neg q)
  | .cmp op a b, X, W, sc, c, e, h => by
    obtain ⟨l, r, p, rfl, h1, h2, h3⟩ := i_cmp h
    have o := op_cmp (X := X) c.room.units op
    exact ⟨PE.imp (pe_cmpR o (goE a c h1).1 (goE b c h2).1 h3) fun σ H Q q => k_cmp q, PT.imp (pt_cmpR o (goE a c h1).1 (goE b c h2).1 h3) fun σ H Q q => k_cmp (t_of_e q)⟩
  | .chn op op' a b d, X, W, sc, c, e, h => by
    obtain ⟨l, r, r', p, rfl, h1, h2, h4, h3⟩ := i_chn h
    have o := op_cmp (X := X) c.room.units op
    have o' := op_cmp (X := X) c.room.units op'
    exact ⟨PE.imp (pe_chain o o' (goE a c h1).1 (goE b c h2).1 (goE d c h4).1 h3) fun σ H Q q => k_chn q, PT.imp (pt_chain o o' (goE a c h1).1 (goE b c h2).1 (goE d c h4).1 h3) fun σ H Q q => k_chn (t_of_e q)⟩
  | .not a, X, W, sc, c, e, h => by
    obtain ⟨y, p, rfl, h1⟩ := i_not h
    exact ⟨PE.imp (pe_not (goE a c h1).1) fun σ H Q q => k_not q, PT.imp (pt_not (goE a c h1).2) fun σ H Q q => k_notB q⟩
  | .and a b, X, W, sc, c, e, h => by
    obtain ⟨l, r, rest, p, rfl, h1, h2⟩ := i_and h
    have ha := goE a c h1
    have hb := goE b c h2
    cases rest with
    | nil => exact ⟨PE.imp (pe_and ha.1 (pe_one hb.1)) fun σ H Q q => k_and q, PT.imp (pt_of (pw_and ha.2 (pw_and1 hb.2))) fun σ H Q q => k_andB q⟩
    | cons r2 rest => exact ⟨PE.imp (pe_and ha.1 hb.1) fun σ H Q q => k_and q, PT.imp (pt_of (pw_and ha.2 (pw_of hb.2))) fun σ H Q q => k_andB q⟩
  | .or a b, X, W, sc, c, e, h => by
    obtain ⟨l, r, rest, p, rfl, h1, h2⟩ := i_or h
    have ha := goE a c h1
    have hb := goE b c h2
    cases rest with
    | nil => exact ⟨PE.imp (pe_or ha.1 (pe_one hb.1)) fun σ H Q q => k_or q, PT.imp (pt_of (pw_or ha.2 (pw_or1 hb.2))) fun σ H Q q => k_orB q⟩
    | cons r2 rest => exact ⟨PE.imp (pe_or ha.1 hb.1) fun σ H Q q => k_or q, PT.imp (pt_of (pw_or ha.2 (pw_of hb.2))) fun σ H Q q => k_orB q⟩
  | .ife d a b, X, W, sc, c, e, h => by
    obtain ⟨d', a', b', p, rfl, h0, h1, h2⟩ := i_ife h
    exact ⟨PE.imp (pe_ifExp (goE d c h0).2 (goE a c h1).1 (goE b c h2).1) fun σ H Q q => k_ife q, PT.imp (pt_ife (goE d c h0).2 (goE a c h1).2 (goE b c h2).2) fun σ H Q q => k_ifeB q⟩
  | .tup es, X, W, sc, c, e, h => by
    obtain ⟨xs, x1, p, rfl, h1⟩ := i_tup h
    exact Both.of (PE.imp (pe_tup (goL es c h1)) fun σ H Q q => k_tup q)
  | .lst es, X, W, sc, c, e, h => by
    obtain ⟨xs, p, rfl, h1⟩ := i_lst h
    exact Both.of (PE.imp (pe_lst (goL es c h1)) fun σ H Q q => k_lst q)
  | .ix a b, X, W, sc, c, e, h => by
    obtain ⟨v, s, p, rfl, h0, h1, h2⟩ := i_ix h
    exact Both.of (PE.imp (pe_ix (ix_any (by have := c.room.units; omega)) (goE a c h1).1 (goE b c h2).1 (noSl_ix h0)) fun σ H Q q => k_ix q)
  | .sl a lo hi, X, W, sc, c, e, h => by
    obtain ⟨v, l, hh, p2, p, rfl, h0, h1, h2⟩ := i_sl h
    exact Both.of (PE.imp (pe_slice sl_any (goE a c h0).1 (goO lo c h1) (goO hi c h2)) fun σ H Q q => k_sl q)
  | .call f d as, X, W, sc, c, e, h => by
    obtain ⟨x, p1, args, p, rfl, h1, h2, h3, h4⟩ := i_call h
    have ha := goL as c h4
    obtain ⟨m1, m2⟩ := mEL_plain h4
    unfold callB at h3
    split at h3
    case h_2 => cases h3
    rename_i fi hf
    simp only [Bool.and_eq_true, decide_eq_true_eq] at h3
    obtain ⟨⟨e1, h5⟩, h6⟩ := h3
    split at h6
    case h_2 => cases h6
    rename_i ds hds
    have h6 := of_decide_eq_true h6
    obtain ⟨ad, fd, q⟩ := c.cal f fi hf h5
    obtain ⟨us, dvs, q1, q2, q3⟩ := q.bd d ds hds
    have dl : ds.length = dvs.length := (q3 (fun _ => none) (fun _ => False)).length
    have hd : ∀ ds', C.tb.dfl f d = some ds' → ∀ H Z, RepL X.K H Z ds' dvs [] := fun ds' e2 => by
      unfold Tb.dfl at e2
      rw [hf] at e2
      have e2 : fi.ds[d]? = some ds' := e2
      rw [hds] at e2
      cases e2
      exact q3
    have key : ∀ σ H Q, WE1 X W C (.call f d as) σ H Q → tCallSD (spF X.K X.mg fi.ps.length (C.φ f)) dvs (WE W) (semA X.K X.mg W C as) σ H Q := fun σ H Q q => semA_len (k_call (n := fi.ps.length) hd (fun vs hv => by omega) q)
    have gl := gl_of c h1
    have mg := q.mg
    rw [e1] at mg
    cases args with
    | nil =>
      cases as with
      | nil => exact Both.of (PE.imp (pe_callSD0 (q.ok.mono h5) c.room gl mg q.kp q1 q2 (passAt c.tk) (nm1 h2)) fun σ H Q q => k_nil (key σ H Q q))
      | cons _ _ => simp [mEL] at h4
    | cons x0 xs =>
      simp only [List.all_cons, Bool.and_eq_true] at m1
      exact Both.of (PE.imp (pe_callSD (q.ok.mono h5) c.room gl mg q.kp q1 q2 (passAt c.tk) ha (nm1 h2) (plain_star m1.1) (plain_any m1.2)) key)
  | .bi b as, X, W, sc, c, e, h => by
    obtain ⟨p1, x, xs, p, rfl, h1, h2, h3⟩ := i_bi h
    obtain ⟨m1, m2⟩ := mEL_plain h3
    simp only [List.all_cons, Bool.and_eq_true] at m1
    exact Both.of (PE.imp (pe_bi c.calm b (gl_of c h1) (bnOf c h2) (goL as c h3) (plain_star m1.1) (plain_any m1.2)) fun σ H Q q => k_bi q)
  | .isi a t, X, W, sc, c, e, h => by
    obtain ⟨p1, y, p2, p, rfl, h1, h2, h3, h4, h5, h6⟩ := i_isi h
    have hy := (goE a c h6).1
    have ht : PE X (.Name (Str.ofString (tyS t)) p2) (tC (.ty (tyS t))) := by
      have g := gl_of c h4
      have b := bnOf c h5
      cases t <;> exact pe_bltn g b rfl rfl
    refine Both.of (PE.imp (pe_callB (r := rIsi X.K) (t := tCons (WE1 X W C a) (tCons (tC (.ty (tyS t))) tNil)) call_isi (gl_of c h1) (bnOf c h2) rfl (pa_cons hy (pa_cons ht pa_nil) (plain_star h3)) (he := plain_star h3)) fun σ H Q q => ?_)
    have q := k_isi q
    obtain ⟨e, Z, F, re, ok, po⟩ := q
    exact ⟨e, Z, F, re, ok, po.imp fun v H1 ⟨n, b, g1, g2, g3⟩ => ⟨v, .ty (tyS t), .type n, .type (tyS t), b, rfl, .ty _, g1, kit_ty g2, g3⟩⟩
  | .meth m a as, X, W, sc, c, e, h => by
    obtain ⟨o, ap, x, xs, p, rfl, h1, h2, h3, h4, h5⟩ := i_meth h
    obtain ⟨m1, m2⟩ := mEL_plain h5
    have fw := plain_few (env := X.env) (pos := p) m1 h3
    simp only [List.all_cons, Bool.and_eq_true] at m1
    cases m with
    | index => exact Both.of (PE.imp (pe_bm PySem.F.plainAttrs_list PySem.F.slot_list_index PySem.F.type_list_index mt_index (goE a c h4).1 (goL as c h5) (noC0_base h2) fw h1 (plain_star m1.1) (plain_any m1.2)) fun σ H Q q => k_index q)
    | count => exact Both.of (PE.imp (pe_bm PySem.F.plainAttrs_list PySem.F.slot_list_count PySem.F.type_list_count mt_lcount (goE a c h4).1 (goL as c h5) (noC0_base h2) fw h1 (plain_star m1.1) (plain_any m1.2)) fun σ H Q q => k_count q)
    | get => exact Both.of (PE.imp (pe_getA (by have := c.room.units; omega) (goE a c h4).1 (goL as c h5) (noC0_base h2) fw h1 (plain_star m1.1) (plain_any m1.2)) fun σ H Q q => k_get q)
  | .pop i, X, W, sc, c, e, h => by
    obtain ⟨o, ap, p, rfl, h1, h2⟩ := i_pop h
    have hs := pe_slot c h2
    cases o <;> try (simp [varB] at h2; done)
    exact Both.of (PE.imp (pe_bm0 PySem.F.plainAttrs_list PySem.F.slot_list_pop PySem.F.type_list_pop mt_pop hs rfl h1) fun σ H Q q => k_pop q)
  | .lc own tg it d x, X, W, sc, c, e, h => by
    obtain ⟨elt, tg', iter, ifs, scope, p, rfl, h1, h2, h3, h4, h5, h6, h7⟩ := i_lc h
    have ok : BlkOk X.N X.env.scope scope (ownB N own) := by rw [c.hN, c.hsc]; exact blkOk_by h1
    have hi := goI it c h5
    have ow : (ownB N own).map (·.2) = own := by unfold ownB; rw [List.map_map]; exact List.map_id _
    have := pe_lc (pos := p) (g := semG X.K C.P tg) (tt := semB X.K X.mg W0 (evC C d)) (te := semE X.K X.mg W0 (ev C x)) c.calm (by rw [c.hN]; exact c.nd) hi ok (fun s H D cl fp => p_tg (kx_blk c ok.kind s H D cl fp) (fun x hx => ?_) h2) (fun s H D cl fp => goC d (kx_blk c ok.kind s H D cl fp) h6) (fun s H D cl fp => (goE x (kx_blk c ok.kind s H D cl fp) h7).1) (noSet_it h4)
    · rw [ow] at this
      exact Both.of (PE.imp this fun σ H Q q => k_lc h3 q)
    · have z := loc_of hx
      rcases z with z | z
      · have z2 := lookup_relS_keep (sc := X.env.scope) (by decide) z
        exact ⟨.inl z2, .inr z2⟩
      · have z2 := lookup_relS_keep (sc := X.env.scope) (by decide) z
        exact ⟨.inr z2, .inl (by show (scope.names.lookup x == some .cell) = true; rw [z]; rfl)⟩
  | .ro m x, X, W, sc, c, e, h => by
    have h' : mE C.tb N k sc x e = true := by simpa only [mE] using h
    have g := goE x c h'
    exact ⟨PE.imp g.1 fun σ H Q q => k_ro q, PT.imp g.2 fun σ H Q q => k_roB q⟩
theorem goL : ∀ (as : EL) {X : Cx} {W : WX} {sc : Scope} (c : Kx C W k N sc X) {es : List Expr}, mEL C.tb N k sc as es = true → PA X es (semA X.K X.mg W C as)
  | .nil, X, W, sc, c, es, h => by
    cases es with
    | nil => exact PA.imp pa_nil fun σ H Q q => k_nil q
    | cons _ _ => simp [mEL] at h
  | .cons x r, X, W, sc, c, es, h => by
    cases es with
    | nil => simp [mEL] at h
    | cons y ys =>
      simp only [mEL, Bool.and_eq_true] at h
      obtain ⟨⟨h1, h2⟩, h3⟩ := h
      have hr := goL r c h3
      have hx := (goE x c h2).1
      by_cases hl : ∃ i, x = .lend i
      · obtain ⟨i, rfl⟩ := hl
        simp only [mE] at h2
        exact PA.imp (pa_cons (pe_slot c h2) hr (plain_star h1)) fun σ H Q q => k_consL q
      · exact PA.imp (pa_cons hx hr (plain_star h1)) fun σ H Q q => k_cons (nlend fun i e => hl ⟨i, e⟩) q
theorem goO : ∀ (o : OE) {X : Cx} {W : WX} {sc : Scope} (c : Kx C W k N sc X) {e : Option Expr}, mO C.tb N k sc o e = true → PO X e (semO X.K X.mg W (evO C o))
  | .none, X, W, sc, c, e, h => by
    cases e with
    | none => exact PO.imp po_none fun σ H Q q => k_po0 q
    | some _ => simp [mO] at h
  | .some x, X, W, sc, c, e, h => by
    cases e with
    | none => simp [mO] at h
    | some y =>
      simp only [mO] at h
      exact PO.imp (po_some (goE x c h).1) fun σ H Q q => k_po1 q
theorem goC : ∀ (o : OE) {X : Cx} {W : WX} {sc : Scope} (c : Kx C W k N sc X) {es : List Expr}, mC C.tb N k sc o es = true → PTs X es (semB X.K X.mg W (evC C o))
  | .none, X, W, sc, c, es, h => by
    cases es with
    | nil => exact PTs.imp pts_nil fun σ H Q q => k_c0 q
    | cons _ _ => simp [mC] at h
  | .some x, X, W, sc, c, es, h => by
    rcases es with _ | ⟨y, _ | ⟨_, _⟩⟩ <;> try (simp [mC] at h; done)
    simp only [mC] at h
    have := pts_one (goE x c h).2
    exact PTs.imp this fun σ H Q q => by simpa only [evC] using q
theorem goI : ∀ (it : It) {X : Cx} {W : WX} {sc : Scope} (c : Kx C W k N sc X) {iter tg : Expr}, mI C.tb N k sc it iter tg = true → PI X tg iter (fun σ H R => semI X.K X.mg W (evI C it) σ H R)
  | .seq a, X, W, sc, c, iter, tg, h => by
    simp only [mI] at h
    have g := (goE a c h).1
    exact PI.imp (PI.or (pi_list g) (pi_tup g)) fun σ H R q => k_seq q
  | .rng1 a, X, W, sc, c, iter, tg, h => by
    obtain ⟨p1, x, p, rfl, h1, h2, h3, h4⟩ := i_rng1 h
    exact PI.imp (pi_range1 (gl_of c h1) (bnOf c h2) (pa_cons (goE a c h4).1 pa_nil (plain_star h3)) (plain_star h3)) fun σ H R q => k_rng1 q
  | .rng2 a b, X, W, sc, c, iter, tg, h => by
    obtain ⟨p1, x, y, p, rfl, h1, h2, h3, h4, h5, h6⟩ := i_rng2 h
    exact PI.imp (pi_range2 (gl_of c h1) (bnOf c h2) (pa_cons (goE a c h5).1 (pa_cons (goE b c h6).1 pa_nil (plain_star h4)) (plain_star h3)) (by rw [plain_star h3, plain_star h4]; rfl) (plain_star h4)) fun σ H R q => k_rng2 q
  | .enum a, X, W, sc, c, iter, tg, h => by
    obtain ⟨p1, x, p, l, kk, tp, rfl, rfl, h1, h2, h3, h4⟩ := i_enum h
    exact PI.imp (pi_enum (gl_of c h1) (bnOf c h2) (pa_cons (goE a c h4).1 pa_nil (plain_star h3)) (plain_star h3)) fun σ H R q => k_enum q
  | .zip a b, X, W, sc, c, iter, tg, h => by
    obtain ⟨p1, x, y, p, l, kk, tp, rfl, rfl, h1, h2, h3, h4, h5, h6⟩ := i_zip h
    exact PI.imp (RZ.pi_zipA (gl_of c h1) (bnOf c h2) (pa_cons (goE a c h5).1 (pa_cons (goE b c h6).1 pa_nil (plain_star h4)) (plain_star h3)) (plain_star h3) (plain_any (by simp [h4]))) fun σ H R q => k_zip q
end
end
end PT

/-! PtT: what a statement's run says of the machine's. -/
namespace PT
open PySem PySem.Spec PyProof.Rows L2
def KeepP (P : List Bool) (σ σ' : Sl) : Prop := ∀ i, P.getD i false = true → σ'[i]? = σ[i]?
def PostS (K : PySem.W.Frag) (mg : Str → Option Value) (W : WX) (P : List Bool) (D : Ends) (σ : Sl) (H : Hp) (Z : Addr → Prop) (F : List Addr) (r : SR) : Prop := match r with
  | .next e => ∀ σ' H' Z' F', RepE K H' Z' e σ' F' → Okk H' Z' F' → Step H Z F H' Z' F' → KeepP P σ σ' → D.nx σ' H'
  | .brk e => ∀ σ' H' Z' F', RepE K H' Z' e σ' F' → Okk H' Z' F' → Step H Z F H' Z' F' → KeepP P σ σ' → D.bk σ' H'
  | .cnt e => ∀ σ' H' Z' F', RepE K H' Z' e σ' F' → Okk H' Z' F' → Step H Z F H' Z' F' → KeepP P σ σ' → D.ct σ' H'
  | .ret t e => ∀ v σ' H' Z' F' Ft, RepE K H' Z' e σ' F' → Rep K H' Z' t v Ft → Dj F' Ft → Okk H' Z' (F' ++ Ft) → Step H Z F H' Z' (F' ++ Ft) → KeepP P σ σ' → D.rt v H'
  | .exc x e => ∀ cls d σ' H' Z' F', RepE K H' Z' e σ' F' → XRep K mg H' Z' x cls d → Okk H' Z' F' → Step H Z F H' Z' F' → KeepP P σ σ' → W cls d σ' H'
  | .fail => False
def semS (K : PySem.W.Frag) (mg : Str → Option Value) (W : WX) (P : List Bool) (f : Env → SR) : TS := fun D σ H => ∃ e Z F, RepE K H Z e σ F ∧ Okk H Z F ∧ PostS K mg W P D σ H Z F (f e)
section
variable {X : Cx} {C : Cf} {W : WX} {k : Nat} {N : List Str} {sc : Scope} {K : PySem.W.Frag} {mg : Str → Option Value} {P : List Bool} {D : Ends} {σ σ' : Sl} {H H' : Hp} {Z Z' : Addr → Prop} {F F' : List Addr} {r : SR}
theorem KeepP.refl : KeepP P σ σ := fun _ _ => rfl
theorem KeepP.trans {σ2 : Sl} (a : KeepP P σ σ') (b : KeepP P σ' σ2) : KeepP P σ σ2 := fun i h => (b i h).trans (a i h)
theorem stp {H2 : Hp} {Z2 : Addr → Prop} {F2 : List Addr} (a : Step H Z F H' Z' F') (b : Step H' Z' F' H2 Z2 F2) : Step H Z F H2 Z2 F2 := a.trans b (fun _ h => h) fun _ h => .inl h
theorem PostS.later (h : PostS K mg W P D σ H Z F r) (st : Step H Z F H' Z' F') (kp : KeepP P σ σ') : PostS K mg W P D σ' H' Z' F' r := by
  cases r with
  | next e => exact fun σ2 H2 Z2 F2 h1 h2 h3 h4 => h σ2 H2 Z2 F2 h1 h2 (stp st h3) (kp.trans h4)
  | brk e => exact fun σ2 H2 Z2 F2 h1 h2 h3 h4 => h σ2 H2 Z2 F2 h1 h2 (stp st h3) (kp.trans h4)
  | cnt e => exact fun σ2 H2 Z2 F2 h1 h2 h3 h4 => h σ2 H2 Z2 F2 h1 h2 (stp st h3) (kp.trans h4)
  | ret t e => exact fun v σ2 H2 Z2 F2 Ft h1 h2 h3 h4 h5 h6 => h v σ2 H2 Z2 F2 Ft h1 h2 h3 h4 (stp st h5) (kp.trans h6)
  | exc x e => exact fun cls d σ2 H2 Z2 F2 h1 h2 h3 h4 h5 => h cls d σ2 H2 Z2 F2 h1 h2 h3 (stp st h4) (kp.trans h5)
  | fail => exact h
/-- behind an evaluation: the statement's rest -/
structure MidS {α β : Type} (K : PySem.W.Frag) (mg : Str → Option Value) (A : RA α β) (W : WX) (P : List Bool) (D : Ends) (σ : Sl) (H : Hp) (Z : Addr → Prop) (F : List Addr) (g : α → Env → SR) (b : β) (H1 : Hp) (a : α) (e1 : Env) (Z1 : Addr → Prop) (F1 Fa : List Addr) : Prop where
  re : RepE K H1 Z1 e1 σ F1
  ra : A H1 Z1 a b Fa
  dj : Dj F1 Fa
  ok : Okk H1 Z1 (F1 ++ Fa)
  st : Step H Z F H1 Z1 (F1 ++ Fa)
  po : PostS K mg W P D σ H1 Z1 (F1 ++ Fa) (g a e1)
theorem st_sem {α β : Type} {A : RA α β} {f : R α} {g : α → Env → SR} (h : PostS K mg W P D σ H Z F (f.st g)) : Post K mg A W σ H Z F f (fun b H1 => ∃ a e1 Z1 F1 Fa, MidS K mg A W P D σ H Z F g b H1 a e1 Z1 F1 Fa) := by
  cases f with
  | fail => exact h
  | exc x e => exact fun cls d H' Z' F' h1 h2 h3 h4 => h cls d σ H' Z' F' h1 h2 h3 h4 KeepP.refl
  | ok a e =>
    intro b H1 Z1 F1 Fa h1 h2 h3 h4 h5
    exact ⟨a, e, Z1, F1, Fa, h1, h2, h3, h4, h5, PostS.later (r := g a e) h h5 KeepP.refl⟩
/-- .. with others held -/
theorem st_semG {α β : Type} {A : RA α β} {f : R α} {g : α → Env → SR} {G : List Addr} (ok : Okk H Z (F ++ G)) (hs : ∀ x, x ∈ G → (H x).isSome = true) (dj : Dj F G) (h : PostS K mg W P D σ H Z (F ++ G) (f.st g)) :
    Post K mg A W σ H Z F f (fun b H1 => ∃ a e1 Z1 F1 Fa, RepE K H1 Z1 e1 σ F1 ∧ A H1 Z1 a b Fa ∧ Dj F1 Fa ∧ Dj G (F1 ++ Fa) ∧ Okk H1 Z1 ((F1 ++ Fa) ++ G) ∧ (∀ x, x ∈ G → H1 x = H x) ∧ (∀ x, Z x → H1 x = H x) ∧ (∀ x, Z x → Z1 x) ∧ PostS K mg W P D σ H1 Z1 ((F1 ++ Fa) ++ G) (g a e1)) := by
  cases f with
  | fail => exact h
  | exc x e =>
    intro cls d H' Z' F' re xr ok' st
    exact h cls d σ H' Z' F' re xr ok' ⟨st.1, fun a ha hn => st.2 a ha fun z => hn (List.mem_append_left _ z)⟩ KeepP.refl
  | ok a e =>
    intro b H1 Z1 F1 Fa re ra d1 ok1 st
    have hg : ∀ x, x ∈ G → H1 x = H x ∧ x ∉ (F1 ++ Fa) ∧ (Z1 x → Z x) := fun x hx => st.2 x (hs x hx) (fun z => dj x z hx)
    have hz : ∀ x, Z x → H1 x = H x := fun x z => (st.2 x (ok.zd x z) fun q => ok.zf x (List.mem_append_left _ q) z).1
    refine ⟨a, e, Z1, F1, Fa, re, ra, d1, fun x hx => (hg x hx).2.1, ⟨fun x hx => ?_, ok1.zd⟩, fun x hx => (hg x hx).1, hz, st.1, ?_⟩
    · rcases List.mem_append.mp hx with q | q
      · exact ok1.zf x q
      · exact fun z => ok.zf x (List.mem_append_right _ q) ((hg x q).2.2 z)
    · refine PostS.later (r := g a e) h ⟨st.1, fun x hx hn => ?_⟩ KeepP.refl
      obtain ⟨g1, g2, g3⟩ := st.2 x hx fun z => hn (List.mem_append_left _ z)
      exact ⟨g1, fun z => (List.mem_append.mp z).elim g2 fun z => hn (List.mem_append_right _ z), g3⟩
/-! ### the statements, one by one -/
abbrev sS (X : Cx) (W : WX) (C : Cf) (s : S) : TS := semS X.K X.mg W C.P (ex C s)
theorem y_next {f : Env → SR} (hf : ∀ e, f e = .next e) (h : semS K mg W P f D σ H) : tNext D σ H := by
  obtain ⟨e, Z, F, re, ok, po⟩ := h
  rw [hf] at po
  exact po σ H Z F re ok (Step.refl fun _ h => h) KeepP.refl
theorem y_seq {a b : S} (h : semS K mg W C.P (ex C (.seq a b)) D σ H) : tSeq (semS K mg W C.P (ex C a)) (semS K mg W C.P (ex C b)) D σ H := by
  obtain ⟨e, Z, F, re, ok, po⟩ := h
  simp only [ex] at po
  refine ⟨e, Z, F, re, ok, ?_⟩
  cases q : ex C a e with
  | next e1 =>
    rw [q] at po
    exact fun σ' H' Z' F' h1 h2 h3 h4 => ⟨e1, Z', F', h1, h2, PostS.later (r := ex C b e1) po h3 h4⟩
  | brk e1 => rw [q] at po; exact po
  | cnt e1 => rw [q] at po; exact po
  | ret t e1 => rw [q] at po; exact po
  | exc x e1 => rw [q] at po; exact po
  | fail => rw [q] at po; exact po
theorem y_asg {tg : Tg} {x : E} (h : semS K mg W C.P (ex C (.asg tg x)) D σ H) : tAsg (semE K mg W (ev C x)) (semG K C.P tg) D σ H := by
  obtain ⟨e, Z, F, re, ok, po⟩ := h
  simp only [ex] at po
  refine ⟨e, Z, F, re, ok, (st_sem (A := aT K) po).imp ?_⟩
  rintro v H1 ⟨t, e1, Z1, F1, Ft, m⟩
  refine ⟨t, e1, Z1, F1, Ft, m.ra, m.re, m.dj, ?_⟩
  have po1 := m.po
  unfold asgE at po1
  cases q : asg C.P tg t e1 with
  | none => rw [q] at po1; exact po1.elim
  | some e2 =>
    rw [q] at po1
    intro σ2 F2 re2 s2 kp
    have sub : ∀ x, x ∈ F2 → x ∈ F1 ++ Ft := fun x hx => List.mem_append.mpr (s2 x hx)
    exact po1 σ2 H1 Z1 F2 re2 (m.ok.mono sub) (Step.refl sub) kp.p
theorem y_exp {x : E} (h : semS K mg W C.P (ex C (.exp x)) D σ H) : tDrop (semE K mg W (ev C x)) D σ H := by
  obtain ⟨e, Z, F, re, ok, po⟩ := h
  simp only [ex] at po
  refine ⟨e, Z, F, re, ok, (st_sem (A := aT K) po).imp ?_⟩
  rintro v H1 ⟨t, e1, Z1, F1, Ft, m⟩
  exact m.po σ H1 Z1 F1 m.re (m.ok.mono fun x hx => List.mem_append_left _ hx) (Step.refl fun x hx => List.mem_append_left _ hx) KeepP.refl
theorem y_ret {x : E} (h : semS K mg W C.P (ex C (.ret x)) D σ H) : tRet (semE K mg W (ev C x)) D σ H := by
  obtain ⟨e, Z, F, re, ok, po⟩ := h
  simp only [ex] at po
  refine ⟨e, Z, F, re, ok, (st_sem (A := aT K) po).imp ?_⟩
  rintro v H1 ⟨t, e1, Z1, F1, Ft, m⟩
  exact m.po v σ H1 Z1 F1 Ft m.re m.ra m.dj m.ok (Step.refl fun x hx => hx) KeepP.refl
theorem y_retn (h : semS K mg W C.P (ex C .retn) D σ H) : tRetN D σ H := by
  obtain ⟨e, Z, F, re, ok, po⟩ := h
  have all : ∀ a, a ∈ F ++ [] → a ∈ F := fun a ha => by simpa using ha
  have po : PostS K mg W C.P D σ H Z F (.ret .non e) := by simpa only [ex] using po
  exact po .non σ H Z F [] re .non Dj.nilR (ok.mono all) (Step.refl all) KeepP.refl
theorem y_brk (h : semS K mg W C.P (ex C .brk) D σ H) : tBreak D σ H := by
  obtain ⟨e, Z, F, re, ok, po⟩ := h
  have po : PostS K mg W C.P D σ H Z F (.brk e) := by simpa only [ex] using po
  exact po σ H Z F re ok (Step.refl fun _ h => h) KeepP.refl
theorem y_cnt (h : semS K mg W C.P (ex C .cnt) D σ H) : tCont D σ H := by
  obtain ⟨e, Z, F, re, ok, po⟩ := h
  have po : PostS K mg W C.P D σ H Z F (.cnt e) := by simpa only [ex] using po
  exact po σ H Z F re ok (Step.refl fun _ h => h) KeepP.refl
theorem y_ifs {c : E} {a b : S} (h : semS K mg W C.P (ex C (.ifs c a b)) D σ H) : tIfS (semB K mg W fun e => (ev C c e).bindO boolOf) (semS K mg W C.P (ex C a)) (semS K mg W C.P (ex C b)) D σ H := by
  obtain ⟨e, Z, F, re, ok, po⟩ := h
  simp only [ex] at po
  refine ⟨e, Z, F, re, ok, (st_sem (A := aB) po).imp ?_⟩
  rintro d H1 ⟨d', e1, Z1, F1, Ft, m⟩
  obtain ⟨rfl, rfl⟩ := m.ra
  have po1 := m.po
  have ok1 := m.ok
  rw [List.append_nil] at po1 ok1
  cases d' with
  | true => exact ⟨e1, Z1, F1, m.re, ok1, po1⟩
  | false => exact ⟨e1, Z1, F1, m.re, ok1, po1⟩
theorem y_par {i j : Nat} {x y : E} (hij : i ≠ j) (h : semS K mg W C.P (ex C (.par i j x y)) D σ H) : tPar i j (tCons (semE K mg W (ev C x)) (tCons (semE K mg W (ev C y)) tNil)) D σ H := by
  obtain ⟨e, Z, F, re, ok, po⟩ := h
  simp only [ex] at po
  refine ⟨e, Z, F, re, ok, (st_sem (A := aT K) po).imp ?_⟩
  rintro v H1 ⟨t, e1, Z1, F1, Ft, m⟩
  refine ⟨e1, Z1, F1, m.re, m.ok.mono fun x hx => List.mem_append_left _ hx, (st_semG (A := aT K) m.ok m.ra.dom m.dj m.po).imp ?_⟩
  rintro w H2 ⟨u, e2, Z2, F2, Fu, re2, ru, dj2, dg, ok2, hg, hz, zz, po2⟩
  have rt := m.ra.keep hg hz zz
  refine ⟨v, w, rfl, ?_⟩
  split at po2
  case isFalse => exact po2.elim
  rename_i hs
  simp only [Bool.and_eq_true, okSlot] at hs
  obtain ⟨⟨hi, pi⟩, hj, pj⟩ := hs
  have hi := of_decide_eq_true hi
  have hj := of_decide_eq_true hj
  have d1 : Dj F2 Ft := fun a ha hb => dg a hb (List.mem_append_left _ ha)
  obtain ⟨Fi, Fr, h1, h2, h3, h4, _⟩ := re2.at i hi
  obtain ⟨F3, g1, g2⟩ := h4 H2 Z2 t v Ft (fun _ _ => rfl) (fun _ _ => rfl) (fun _ z => z) rt (fun a ha hb => d1 a ((h1 a).mpr (.inr hb)) ha)
  obtain ⟨Fi', Fr', h1', h2', h3', h4', _⟩ := g2.at j (by rw [List.length_set]; exact hj)
  obtain ⟨F4, g1', g2'⟩ := h4' H2 Z2 u w Fu (fun _ _ => rfl) (fun _ _ => rfl) (fun _ z => z) ru (fun a ha hb => by
    rcases (g1 a).mp ((h1' a).mpr (.inr hb)) with z | z
    · exact dg a z (List.mem_append_right _ ha)
    · exact dj2 a ((h1 a).mpr (.inr z)) ha)
  have sub : ∀ x, x ∈ F4 → x ∈ F2 ++ Fu ++ Ft := fun x hx => by
    rcases (g1' x).mp hx with z | z
    · exact List.mem_append_left _ (List.mem_append_right _ z)
    · rcases (g1 x).mp ((h1' x).mpr (.inr z)) with z | z
      · exact List.mem_append_right _ z
      · exact List.mem_append_left _ (List.mem_append_left _ ((h1 x).mpr (.inr z)))
  refine po2 _ H2 Z2 F4 g2' (ok2.mono sub) (Step.refl sub) fun n hn => ?_
  have ni : i ≠ n := fun z => by rw [z, hn] at pi; cases pi
  have nj : j ≠ n := fun z => by rw [z, hn] at pj; cases pj
  rw [List.getElem?_set_ne nj, List.getElem?_set_ne ni]
end
end PT

/-! PtU: changes, loops, raise. -/
namespace PT
open PySem PySem.Spec PyProof.Rows L2
section
variable {X : Cx} {C : Cf} {W : WX} {k : Nat} {N : List Str} {sc : Scope} {K : PySem.W.Frag} {mg : Str → Option Value} {P : List Bool} {D : Ends} {σ σ' : Sl} {H H' : Hp} {Z Z' : Addr → Prop} {F F' Ft : List Addr} {r : SR} {e : Env} {t : T} {v : V}
theorem RepL.put : ∀ {ts : List T} {vs : List V} {F0 : List Addr} (j : Nat), RepL K H Z ts vs F0 → Rep K H Z t v Ft → Dj F0 Ft → ∃ F2, RepL K H Z (ts.set j t) (vs.set j v) F2 ∧ ∀ x, x ∈ F2 → x ∈ F0 ∨ x ∈ Ft := by
  intro ts
  induction ts with
  | nil =>
    intro vs F0 j r rt d
    cases r
    exact ⟨[], .nil, fun x h => by simp at h⟩
  | cons u us ih =>
    intro vs F0 j r rt d
    cases r with
    | cons u w Fu us ws G r1 r2 d2 =>
      cases j with
      | zero => exact ⟨Ft ++ G, .cons t v Ft us ws G rt r2 (fun a ha hb => d a (List.mem_append_right _ hb) ha), fun x hx => (List.mem_append.mp hx).elim .inr fun z => .inl (List.mem_append_right _ z)⟩
      | succ j =>
        obtain ⟨F2, g1, g2⟩ := ih j r2 rt fun a ha hb => d a (List.mem_append_right _ ha) hb
        refine ⟨Fu ++ F2, .cons u w Fu _ _ F2 r1 g1 (fun a ha hb => (g2 a hb).elim (d2 a ha) fun z => d a (List.mem_append_left _ ha) z), fun x hx => ?_⟩
        rcases List.mem_append.mp hx with z | z
        · exact .inl (List.mem_append_left _ z)
        · exact (g2 x z).imp (fun z => List.mem_append_right _ z) id
theorem zip_any {k : Key} : ∀ {ks : List Key} {vs : List V}, ks.length = vs.length → ((ks.zip vs).any fun kv => decide (kv.1 = k)) = hasK k ks
  | [], _, _ => rfl
  | _ :: _, [], h => by simp at h
  | k' :: ks, v :: vs, h => by
    have := zip_any (k := k) (ks := ks) (vs := vs) (by simpa using h)
    show (decide (k' = k) || (ks.zip vs).any _) = (decide (k' = k) || hasK k ks)
    rw [this]
theorem zip_map_no {k : Key} {v : V} : ∀ {ks : List Key} {vs : List V}, hasK k ks = false → (ks.zip vs).map (fun kv => if kv.1 = k then (kv.1, v) else kv) = ks.zip vs
  | [], _, _ => rfl
  | _ :: _, [], _ => rfl
  | k' :: ks, w :: vs, h => by
    have h2 : (decide (k' = k) || hasK k ks) = false := h
    rw [Bool.or_eq_false_iff] at h2
    simp only [List.zip_cons_cons, List.map_cons, zip_map_no h2.2]
    rw [if_neg (of_decide_eq_false h2.1)]
theorem putT_nomem {k : Key} : ∀ {ks : List Key} {ts : List T} {ks2 : List Key} {ts2 : List T}, putT k t ks ts = some (ks2, ts2) → hasK k ks = false → ks2 = ks ++ [k] ∧ ts2 = ts ++ [t]
  | [], [], ks2, ts2, h, hn => by simp [putT] at h; simp [h.1, h.2]
  | [], _ :: _, _, _, h, _ => by simp [putT] at h
  | _ :: _, [], _, _, h, _ => by simp [putT] at h
  | k' :: ks, u :: us, ks2, ts2, h, hn => by
    have h2 : (decide (k' = k) || hasK k ks) = false := hn
    rw [Bool.or_eq_false_iff] at h2
    simp only [putT] at h
    rw [if_neg (of_decide_eq_false h2.1)] at h
    split at h
    · rename_i a b q
      cases h
      obtain ⟨e1, e2⟩ := putT_nomem q h2.2
      simp [e1, e2]
    · cases h
theorem putT_mem {k : Key} : ∀ {ks : List Key} {ts : List T} {ks2 : List Key} {ts2 : List T}, putT k t ks ts = some (ks2, ts2) → hasK k ks = true → ks2 = ks ∧ ∃ j, ts2 = ts.set j t ∧ ∀ vs : List V, ks.length = vs.length → (ks.zip vs).map (fun kv => if kv.1 = k then (kv.1, v) else kv) = ks.zip (vs.set j v)
  | [], _, _, _, _, hm => by cases hm
  | _ :: _, [], _, _, h, _ => by simp [putT] at h
  | k' :: ks, u :: us, ks2, ts2, h, hm => by
    simp only [putT] at h
    by_cases hk : k' = k
    · subst hk
      rw [if_pos rfl] at h
      split at h
      · cases h
      · rename_i hn
        have n1 : hasK k' ks = false := by simpa using hn
        cases h
        refine ⟨rfl, 0, rfl, fun vs hl => ?_⟩
        cases vs with
        | nil => simp at hl
        | cons w vs => simp only [List.zip_cons_cons, List.map_cons, if_pos, List.set_cons_zero, zip_map_no n1]
    · rw [if_neg hk] at h
      split at h
      · rename_i a b q
        cases h
        have hm2 : hasK k ks = true := by
          have h2 : (decide (k' = k) || hasK k ks) = true := hm
          rw [decide_eq_false hk] at h2
          exact h2
        obtain ⟨e1, j, e2, e3⟩ := putT_mem q hm2
        refine ⟨by rw [e1], j + 1, by rw [e2]; rfl, fun vs hl => ?_⟩
        cases vs with
        | nil => simp at hl
        | cons w vs =>
          simp only [List.zip_cons_cons, List.map_cons, if_neg hk, List.set_cons_succ]
          rw [e3 vs (by simpa using hl)]
      · cases h
theorem putT_rep {k : Key} {ks ks2 : List Key} {ts ts2 : List T} {vs : List V} {F0 : List Addr} (h : putT k t ks ts = some (ks2, ts2)) (hl : ks.length = vs.length) (r : RepL K H Z ts vs F0) (rt : Rep K H Z t v Ft) (d : Dj F0 Ft) :
    ∃ vs2 F2, ks2.length = vs2.length ∧ putK (ks.zip vs) k v = ks2.zip vs2 ∧ RepL K H Z ts2 vs2 F2 ∧ ∀ x, x ∈ F2 → x ∈ F0 ∨ x ∈ Ft := by
  unfold putK
  rw [zip_any hl]
  by_cases hk : hasK k ks = true
  · obtain ⟨rfl, j, rfl, e3⟩ := putT_mem (v := v) h hk
    obtain ⟨F2, g1, g2⟩ := r.put j rt d
    rw [if_pos hk, e3 vs hl]
    exact ⟨_, F2, by rw [List.length_set]; exact hl, rfl, g1, g2⟩
  · have hk' : hasK k ks = false := by simpa using hk
    obtain ⟨rfl, rfl⟩ := putT_nomem h hk'
    have rt1 : RepL K H Z [t] [v] Ft := by
      have := RepL.cons t v Ft [] [] [] rt .nil Dj.nilR
      rwa [List.append_nil] at this
    obtain ⟨F2, g1, g2⟩ := r.app rt1 d
    rw [if_neg hk]
    refine ⟨_, F2, by simp [hl], ?_, g1, fun x hx => (g2 x).mp hx⟩
    rw [List.zip_append hl]
    rfl
/-- an owned container is changed, the value v coming in -/
theorem chg_write {i : Nat} {kd : Kd} {ts us : List T} {ws : List V} (re : RepE K H Z e σ F) (ok : Okk H Z (F ++ Ft)) (dj : Dj F Ft) (q : e[i]? = some (some (.node true kd ts))) :
    ∃ a vs o F0, σ[i]? = some (some (.ref a)) ∧ H a = some o ∧ HoIs kd vs o ∧ RepL K H Z ts vs F0 ∧ Dj F0 Ft ∧
      ∀ (k2 : Kd) (ts2 : List T) (vs2 : List V) (o2 : HO) (F2 : List Addr), Mk k2 → HoIs k2 vs2 o2 → RepL K H Z ts2 vs2 F2 → (∀ x, x ∈ F2 → x ∈ F0 ∨ x ∈ Ft) →
        ∃ F3, RepE K (upd H a o2) Z (e.set i (some (.node true k2 ts2))) σ F3 ∧ Okk (upd H a o2) Z F3 ∧ Step H Z (F ++ Ft) (upd H a o2) Z F3 := by
  obtain ⟨a, vs, o, F0, Fr, s1, ha, ho, r0, n0, aF, f0, d0, nr, hF, mk, wr⟩ := slot_write re (ok.mono fun x hx => List.mem_append_left _ hx) q
  refine ⟨a, vs, o, F0, s1, ha, ho, r0, fun x hx hy => dj x (f0 x hx) hy, fun k2 ts2 vs2 o2 F2 m2 h2 r2 s2 => ?_⟩
  have rF : ∀ x, x ∈ Fr → x ∈ F := fun x hx => (hF x).mpr (.inr (.inr hx))
  have na : ¬ Z a := ok.zf a (List.mem_append_left _ aF)
  obtain ⟨F3, g1, g2⟩ := wr k2 ts2 vs2 o2 F2 Z m2 h2 r2 (fun _ z => z) na (fun x hx => ok.zf x (List.mem_append_left _ (rF x hx))) (fun z => (s2 a z).elim n0 (dj a aF)) (fun x hx hy => (s2 x hx).elim (fun z => d0 x z hy) fun z => dj x (rF x hy) z) (fun x z hx => na (hx ▸ z))
  have sub : ∀ x, x ∈ F3 → x ∈ F ++ Ft := fun x hx => by
    rcases (g2 x).mp hx with z | z | z
    · exact List.mem_append_left _ (z ▸ aF)
    · exact (s2 x z).elim (fun z => List.mem_append_left _ (f0 x z)) fun z => List.mem_append_right _ z
    · exact List.mem_append_left _ (rF x z)
  refine ⟨F3, g1, ⟨fun x hx => ok.zf x (sub x hx), fun x z => ?_⟩, Step.set (List.mem_append_left _ aF) sub⟩
  rw [upd_ne (show x ≠ a from fun hx => na (hx ▸ z))]
  exact ok.zd x z
theorem appT_inv {c c2 t : T} (h : appT c t = some c2) : ∃ us, c = .node true .lst us ∧ us.length < sizeLine ∧ c2 = .node true .lst (us ++ [t]) := by
  unfold appT at h
  split at h
  · rename_i us
    split at h
    · rename_i hz
      cases h
      exact ⟨us, rfl, of_decide_eq_true hz, rfl⟩
    · cases h
  · cases h
theorem extT_inv {c c2 t : T} (h : extT c t = some c2) : ∃ us b ys, c = .node true .lst us ∧ t = .node b .lst ys ∧ us.length + ys.length ≤ sizeLine ∧ c2 = .node true .lst (us ++ ys) := by
  unfold extT at h
  split at h
  · rename_i us b ys
    split at h
    · rename_i hz
      cases h
      exact ⟨us, b, ys, rfl, rfl, of_decide_eq_true hz, rfl⟩
    · cases h
  · cases h
theorem setT_inv {c c2 y t : T} (h : setT c y t = some c2) : (∃ us i j, c = .node true .lst us ∧ y = .int i ∧ ixN us.length i = some j ∧ c2 = .node true .lst (us.set j t)) ∨
    ∃ ks us k ks2 us2, c = .node true (.dic ks) us ∧ keyT y = some k ∧ ks.length < sizeLine ∧ putT k t ks us = some (ks2, us2) ∧ c2 = .node true (.dic ks2) us2 := by
  unfold setT at h
  split at h
  · rename_i us i
    obtain ⟨j, h1, h2⟩ := Option.map_eq_some_iff.mp h
    exact .inl ⟨us, i, j, rfl, rfl, h1, h2.symm⟩
  · rename_i ks us
    obtain ⟨k, h1, h2⟩ := Option.bind_eq_some_iff.mp h
    split at h2
    · rename_i hz
      obtain ⟨p, h3, h4⟩ := Option.map_eq_some_iff.mp h2
      exact .inr ⟨ks, us, k, p.1, p.2, rfl, h1, of_decide_eq_true hz, h3, h4.symm⟩
    · cases h2
  · cases h
theorem hasT_of {i : Nat} (re : RepE K H Z e σ F) (h : hasT e i = true) : ∃ o, σ[i]? = some (some o) := by
  unfold hasT at h
  split at h
  · rename_i t q
    obtain ⟨Fi, Fr, _, _, h3, _⟩ := re.at i (get_lt q)
    rw [q] at h3
    obtain ⟨v, e1, _⟩ := h3
    exact ⟨v, e1⟩
  · cases h
theorem ownL_of {i : Nat} (h : ownL e i = true) : ∃ ts, e[i]? = some (some (.node true .lst ts)) := by
  unfold ownL at h
  split at h
  · rename_i ts q
    exact ⟨ts, q⟩
  · cases h
theorem y_app {i : Nat} {x : E} (h : semS K mg W C.P (ex C (.app i x)) D σ H) : tDrop (tBM K "list" rAppend (tVar i) (tCons (semE K mg W (ev C x)) tNil)) D σ H := by
  obtain ⟨e, Z, F, re, ok, po⟩ := h
  simp only [ex] at po
  split at po
  case isFalse => exact po.elim
  rename_i ho
  obtain ⟨ts, q⟩ := ownL_of ho
  obtain ⟨a, vs, o, F0, Fr, s1, ha, hoi, _⟩ := slot_write re ok q
  have h2 : o = .lst vs := hoi
  subst h2
  refine ⟨.ref a, s1, .inl ⟨rfl, vs, SqL.of ha⟩, e, Z, F, re, ok, (st_sem (A := aT K) po).imp ?_⟩
  rintro v H1 ⟨t, e1, Z1, F1, Ft, m⟩
  have po1 := m.po
  unfold chg at po1
  split at po1
  case h_2 => exact po1.elim
  rename_i c q1
  split at po1
  case h_2 => exact po1.elim
  rename_i c2 q2
  have hc : ∃ us, c = .node true .lst us ∧ us.length < sizeLine ∧ c2 = .node true .lst (us ++ [t]) := by
    exact appT_inv q2
  obtain ⟨us, rfl, hz, rfl⟩ := hc
  obtain ⟨a', ws, o', F0', s1', ha', hoi', r0, d0, wr⟩ := chg_write (us := []) (ws := []) m.re m.ok m.dj q1
  rw [s1] at s1'
  cases s1'
  have h2 : o' = .lst ws := hoi'
  subst h2
  have rt1 : RepL K H1 Z1 [t] [v] Ft := by
    have := RepL.cons t v Ft [] [] [] m.ra .nil Dj.nilR
    rwa [List.append_nil] at this
  obtain ⟨F2, g1, g2⟩ := r0.app rt1 d0
  obtain ⟨F3, k1, k2, k3⟩ := wr .lst (us ++ [t]) (ws ++ [v]) (.lst (ws ++ [v])) F2 trivial rfl g1 fun x hx => (g2 x).mp hx
  exact ⟨a, ws, v, rfl, rfl, ha', by rw [← r0.length]; exact hz, po1 σ _ Z1 F3 k1 k2 k3 KeepP.refl⟩
theorem y_ext {i : Nat} {x : E} (h : semS K mg W C.P (ex C (.ext i x)) D σ H) : tDrop (tBM K "list" rExtend (tVar i) (tCons (semE K mg W (ev C x)) tNil)) D σ H := by
  obtain ⟨e, Z, F, re, ok, po⟩ := h
  simp only [ex] at po
  split at po
  case isFalse => exact po.elim
  rename_i ho
  obtain ⟨ts, q⟩ := ownL_of ho
  obtain ⟨a, vs, o, F0, Fr, s1, ha, hoi, _⟩ := slot_write re ok q
  have h2 : o = .lst vs := hoi
  subst h2
  refine ⟨.ref a, s1, .inl ⟨rfl, vs, SqL.of ha⟩, e, Z, F, re, ok, (st_sem (A := aT K) po).imp ?_⟩
  rintro v H1 ⟨t, e1, Z1, F1, Ft, m⟩
  have po1 := m.po
  unfold chg at po1
  split at po1
  case h_2 => exact po1.elim
  rename_i c q1
  split at po1
  case h_2 => exact po1.elim
  rename_i c2 q2
  have hc : ∃ us b ys, c = .node true .lst us ∧ t = .node b .lst ys ∧ us.length + ys.length ≤ sizeLine ∧ c2 = .node true .lst (us ++ ys) := by
    exact extT_inv q2
  obtain ⟨us, b, ys, rfl, rfl, hz, rfl⟩ := hc
  obtain ⟨a', ws, o', F0', s1', ha', hoi', r0, d0, wr⟩ := chg_write (us := []) (ws := []) m.re m.ok m.dj q1
  rw [s1] at s1'
  cases s1'
  have h2 : o' = .lst ws := hoi'
  subst h2
  obtain ⟨b', zs, Fz, rfl, hb, rz, sz⟩ := m.ra.lst
  obtain ⟨F2, g1, g2⟩ := r0.app rz fun x hx hy => d0 x hx (sz x hy)
  obtain ⟨F3, k1, k2, k3⟩ := wr .lst (us ++ ys) (ws ++ zs) (.lst (ws ++ zs)) F2 trivial rfl g1 fun x hx => ((g2 x).mp hx).imp id (sz x)
  exact ⟨a, b', ws, zs, rfl, rfl, ha', hb, by rw [← r0.length, ← rz.length]; exact hz, po1 σ _ Z1 F3 k1 k2 k3 KeepP.refl⟩
def rSetA : TSet := fun o i v H Q => rSetL o i v H Q ∨ rSetD o i v H Q
theorem set_any {X : Cx} (hu : X.A.units + 1 < cLine) : PSet X rSetA := fun pins s σ H o i v ov iv u Q I r1 r2 r3 h => h.elim (set_list pins s σ H o i v ov iv u Q I r1 r2 r3) (set_dict hu pins s σ H o i v ov iv u Q I r1 r2 r3)
theorem y_seti {i : Nat} {kx x : E} (h : semS K mg W C.P (ex C (.seti i kx x)) D σ H) : tAsg (semE K mg W (ev C x)) (gSub (tVar i) (semE K mg W (ev C kx)) rSetA) D σ H := by
  obtain ⟨e, Z, F, re, ok, po⟩ := h
  simp only [ex] at po
  refine ⟨e, Z, F, re, ok, (st_sem (A := aT K) po).imp ?_⟩
  rintro v H1 ⟨t, e1, Z1, F1, Ft, m⟩
  have po1 := m.po
  split at po1
  case isFalse => exact po1.elim
  rename_i hh
  obtain ⟨o, s1⟩ := hasT_of m.re hh
  refine ⟨o, s1, e1, Z1, F1, m.re, m.ok.mono fun x hx => List.mem_append_left _ hx, (st_semG (A := aT K) m.ok m.ra.dom m.dj po1).imp ?_⟩
  rintro w H2 ⟨y, e2, Z2, F2, Fu, re2, ru, dj2, dg, ok2, hg, hz, zz, po2⟩
  have rt := m.ra.keep hg hz zz
  have d1 : Dj F2 Ft := fun a ha hb => dg a hb (List.mem_append_left _ ha)
  have ok3 : Okk H2 Z2 (F2 ++ Ft) := ok2.mono fun x hx => (List.mem_append.mp hx).elim (fun z => List.mem_append_left _ (List.mem_append_left _ z)) fun z => List.mem_append_right _ z
  unfold chg at po2
  split at po2
  case h_2 => exact po2.elim
  rename_i c q1
  split at po2
  case h_2 => exact po2.elim
  rename_i c2 q2
  rcases setT_inv q2 with ⟨us, i1, j, rfl, rfl, hj, rfl⟩ | ⟨ks, us, kk, ks2, us2, rfl, hk, hl, hp, rfl⟩
  · obtain ⟨a, ws, o', F0, s2, ha, hoi, r0, d0, wr⟩ := chg_write (us := []) (ws := []) re2 ok3 d1 q1
    rw [s1] at s2
    cases s2
    have h2 : o' = .lst ws := hoi
    subst h2
    obtain ⟨G2, g1, g2⟩ := r0.put j rt d0
    obtain ⟨F3, k1, k2, k3⟩ := wr .lst _ _ (.lst (ws.set j v)) G2 trivial rfl g1 g2
    cases ru
    exact .inl ⟨a, ws, i1, j, rfl, rfl, ha, by rw [← r0.length]; exact hj, po2 σ _ Z2 F3 k1 k2 (k3.wide (fun x hx => (List.mem_append.mp hx).elim (fun z => List.mem_append_left _ (List.mem_append_left _ z)) fun z => List.mem_append_right _ z) fun x hx => .inl hx) KeepP.refl⟩
  · obtain ⟨a, ws, o', F0, s2, ha, hoi, r0, d0, wr⟩ := chg_write (us := []) (ws := []) re2 ok3 d1 q1
    rw [s1] at s2
    cases s2
    obtain ⟨hl2, h2⟩ := hoi
    subst h2
    obtain ⟨vs2, G2, e3, e4, g1, g2⟩ := putT_rep hp hl2 r0 rt d0
    obtain ⟨F3, k1, k2, k3⟩ := wr (.dic ks2) _ _ (.dK (ks2.zip vs2)) G2 trivial ⟨e3, rfl⟩ g1 g2
    refine .inr ⟨a, _, rfl, .inl ⟨ks.zip ws, kk, ha, keyT_rep ru hk, ?_, rfl⟩, ?_⟩
    · rw [List.length_zip, ← hl2, Nat.min_self]; exact hl
    · rw [e4]
      exact po2 σ _ Z2 F3 k1 k2 (k3.wide (fun x hx => (List.mem_append.mp hx).elim (fun z => List.mem_append_left _ (List.mem_append_left _ z)) fun z => List.mem_append_right _ z) fun x hx => .inl hx) KeepP.refl
theorem RepL.upd1 : ∀ {ts : List T} {vs : List V} {F : List Addr} {j : Nat} {t : T}, RepL K H Z ts vs F → ts[j]? = some t → ∃ v Fj Fr, vs[j]? = some v ∧ Rep K H Z t v Fj ∧ (∀ x, x ∈ F ↔ x ∈ Fj ∨ x ∈ Fr) ∧ Dj Fj Fr ∧
    ∀ (H' : Hp) (t' : T) (F' : List Addr), (∀ x, x ∈ Fr → H' x = H x) → (∀ x, Z x → H' x = H x) → Rep K H' Z t' v F' → Dj F' Fr → ∃ F2, RepL K H' Z (ts.set j t') vs F2 ∧ ∀ x, x ∈ F2 ↔ x ∈ F' ∨ x ∈ Fr := by
  intro ts
  induction ts with
  | nil => intro vs F j t r h; simp at h
  | cons u us ih =>
    intro vs F j t r h
    cases r with
    | cons u w Fu us ws G r1 r2 d =>
      cases j with
      | zero =>
        cases h
        refine ⟨w, Fu, G, rfl, r1, fun x => by simp, d, fun H' t' F' h1 h2 r' d' => ⟨F' ++ G, .cons t' w F' us ws G r' (r2.keep h1 h2 fun _ z => z) d', fun x => by simp⟩⟩
      | succ j =>
        obtain ⟨v, Fj, Fr, g1, g2, g3, g4, g5⟩ := ih r2 (by simpa using h)
        refine ⟨v, Fj, Fu ++ Fr, by simpa using g1, g2, fun x => ?_, fun x hx hy => ?_, fun H' t' F' h1 h2 r' d' => ?_⟩
        · simp only [List.mem_append, g3 x]
          constructor
          · rintro (z | z | z)
            · exact .inr (.inl z)
            · exact .inl z
            · exact .inr (.inr z)
          · rintro (z | z | z)
            · exact .inr (.inl z)
            · exact .inl z
            · exact .inr (.inr z)
        · rcases List.mem_append.mp hy with z | z
          · exact d x z ((g3 x).mpr (.inl hx))
          · exact g4 x hx z
        · obtain ⟨F2, k1, k2⟩ := g5 H' t' F' (fun x hx => h1 x (List.mem_append_right _ hx)) h2 r' (fun x hx hy => d' x hx (List.mem_append_right _ hy))
          refine ⟨Fu ++ F2, .cons u w Fu _ _ F2 (r1.keep (fun x hx => h1 x (List.mem_append_left _ hx)) h2 fun _ z => z) k1 (fun x hx hy => ?_), fun x => ?_⟩
          · rcases (k2 x).mp hy with z | z
            · exact d' x z (List.mem_append_left _ hx)
            · exact d x hx ((g3 x).mpr (.inr z))
          · simp only [List.mem_append, k2 x]
            constructor
            · rintro (z | z | z)
              · exact .inr (.inl z)
              · exact .inl z
              · exact .inr (.inr z)
            · rintro (z | z | z)
              · exact .inr (.inl z)
              · exact .inl z
              · exact .inr (.inr z)
theorem app1T_inv {j : Nat} {c c2 v : T} (h : app1T j c v = some c2) : ∃ b ts us, c = .node b .tup ts ∧ ts[j]? = some (.node true .lst us) ∧ us.length < sizeLine ∧ c2 = .node b .tup (ts.set j (.node true .lst (us ++ [v]))) := by
  unfold app1T at h
  split at h
  · rename_i b ts
    split at h
    · rename_i us q
      split at h
      · rename_i hz
        cases h
        exact ⟨b, ts, us, rfl, q, of_decide_eq_true hz, rfl⟩
      · cases h
    · cases h
  · cases h
theorem y_app1 {i j : Nat} {n : Int} (h : semS K mg W C.P (ex C (.app1 i j n)) D σ H) : tDrop (tBM K "list" rAppend (tOp (rIxA K) (tVar i) (tC (.int (j : Int)))) (tCons (tC (.int n)) tNil)) D σ H := by
  obtain ⟨e, Z, F, re, ok, po⟩ := h
  simp only [ex] at po
  unfold chg at po
  split at po
  case h_2 => exact po.elim
  rename_i c q
  split at po
  case h_2 => exact po.elim
  rename_i c2 q2
  obtain ⟨b, ts, us, rfl, hj, hz, rfl⟩ := app1T_inv q2
  obtain ⟨Fi, Fr, h1, h2, h3, h4, _⟩ := re.at i (get_lt q)
  rw [q] at h3
  obtain ⟨v, s1, rt⟩ := h3
  have key : ∃ a vs, v = .ref a ∧ SqT K H a vs ∧ RepL K H Z ts vs Fi ∧ ∀ (H' : Hp) (ts' : List T) (F' : List Addr), (∀ x, Z x → H' x = H x) → RepL K H' Z ts' vs F' → Rep K H' Z (.node b .tup ts') v F' := by
    cases rt with
    | own k ts a vs o F m e ho r n => exact m.elim
    | shr k ts a vs s r => exact ⟨a, vs, rfl, s.sqT, r, fun H' ts' F' hz' r' => .tup ts' a vs F' (s.keep hz' fun _ z => z) r'⟩
    | tup ts a vs F s r => exact ⟨a, vs, rfl, s.sqT, r, fun H' ts' F' hz' r' => .tup ts' a vs F' (s.keep hz' fun _ z => z) r'⟩
  obtain ⟨a, vs, rfl, sq, r, back⟩ := key
  obtain ⟨w, Fj, Fr2, g1, g2, g3, g4, g5⟩ := r.upd1 hj
  cases g2 with
  | own k us' l ws o F0 m ho hoi r0 n0 =>
    have h2' : o = .lst ws := hoi
    subst h2'
    have hlen : ts.length = vs.length := r.length
    have jl : j < vs.length := by rw [← hlen]; exact get_lt hj
    have hat : L2.atI vs (j : Int) = some (.ref l) := by
      unfold L2.atI
      have : ixN vs.length (j : Int) = some j := by
        unfold ixN
        simp [jl]
      rw [this]
      exact g1
    have lF : l ∈ F := (h1 l).mpr (.inl ((g3 l).mpr (.inl List.mem_cons_self)))
    have nz : ¬ Z l := ok.zf l lF
    have ez : ∀ (o : HO) x, Z x → upd H l o x = H x := fun o x z => upd_ne fun hx => nz (hx ▸ z)
    have nr2 : l ∉ Fr2 := fun z => g4 l List.mem_cons_self z
    have nfr : l ∉ Fr := fun z => h2 l ((g3 l).mpr (.inl List.mem_cons_self)) z
    have rint : RepL K H Z [T.int n] [V.int n] [] := by
      have := RepL.cons (.int n) (.int n) [] [] [] [] (.int n : Rep K H Z _ _ _) .nil Dj.nilR
      simpa using this
    obtain ⟨F1, k1, k2⟩ := r0.app rint Dj.nilR
    have k2' : ∀ x, x ∈ F1 ↔ x ∈ F0 := fun x => by rw [k2 x]; simp
    have n1 : l ∉ F1 := fun z => n0 ((k2' l).mp z)
    have rnew : Rep K (upd H l (.lst (ws ++ [.int n]))) Z (.node true .lst (us ++ [.int n])) (.ref l) (l :: F1) :=
      .own .lst _ l _ (.lst (ws ++ [.int n])) F1 trivial upd_same rfl (k1.keep (fun x hx => upd_ne (show x ≠ l from fun z => n1 (z ▸ hx))) (ez _) fun _ z => z) n1
    obtain ⟨F2, m1, m2⟩ := g5 _ _ _ (fun x hx => upd_ne (show x ≠ l from fun z => nr2 (z ▸ hx))) (ez _) rnew (fun x hx hy => by
      rcases List.mem_cons.mp hx with z | z
      · exact nr2 (z ▸ hy)
      · exact g4 x (List.mem_cons_of_mem _ ((k2' x).mp z)) hy)
    have f2i : ∀ x, x ∈ F2 → x ∈ Fi := fun x hx => by
      rcases (m2 x).mp hx with z | z
      · rcases List.mem_cons.mp z with z | z
        · exact (g3 x).mpr (.inl (z ▸ List.mem_cons_self))
        · exact (g3 x).mpr (.inl (List.mem_cons_of_mem _ ((k2' x).mp z)))
      · exact (g3 x).mpr (.inr z)
    obtain ⟨F3, p1, p2⟩ := h4 _ Z _ _ F2 (fun x hx => upd_ne (show x ≠ l from fun z => nfr (z ▸ hx))) (ez _) (fun _ z => z) (back _ _ _ (ez _) m1) (fun x hx hy => h2 x (f2i x hx) hy)
    rw [set_self s1] at p2
    have sub : ∀ x, x ∈ F3 → x ∈ F := fun x hx => ((p1 x).mp hx).elim (fun z => (h1 x).mpr (.inl (f2i x z))) fun z => (h1 x).mpr (.inr z)
    refine ⟨.ref a, s1, ?_⟩
    refine .inl (.inr (.inl ⟨a, vs, (j : Int), .ref l, rfl, rfl, sq, hat, ?_⟩))
    refine ⟨.inl ⟨rfl, ws, SqL.of ho⟩, l, ws, .int n, rfl, rfl, ho, by rw [← r0.length]; exact hz, ?_⟩
    exact po σ _ Z F3 p2 ⟨fun x hx => ok.zf x (sub x hx), fun x z => by rw [ez _ x z]; exact ok.zd x z⟩ (Step.set lF sub) KeepP.refl
end
end PT

/-! PtV: loops, raise. -/
namespace PT
open PySem PySem.Spec PyProof.Rows L2
section
variable {X : Cx} {C : Cf} {W : WX} {k : Nat} {N : List Str} {sc : Scope} {K : PySem.W.Frag} {mg : Str → Option Value} {P : List Bool} {D : Ends} {σ : Sl} {H : Hp}
/-- where a loop stands -/
structure Lp (K : PySem.W.Frag) (P : List Bool) (σ : Sl) (H : Hp) (Z : Addr → Prop) (F : List Addr) (e : Env) (σ' : Sl) (H' : Hp) (Z' : Addr → Prop) (F' : List Addr) : Prop where
  re : RepE K H' Z' e σ' F'
  ok : Okk H' Z' F'
  st : Step H Z F H' Z' F'
  kp : KeepP P σ σ'
theorem Lp.go {Z Z1 : Addr → Prop} {F F1 : List Addr} {e e2 : Env} {σ1 σ2 : Sl} {H1 H2 : Hp} {Z2 : Addr → Prop} {F2 : List Addr} (l : Lp K P σ H Z F e σ1 H1 Z1 F1) (re : RepE K H2 Z2 e2 σ2 F2) (ok : Okk H2 Z2 F2) (st : Step H1 Z1 F1 H2 Z2 F2) (kp : KeepP P σ1 σ2) : Lp K P σ H Z F e2 σ2 H2 Z2 F2 :=
  ⟨re, ok, stp l.st st, l.kp.trans kp⟩
theorem y_fors {tg : Tg} {it : It} {b : S} (h : semS K mg W C.P (ex C (.fors tg it b)) D σ H) : tFor (semI K mg W (evI C it)) (semG K C.P tg) (semS K mg W C.P (ex C b)) D σ H := by
  obtain ⟨e, Z, F, re, ok, po⟩ := h
  simp only [ex] at po
  refine ⟨e, Z, F, re, ok, (st_sem (A := aI K) po).imp ?_⟩
  rintro J H1 ⟨items, e1, Z1, F1, Fa, m⟩
  obtain ⟨rfl, hJ⟩ := m.ra
  have po1 := m.po
  have ok1 := m.ok
  simp only [List.append_nil] at po1 ok1
  generalize hf : (fun (t : T) (e2 : Env) => (asgE C.P tg t e2).st fun _ e3 => ex C b e3) = f at po1
  generalize hr0 : goFor f items e1 = r0 at po1
  refine ⟨fun i n σ' H' => n = items.length - i ∧ i ≤ items.length ∧ ∃ e' Z' F', Lp K C.P σ H1 Z1 F1 e' σ' H' Z' F' ∧ goFor f (items.drop i) e' = r0, ⟨items.length, by simp, Nat.zero_le _, e1, Z1, F1, ⟨m.re, ok1, Step.refl fun _ h => h, KeepP.refl⟩, by simpa using hr0⟩, ?_⟩
  rintro i n σ2 H2 ⟨rfl, hi, e2, Z2, F2, l2, eq⟩
  have hz : ∀ a, Z1 a → H2 a = H1 a := fun a z => (l2.st.2 a (ok1.zd a z) fun q => ok1.zf a q z).1
  obtain ⟨j1, j2⟩ := hJ H2 Z2 hz l2.st.1 l2.ok.zd
  by_cases hlt : i < items.length
  · refine .inr ?_
    have hg : items[i]? = some items[i] := by simp [hlt]
    generalize ht : items[i] = t at hg
    obtain ⟨g1, g2⟩ := j1 i t hg
    refine ⟨g1, fun σ' H' => ∃ e' Z' F', Lp K C.P σ H1 Z1 F1 e' σ' H' Z' F' ∧ goFor f (items.drop (i + 1)) e' = r0, fun σ' H' nx => ⟨items.length - (i + 1), by omega, rfl, hlt, nx⟩, fun xv H3 hy => ?_⟩
    obtain ⟨Z3, s3, d3, rt⟩ := g2 xv H3 hy
    have edr : items.drop i = t :: items.drop (i + 1) := by rw [← ht]; exact List.drop_eq_getElem_cons hlt
    rw [edr] at eq
    simp only [goFor] at eq
    have s3' : Step H2 Z2 F2 H3 Z3 F2 := by
      refine ⟨s3.1, fun a ha hn => ?_⟩
      obtain ⟨h1, h2, h3⟩ := s3.2 a ha (by simp)
      exact ⟨h1, hn, h3⟩
    have all3 : ∀ a, (H2 a).isSome = true → H3 a = H2 a := fun a ha => (s3.2 a ha (by simp)).1
    have re3 : RepE K H3 Z3 e2 σ2 F2 := l2.re.keep (fun a ha => all3 a (l2.re.dom a ha)) (fun a z => all3 a (l2.ok.zd a z)) s3.1
    have ok3 : Okk H3 Z3 F2 := ⟨fun a ha z => l2.ok.zf a ha ((s3.2 a (l2.re.dom a ha) (by simp)).2.2 z), d3⟩
    have l3 := l2.go re3 ok3 s3' KeepP.refl
    refine ⟨t, e2, Z3, F2, [], rt, re3, Dj.nilR, ?_⟩
    have ef : f t e2 = (asgE C.P tg t e2).st fun _ e3 => ex C b e3 := by rw [← hf]
    unfold asgE at ef
    rw [ef] at eq
    cases q : asg C.P tg t e2 with
    | none =>
      rw [q] at eq
      simp only [R.st, SR.turn] at eq
      subst eq
      exact po1.elim
    | some e4 =>
      rw [q] at eq
      simp only [R.st] at eq
      intro σ4 F4 re4 s4 kp
      have sub4 : ∀ a, a ∈ F4 → a ∈ F2 := fun a ha => (s4 a ha).elim id fun z => absurd z (by simp)
      have l4 := l3.go re4 (ok3.mono sub4) (Step.refl sub4) kp.p
      refine ⟨e4, Z3, F4, re4, l4.ok, ?_⟩
      cases qb : ex C b e4 with
      | fail =>
        rw [qb] at eq
        simp only [SR.turn] at eq
        subst eq
        exact po1.elim
      | next e5 =>
        rw [qb] at eq
        exact fun σ5 H5 Z5 F5 h1 h2 h3 h4 => ⟨e5, Z5, F5, l4.go h1 h2 h3 h4, eq⟩
      | cnt e5 =>
        rw [qb] at eq
        exact fun σ5 H5 Z5 F5 h1 h2 h3 h4 => ⟨e5, Z5, F5, l4.go h1 h2 h3 h4, eq⟩
      | brk e5 =>
        rw [qb] at eq
        simp only [SR.turn] at eq
        subst eq
        intro σ5 H5 Z5 F5 h1 h2 h3 h4
        have l5 := l4.go h1 h2 h3 h4
        exact po1 σ5 H5 Z5 F5 l5.re l5.ok l5.st l5.kp
      | ret u e5 =>
        rw [qb] at eq
        simp only [SR.turn] at eq
        subst eq
        exact fun v σ5 H5 Z5 F5 Ft h1 h2 h3 h4 h5 h6 => po1 v σ5 H5 Z5 F5 Ft h1 h2 h3 h4 (stp l4.st h5) (l4.kp.trans h6)
      | exc x e5 =>
        rw [qb] at eq
        simp only [SR.turn] at eq
        subst eq
        exact fun cls d σ5 H5 Z5 F5 h1 h2 h3 h4 h5 => po1 cls d σ5 H5 Z5 F5 h1 h2 h3 (stp l4.st h4) (l4.kp.trans h5)
  · have e0 : i = items.length := by omega
    refine .inl ⟨j2 i (by omega), ?_⟩
    rw [e0, List.drop_length] at eq
    simp only [goFor] at eq
    subst eq
    exact po1 σ2 H2 Z2 F2 l2.re l2.ok l2.st l2.kp
theorem y_whl {n : Nat} {c : E} {b : S} (h : semS K mg W C.P (ex C (.whl n c b)) D σ H) : tWhile (semB K mg W fun e => (ev C c e).bindO boolOf) (semS K mg W C.P (ex C b)) D σ H := by
  obtain ⟨e, Z, F, re, ok, po⟩ := h
  simp only [ex] at po
  generalize hr0 : goWhl (fun e => (ev C c e).bindO boolOf) (fun e => ex C b e) n e = r0 at po
  refine ⟨fun m σ' H' => ∃ e' Z' F', Lp K C.P σ H Z F e' σ' H' Z' F' ∧ goWhl (fun e => (ev C c e).bindO boolOf) (fun e => ex C b e) m e' = r0, ⟨n, e, Z, F, ⟨re, ok, Step.refl fun _ h => h, KeepP.refl⟩, hr0⟩, ?_⟩
  rintro m σ2 H2 ⟨e2, Z2, F2, l2, eq⟩
  cases m with
  | zero =>
    simp only [goWhl] at eq
    subst eq
    exact po.elim
  | succ m =>
    simp only [goWhl] at eq
    refine ⟨e2, Z2, F2, l2.re, l2.ok, ?_⟩
    show Post K mg aB W σ2 H2 Z2 F2 ((ev C c e2).bindO boolOf) _
    cases qc : (ev C c e2).bindO boolOf with
    | fail =>
      rw [qc] at eq
      simp only [R.st] at eq
      subst eq
      exact po.elim
    | exc x e3 =>
      rw [qc] at eq
      simp only [R.st] at eq
      subst eq
      exact fun cls d H5 Z5 F5 h1 h2 h3 h4 => po cls d σ2 H5 Z5 F5 h1 h2 h3 (stp l2.st h4) l2.kp
    | ok d e3 =>
      rw [qc] at eq
      rintro d' H3 Z3 F3 Fd re3 ⟨rfl, rfl⟩ _ ok3 s3
      rw [List.append_nil] at ok3 s3
      have l3 := l2.go re3 ok3 s3 KeepP.refl
      cases d with
      | false =>
        simp only [R.st, Bool.false_eq_true, if_false] at eq ⊢
        subst eq
        exact po σ2 H3 Z3 F3 l3.re l3.ok l3.st l3.kp
      | true =>
        simp only [R.st, if_true] at eq ⊢
        refine ⟨fun σ' H' => ∃ e' Z' F', Lp K C.P σ H Z F e' σ' H' Z' F' ∧ goWhl (fun e => (ev C c e).bindO boolOf) (fun e => ex C b e) m e' = r0, fun σ' H' nx => ⟨m, Nat.lt_succ_self m, nx⟩, e3, Z3, F3, re3, ok3, ?_⟩
        cases qb : ex C b e3 with
        | fail =>
          rw [qb] at eq
          simp only [SR.turn] at eq
          subst eq
          exact po.elim
        | next e5 =>
          rw [qb] at eq
          exact fun σ5 H5 Z5 F5 h1 h2 h3 h4 => ⟨e5, Z5, F5, l3.go h1 h2 h3 h4, eq⟩
        | cnt e5 =>
          rw [qb] at eq
          exact fun σ5 H5 Z5 F5 h1 h2 h3 h4 => ⟨e5, Z5, F5, l3.go h1 h2 h3 h4, eq⟩
        | brk e5 =>
          rw [qb] at eq
          simp only [SR.turn] at eq
          subst eq
          intro σ5 H5 Z5 F5 h1 h2 h3 h4
          have l5 := l3.go h1 h2 h3 h4
          exact po σ5 H5 Z5 F5 l5.re l5.ok l5.st l5.kp
        | ret u e5 =>
          rw [qb] at eq
          simp only [SR.turn] at eq
          subst eq
          exact fun v σ5 H5 Z5 F5 Ft h1 h2 h3 h4 h5 h6 => po v σ5 H5 Z5 F5 Ft h1 h2 h3 h4 (stp l3.st h5) (l3.kp.trans h6)
        | exc x e5 =>
          rw [qb] at eq
          simp only [SR.turn] at eq
          subst eq
          exact fun cls d σ5 H5 Z5 F5 h1 h2 h3 h4 h5 => po cls d σ5 H5 Z5 F5 h1 h2 h3 (stp l3.st h4) (l3.kp.trans h5)
theorem zipF_1 : ∀ {fs : List Str} {ts : List T}, fs.length = ts.length → (zipF fs ts).map (·.1) = fs
  | [], [], _ => rfl
  | [], _ :: _, h => by simp at h
  | _ :: _, [], h => by simp at h
  | f :: fs, t :: ts, h => by simp [zipF, zipF_1 (fs := fs) (ts := ts) (by simpa using h)]
theorem zipF_2 : ∀ {fs : List Str} {ts : List T}, fs.length = ts.length → (zipF fs ts).map (·.2) = ts
  | [], [], _ => rfl
  | [], _ :: _, h => by simp at h
  | _ :: _, [], h => by simp at h
  | f :: fs, t :: ts, h => by simp [zipF, zipF_2 (fs := fs) (ts := ts) (by simpa using h)]
theorem frzL_len (ts : List T) : (frzL ts).length = ts.length := by
  induction ts with
  | nil => rfl
  | cons t ts ih => simp [frzL, ih]
theorem zip_rev {α β : Type} : ∀ {l : List α} {m : List β}, l.length = m.length → (l.zip m).reverse = l.reverse.zip m.reverse
  | [], [], _ => rfl
  | [], _ :: _, h => by simp at h
  | _ :: _, [], h => by simp at h
  | a :: l, b :: m, h => by
    have h' : l.length = m.length := by simpa using h
    simp only [List.zip_cons_cons, List.reverse_cons]
    rw [zip_rev h', List.zip_append (by simp [h'])]
    rfl
theorem RepL.rev {Z : Addr → Prop} : ∀ {ts : List T} {vs : List V}, RepL K H Z ts vs [] → RepL K H Z ts.reverse vs.reverse [] := by
  intro ts
  induction ts with
  | nil => intro vs r; cases r; exact .nil
  | cons t ts ih =>
    intro vs r
    generalize hF : ([] : List Addr) = Fx at r
    cases r with
    | cons t v F ts vs G r q d =>
      have h := List.append_eq_nil_iff.mp hF.symm
      obtain ⟨rfl, rfl⟩ := h
      have r1 : RepL K H Z [t] [v] [] := by
        have := RepL.cons t v [] [] [] [] r .nil Dj.nilR
        simpa using this
      obtain ⟨F', g1, g2⟩ := (ih q).app r1 Dj.nilR
      have : F' = [] := by
        cases F' with
        | nil => rfl
        | cons x _ => exact absurd ((g2 x).mp List.mem_cons_self) (by simp)
      subst this
      simpa using g1
theorem y_rais {c : Str} {fs : List Str} {as : EL} {Cc : Addr} (hm : mg c = some (.ref Cc)) (h : semS K mg W C.P (ex C (.rais c fs as)) D σ H) :
    semA K mg W C as σ H fun vs H1 => vs.length = fs.length ∧ ((fs = [] → W (.ref Cc) none σ H1) ∧ (fs ≠ [] → ∀ d, H1 d = none → W (.ref Cc) (some d) σ (upd H1 d (.xd ((fs.zip vs).reverse))))) := by
  obtain ⟨e, Z, F, re, ok, po⟩ := h
  simp only [ex] at po
  refine semA_of ⟨e, Z, F, re, ok, (st_sem (A := aL K) po).imp ?_⟩
  rintro vs H1 ⟨ts, e1, Z1, F1, Ft, m⟩
  have po1 := m.po
  split at po1
  case isFalse => exact po1.elim
  rename_i hl
  have hl := of_decide_eq_true hl
  have lv : ts.length = vs.length := m.ra.length
  have rz : RepL K H1 (fun a => Z1 a ∨ a ∈ Ft) (frzL ts) vs [] := RepL.frz m.ra (fun _ z => .inr z) fun _ z => .inl z
  have hl2 : fs.length = (frzL ts).length := by rw [frzL_len]; exact hl
  have x1 : ((zipF fs (frzL ts)).reverse.map (·.1)) = fs.reverse := by rw [List.map_reverse, zipF_1 hl2]
  have x2 : ((zipF fs (frzL ts)).reverse.map (·.2)) = (frzL ts).reverse := by rw [List.map_reverse, zipF_2 hl2]
  refine ⟨by omega, fun hn => ?_, fun hn d hd => ?_⟩
  · subst hn
    have : ts = [] := List.length_eq_zero_iff.mp hl.symm
    subst this
    exact po1 (.ref Cc) none σ H1 Z1 F1 m.re ⟨Cc, hm, rfl, .inl ⟨rfl, rfl⟩⟩ (m.ok.mono fun x hx => List.mem_append_left _ hx) (Step.refl fun x hx => List.mem_append_left _ hx) KeepP.refl
  · have nd : ∀ a, (H1 a).isSome = true → a ≠ d := fun a ha q => by rw [q, hd] at ha; cases ha
    have ez : ∀ a, Z1 a → upd H1 d (.xd ((fs.zip vs).reverse)) a = H1 a := fun a z => upd_ne (nd a (m.ok.zd a z))
    have ef : ∀ a, a ∈ F1 → upd H1 d (.xd ((fs.zip vs).reverse)) a = H1 a := fun a z => upd_ne (nd a (m.re.dom a z))
    have et : ∀ a, a ∈ Ft → upd H1 d (.xd ((fs.zip vs).reverse)) a = H1 a := fun a z => upd_ne (nd a (m.ra.dom a z))
    refine po1 (.ref Cc) (some d) σ _ (fun a => Z1 a ∨ a ∈ Ft ∨ a = d) F1 (m.re.keep ef ez fun _ z => .inl z) ⟨Cc, hm, rfl, .inr ⟨?_, d, vs.reverse, rfl, .inr (.inr rfl), ?_, ?_⟩⟩ ⟨fun a ha z => ?_, fun a z => ?_⟩ ⟨fun a z => .inl z, fun a ha hn => ⟨upd_ne (nd a ha), fun z => hn (List.mem_append_left _ z), fun z => ?_⟩⟩ KeepP.refl
    · intro h0
      have : fs.reverse = [] := by rw [← x1]; show List.map _ (zipF fs (frzL ts)).reverse = []; rw [show (zipF fs (frzL ts)).reverse = [] from h0]; rfl
      exact hn (List.reverse_eq_nil_iff.mp this)
    · show upd H1 d (.xd ((fs.zip vs).reverse)) d = some (.xd (((zipF fs (frzL ts)).reverse.map (·.1)).zip vs.reverse))
      rw [upd_same, x1, zip_rev (by omega)]
    · show RepL K _ _ ((zipF fs (frzL ts)).reverse.map (·.2)) vs.reverse []
      rw [x2]
      exact rz.rev.keep (fun _ z => absurd z (by simp)) (fun a z => z.elim (ez a) (et a)) fun a z => z.elim .inl fun z => .inr (.inl z)
    · rcases z with z | z | z
      · exact m.ok.zf a (List.mem_append_left _ ha) z
      · exact m.dj a ha z
      · exact nd a (m.re.dom a ha) z
    · rcases z with z | z | z
      · rw [ez a z]; exact m.ok.zd a z
      · rw [et a z]; exact m.ra.dom a z
      · rw [z, upd_same]; rfl
    · rcases z with z | z | z
      · exact z
      · exact absurd (List.mem_append_right _ z) hn
      · exact absurd z (nd a ha)
end
end PT

/-! PtW: every statement of the little language is its Python text. -/
namespace PT
open PySem PySem.Spec PyProof.Rows L2
/-- what a def's own block has besides -/
structure Sx (C : Cf) (X : Cx) : Prop where
  fn : ∀ x, X.env.scope.names.lookup x = some .cell → X.fn x = true
  xc : ∀ x fs, C.tb.xc x = some fs → ∃ Cc, X.mg x = some (.ref Cc) ∧ ∀ (args : List Expr) (t : TA) (p1 pos : Pos), (∀ σ H (P1 P2 : List V → Hp → Prop), (∀ vs H1, P1 vs H1 → P2 vs H1) → t σ H P1 → t σ H P2) → Gl X x → okNm x = true → args.length = fs.length → args.all plainE = true → PA X args t →
    PMk X (.Call (.Name x p1) args [] pos) (fun σ H Q => t σ H fun vs H1 => vs.length = fs.length ∧ ((fs = [] → Q (.ref Cc) none H1) ∧ (fs ≠ [] → ∀ d, H1 d = none → Q (.ref Cc) (some d) (upd H1 d (.xd ((fs.zip vs).reverse))))))
section
variable {X : Cx} {C : Cf} {W : WX} {k : Nat} {N : List Str} {sc : Scope}
theorem sx_tg (c : Kx C W k N sc X) (s : Sx C X) : ∀ x, locB sc x = true → Loc X.env.scope x ∧ (X.fn x = true ∨ X.env.scope.names.lookup x = some .local) := fun x h => by
  have z := loc_of h
  rw [← c.hsc] at z
  exact ⟨z, z.elim .inr fun z => .inl (s.fn x z)⟩
theorem tAsg_imp {t t' : TE} {g : TG} (k : ∀ σ H Q, t' σ H Q → t σ H Q) : ∀ D σ H, tAsg t' g D σ H → tAsg t g D σ H := fun D σ H h => k σ H _ h
theorem tAsg_impG {t : E} {g g' : TG} {K : PySem.W.Frag} {mg : Str → Option Value} (k : ∀ v σ H Q, g' v σ H Q → g v σ H Q) : ∀ D σ H, tAsg (semE K mg W (ev C t)) g' D σ H → tAsg (semE K mg W (ev C t)) g D σ H := fun D σ H ⟨e, Z, F, re, ok, po⟩ => ⟨e, Z, F, re, ok, po.imp fun v H1 q => k v σ H1 _ q⟩
/-- name = [..] where the store is swapped in -/
theorem goA (c : Kx C W k N sc X) {i : Nat} {y : Str} {py : Pos} {elt : Expr} {gs : List Comprehension} {scope : Scope} {pos spos : Pos} (hi : X.N[i]? = some y) (hy : X.env.scope.names.lookup y = some .local)
    (hsw : swapsWith (.ListComp elt gs scope pos) (some (.Name y py)) spos.line X.env = pure true) : ∀ (x : E), mE C.tb N k sc x (.ListComp elt gs scope pos) = true → PS X (.Assign [.Name y py] (.ListComp elt gs scope pos) spos) (tAsg (WE1 X W C x) (gName i))
  | .lc own tg it d x, h => by
    obtain ⟨elt', tg', iter, ifs, scope', p', e0, h1, h2, h3, h4, h5, h6, h7⟩ := i_lc h
    cases e0
    have ok : BlkOk X.N X.env.scope scope (ownB N own) := by rw [c.hN, c.hsc]; exact blkOk_by h1
    have ow : (ownB N own).map (·.2) = own := by unfold ownB; rw [List.map_map]; exact List.map_id _
    have := ps_setLc (spos := spos) (g := semG X.K C.P tg) (tt := semB X.K X.mg W0 (evC C d)) (te := semE X.K X.mg W0 (ev C x)) c.calm (by rw [c.hN]; exact c.nd) hi hy hsw (goI it c h5) ok (fun s H D cl fp => p_tg (kx_blk c ok.kind s H D cl fp) (fun x hx => ?_) h2)
      (fun s H D cl fp => goC d (kx_blk c ok.kind s H D cl fp) h6) (fun s H D cl fp => (goE x (kx_blk c ok.kind s H D cl fp) h7).1) (noSet_it h4)
    · rw [ow] at this
      exact PS.imp this (tAsg_imp fun σ H Q q => k_lc h3 q)
    · have z := loc_of hx
      rcases z with z | z
      · have z2 := lookup_relS_keep (sc := X.env.scope) (by decide) z
        exact ⟨.inl z2, .inr z2⟩
      · have z2 := lookup_relS_keep (sc := X.env.scope) (by decide) z
        exact ⟨.inr z2, .inl (by show (scope.names.lookup x == some .cell) = true; rw [z]; rfl)⟩
  | .ro m x, h => by
    have h' : mE C.tb N k sc x (.ListComp elt gs scope pos) = true := by simpa only [mE] using h
    exact PS.imp (goA c hi hy hsw x h') (tAsg_imp fun σ H Q q => k_ro q)
  | .var i, h => by simp [mE, varB] at h
  | .mv i, h => by simp [mE, varB] at h
  | .lend i, h => by simp [mE, varB] at h
  | .non, h => by simp [mE] at h
  | .bl _, h => by simp [mE] at h
  | .int _, h => by simp [mE] at h
  | .str _, h => by simp [mE] at h
  | .glo _, h => by simp [mE] at h
  | .bin _ _ _, h => by simp [mE] at h
  | .neg _, h => by simp [mE] at h
  | .cmp _ _ _, h => by simp [mE] at h
  | .chn _ _ _ _ _, h => by simp [mE] at h
  | .not _, h => by simp [mE] at h
  | .and _ _, h => by simp [mE] at h
  | .or _ _, h => by simp [mE] at h
  | .ife _ _ _, h => by simp [mE] at h
  | .tup _, h => by simp [mE] at h
  | .lst _, h => by simp [mE] at h
  | .ix _ _, h => by simp [mE] at h
  | .sl _ _ _, h => by simp [mE] at h
  | .call _ _ _, h => by simp [mE] at h
  | .bi _ _, h => by simp [mE] at h
  | .isi _ _, h => by simp [mE] at h
  | .meth _ _ _, h => by simp [mE] at h
  | .pop _, h => by simp [mE] at h
theorem noLc_sw {v : Expr} {t : Option Expr} {l : Nat} {env : PySem.Env} (h : noLc v = true) : swapsWith v t l env = pure false := by
  cases v <;> first | rfl | simp [noLc] at h
theorem go_asg (c : Kx C W k N sc X) (s : Sx C X) {tg : Tg} {x : E} {t v : Expr} {p : Pos} (h0 : noSD v = true) (h1 : mTg N sc tg t = true) (h2 : mE C.tb N k sc x v = true) (h3 : (noTupE t || (noLc v && noTupE v)) = true) : PS X (.Assign [t] v p) (sS X W C (.asg tg x)) := by
  have hg : PG X t (semG X.K C.P tg) := p_tg c (sx_tg c s) h1
  have he := (goE x c h2).1
  rw [Bool.or_eq_true] at h3
  rcases h3 with h3 | h3
  · cases tg with
    | tp ts => cases t <;> first | (simp [mTg] at h1; done) | simp [noTupE] at h3
    | nm i =>
      cases t <;> try (simp [mTg] at h1; done)
      rename_i y py
      simp only [mTg, Bool.and_eq_true] at h1
      have hi : X.N[i]? = some y := by rw [c.hN]; exact nm_of h1.1
      have hw : swappedStores [.Name y py] v X.env = pure none := by cases v <;> rfl
      by_cases hl : noLc v = true
      · exact PS.imp (ps_asg he hg (noLc_sw (t := some (.Name y py)) (l := p.line) (env := X.env) hl) hw) fun D σ H q => y_asg q
      · cases v <;> try (exact absurd rfl hl)
        case SetComp => simp [noSD] at h0
        case DictComp => simp [noSD] at h0
        rename_i elt gs scope pos
        have sw : swapsWith (.ListComp elt gs scope pos) (some (.Name y py)) p.line X.env = pure (X.env.blockKind == .function && X.env.kindOf y == some .local && py.line == pos.line && !(scope.names.any fun (n, k) => n == y && (k == .local || k == .cell))) := rfl
        cases hb : (X.env.blockKind == .function && X.env.kindOf y == some .local && py.line == pos.line && !(scope.names.any fun (n, k) => n == y && (k == .local || k == .cell))) with
        | false =>
          rw [hb] at sw
          exact PS.imp (ps_asg he hg sw hw) fun D σ H q => y_asg q
        | true =>
          rw [hb] at sw
          simp only [Bool.and_eq_true] at hb
          have hy : X.env.scope.names.lookup y = some .local := by
            have := hb.1.1.2
            exact eq_of_beq this
          exact PS.imp (goA c hi hy sw x h2) fun D σ H q => tAsg_impG g_name D σ H (y_asg q)
  · rw [Bool.and_eq_true] at h3
    have hs : swapsWithSole [t] v p.line X.env = pure false := noLc_sw (t := some t) (l := p.line) (env := X.env) h3.1
    have hw : swappedStores [t] v X.env = pure none := by
      cases v <;> first | (simp [noTupE] at h3; done) | (cases t <;> rfl)
    exact PS.imp (ps_asg he hg hs hw (by cases t <;> first | rfl | (cases tg <;> simp [mTg] at h1))) fun D σ H q => y_asg q
theorem mBase_of {i : Nat} {n : Str} {v : Expr} (h : mBase N sc i n v = true) : ∃ o ap x cp, v = .Call (.Attribute o n ap) [x] [] cp ∧ (ap.endLine == cp.line) = true ∧ varB N sc i o = true := by
  cases v <;> try (simp [mBase] at h; done)
  rename_i g args kws p
  cases g <;> try (simp [mBase] at h; done)
  rcases args with _ | ⟨x, _ | ⟨_, _⟩⟩ <;> rcases kws with _ | ⟨kw, kws⟩ <;> try (simp [mBase] at h; done)
  simp only [mBase, Bool.and_eq_true, decide_eq_true_eq] at h
  obtain ⟨⟨rfl, h1⟩, h2⟩ := h
  exact ⟨_, _, _, _, rfl, h1, h2⟩
theorem varB_base {i : Nat} {o : Expr} {n : Str} {env : PySem.Env} (h : varB N sc i o = true) : attributeBase o n env (eval o env) = eval o env := by
  cases o <;> first | rfl | simp [varB] at h
theorem go_app (c : Kx C W k N sc X) {i : Nat} {x : E} {v : Expr} {p : Pos} (h1 : mBase N sc i "append" v = true) (h2 : plainE (argB v) = true) (h3 : mE C.tb N k sc x (argB v) = true) : PS X (.Expr v p) (sS X W C (.app i x)) := by
  obtain ⟨o, ap, y, cp, rfl, h4, h5⟩ := mBase_of h1
  exact PS.imp (ps_expr (pe_bm PySem.F.plainAttrs_list PySem.F.slot_list_append PySem.F.type_list_append mt_append (pe_slot c h5) (pa_cons (goE x c h3).1 pa_nil (plain_star h2)) (varB_base h5) (plain_few (es := [y]) (by have h2 : plainE y = true := h2; simp [h2]) (by show 1 < 3; decide)) h4 (plain_star h2) rfl) rfl) fun D σ H q => y_app q
theorem go_ext (c : Kx C W k N sc X) {i : Nat} {x : E} {v : Expr} {p : Pos} (h1 : mBase N sc i "extend" v = true) (h2 : plainE (argB v) = true) (h3 : mE C.tb N k sc x (argB v) = true) : PS X (.Expr v p) (sS X W C (.ext i x)) := by
  obtain ⟨o, ap, y, cp, rfl, h4, h5⟩ := mBase_of h1
  exact PS.imp (ps_expr (pe_bm PySem.F.plainAttrs_list PySem.F.slot_list_extend PySem.F.type_list_extend mt_extend (pe_slot c h5) (pa_cons (goE x c h3).1 pa_nil (plain_star h2)) (varB_base h5) (plain_few (es := [y]) (by have h2 : plainE y = true := h2; simp [h2]) (by show 1 < 3; decide)) h4 (plain_star h2) rfl) rfl) fun D σ H q => y_ext q
theorem go_app1 (c : Kx C W k N sc X) {i j : Nat} {n : Int} {v : Expr} {p : Pos} (h : mB1 N sc i j n v = true) : PS X (.Expr v p) (sS X W C (.app1 i j n)) := by
  unfold mB1 at h
  split at h
  case h_2 => cases h
  simp only [Bool.and_eq_true, decide_eq_true_eq] at h
  obtain ⟨⟨⟨⟨rfl, h1⟩, h2⟩, rfl⟩, rfl⟩ := h
  exact PS.imp (ps_expr (pe_bm PySem.F.plainAttrs_list PySem.F.slot_list_append PySem.F.type_list_append mt_append (pe_ix (ix_any (by have := c.room.units; omega)) (pe_slot c h2) pe_int (fun _ _ => rfl)) (pa_cons pe_int pa_nil rfl) rfl (plain_few rfl (by show 1 < 3; decide)) h1 rfl rfl) rfl) fun D σ H q => y_app1 q
theorem go_seti (c : Kx C W k N sc X) {i : Nat} {kx x : E} {o s v : Expr} {p p2 : Pos} (h1 : varB N sc i o = true) (h2 : noSlE s = true) (h3 : mE C.tb N k sc kx s = true) (h4 : mE C.tb N k sc x v = true) : PS X (.Assign [.Subscript o s p2] v p) (sS X W C (.seti i kx x)) := by
  have hg : PG X (.Subscript o s p2) (gSub (tVar i) (semE X.K X.mg W (ev C kx)) rSetA) := pg_sub (pe_slot c h1) (goE kx c h3).1 (set_any (by have := c.room.units; omega)) (by cases s <;> first | (intro _; rfl) | simp [noSlE] at h2)
  refine PS.imp (ps_asg (goE x c h4).1 hg ?_ ?_) fun D σ H q => y_seti q
  · show swapsWith v (some (.Subscript o s p2)) p.line X.env = pure false
    cases v <;> rfl
  · cases v <;> rfl
theorem go_par (c : Kx C W k N sc X) {i j : Nat} {x y : E} {a b : Str} {pa pb pt : Pos} {kt k2 pt2} {v w : Expr} {p : Pos} (h1 : nmB N i a = true) (h2 : nmB N j b = true) (h3 : sc.names.lookup a = some .local) (h4 : sc.names.lookup b = some .local) (hij : i ≠ j)
    (hp : (pa.line == pb.line) = true) (h5 : plainE v = true) (h6 : plainE w = true) (h7 : mE C.tb N k sc x v = true) (h8 : mE C.tb N k sc y w = true) (h9 : [v, w].all (foldedForSure 8) = false) (h10 : [v, w].all (constantsAlone 8) = false) :
    PS X (.Assign [.Tuple [.Name a pa, .Name b pb] kt pt] (.Tuple [v, w] k2 pt2) p) (sS X W C (.par i j x y)) := by
  have hi : X.N[i]? = some a := by rw [c.hN]; exact nm_of h1
  have hj : X.N[j]? = some b := by rw [c.hN]; exact nm_of h2
  have hN : X.N.Nodup := by rw [c.hN]; exact c.nd
  have la : X.env.scope.names.lookup a = some .local := by rw [c.hsc]; exact h3
  have lb : X.env.scope.names.lookup b = some .local := by rw [c.hsc]; exact h4
  have hab : a ≠ b := fun z => by
    subst z
    exact hij (nodup_ix hN hi hj)
  refine PS.imp (ps_par c.calm hN hi hj hij la lb (pa_cons (goE x c h7).1 (pa_cons (goE y c h8).1 pa_nil (plain_star h6)) (plain_star h5)) ?_ rfl) fun D σ H q => y_par hij q
  have ka : X.env.kindOf a = some .local := la
  have kb : X.env.kindOf b = some .local := lb
  have hk : X.env.blockKind = .function := by unfold Env.blockKind; rw [c.hsc, c.kind]; rfl
  have st : ([v, w].any fun | .Starred .. => true | _ => false) = false := by
    cases v <;> cases w <;> first | rfl | (simp [plainE] at h5; done) | simp [plainE] at h6
  have pb' : (pb.line == pa.line) = true := by
    have := eq_of_beq hp
    rw [this]; exact beq_self_eq_true _
  have hba : (b == a) = false := by simpa using fun z => hab z.symm
  have e2 : ([a, b].eraseDups).length = 2 := by
    simp [List.eraseDups_cons, hba]
  show (do
    if !(true || false) || (2 : Nat) != 2 || X.env.blockKind != .function then return none
    if ([v, w].any fun | .Starred .. => true | _ => false) = true then return none
    let names := [Expr.Name a pa, .Name b pb].filterMap fun
      | .Name id pos => if X.env.kindOf id == some .local && pos.line == pa.line then some id else none
      | _ => none
    if names.length != 2 || names.eraseDups.length != names.length then return none
    if [v, w].all (foldedForSure 8) then return none
    if [v, w].all (constantsAlone 8) then unsupported "assign.tuple-of-constant-expressions:order-of-the-stores"
    return some names : Sem (Option (List Str))) = _
  have hf : ([Expr.Name a pa, .Name b pb].filterMap fun
      | .Name id pos => if X.env.kindOf id == some .local && pos.line == pa.line then some id else none
      | _ => none) = [a, b] := by
    simp [List.filterMap_cons, ka, kb, eq_of_beq pb']
  simp only [hf, hk, st, h9, h10, e2]
  rfl
theorem go_rais (c : Kx C W k N sc X) (s : Sx C X) {cl : Str} {fs : List Str} {as : EL} {x : Str} {args : List Expr} {p1 p2 p : Pos} (h1 : glB sc x = true) (h2 : okNm x = true) (h3 : x = cl) (h4 : C.tb.xc cl = some fs) (h6 : args.length = fs.length) (h5 : mEL C.tb N k sc as args = true) :
    PS X (.Raise (some (.Call (.Name x p1) args [] p2)) none p) (sS X W C (.rais cl fs as)) := by
  subst h3
  obtain ⟨Cc, m1, m2⟩ := s.xc x fs h4
  exact PS.imp (ps_raise c.calm c.tk (m2 args _ p1 p2 (fun σ H P1 P2 h ⟨e, Z, F, re, ok, po⟩ => ⟨e, Z, F, re, ok, po.imp h⟩) (gl_of c h1) h2 h6 (mEL_plain h5).1 (goL as c h5))) fun D σ H q => y_rais m1 q
mutual
theorem goS (c : Kx C W k N sc X) (s : Sx C X) : ∀ (st : S) {a : Stmt}, mS C.tb N k sc st a = true → PS X a (sS X W C st)
  | .asg tg x, a, h => by
    cases a <;> try (revert h; simp [mS]; done)
    rename_i ts v p
    rcases ts with _ | ⟨t, _ | ⟨_, _⟩⟩ <;> try (revert h; simp [mS]; done)
    simp only [mS, Bool.and_eq_true] at h
    obtain ⟨⟨⟨h0, h1⟩, h2⟩, h3⟩ := h
    exact go_asg c s h0 h1 h2 h3
  | .par i j x y, a, h => by
    cases a <;> try (revert h; simp [mS]; done)
    rename_i ts v p
    rcases ts with _ | ⟨t, _ | ⟨_, _⟩⟩ <;> try (revert h; simp [mS]; done)
    simp only [mS] at h
    unfold parB at h
    split at h
    case h_2 => cases h
    simp only [Bool.and_eq_true, beq_iff_eq, Bool.not_eq_true', decide_eq_false_iff_not] at h
    obtain ⟨⟨⟨⟨⟨⟨⟨⟨⟨⟨⟨h1, h2⟩, h3⟩, h4⟩, h5⟩, h6⟩, h7⟩, h8⟩, h9⟩, h10⟩, h11⟩, h12⟩ := h
    exact go_par c h1 h2 h3 h4 h5 (by rw [h6]; exact beq_self_eq_true _) h7 h8 h9 h10 h11 h12
  | .seti i kx x, a, h => by
    cases a <;> try (revert h; simp [mS]; done)
    rename_i ts v p
    rcases ts with _ | ⟨t, _ | ⟨_, _⟩⟩ <;> try (revert h; simp [mS]; done)
    simp only [mS] at h
    unfold setiB at h
    split at h
    case h_2 => cases h
    simp only [Bool.and_eq_true] at h
    obtain ⟨⟨⟨h1, h2⟩, h4⟩, h5⟩ := h
    exact go_seti c h1 h2 h4 h5
  | .exp x, a, h => by
    cases a <;> try (revert h; simp [mS]; done)
    simp only [mS, Bool.and_eq_true] at h
    exact PS.imp (ps_expr (goE x c h.2).1 (noLc_sw h.1)) fun D σ H q => y_exp q
  | .app i x, a, h => by
    cases a <;> try (revert h; simp [mS]; done)
    simp only [mS, Bool.and_eq_true] at h
    exact go_app c h.1.1 h.1.2 h.2
  | .ext i x, a, h => by
    cases a <;> try (revert h; simp [mS]; done)
    simp only [mS, Bool.and_eq_true] at h
    exact go_ext c h.1.1 h.1.2 h.2
  | .app1 i j n, a, h => by
    cases a <;> try (revert h; simp [mS]; done)
    simp only [mS] at h
    exact go_app1 c h
  | .ifs d x y, a, h => by
    cases a <;> try (revert h; simp [mS]; done)
    simp only [mS, Bool.and_eq_true] at h
    exact PS.imp (ps_if (goE d c h.1.1).2 (goB c s x h.1.2) (goB c s y h.2)) fun D σ H q => y_ifs q
  | .fors tg it b, a, h => by
    cases a <;> try (revert h; simp [mS]; done)
    rename_i tg' iter body els p
    cases els <;> try (revert h; simp [mS]; done)
    simp only [mS, Bool.and_eq_true] at h
    obtain ⟨⟨⟨h1, h2⟩, h3⟩, h4⟩ := h
    exact PS.imp (ps_for c.po c.calm (goI it c h3) (p_tg c (sx_tg c s) h1) (goB c s b h4) (noSet_it h2)) fun D σ H q => y_fors q
  | .whl n d b, a, h => by
    cases a <;> try (revert h; simp [mS]; done)
    rename_i c' body els p
    cases els <;> try (revert h; simp [mS]; done)
    simp only [mS, Bool.and_eq_true] at h
    exact PS.imp (ps_while c.po (goE d c h.1).2 (goB c s b h.2)) fun D σ H q => y_whl q
  | .ret x, a, h => by
    cases a <;> try (revert h; simp [mS]; done)
    rename_i v p
    cases v <;> try (revert h; simp [mS]; done)
    simp only [mS] at h
    exact PS.imp (ps_ret (goE x c h).1) fun D σ H q => y_ret q
  | .retn, a, h => by
    cases a <;> try (revert h; simp [mS]; done)
    rename_i v p
    cases v <;> try (revert h; simp [mS]; done)
    exact PS.imp ps_retN fun D σ H q => y_retn q
  | .pass, a, h => by
    cases a <;> try (revert h; simp [mS]; done)
    exact PS.imp ps_pass fun D σ H q => y_next (fun e => by simp only [ex]) q
  | .brk, a, h => by
    cases a <;> try (revert h; simp [mS]; done)
    exact PS.imp ps_break fun D σ H q => y_brk q
  | .cnt, a, h => by
    cases a <;> try (revert h; simp [mS]; done)
    exact PS.imp ps_continue fun D σ H q => y_cnt q
  | .rais cl fs as, a, h => by
    cases a <;> try (revert h; simp [mS]; done)
    rename_i x y p
    cases x <;> cases y <;> try (revert h; simp [mS]; done)
    simp only [mS] at h
    unfold raisB at h
    split at h
    case h_2 => cases h
    simp only [Bool.and_eq_true, decide_eq_true_eq, beq_iff_eq] at h
    obtain ⟨⟨⟨⟨⟨h1, h2⟩, h3⟩, h4⟩, h6⟩, h5⟩ := h
    exact go_rais c s h1 h2 h3 h4 h6 h5
  | .never, a, h => PS.imp ps_never fun D σ H q => by
    obtain ⟨e, Z, F, re, ok, po⟩ := q
    simp only [ex] at po
    exact po
  | .nop, a, h => by cases a <;> (revert h; simp [mS])
  | .seq _ _, a, h => by cases a <;> (revert h; simp [mS])
theorem goB (c : Kx C W k N sc X) (s : Sx C X) : ∀ (st : S) {a : List Stmt}, mB C.tb N k sc st a = true → PSs X a (sS X W C st)
  | .nop, a, h => by
    cases a <;> try (revert h; simp [mB]; done)
    exact PSs.imp pss_nil fun D σ H q => y_next (fun e => by simp only [ex]) q
  | .seq x y, a, h => by
    cases a <;> try (revert h; simp [mB]; done)
    simp only [mB, Bool.and_eq_true] at h
    exact PSs.imp (pss_cons (goS c s x h.1) (goB c s y h.2)) fun D σ H q => y_seq q
  | .never, a, h => PSs.imp pss_never fun D σ H q => by
    obtain ⟨e, Z, F, re, ok, po⟩ := q
    simp only [ex] at po
    exact po
  | .asg _ _, a, h => by cases a <;> (revert h; simp [mB])
  | .par _ _ _ _, a, h => by cases a <;> (revert h; simp [mB])
  | .seti _ _ _, a, h => by cases a <;> (revert h; simp [mB])
  | .exp _, a, h => by cases a <;> (revert h; simp [mB])
  | .app _ _, a, h => by cases a <;> (revert h; simp [mB])
  | .ext _ _, a, h => by cases a <;> (revert h; simp [mB])
  | .ifs _ _ _, a, h => by cases a <;> (revert h; simp [mB])
  | .app1 _ _ _, a, h => by cases a <;> (revert h; simp [mB])
  | .fors _ _ _, a, h => by cases a <;> (revert h; simp [mB])
  | .whl _ _ _, a, h => by cases a <;> (revert h; simp [mB])
  | .ret _, a, h => by cases a <;> (revert h; simp [mB])
  | .retn, a, h => by cases a <;> (revert h; simp [mB])
  | .pass, a, h => by cases a <;> (revert h; simp [mB])
  | .brk, a, h => by cases a <;> (revert h; simp [mB])
  | .cnt, a, h => by cases a <;> (revert h; simp [mB])
  | .rais _ _ _, a, h => by cases a <;> (revert h; simp [mB])
end
end
end PT

/-! PtX: a def keeps the promise of its function on trees. -/
namespace PT
open PySem PySem.Spec PyProof.Rows L2
section
variable {K : PySem.W.Frag} {mg : Str → Option Value} {H : Hp} {Z : Addr → Prop}
theorem outs_ok : ∀ {n : Nat} {P : List Bool} {e : Env} {σ : Sl} {vs : List V} {F : List Addr}, RepE K H Z e σ F → vs.length = n → (∀ i, i < n → P.getD i false = true → σ[i]? = vs[i]?.map some) → ∃ F2, RepL K H Z (outs P n e) vs F2 ∧ ∀ x, x ∈ F2 → x ∈ F
  | 0, P, e, σ, vs, F, re, hl, h => by
    have : vs = [] := List.length_eq_zero_iff.mp hl
    subst this
    exact ⟨[], by cases P <;> exact .nil, fun _ h => by simp at h⟩
  | n + 1, P, e, σ, vs, F, re, hl, h => by
    cases vs with
    | nil => simp at hl
    | cons v vs =>
      have hl' : vs.length = n := by simpa using hl
      have rest : ∀ {P' : List Bool} {e' : Env} {σ' : Sl} {F' : List Addr}, RepE K H Z e' σ' F' → (∀ i, i < n → P'.getD i false = true → σ'[i]? = vs[i]?.map some) → ∃ F2, RepL K H Z (outs P' n e') vs F2 ∧ ∀ x, x ∈ F2 → x ∈ F' := fun r q => outs_ok r hl' q
      have hole : ∀ {P' : List Bool} {e' : Env} {F2 F' : List Addr}, (RepL K H Z (outs P' n e') vs F2 ∧ ∀ x, x ∈ F2 → x ∈ F') → ∃ F3, RepL K H Z (.hole :: outs P' n e') (v :: vs) F3 ∧ ∀ x, x ∈ F3 → x ∈ F' := fun {P' e' F2 F'} q =>
        ⟨[] ++ F2, .cons .hole v [] _ _ F2 (.hole v) q.1 Dj.nilL, fun x hx => q.2 x (by simpa using hx)⟩
      cases re with
      | nil =>
        have : outs P (n + 1) [] = .hole :: outs [] n [] := by cases P with
          | nil => rfl
          | cons b P => cases b <;> rfl
        rw [this]
        obtain ⟨F2, q⟩ := rest (P' := []) (.nil : RepE K H Z [] [] []) (fun i _ h => by simp at h)
        exact hole q
      | un o e s F r =>
        cases P with
        | nil =>
          show ∃ F2, RepL K H Z (.hole :: outs [] n []) (v :: vs) F2 ∧ _
          obtain ⟨F2, q1, q2⟩ := rest (P' := []) (.nil : RepE K H Z [] [] []) (fun i _ h => by simp at h)
          exact hole ⟨q1, fun x hx => absurd (q2 x hx) (by simp)⟩
        | cons b P =>
          have : outs (b :: P) (n + 1) (none :: e) = .hole :: outs P n e := by cases b <;> rfl
          rw [this]
          obtain ⟨F2, q⟩ := rest (P' := P) r (fun i hi hp => by
            have := h (i + 1) (by omega) (by simpa using hp)
            simpa using this)
          exact hole q
      | pt t w Fv e s F q r d =>
        cases P with
        | nil =>
          show ∃ F2, RepL K H Z (.hole :: outs [] n []) (v :: vs) F2 ∧ _
          obtain ⟨F2, q1, q2⟩ := rest (P' := []) (.nil : RepE K H Z [] [] []) (fun i _ h => by simp at h)
          exact hole ⟨q1, fun x hx => absurd (q2 x hx) (by simp)⟩
        | cons b P =>
          obtain ⟨F2, q1, q2⟩ := rest (P' := P) r (fun i hi hp => by
            have := h (i + 1) (by omega) (by simpa using hp)
            simpa using this)
          cases b with
          | false =>
            show ∃ F2, RepL K H Z (.hole :: outs P n e) (v :: vs) F2 ∧ _
            exact hole ⟨q1, fun x hx => List.mem_append_right _ (q2 x hx)⟩
          | true =>
            have e0 := h 0 (by omega) rfl
            have e1 : w = v := by simpa using e0
            subst e1
            exact ⟨Fv ++ F2, .cons t w Fv _ _ F2 q q1 (fun a ha hb => d a ha (q2 a hb)), fun x hx => (List.mem_append.mp hx).elim (fun z => List.mem_append_left _ z) fun z => List.mem_append_right _ (q2 x z)⟩
theorem start_ok : ∀ {ts : List T} {vs : List V} {F : List Addr} (m : Nat), RepL K H Z ts vs F → RepE K H Z (ts.map some ++ List.replicate m none) (vs.map some ++ List.replicate m none) F
  | [], vs, F, m, r => by
    cases r
    induction m with
    | zero => exact .nil
    | succ m ih => exact .un none _ _ [] ih
  | t :: ts, vs, F, m, r => by
    cases r with
    | cons t v F ts vs G r q d => exact .pt t v F _ _ G r (start_ok m q) d
end
/-- what the module gives, whatever the def -/
structure Pr (P : Program) (w : World) (K : PySem.W.Frag) (mg : Str → Option Value) (base : Heap) (tb : Tb) : Prop where
  bn : ∀ x, x ∈ tb.bn → mg x = none
  gl : ∀ i p, tb.gl i = some p → ∃ v u, mg p.1 = some u ∧ RelV v u ∧ ∀ H Z, Rep K H Z (frz p.2) v []
  xc : ∀ x fs, tb.xc x = some fs → ∃ Cc, mg x = some (.ref Cc) ∧ ∀ (X : Cx), X.prog = P → X.w = w → X.K = K → X.mg = mg → X.base = base → X.calm = true → Room 2 X.A → ∀ (args : List Expr) (t : TA) (p1 pos : Pos), (∀ σ H (P1 P2 : List V → Hp → Prop), (∀ vs H1, P1 vs H1 → P2 vs H1) → t σ H P1 → t σ H P2) → Gl X x → okNm x = true → args.length = fs.length → args.all plainE = true → PA X args t →
    PMk X (.Call (.Name x p1) args [] pos) (fun σ H Q => t σ H fun vs H1 => vs.length = fs.length ∧ ((fs = [] → Q (.ref Cc) none H1) ∧ (fs ≠ [] → ∀ d, H1 d = none → Q (.ref Cc) (some d) (upd H1 d (.xd ((fs.zip vs).reverse))))))
/-- a def of the table, ready to be called -/
structure CalK (P : Program) (w : World) (K : PySem.W.Frag) (mg : Str → Option Value) (base : Heap) (φ : Nat → List T → FR) (f : Nat) (fi : FnI) (a : Addr) (fd : FuncData) : Prop where
  ok : FnOk P w K mg base (L2.CX P w) fi.lv a fd fi.ps (spF K mg fi.ps.length (φ f))
  mg : mg fi.nm = some (.ref a)
  kp : PySem.W.keepIn K (.ref a) = true
  bd : ∀ (d : Nat) (ds : List T), fi.ds[d]? = some ds → ∃ us dvs, Binds K fd fi.ps us ∧ Vals dvs us ∧ ∀ H Z, RepL K H Z ds dvs []
section
variable {P : Program} {w : World} {K : PySem.W.Frag} {mg : Str → Option Value} {base : Heap}
theorem fn_ok {x qual : Str} {params : Arguments} {body : List Stmt} {scope : Scope} {dvs : List V} {kws : List (Str × V)} {fa : Addr} {fd : FuncData} {N ps : List Str} {k : Nat} {tb : Tb} {φ : Nat → List T → FR} {d : Df} {f : Nat} (F : FunD K x qual params body scope dvs kws fa fd) (S : FnScope N ps scope) (pr : Pr P w K mg base tb)
    (cal : ∀ g gi, tb.fn g = some gi → gi.lv ≤ k → ∃ a fd, CalK P w K mg base φ g gi a fd) (hk : 2 ≤ k) (hnp : d.np = ps.length) (hn : d.n = N.length) (hm : mB tb N k scope d.b body = true)
    (hr : ∀ ts, φ f ts = .fail ∨ run φ tb d ts = φ f ts) : FnOk P w K mg base (L2.CX P w) (k + 1) fa fd ps (spF K mg ps.length (φ f)) := by
  refine F.ok S (fun vs H Q E h => h.1) fun cdv A outer s H vs Q E hroom hsp => ?_
  obtain ⟨hl, ts, Z, Fr, rl, ok, hsp⟩ := hsp
  refine ⟨sS (cxOf (L2.CX P w) P w K mg base N qual scope fa cdv A outer s H E) (fun cls d _ H' => E cls d H') ⟨φ, tb, d.P⟩ d.b, goB (C := ⟨φ, tb, d.P⟩) (k := k) (N := N) (sc := scope) ⟨rfl, S.nd, rfl, S.kind, rfl, hroom, L2.takes_of rfl rfl rfl rfl, pr.bn, pr.gl, fun g gi h1 h2 => ?_, L2.passes_of rfl⟩ ⟨fun _ _ => rfl, fun c fs h => ?_⟩ d.b hm, ?_⟩
  · obtain ⟨a, fd, q⟩ := cal g gi h1 h2
    exact ⟨a, fd, q.ok, q.mg, q.kp, q.bd⟩
  · obtain ⟨Cc, m1, m2⟩ := pr.xc c fs h
    exact ⟨Cc, m1, m2 _ rfl rfl rfl rfl rfl rfl (hroom.mono hk)⟩
  · rcases hr ts with h | h
    · rw [h] at hsp; exact hsp.elim
    · rw [← h] at hsp
      unfold run at hsp
      have hlt : ts.length = d.np := by rw [rl.length, hl, hnp]
      rw [if_pos (decide_eq_true hlt)] at hsp
      have e1 : N.length - vs.length = d.n - d.np := by rw [hn, hnp, hl]
      have re : RepE K H Z (ts.map some ++ List.replicate (d.n - d.np) none) (start N vs) Fr := by
        show RepE K H Z _ (vs.map some ++ List.replicate (N.length - vs.length) none) Fr
        rw [e1]
        exact start_ok _ rl
      have nv : vs.length = d.np := by omega
      have keep : ∀ {σ' : Sl}, KeepP d.P (start N vs) σ' → ∀ i, i < d.np → d.P.getD i false = true → σ'[i]? = vs[i]?.map some := fun {σ'} kp i hi hp => by
        rw [kp i hp]
        show (vs.map some ++ _)[i]? = _
        rw [List.getElem?_append_left (by simp; omega), List.getElem?_map]
      refine ⟨_, Z, Fr, re, ok, ?_⟩
      show PostS K mg (fun cls d _ H' => E cls d H') d.P { nx := fun _ H' => Q .non H', rt := Q } (start N vs) H Z Fr (ex ⟨φ, tb, d.P⟩ d.b (ts.map some ++ List.replicate (d.n - d.np) none))
      cases q : ex ⟨φ, tb, d.P⟩ d.b (ts.map some ++ List.replicate (d.n - d.np) none) with
      | next e =>
        simp only [q] at hsp
        intro σ' H' Z' F' h1 h2 h3 h4
        obtain ⟨F2, g1, g2⟩ := outs_ok h1 nv (keep h4)
        have sub : ∀ x, x ∈ F2 ++ [] → x ∈ F' := fun x hx => g2 x (by simpa using hx)
        exact hsp .non H' Z' F2 [] g1 .non Dj.nilR (h2.mono sub) (h3.weak sub)
      | ret t e =>
        simp only [q] at hsp
        intro v σ' H' Z' F' Ft h1 h2 h3 h4 h5 h6
        obtain ⟨F2, g1, g2⟩ := outs_ok h1 nv (keep h6)
        have sub : ∀ x, x ∈ F2 ++ Ft → x ∈ F' ++ Ft := fun x hx => (List.mem_append.mp hx).elim (fun z => List.mem_append_left _ (g2 x z)) fun z => List.mem_append_right _ z
        exact hsp v H' Z' F2 Ft g1 h2 (fun a ha hb => h3 a (g2 a ha) hb) (h4.mono sub) (h5.weak sub)
      | exc x e =>
        simp only [q] at hsp
        intro cls dd σ' H' Z' F' h1 h2 h3 h4 h5
        exact hsp cls dd H' Z' h2 h3.zd (h4.weak fun _ z => absurd z (by simp))
      | brk e => simp only [q] at hsp
      | cnt e => simp only [q] at hsp
      | fail => simp only [q] at hsp
end
end PT

/-! PtY: how the little language is run by simp: an environment must stand there slot by slot. -/
namespace PTy
open PySem PT
open L2 (atI ixN)
variable {C : Cf} {o : Option T} {e e' : PT.Env} {t u v : T} {i j : Int} {ts us : List T} {α β : Type}
theorem nrfl {γ : Sort _} {a b : γ} (h : a = b) : a = b := h
def _root_.PT.R.bd (r : R α) (f : α → PT.Env → R β) : R β := PT.R.bind r f
def _root_.PT.R.bo (r : R α) (f : α → Option β) : R β := PT.R.bindO r f
def _root_.PT.R.s (r : R α) (f : α → PT.Env → SR) : SR := PT.R.st r f
def _root_.PT.SR.q (r : SR) (f : PT.Env → SR) : SR := PT.SR.sq r f
def _root_.PT.SR.tn (r : SR) (f : PT.Env → SR) : SR := PT.SR.turn r f
@[simp] theorem bind_ok (a : α) (f : α → PT.Env → R β) : R.bd (.ok a e) f = f a e := nrfl rfl
@[simp] theorem bind_exc (x : Exn) (f : α → PT.Env → R β) : R.bd (.exc x e : R α) f = .exc x e := nrfl rfl
@[simp] theorem bind_fail (f : α → PT.Env → R β) : R.bd (.fail : R α) f = .fail := nrfl rfl
@[simp] theorem bindO_ok (a : α) (f : α → Option β) : R.bo (.ok a e) f = ofO (f a) e := by
  show (match f a with | some b => R.ok b e | none => .fail) = _
  cases f a <;> rfl
@[simp] theorem bindO_exc (x : Exn) (f : α → Option β) : R.bo (.exc x e : R α) f = .exc x e := nrfl rfl
@[simp] theorem bindO_fail (f : α → Option β) : R.bo (.fail : R α) f = .fail := nrfl rfl
@[simp] theorem ofO_some (a : α) : ofO (some a) e = .ok a e := nrfl rfl
@[simp] theorem ofO_none : (ofO (none : Option α) e) = .fail := nrfl rfl
@[simp] theorem st_ok (a : α) (f : α → PT.Env → SR) : R.s (.ok a e) f = f a e := nrfl rfl
@[simp] theorem st_exc (x : Exn) (f : α → PT.Env → SR) : R.s (.exc x e : R α) f = .exc x e := nrfl rfl
@[simp] theorem st_fail (f : α → PT.Env → SR) : R.s (.fail : R α) f = .fail := nrfl rfl
@[simp] theorem sq_next (f : PT.Env → SR) : SR.q (.next e) f = f e := nrfl rfl
@[simp] theorem sq_ret (f : PT.Env → SR) : SR.q (.ret t e) f = .ret t e := nrfl rfl
@[simp] theorem sq_brk (f : PT.Env → SR) : SR.q (.brk e) f = .brk e := nrfl rfl
@[simp] theorem sq_cnt (f : PT.Env → SR) : SR.q (.cnt e) f = .cnt e := nrfl rfl
@[simp] theorem sq_exc (x : Exn) (f : PT.Env → SR) : SR.q (.exc x e) f = .exc x e := nrfl rfl
@[simp] theorem sq_fail (f : PT.Env → SR) : SR.q .fail f = .fail := nrfl rfl
@[simp] theorem turn_next (f : PT.Env → SR) : SR.tn (.next e) f = f e := nrfl rfl
@[simp] theorem turn_cnt (f : PT.Env → SR) : SR.tn (.cnt e) f = f e := nrfl rfl
@[simp] theorem turn_brk (f : PT.Env → SR) : SR.tn (.brk e) f = .next e := nrfl rfl
@[simp] theorem turn_ret (f : PT.Env → SR) : SR.tn (.ret t e) f = .ret t e := nrfl rfl
@[simp] theorem turn_exc (x : Exn) (f : PT.Env → SR) : SR.tn (.exc x e) f = .exc x e := nrfl rfl
@[simp] theorem turn_fail (f : PT.Env → SR) : SR.tn .fail f = .fail := nrfl rfl
/-! ### expressions -/
@[simp] theorem ev_non : ev C .non e = .ok .non e := by simp only [ev]
@[simp] theorem ev_bl (b : Bool) : ev C (.bl b) e = .ok (.bl b) e := by simp only [ev]
@[simp] theorem ev_int : ev C (.int i) e = .ok (.int i) e := by simp only [ev]
@[simp] theorem ev_str (x : Str) : ev C (.str x) e = .ok (.str x) e := by simp only [ev]
@[simp] theorem ev_var (n : Nat) : ev C (.var n) (o :: e) = varE n (o :: e) := by simp only [ev]
@[simp] theorem ev_mv (n : Nat) : ev C (.mv n) (o :: e) = mvE n (o :: e) := by simp only [ev]
@[simp] theorem ev_lend (n : Nat) : ev C (.lend n) (o :: e) = lendE n (o :: e) := by simp only [ev]
@[simp] theorem ev_glo (n : Nat) : ev C (.glo n) (o :: e) = gloE (C.tb.gl n) (o :: e) := by simp only [ev]
@[simp] theorem ev_bin (op : Bop) (a b : E) : ev C (.bin op a b) (o :: e) = (ev C a (o :: e)).bd fun x e1 => (ev C b e1).bo fun y => binT op x y := by simp only [ev]; rfl
@[simp] theorem ev_neg (a : E) : ev C (.neg a) (o :: e) = (ev C a (o :: e)).bo negT := by simp only [ev]; rfl
@[simp] theorem ev_cmp (op : Cop) (a b : E) : ev C (.cmp op a b) (o :: e) = (ev C a (o :: e)).bd fun x e1 => (ev C b e1).bo fun y => (cmpT op x y).map .bl := by simp only [ev]; rfl
@[simp] theorem ev_chn (op op' : Cop) (a b c : E) : ev C (.chn op op' a b c) (o :: e) = (ev C a (o :: e)).bd fun x e1 => (ev C b e1).bd fun y e2 => (ofO (cmpT op x y) e2).bd fun d e3 => if d = true then (ev C c e3).bo fun z => (cmpT op' y z).map .bl else .ok (.bl false) e3 := by simp only [ev]; rfl
@[simp] theorem ev_not (a : E) : ev C (.not a) (o :: e) = (ev C a (o :: e)).bo notT := by simp only [ev]; rfl
@[simp] theorem ev_and (a b : E) : ev C (.and a b) (o :: e) = ((ev C a (o :: e)).bo boolOf).bd fun d e1 => if d = true then ev C b e1 else .ok (.bl false) e1 := by simp only [ev]; rfl
@[simp] theorem ev_or (a b : E) : ev C (.or a b) (o :: e) = ((ev C a (o :: e)).bo boolOf).bd fun d e1 => if d = true then .ok (.bl true) e1 else ev C b e1 := by simp only [ev]; rfl
@[simp] theorem ev_ife (c a b : E) : ev C (.ife c a b) (o :: e) = ((ev C c (o :: e)).bo boolOf).bd fun d e1 => if d = true then ev C a e1 else ev C b e1 := by simp only [ev]; rfl
@[simp] theorem ev_tup (es : EL) : ev C (.tup es) (o :: e) = (evL C es (o :: e)).bo tupT := by simp only [ev]; rfl
@[simp] theorem ev_lst (es : EL) : ev C (.lst es) (o :: e) = (evL C es (o :: e)).bo newT := by simp only [ev]; rfl
@[simp] theorem ev_ix (a b : E) : ev C (.ix a b) (o :: e) = (ev C a (o :: e)).bd fun x e1 => (ev C b e1).bo fun y => ixT x y := by simp only [ev]; rfl
@[simp] theorem ev_sl (a : E) (lo hi : OE) : ev C (.sl a lo hi) (o :: e) = (ev C a (o :: e)).bd fun x e1 => (evO C lo e1).bd fun l e2 => (evO C hi e2).bo fun h => slT x l h := by simp only [ev]; rfl
@[simp] theorem ev_call (f k : Nat) (as : EL) : ev C (.call f k as) (o :: e) = (evL C as (o :: e)).bd fun ts e1 => callE (C.φ f) (C.tb.dfl f k) (lends as) ts e1 := by simp only [ev]; rfl
@[simp] theorem ev_bi (b : Bi) (as : EL) : ev C (.bi b as) (o :: e) = (evL C as (o :: e)).bo fun ts => biT b ts := by simp only [ev]; rfl
@[simp] theorem ev_isi (a : E) (k : Ty) : ev C (.isi a k) (o :: e) = (ev C a (o :: e)).bo fun x => (isiT x k).map .bl := by simp only [ev]; rfl
@[simp] theorem ev_meth (m : Mt) (a : E) (as : EL) : ev C (.meth m a as) (o :: e) = (ev C a (o :: e)).bd fun x e1 => (ofO (recvT m x) e1).bd fun _ e2 => (evL C as e2).bo fun ts => methT m x ts := by simp only [ev]; rfl
@[simp] theorem ev_pop (n : Nat) : ev C (.pop n) (o :: e) = popE n (o :: e) := by simp only [ev]
@[simp] theorem ev_lc (own : List Nat) (tg : Tg) (it : It) (c : OE) (x : E) : ev C (.lc own tg it c x) (o :: e) = (evI C it (o :: e)).bd fun items e1 => (lcGo own (lcBody C.P tg (fun e => evC C c e) (fun e => ev C x e)) items [] (wipeE e1 own)).bo fun ts => some (.node true .lst ts) := by simp only [ev]; rfl
@[simp] theorem ev_ro (m : List Bool) (x : E) : ev C (.ro m x) (o :: e) = roEnd m (o :: e) (ev C x (roE m (o :: e))) := by simp only [ev]
@[simp] theorem evL_nil : evL C .nil e = .ok [] e := by simp only [evL]
@[simp] theorem evL_cons (x : E) (r : EL) : evL C (.cons x r) (o :: e) = (ev C x (o :: e)).bd fun t e1 => (evL C r e1).bo fun ts => some (t :: ts) := by simp only [evL]; rfl
@[simp] theorem evO_none : evO C .none e = .ok none e := by simp only [evO]
@[simp] theorem evO_some (x : E) : evO C (.some x) (o :: e) = (ev C x (o :: e)).bo partOf := by simp only [evO]; rfl
@[simp] theorem evC_none : evC C .none e = .ok true e := by simp only [evC]
@[simp] theorem evC_some (x : E) : evC C (.some x) (o :: e) = (ev C x (o :: e)).bo boolOf := by simp only [evC]; rfl
@[simp] theorem evI_seq (a : E) : evI C (.seq a) (o :: e) = (ev C a (o :: e)).bo fun t => (itemsT t).map frzL := by simp only [evI]; rfl
@[simp] theorem evI_rng1 (a : E) : evI C (.rng1 a) (o :: e) = (ev C a (o :: e)).bo rng1T := by simp only [evI]; rfl
@[simp] theorem evI_rng2 (a b : E) : evI C (.rng2 a b) (o :: e) = (ev C a (o :: e)).bd fun x e1 => (ev C b e1).bo fun y => rng2T x y := by simp only [evI]; rfl
@[simp] theorem evI_enum (a : E) : evI C (.enum a) (o :: e) = (ev C a (o :: e)).bo enum1T := by simp only [evI]; rfl
@[simp] theorem evI_zip (a b : E) : evI C (.zip a b) (o :: e) = (ev C a (o :: e)).bd fun x e1 => (ev C b e1).bo fun y => zip2T x y := by simp only [evI]; rfl
/-! ### slots -/
@[simp] theorem varE_0 : varE 0 (some t :: e) = .ok (frz t) (some (frz t) :: e) := nrfl rfl
@[simp] theorem mvE_0 : mvE 0 (some t :: e) = .ok t (none :: e) := nrfl rfl
@[simp] theorem lendE_0 : lendE 0 (some t :: e) = .ok .hole (some t :: e) := nrfl rfl
/-- a result behind one more slot -/
def R.pre (o : Option T) : R α → R α
  | .ok a e => .ok a (o :: e)
  | .exc x e => .exc x (o :: e)
  | .fail => .fail
def SR.pre (o : Option T) : SR → SR
  | .next e => .next (o :: e)
  | .ret t e => .ret t (o :: e)
  | .brk e => .brk (o :: e)
  | .cnt e => .cnt (o :: e)
  | .exc x e => .exc x (o :: e)
  | .fail => .fail
@[simp] theorem pre_ok (a : α) : R.pre o (.ok a e) = .ok a (o :: e) := nrfl rfl
@[simp] theorem spre_next : SR.pre o (.next e) = .next (o :: e) := nrfl rfl
@[simp] theorem varE_s (n : Nat) : varE (n + 1) (o :: e) = R.pre o (varE n e) := by
  unfold varE
  rw [List.getElem?_cons_succ]
  cases e[n]? with
  | none => rfl
  | some o' => cases o' <;> rfl
@[simp] theorem mvE_s (n : Nat) : mvE (n + 1) (o :: e) = R.pre o (mvE n e) := by
  unfold mvE
  rw [List.getElem?_cons_succ]
  cases e[n]? with
  | none => rfl
  | some o' => cases o' <;> rfl
@[simp] theorem lendE_s (n : Nat) : lendE (n + 1) (o :: e) = R.pre o (lendE n e) := by
  unfold lendE
  rw [List.getElem?_cons_succ]
  cases e[n]? with
  | none => rfl
  | some o' => cases o' <;> rfl
@[simp] theorem popE_s (n : Nat) : popE (n + 1) (o :: e) = R.pre o (popE n e) := by
  unfold popE
  rw [List.getElem?_cons_succ]
  generalize e[n]? = q
  split
  · split <;> rfl
  · rfl
@[simp] theorem chg_s (n : Nat) (f : T → Option T) : chg (n + 1) f (o :: e) = SR.pre o (chg n f e) := by
  unfold chg
  rw [List.getElem?_cons_succ]
  cases e[n]? with
  | none => rfl
  | some o' => cases o' with
    | none => rfl
    | some t =>
      simp only
      cases f t <;> rfl
def nextO (e : PT.Env) : Option T → SR
  | some t => .next (some t :: e)
  | none => .fail
@[simp] theorem nextO_some : nextO e (some t) = .next (some t :: e) := nrfl rfl
@[simp] theorem nextO_none : nextO e none = .fail := nrfl rfl
@[simp] theorem chg_0 (f : T → Option T) : chg 0 f (some t :: e) = nextO e (f t) := by
  show (match f t with | some t2 => SR.next ((some t :: e).set 0 (some t2)) | none => .fail) = _
  cases f t <;> rfl
@[simp] theorem popE_0 : popE 0 (some (.node true .lst ts) :: e) = (match ts.getLast? with
    | some t => .ok t (some (.node true .lst ts.dropLast) :: e)
    | none => .fail) := rfl
@[simp] theorem hasT_0 : hasT (some t :: e) 0 = true := nrfl rfl
@[simp] theorem hasT_s (n : Nat) : hasT (o :: e) (n + 1) = hasT e n := by unfold hasT; rw [List.getElem?_cons_succ]
@[simp] theorem ownL_0 : ownL (some (.node true .lst ts) :: e) 0 = true := nrfl rfl
@[simp] theorem ownL_s (n : Nat) : ownL (o :: e) (n + 1) = ownL e n := by unfold ownL; rw [List.getElem?_cons_succ]
/-! ### ro -/
@[simp] theorem roE_t (m : List Bool) : roE (true :: m) (some t :: e) = some (frz t) :: roE m e := nrfl rfl
@[simp] theorem roE_tn (m : List Bool) : roE (true :: m) (none :: e) = none :: roE m e := nrfl rfl
@[simp] theorem roE_f (m : List Bool) : roE (false :: m) (o :: e) = none :: roE m e := nrfl rfl
@[simp] theorem roE_n : roE [] (o :: e) = none :: roE [] e := nrfl rfl
@[simp] theorem roE_e (m : List Bool) : roE m [] = [] := by cases m with
  | nil => rfl
  | cons b m => cases b <;> rfl
@[simp] theorem roEnd_ok (m : List Bool) : roEnd m e (.ok t e') = if noSh t = true then .ok t e else .ok (frz t) (frE m e) := nrfl rfl
@[simp] theorem roEnd_fail (m : List Bool) : roEnd m e .fail = .fail := nrfl rfl
@[simp] theorem noSh_int : noSh (.int i) = true := nrfl rfl
@[simp] theorem noSh_bl (b : Bool) : noSh (.bl b) = true := nrfl rfl
@[simp] theorem noSh_str (x : Str) : noSh (.str x) = true := nrfl rfl
@[simp] theorem noSh_non : noSh .non = true := nrfl rfl
@[simp] theorem frz_int : frz (.int i) = .int i := nrfl rfl
@[simp] theorem frz_bl (b : Bool) : frz (.bl b) = .bl b := nrfl rfl
@[simp] theorem frz_str (x : Str) : frz (.str x) = .str x := nrfl rfl
@[simp] theorem frz_non : frz .non = .non := nrfl rfl
@[simp] theorem frz_hole : frz .hole = .hole := nrfl rfl
@[simp] theorem frz_node (b : Bool) (k : Kd) : frz (.node b k ts) = .node false k (frzL ts) := by simp only [frz]
@[simp] theorem frzL_nil : frzL [] = [] := nrfl rfl
@[simp] theorem frzL_cons : frzL (t :: ts) = frz t :: frzL ts := nrfl rfl
@[simp] theorem frzL_len' : (frzL ts).length = ts.length := frzL_len ts
@[simp] theorem frz_frz' : frz (frz t) = frz t := frz_frz t
@[simp] theorem frzL_frzL' : frzL (frzL ts) = frzL ts := frzL_frzL ts
/-! ### targets -/
@[simp] theorem asgE_nm (P : List Bool) (n : Nat) : asgE P (.nm n) t e = if okSlot P e n = true then .ok () (e.set n (some t)) else .fail := by
  unfold asgE asg
  split
  · rename_i h
    split at h
    · rename_i h2
      cases h
      rw [if_pos h2]
    · cases h
  · rename_i h
    split at h
    · cases h
    · rename_i h2
      rw [if_neg h2]
@[simp] theorem okSlot_def (P : List Bool) (n : Nat) : okSlot P e n = (decide (n < e.length) && !(P.getD n false)) := nrfl rfl
/-! ### values -/
@[simp] theorem boolOf_bl (b : Bool) : boolOf (.bl b) = some b := nrfl rfl
@[simp] theorem negT_int : negT (.int i) = some (.int (-i)) := nrfl rfl
@[simp] theorem notT_bl (b : Bool) : notT (.bl b) = some (.bl (!b)) := nrfl rfl
@[simp] theorem partOf_int : partOf (.int i) = some (some i) := nrfl rfl
@[simp] theorem bin_add : binT .add (.int i) (.int j) = some (.int (i + j)) := nrfl rfl
@[simp] theorem bin_sub : binT .sub (.int i) (.int j) = some (.int (i - j)) := nrfl rfl
@[simp] theorem bin_mul : binT .mul (.int i) (.int j) = if mulOk i j = true then some (.int (i * j)) else none := nrfl rfl
@[simp] theorem bin_mod : binT .mod (.int i) (.int j) = if decide (0 < j) = true then some (.int (i % j)) else none := nrfl rfl
@[simp] theorem bin_fdiv : binT .fdiv (.int i) (.int j) = if divOk j = true then some (.int (i / j)) else none := nrfl rfl
@[simp] theorem bin_pow : binT .pow (.int i) (.int j) = if powOk i j = true then some (.int (i ^ j.toNat)) else none := nrfl rfl
@[simp] theorem bin_addL (b c : Bool) : binT .add (.node b .lst ts) (.node c .lst us) = if fitB (ts.length + us.length) = true then some (.node true .lst (ts ++ us)) else none := by cases b <;> cases c <;> rfl
@[simp] theorem bin_mulL (b : Bool) : binT .mul (.node b .lst ts) (.int j) = if (decide (-(2 ^ 63) ≤ j ∧ j < 2 ^ 63) && fitB (ts.length * j.toNat)) = true then some (.node true .lst ((List.replicate j.toNat (frzL ts)).flatten)) else none := by cases b <;> rfl
@[simp] theorem cmp_eq : cmpT .eq t u = eqT t u := nrfl rfl
@[simp] theorem cmp_ne : cmpT .ne t u = (eqT t u).map (!·) := nrfl rfl
@[simp] theorem cmp_lt : cmpT .lt (.int i) (.int j) = some (decide (i < j)) := nrfl rfl
@[simp] theorem cmp_le : cmpT .le (.int i) (.int j) = some (decide (i ≤ j)) := nrfl rfl
@[simp] theorem cmp_gt : cmpT .gt (.int i) (.int j) = some (decide (j < i)) := nrfl rfl
@[simp] theorem cmp_ge : cmpT .ge (.int i) (.int j) = some (decide (j ≤ i)) := nrfl rfl
@[simp] theorem eq_int : eqT (.int i) (.int j) = some (decide (i = j)) := nrfl rfl
@[simp] theorem eq_bl (a b : Bool) : eqT (.bl a) (.bl b) = some (decide (a = b)) := nrfl rfl
@[simp] theorem eq_str (x y : Str) : eqT (.str x) (.str y) = some (decide (x = y)) := nrfl rfl
@[simp] theorem ix_lst (b : Bool) : ixT (.node b .lst ts) (.int i) = atI ts i := by cases b <;> rfl
@[simp] theorem ix_klst (b : Bool) : ixT (.node b .klst ts) (.int i) = atI ts i := by cases b <;> rfl
@[simp] theorem ix_tup (b : Bool) : ixT (.node b .tup ts) (.int i) = atI ts i := by cases b <;> rfl
@[simp] theorem len_lst (b : Bool) : biT .len [.node b .lst ts] = some (.int ts.length) := by cases b <;> rfl
@[simp] theorem len_tup (b : Bool) : biT .len [.node b .tup ts] = some (.int ts.length) := by cases b <;> rfl
@[simp] theorem abs_int : biT .abs [.int i] = some (.int (if i < 0 then -i else i)) := nrfl rfl
@[simp] theorem int_int : biT .int [.int i] = some (.int i) := nrfl rfl
@[simp] theorem list_lst (b : Bool) : biT .list [.node b .lst ts] = some (.node true .lst (frzL ts)) := by cases b <;> rfl
@[simp] theorem list_klst (b : Bool) : biT .list [.node b .klst ts] = some (.node true .lst (frzL ts)) := by cases b <;> rfl
@[simp] theorem tuple_lst (b : Bool) : biT .tuple [.node b .lst ts] = some (.node false .tup (frzL ts)) := by cases b <;> rfl
@[simp] theorem setT_lst : setT (.node true .lst ts) (.int i) t = (ixN ts.length i).map fun j => .node true .lst (ts.set j t) := nrfl rfl
@[simp] theorem appT_lst : appT (.node true .lst ts) t = if decide (ts.length < sizeLine) = true then some (.node true .lst (ts ++ [t])) else none := nrfl rfl
@[simp] theorem tupT_def : tupT ts = if fitB ts.length = true then some (.node false .tup ts) else none := nrfl rfl
@[simp] theorem newT_def : newT ts = if fitB ts.length = true then some (.node true .lst ts) else none := nrfl rfl
theorem atI_nat {α : Type} (xs : List α) (k : Nat) : atI xs (k : Int) = xs[k]? := by
  unfold atI ixN
  by_cases h : k < xs.length
  · simp [h]
  · simp [h]
@[simp] theorem atI_lit (xs : List α) (n : Nat) : atI xs (no_index (OfNat.ofNat n : Int)) = xs[(OfNat.ofNat n : Nat)]? := atI_nat xs n
@[simp] theorem atI_nat' (xs : List α) (k : Nat) : atI xs (k : Int) = xs[k]? := atI_nat xs k
@[simp] theorem ixN_lit (n m : Nat) : ixN n (no_index (OfNat.ofNat m : Int)) = if m < n then some m else none := by
  show ixN n (m : Int) = _
  unfold ixN
  by_cases h : m < n <;> simp [h]
theorem ixN_nat {n k : Nat} (h : k < n) : ixN n (k : Int) = some k := by
  unfold ixN
  simp [h]
theorem fit_of {n : Nat} (h : n ≤ 16777216) : fitB n = true := by
  unfold fitB
  exact decide_eq_true (by rw [PySem.sizeLine_eq]; exact h)
/-! ### statements -/
@[simp] theorem ex_nop : ex C .nop e = .next e := by simp only [ex]
@[simp] theorem ex_seq (a b : S) : ex C (.seq a b) (o :: e) = (ex C a (o :: e)).q fun e1 => ex C b e1 := by simp only [ex]; rfl
@[simp] theorem ex_asg (tg : Tg) (x : E) : ex C (.asg tg x) (o :: e) = (ev C x (o :: e)).s fun t e1 => (asgE C.P tg t e1).s fun _ e2 => .next e2 := by simp only [ex]; rfl
@[simp] theorem ex_par (a b : Nat) (x y : E) : ex C (.par a b x y) (o :: e) = (ev C x (o :: e)).s fun t e1 => (ev C y e1).s fun u e2 => if (okSlot C.P e2 a && okSlot C.P e2 b) = true then .next ((e2.set a (some t)).set b (some u)) else .fail := by simp only [ex]; rfl
@[simp] theorem ex_seti (n : Nat) (k x : E) : ex C (.seti n k x) (o :: e) = (ev C x (o :: e)).s fun t e1 => if hasT e1 n = true then (ev C k e1).s fun y e2 => chg n (fun c => setT c y t) e2 else .fail := by simp only [ex]; rfl
@[simp] theorem ex_exp (x : E) : ex C (.exp x) (o :: e) = (ev C x (o :: e)).s fun _ e1 => .next e1 := by simp only [ex]; rfl
@[simp] theorem ex_app (n : Nat) (x : E) : ex C (.app n x) (o :: e) = if ownL (o :: e) n = true then (ev C x (o :: e)).s fun t e1 => chg n (fun c => appT c t) e1 else .fail := by simp only [ex]; rfl
@[simp] theorem ex_ext (n : Nat) (x : E) : ex C (.ext n x) (o :: e) = if ownL (o :: e) n = true then (ev C x (o :: e)).s fun t e1 => chg n (fun c => extT c t) e1 else .fail := by simp only [ex]; rfl
@[simp] theorem ex_app1 (n m : Nat) (k : Int) : ex C (.app1 n m k) (o :: e) = chg n (fun c => app1T m c (.int k)) (o :: e) := by simp only [ex]
@[simp] theorem ex_ifs (c : E) (a b : S) : ex C (.ifs c a b) (o :: e) = ((ev C c (o :: e)).bo boolOf).s fun d e1 => if d = true then ex C a e1 else ex C b e1 := by simp only [ex]; rfl
@[simp] theorem ex_fors (tg : Tg) (it : It) (b : S) : ex C (.fors tg it b) (o :: e) = (evI C it (o :: e)).s fun items e1 => goFor (fun t e2 => (asgE C.P tg t e2).s fun _ e3 => ex C b e3) items e1 := by simp only [ex]; rfl
@[simp] theorem ex_whl (n : Nat) (c : E) (b : S) : ex C (.whl n c b) (o :: e) = goWhl (fun e => (ev C c e).bo boolOf) (fun e => ex C b e) n (o :: e) := by simp only [ex]; rfl
@[simp] theorem ex_ret (x : E) : ex C (.ret x) (o :: e) = (ev C x (o :: e)).s fun t e1 => .ret t e1 := by simp only [ex]; rfl
@[simp] theorem ex_retn : ex C .retn e = .ret .non e := by simp only [ex]
@[simp] theorem ex_pass : ex C .pass e = .next e := by simp only [ex]
@[simp] theorem ex_brk : ex C .brk e = .brk e := by simp only [ex]
@[simp] theorem ex_cnt : ex C .cnt e = .cnt e := by simp only [ex]
@[simp] theorem ex_rais (c : Str) (fs : List Str) (as : EL) : ex C (.rais c fs as) (o :: e) = (evL C as (o :: e)).s fun ts e1 => if decide (fs.length = ts.length) = true then .exc ⟨c, (zipF fs (frzL ts)).reverse⟩ e1 else .fail := by simp only [ex]; rfl
@[simp] theorem lends_nil : lends .nil = [] := nrfl rfl
@[simp] theorem lends_lend (n : Nat) (r : EL) : lends (.cons (.lend n) r) = some n :: lends r := nrfl rfl
@[simp] theorem outs_0 (P : List Bool) : outs P 0 e = [] := by cases P <;> rfl
@[simp] theorem outs_t (P : List Bool) (n : Nat) : outs (true :: P) (n + 1) (some t :: e) = t :: outs P n e := nrfl rfl
@[simp] theorem outs_f (P : List Bool) (n : Nat) : outs (false :: P) (n + 1) (o :: e) = .hole :: outs P n e := nrfl rfl
/-- a run's end -/
def fin (P : List Bool) (np : Nat) : SR → FR
  | .next e => .ok .non (outs P np e)
  | .ret t e => .ok t (outs P np e)
  | .exc x _ => .exc x
  | _ => .fail
@[simp] theorem fin_next (P : List Bool) (np : Nat) : fin P np (.next e) = .ok .non (outs P np e) := nrfl rfl
@[simp] theorem fin_ret (P : List Bool) (np : Nat) : fin P np (.ret t e) = .ok t (outs P np e) := nrfl rfl
@[simp] theorem fin_exc (P : List Bool) (np : Nat) (x : Exn) : fin P np (.exc x e) = .exc x := nrfl rfl
@[simp] theorem fin_fail (P : List Bool) (np : Nat) : fin P np .fail = .fail := nrfl rfl
theorem run_fin {φ : Nat → List T → FR} {tb : Tb} {d : Df} {ts : List T} (h : ts.length = d.np) : PT.run φ tb d ts = fin d.P d.np (ex ⟨φ, tb, d.P⟩ d.b (ts.map some ++ List.replicate (d.n - d.np) none)) := by
  unfold PT.run
  rw [if_pos (decide_eq_true h)]
  generalize ex ⟨φ, tb, d.P⟩ d.b (ts.map some ++ List.replicate (d.n - d.np) none) = r
  cases r <;> rfl
/-! ### step by step -/
section
variable {a b : S} {c : E} {e1 : PT.Env} {r : SR} {P : List Bool} {np : Nat} {res : FR}
theorem fin_of (h : ex C a e = r) (h2 : fin P np r = res) : fin P np (ex C a e) = res := by rw [h]; exact h2
theorem seq_n (h : ex C a (o :: e) = .next e1) (h2 : ex C b e1 = r) : ex C (.seq a b) (o :: e) = r := by rw [ex_seq, h, sq_next]; exact h2
theorem seq_r (h : ex C a (o :: e) = .ret t e1) : ex C (.seq a b) (o :: e) = .ret t e1 := by rw [ex_seq, h, sq_ret]
theorem seq_x {x : Exn} (h : ex C a (o :: e) = .exc x e1) : ex C (.seq a b) (o :: e) = .exc x e1 := by rw [ex_seq, h, sq_exc]
theorem seq_b (h : ex C a (o :: e) = .brk e1) : ex C (.seq a b) (o :: e) = .brk e1 := by rw [ex_seq, h, sq_brk]
theorem seq_c (h : ex C a (o :: e) = .cnt e1) : ex C (.seq a b) (o :: e) = .cnt e1 := by rw [ex_seq, h, sq_cnt]
theorem ifs_t (h : ev C c (o :: e) = .ok (.bl true) e1) (h2 : ex C a e1 = r) : ex C (.ifs c a b) (o :: e) = r := by
  rw [ex_ifs, h]
  exact h2
theorem ifs_f (h : ev C c (o :: e) = .ok (.bl false) e1) (h2 : ex C b e1 = r) : ex C (.ifs c a b) (o :: e) = r := by
  rw [ex_ifs, h]
  exact h2
theorem ret_of (h : ev C c (o :: e) = .ok t e1) : ex C (.ret c) (o :: e) = .ret t e1 := by
  rw [ex_ret, h]
  rfl
end
/-! ### loops, comprehensions -/
theorem goFor_all {f : T → PT.Env → SR} : ∀ {items : List T} (st : Nat → PT.Env), (∀ i x, items[i]? = some x → f x (st i) = .next (st (i + 1))) → goFor f items (st 0) = .next (st items.length)
  | [], st, _ => rfl
  | x :: xs, st, h => by
    have h0 := h 0 x rfl
    show SR.turn (f x (st 0)) (fun e1 => goFor f xs e1) = _
    rw [h0]
    exact goFor_all (items := xs) (fun i => st (i + 1)) fun i y hy => h (i + 1) y (by simpa using hy)
/-- a comprehension whose turns leave the environment as it was; g: what a turn gives -/
theorem lcGo_all {own : List Nat} {f : T → PT.Env → R (Option T)} {g : T → Option T} {e0 : PT.Env} : ∀ {items acc : List T}, (∀ x, x ∈ items → ∃ e1, f x e0 = .ok (g x) e1 ∧ wipeE e1 own = e0) → acc.length + items.length ≤ 16777216 → lcGo own f items acc e0 = .ok (acc ++ items.filterMap g) e0
  | [], acc, _, _ => by simp [lcGo]
  | x :: xs, acc, h, hz => by
    obtain ⟨e1, h1, h2⟩ := h x List.mem_cons_self
    have hl : acc.length + (xs.length + 1) ≤ 16777216 := by simpa using hz
    show lcStep own acc (fun acc e => lcGo own f xs acc e) (f x e0) = _
    rw [h1]
    cases q : g x with
    | none =>
      show lcGo own f xs acc (wipeE e1 own) = _
      rw [h2, lcGo_all (fun y hy => h y (List.mem_cons_of_mem _ hy)) (by omega), List.filterMap_cons_none q]
    | some t =>
      show (if decide (acc.length < sizeLine) = true then lcGo own f xs (acc ++ [t]) (wipeE e1 own) else .fail) = _
      rw [if_pos (decide_eq_true (by rw [PySem.sizeLine_eq]; omega)), h2, lcGo_all (fun y hy => h y (List.mem_cons_of_mem _ hy)) (by simp; omega), List.filterMap_cons_some q]
      simp
/-- the same, the environment told turn by turn -/
theorem lcGo_st {own : List Nat} {f : T → PT.Env → R (Option T)} {g : T → Option T} : ∀ {items acc : List T} (st : Nat → PT.Env), (∀ i x, items[i]? = some x → ∃ e1, f x (st i) = .ok (g x) e1 ∧ wipeE e1 own = st (i + 1)) → acc.length + items.length ≤ 16777216 → lcGo own f items acc (st 0) = .ok (acc ++ items.filterMap g) (st items.length)
  | [], acc, st, _, _ => by simp [lcGo]
  | x :: xs, acc, st, h, hz => by
    obtain ⟨e1, h1, h2⟩ := h 0 x rfl
    have hl : acc.length + (xs.length + 1) ≤ 16777216 := by simpa using hz
    show lcStep own acc (fun acc e => lcGo own f xs acc e) (f x (st 0)) = _
    rw [h1]
    cases q : g x with
    | none =>
      show lcGo own f xs acc (wipeE e1 own) = _
      rw [h2, lcGo_st (fun i => st (i + 1)) (fun i y hy => h (i + 1) y (by simpa using hy)) (by omega), List.filterMap_cons_none q]
      rfl
    | some t =>
      show (if decide (acc.length < sizeLine) = true then lcGo own f xs (acc ++ [t]) (wipeE e1 own) else .fail) = _
      rw [if_pos (decide_eq_true (by rw [PySem.sizeLine_eq]; omega)), h2, lcGo_st (fun i => st (i + 1)) (fun i y hy => h (i + 1) y (by simpa using hy)) (by simp; omega), List.filterMap_cons_some q]
      simp
end PTy

/-! PtZ: a def called within an except suite, the caught exception among its arguments. -/
namespace PTz
open PySem PySem.Spec PyProof.Rows L2 L2H
/-- what a def promises while the object p is pinned -/
structure FnP (P : Program) (w : World) (K : PySem.W.Frag) (mg : Str → Option Value) (base : Heap) (CT : CXT) (k : Nat) (p : Addr × Obj) (f : Addr) (fd : FuncData) (ps : List Str) (sp : Sp) : Prop where
  len : ∀ vs H Q E, sp vs H Q E → vs.length = ps.length
  run : ∀ (A : Around) (outer : List Env) (s : Shared) (H : Hp) (args : Args) (us : List Value) (vs : List V) (Q : VK) (E : XK), RoomH k A → PinOk outer H s p → Env0 P w K mg base A outer s H → BindsTo s fd args (ps.zip us) → Vals vs us → sp vs H Q E →
    codeAny (model P w) A (.call (.ref f) args) (CR CT outer P w H s Q E) s
theorem fn_pin {CT : CXT} {P : Program} {w : World} {K : PySem.W.Frag} {mg : Str → Option Value} {base : Heap} {k : Nat} {p : Addr × Obj} {f : Addr} {nm qual : Str} {params : Arguments} {body : List Stmt} {sc : Scope} {dV kV doc pm cdv ct oc : Value} {an od : Option Addr}
    {osl : Array (Option Value)} {N ps : List Str} {sp : Sp} (lk : K.lookup f = some ⟨oc, od, .func (PySem.W.fnOf nm qual params body sc dV kV doc pm an cdv ct), osl⟩) (hcd : PySem.W.codeIn K cdv qual = true) (S : FnScope N ps sc)
    (len : ∀ vs H Q E, sp vs H Q E → vs.length = ps.length)
    (hbody : ∀ (A : Around) (outer : List Env) (s : Shared) (H : Hp) (vs : List V) (Q : VK) (E : XK), RoomH k (A.deeper (envOfC qual sc s.heap.objs.size f cdv)) → sp vs H Q E →
      ∃ t, PSs (cxH CT P w K mg base N qual sc f cdv A outer s H E p) body t ∧ t { nx := fun _ H' => Q .non H', rt := Q } (L2.start N vs) H) :
    FnP P w K mg base CT (k + 1) p f (PySem.W.fnOf nm qual params body sc dV kV doc pm an cdv ct) ps sp := by
  refine ⟨len, fun A outer s H args us vs Q E hr pin e0 hb rv hsp => ?_⟩
  have lv := len _ _ _ _ hsp
  have kin : K.In s.heap := e0.mod.kin.keeps fun b o q => (e0.bs b o q).1
  have nol : s.heap.NoLimit := e0.mod.nolimit.keeps fun b o q => (e0.bs b o q).1
  have kinds : ∀ y ∈ ps.zip us, sc.names.lookup y.1 = some .local ∨ (sc.names.lookup y.1 = some .cell ∧ ((cellsFrom (s.heap.objs.size + 1) sc.names []).lookup y.1).isSome = true) := fun y hy => by
    have z := S.par y.1 (List.of_mem_zip (show (y.1, y.2) ∈ _ from hy)).1
    exact z.imp id fun z => ⟨z, PySem.W.cellsFrom_some _ _ _ (.inl z)⟩
  refine codeAny_call_function hr.depth (kin _ _ lk) rfl S.co S.gen rfl (PySem.W.codeRec_of kin hcd) (hb _ _ _ _ (wpAny_newFunctionEnv_cells S.kind kinds fun env he s1 x => ?_))
  subst he
  refine ⟨nol.keeps x.toInCall.keep, codeAny_func ?_⟩
  obtain ⟨t, ht, hq⟩ := hbody A outer s H vs Q E (hr.deeper _) hsp
  have I0 : Inv (cxH CT P w K mg base N qual sc f cdv A outer s H E p) [] (L2.start N vs) H s1 := inv_startH S pin e0 lv rv x
  refine wpAny_mono (ht.run [] s1 (L2.start N vs) H _ I0 hq) (fun fl s' hs => ?_) fun _ _ z => z
  cases fl with
  | ret u =>
    obtain ⟨v, _, H', J, r1, q⟩ := hs
    exact ⟨v, H', J.os, J.bare, J.base, J.hok, r1, q⟩
  | next =>
    obtain ⟨_, H', J, q⟩ := hs
    exact ⟨V.non, H', J.os, J.bare, J.base, J.hok, rfl, q⟩
  | brk => exact (hs.elim fun _ z => z.elim fun _ z => (show False from z.2).elim)
  | cont => exact (hs.elim fun _ z => z.elim fun _ z => (show False from z.2).elim)
section
variable {X : Cx} {CT : CXT} {k : Nat} {p : Addr × Obj} {f : Addr} {fd : FuncData} {ps : List Str} {sp : Sp} {E : L2.St → XK} {x : Str} {q pos : Pos} {e : Expr} {es : List Expr} {t : TA}
theorem pe_callP (F : FnP X.prog X.w X.K X.mg X.base CT k p f fd ps sp) (hr : RoomH k X.A) (hp : p ∈ X.pn) (hg : Gl X x) (hm : X.mg x = some (.ref f)) (hk : PySem.W.keepIn X.K (.ref f) = true) (hb : Binds X.K fd ps []) (hx : ∀ σ, PassesAt CT X σ (E σ))
    (ha : PA X (e :: es) t) (hdb : (x == ("__debug__" : Str)) = false := by decide) (he : starEach (e :: es) X.env = (false, eval e X.env) :: starEach es X.env := by rfl) (hpl : (backTo pos (starEach es X.env)).any (·.1) = false := by rfl) :
    PE X (.Call (.Name x q) (e :: es) [] pos) (fun σ H Q => t σ H fun vs H1 => sp vs H1 Q (E σ)) := by
  refine ⟨fun pins s σ H Q I h => wpAny_Call_Name_kw (ld_glob I hg hm ?_ hdb)⟩
  refine PySem.W.callWith_K (h₀ := X.base) I.ok.mod.kin hk (thn (ha.run pos pins s σ H _ I h) fun us s1 ⟨vs, H1, I1, rv, z⟩ => ⟨I1.kIn, ?_⟩) he hpl
  have b := hb s1 us I1.kIn (by rw [List.append_nil, ← rv.length]; exact F.len _ _ _ _ z)
  rw [List.append_nil] at b
  have P1 := I1.pin p (List.mem_append_left _ hp)
  have pin : PinOk X.stack H1 s1 p := ⟨P1.1, P1.2.1, fun hm => (List.mem_cons.mp (I1.stkSub p.1 hm)).elim P1.2.2.1 P1.2.2.2.1, P1.2.2.2.2⟩
  refine wpAny_call (codeAny_mono (F.run X.A X.stack s1 H1 ⟨us, []⟩ us vs Q (E σ) hr pin I1.env0 b rv z) fun r s' hq => ?_)
  cases r with
  | error u => exact hx σ pins H1 s1 u s' I1 hq
  | ok fl =>
    cases fl with
    | ret u => exact I1.after hq
    | next => exact hq.elim
    | brk => exact hq.elim
    | cont => exact hq.elim
/-- isinstance(e, c), e the pinned exception -/
def rIsP (K : PySem.W.Frag) (D a : Addr) (d : Option Addr) : List V → Hp → VK → Prop := fun xs H Q => ∃ (c : V) (cv : Value) (b : Bool), xs = [.ref a, c] ∧ (∀ u, RelV c u → u = cv) ∧ PySem.W.kitOne K (.ref D) cv = some b ∧ (∀ dd, d = some dd → ∃ fs, H dd = some (.xd fs)) ∧ Q (.bl b) H
theorem call_isP {D : Addr} (hp : p ∈ X.pn) (C : ExcC X.K D) (hcl : (PySem.W.clsIn X.K D).isSome = true) (hc : p.2.cls = .ref D) (hf : ∃ vs, p.2.data = .fields vs) : CallR X (.builtin "isinstance") (rIsP X.K D p.1 p.2.dict) := by
  intro pins s σ H xs us Q I r h
  obtain ⟨c, cv, b, rfl, hcv, ek, hd, z⟩ := h
  cases r with
  | cons rx rr =>
    cases rr with
    | cons rt rr =>
      cases rr
      cases rx
      have ec := hcv _ rt
      subst ec
      have hget := (I.pin p (List.mem_append_left _ hp)).1
      obtain ⟨vs, hv⟩ := hf
      have hn : PySem.W.notCls p.2 = true := by unfold PySem.W.notCls; rw [hv] <;> rfl
      have J : ∃ od, PySem.W.InstAt s.heap p.1 p.2 D od := by
        cases qd : p.2.dict with
        | none => exact ⟨none, hget, hc, hn, by rw [qd]; trivial⟩
        | some dd =>
          obtain ⟨fs, hfs⟩ := hd dd qd
          obtain ⟨mA, hns, hr⟩ := (show ObjOk X.prog X.w H s.heap dd (.xd fs) from I.hok dd _ hfs)
          obtain ⟨od, ho, hl⟩ := lookIn_ns hns
          exact ⟨some od, hget, hc, hn, by rw [qd]; exact ho⟩
      obtain ⟨od, J⟩ := J
      exact PySem.W.kia_one (PySem.W.kitx_exc hcl C.hg C.hk C.hs C.ha C.hn C.ht C.hm) I.kIn J ek (fun z => nomatch z) fun tk => ⟨.bl b, H, I.kept (t' := tk) fun _ _ z => z, rfl, z⟩
end
end PTz

/-! PtZb: list.count of flat items; lists put together, leaving what is known. -/
namespace PTz
open PySem PySem.Spec PyProof.Rows L2
def rCntF (K : PySem.W.Frag) : V → List V → Hp → VK → Prop := fun x xs H Q => ∃ (p : Addr) (ys : List V) (y : V), x = .ref p ∧ xs = [y] ∧ SqL K H p ys ∧ flatV y = true ∧ ys.all flatV = true ∧ Q (.int (ys.countP fun z => eqV z y : Nat)) H
theorem countU {y : V} : ∀ {ys : List V} {us : List Value}, Vals ys us → ys.all flatV = true → us.countP (eqU y) = ys.countP fun z => eqV z y
  | _, _, .nil, _ => rfl
  | z :: ys, u :: us, .cons r rr, h => by
    simp only [List.all_cons, Bool.and_eq_true] at h
    rw [List.countP_cons, List.countP_cons, countU rr h.2, eqU_of r h.1]
theorem mt_countF {X : Cx} : MtR X "list.count" (rCntF X.K) := by
  intro pins s σ H x xs v us Q I rx rxs h
  obtain ⟨p, ys, y, rfl, rfl, hs, fy, fys, q⟩ := h
  cases rx
  obtain ⟨u, rfl, ru⟩ := rxs.one
  obtain ⟨its, rv, ⟨⟨cls, dd, data, sl⟩, n, ho, hc, hdn, hd⟩, hlen⟩ := I.list hs
  simp only at hc hd
  subst hc hd
  have m := SeqAt.list_countAt p its.toArray n dd sl u (eqU y)
  refine call_meets PySem.F.slot_list_count ⟨_, ho, rfl⟩ PySem.F.entry_list_count (PySem.F.args_list_count_2 _ _) m ⟨ho, fun u' hu' => mem_eqAt ru fy rv fys u' (by simpa using hu'), ?_⟩
  refine ⟨.int (ys.countP fun z => eqV z y : Nat), H, I.tok _, ⟨s.toks, ?_⟩, q⟩
  show Value.int ((its.toArray.toList.countP (eqU y) : Nat) : Int) s.toks = _
  have ea : its.toArray.toList = its := rfl
  rw [ea, countU rv fys]
/-- a + b, a a list that is known, b a new one -/
theorem el_cat {ta tb : TE} {σ : L2.St} {H : Hp} {p : Addr} {xs ys : List V} (ha : Evl.Ev ta σ H (.ref p)) (hx : H p = some (.lst xs)) (hb : Evl.EvL tb σ H ys) (hz : xs.length + ys.length ≤ sizeLine) : Evl.EvL (tOp rCat ta tb) σ H (xs ++ ys) := fun H1 e Q q =>
  ha H1 e _ fun H2 e2 => hb H2 (e.trans e2) _ fun r H3 hr e3 h3 =>
    ⟨p, r, xs, ys, rfl, rfl, e3 _ _ (e2 _ _ (e _ _ hx)), h3, hz, fun p' hp' => q p' _ (Evl.fresh_back (e2.trans e3) hp') ((e2.trans e3).trans (Evl.Ex.new hp')) upd_same⟩
end PTz

/-! PtE1: an own exception class whose __init__ keeps one field. -/
namespace PTz
open PySem PySem.Spec PyProof.Rows L2
def spInit (C : Addr) (f : Str) : Sp := fun vs H Q _ => ∃ a y, vs = [.ref a, y] ∧ H a = some (exo a C none) ∧ ∀ dx, H dx = none → dx ≠ a → Q .non (upd (upd H dx (exd dx [(f, y)])) a (exo a C (some dx)))
theorem init_fn {P : Program} {w : World} {K : PySem.W.Frag} {mg : Str → Option Value} {base : Heap} {x qual f : Str} {params : Arguments} {sc : Scope} {p1 p2 p3 p4 : Pos} {C fI : Addr} {fd : FuncData}
    (F : FunD K x qual params [.Assign [.Attribute (.Name "self" p1) f p2] (.Name f p3) p4] sc [] [] fI fd) (S : FnScope ["self", f] ["self", f] sc) (T : OexC K C) (hno : PySem.W.findIn K (.ref C) f = some none) (v0 : sc.names.lookup ("self" : Str) = some NameKind.local) (v1 : sc.names.lookup f = some NameKind.local)
    (d1 : (f == ("__debug__" : Str)) = false) (d2 : (f == ("__classdict__" : Str)) = false) : FnOk P w K mg base (L2.CX P w) 1 fI fd ["self", f] (spInit C f) := by
  refine F.ok S (fun vs H Q E h => by obtain ⟨a, y, rfl, _⟩ := h; rfl) fun cdv A outer s H vs Q E hr h => ⟨_, pss_one (ps_ost (pe_var (i := 0) rfl (.inl v0)) (pe_var (i := 1) rfl (.inl v1) d1 d2) rfl), ?_⟩
  obtain ⟨a, y, rfl, ha, q⟩ := h
  exact ⟨y, rfl, .ref a, rfl, a, C, rfl, T, hno, .inl ⟨ha, fun dx n1 n2 => q dx n1 n2⟩⟩
theorem xc_one {P : Program} {w : World} {K : PySem.W.Frag} {mg : Str → Option Value} {base : Heap} {c f : Str} {C fI : Addr} {fd : FuncData} (T : OexC K C) (iC : PySem.W.findIn K (.ref C) "__init__" = some (some (.ref fI))) (tI : PySem.W.typeIn K (.ref fI) = some (.type "function"))
    (F1 : FnOk P w K mg base (L2.CX P w) 1 fI fd ["self", f] (spInit C f)) (hb : Binds K fd ["self", f] []) (m : mg c = some (.ref C)) :
    ∃ Cc, mg c = some (.ref Cc) ∧ ∀ (X : Cx), X.prog = P → X.w = w → X.K = K → X.mg = mg → X.base = base → X.calm = true → Room 2 X.A → ∀ (args : List Expr) (t : TA) (p1 pos : Pos), (∀ σ H (P1 P2 : List V → Hp → Prop), (∀ vs H1, P1 vs H1 → P2 vs H1) → t σ H P1 → t σ H P2) → Gl X c → PT.okNm c = true → args.length = [f].length → args.all PT.plainE = true → PA X args t →
    PMk X (.Call (.Name c p1) args [] pos) (fun σ H Q => t σ H fun vs H1 => vs.length = [f].length ∧ (([f] = [] → Q (.ref Cc) none H1) ∧ ([f] ≠ [] → ∀ d, H1 d = none → Q (.ref Cc) (some d) (upd H1 d (.xd (([f].zip vs).reverse)))))) := by
  refine ⟨C, m, fun X x1 x2 x3 x4 x5 hc hr args t p1 pos mono hg hn hl hp ha => ?_⟩
  subst x1 x2 x3 x4 x5
  cases args with
  | nil => cases hl
  | cons e es =>
    simp only [List.all_cons, Bool.and_eq_true] at hp
    have g := pmk_oex (pos := pos) (p := p1) T iC tI F1 hr hb .nil (L2.passes_call takes0 fun _ _ _ _ h => h) hg m ha (PT.nm1 hn) (PT.plain_star hp.1) (PT.plain_any hp.2)
    intro pins s σ H Q I h
    refine g pins s σ H Q I (mono _ _ _ _ (fun vs H1 z => ?_) h)
    obtain ⟨z1, _, z2⟩ := z
    match vs, z1 with
    | [y], _ =>
      refine ⟨(show 1 ≤ 1000 by decide), fun a ha => ⟨a, y, rfl, upd_same, fun dx n1 n2 => ⟨rfl, dx, [(f, y)], upd_same, ?_, ?_, ?_⟩⟩⟩
      · rw [upd_ne n2, upd_same]
      · rw [upd_ne n2] at n1; exact n1
      · rw [upd_ne n2] at n1
        have e1 : upd (del (upd (upd (upd H1 a (exo a C none)) dx (exd dx [(f, y)])) a (exo a C (some dx))) a) dx (.xd [(f, y)]) = upd H1 dx (.xd [(f, y)]) := by
          funext b
          by_cases hb : b = dx
          · rw [hb, upd_same, upd_same]
          · rw [upd_ne hb, upd_ne hb]
            by_cases hba : b = a
            · rw [hba, del_same]; exact ha.symm
            · rw [del_ne hba, upd_ne hba, upd_ne hb, upd_ne hba]
        rw [e1]
        exact z2 (by simp) dx n1
end PTz

/-! PtPhi: the little language is monotone in the functions called; a table's own meaning by fuel. -/
namespace PT
open PySem PySem.Spec PyProof.Rows L2
def FLe (a b : FR) : Prop := a = .fail ∨ a = b
def RLe {α : Type} (a b : R α) : Prop := a = .fail ∨ a = b
def SLe (a b : SR) : Prop := a = .fail ∨ a = b
section
variable {α β : Type}
theorem RLe.refl (a : R α) : RLe a a := .inr rfl
theorem SLe.refl (a : SR) : SLe a a := .inr rfl
theorem RLe.bind {a b : R α} {f g : α → Env → R β} (h : RLe a b) (k : ∀ x e, RLe (f x e) (g x e)) : RLe (a.bind f) (b.bind g) := by
  rcases h with rfl | rfl
  · exact .inl rfl
  · cases a with
    | ok x e => exact k x e
    | exc x e => exact .inr rfl
    | fail => exact .inl rfl
theorem RLe.bindO {a b : R α} {f : α → Option β} (h : RLe a b) : RLe (a.bindO f) (b.bindO f) := by
  rcases h with rfl | rfl
  · exact .inl rfl
  · exact .inr rfl
theorem RLe.st {a b : R α} {f g : α → Env → SR} (h : RLe a b) (k : ∀ x e, SLe (f x e) (g x e)) : SLe (a.st f) (b.st g) := by
  rcases h with rfl | rfl
  · exact .inl rfl
  · cases a with
    | ok x e => exact k x e
    | exc x e => exact .inr rfl
    | fail => exact .inl rfl
theorem SLe.sq {a b : SR} {f g : Env → SR} (h : SLe a b) (k : ∀ e, SLe (f e) (g e)) : SLe (a.sq f) (b.sq g) := by
  rcases h with rfl | rfl
  · exact .inl rfl
  · cases a with
    | next e => exact k e
    | _ => exact .inr rfl
theorem SLe.turn {a b : SR} {f g : Env → SR} (h : SLe a b) (k : ∀ e, SLe (f e) (g e)) : SLe (a.turn f) (b.turn g) := by
  rcases h with rfl | rfl
  · exact .inl rfl
  · cases a with
    | next e => exact k e
    | cnt e => exact k e
    | _ => exact .inr rfl
theorem RLe.ite {c : Prop} [Decidable c] {a a' b b' : R α} (h : RLe a a') (k : RLe b b') : RLe (if c then a else b) (if c then a' else b') := by
  split
  · exact h
  · exact k
theorem SLe.ite {c : Prop} [Decidable c] {a a' b b' : SR} (h : SLe a a') (k : SLe b b') : SLe (if c then a else b) (if c then a' else b') := by
  split
  · exact h
  · exact k
theorem lcGo_mono {own : List Nat} {f g : T → Env → R (Option T)} (h : ∀ t e, RLe (f t e) (g t e)) : ∀ (xs acc : List T) (e : Env), RLe (lcGo own f xs acc e) (lcGo own g xs acc e)
  | [], _, _ => .inr rfl
  | x :: xs, acc, e => by
    simp only [lcGo]
    rcases h x e with q | q
    · rw [q]; exact .inl rfl
    · rw [q]
      cases g x e with
      | fail => exact .inl rfl
      | exc y e1 => exact .inr rfl
      | ok o e1 =>
        cases o with
        | none => exact lcGo_mono h xs acc _
        | some t =>
          simp only [lcStep]
          exact .ite (lcGo_mono h xs _ _) (.refl _)
theorem lcBody_mono {P : List Bool} {tg : Tg} {c c' : Env → R Bool} {x x' : Env → R T} (hc : ∀ e, RLe (c e) (c' e)) (hx : ∀ e, RLe (x e) (x' e)) (t : T) (e : Env) : RLe (lcBody P tg c x t e) (lcBody P tg c' x' t e) :=
  .bind (.refl _) fun _ e2 => .bind (hc e2) fun b e3 => .ite (.bindO (hx e3)) (.refl _)
theorem goFor_mono {f g : T → Env → SR} (h : ∀ t e, SLe (f t e) (g t e)) : ∀ (xs : List T) (e : Env), SLe (goFor f xs e) (goFor g xs e)
  | [], _ => .refl _
  | x :: xs, e => .turn (h x e) fun e1 => goFor_mono h xs e1
theorem goWhl_mono {c c' : Env → R Bool} {f g : Env → SR} (hc : ∀ e, RLe (c e) (c' e)) (h : ∀ e, SLe (f e) (g e)) : ∀ (n : Nat) (e : Env), SLe (goWhl c f n e) (goWhl c' g n e)
  | 0, _ => .refl _
  | n + 1, e => RLe.st (hc e) fun b e1 => .ite (.turn (h e1) fun e2 => goWhl_mono hc h n e2) (.refl _)
theorem callE_mono {φ ψ : List T → FR} (h : ∀ ts, FLe (φ ts) (ψ ts)) (ds : Option (List T)) (l : List (Option Nat)) (ts : List T) (e : Env) : RLe (callE φ ds l ts e) (callE ψ ds l ts e) := by
  unfold callE
  split
  · rename_i us e2 ds' _
    rcases h (us ++ ds') with q | q
    · rw [q]; exact .inl rfl
    · rw [q]; exact .refl _
  · exact .refl _
theorem roEnd_mono {m : List Bool} {e : Env} {a b : R T} (h : RLe a b) : RLe (roEnd m e a) (roEnd m e b) := by
  rcases h with rfl | rfl
  · exact .inl rfl
  · exact .refl _
end
section
variable {tb : Tb} {P : List Bool} {φ ψ : Nat → List T → FR} (hφ : ∀ f ts, FLe (φ f ts) (ψ f ts))
include hφ
mutual
theorem ev_mono : ∀ (x : E) (e : Env), RLe (ev ⟨φ, tb, P⟩ x e) (ev ⟨ψ, tb, P⟩ x e)
  | .non, e => by simp only [ev]; exact .refl _
  | .bl _, e => by simp only [ev]; exact .refl _
  | .int _, e => by simp only [ev]; exact .refl _
  | .str _, e => by simp only [ev]; exact .refl _
  | .var _, e => by simp only [ev]; exact .refl _
  | .mv _, e => by simp only [ev]; exact .refl _
  | .lend _, e => by simp only [ev]; exact .refl _
  | .glo _, e => by simp only [ev]; exact .refl _
  | .bin op a b, e => by simp only [ev]; exact .bind (ev_mono a e) fun x e1 => .bindO (ev_mono b e1)
  | .neg a, e => by simp only [ev]; exact .bindO (ev_mono a e)
  | .cmp op a b, e => by simp only [ev]; exact .bind (ev_mono a e) fun x e1 => .bindO (ev_mono b e1)
  | .chn op op' a b c, e => by simp only [ev]; exact .bind (ev_mono a e) fun x e1 => .bind (ev_mono b e1) fun y e2 => .bind (.refl _) fun d e3 => .ite (.bindO (ev_mono c e3)) (.refl _)
  | .not a, e => by simp only [ev]; exact .bindO (ev_mono a e)
  | .and a b, e => by simp only [ev]; exact .bind (.bindO (ev_mono a e)) fun d e1 => .ite (ev_mono b e1) (.refl _)
  | .or a b, e => by simp only [ev]; exact .bind (.bindO (ev_mono a e)) fun d e1 => .ite (.refl _) (ev_mono b e1)
  | .ife c a b, e => by simp only [ev]; exact .bind (.bindO (ev_mono c e)) fun d e1 => .ite (ev_mono a e1) (ev_mono b e1)
  | .tup es, e => by simp only [ev]; exact .bindO (evL_mono es e)
  | .lst es, e => by simp only [ev]; exact .bindO (evL_mono es e)
  | .ix a b, e => by simp only [ev]; exact .bind (ev_mono a e) fun x e1 => .bindO (ev_mono b e1)
  | .sl a lo hi, e => by simp only [ev]; exact .bind (ev_mono a e) fun x e1 => .bind (evO_mono lo e1) fun l e2 => .bindO (evO_mono hi e2)
  | .call f k as, e => by simp only [ev]; exact .bind (evL_mono as e) fun ts e1 => callE_mono (hφ f) _ _ _ _
  | .bi b as, e => by simp only [ev]; exact .bindO (evL_mono as e)
  | .isi a t, e => by simp only [ev]; exact .bindO (ev_mono a e)
  | .meth m a as, e => by simp only [ev]; exact .bind (ev_mono a e) fun x e1 => .bind (.refl _) fun _ e2 => .bindO (evL_mono as e2)
  | .pop _, e => by simp only [ev]; exact .refl _
  | .lc own tg it c x, e => by simp only [ev]; exact .bind (evI_mono it e) fun items e1 => .bindO (lcGo_mono (lcBody_mono (fun e => evC_mono c e) fun e => ev_mono x e) _ _ _)
  | .ro m x, e => by simp only [ev]; exact roEnd_mono (ev_mono x _)
theorem evL_mono : ∀ (x : EL) (e : Env), RLe (evL ⟨φ, tb, P⟩ x e) (evL ⟨ψ, tb, P⟩ x e)
  | .nil, e => by simp only [evL]; exact .refl _
  | .cons x r, e => by simp only [evL]; exact .bind (ev_mono x e) fun t e1 => .bindO (evL_mono r e1)
theorem evO_mono : ∀ (x : OE) (e : Env), RLe (evO ⟨φ, tb, P⟩ x e) (evO ⟨ψ, tb, P⟩ x e)
  | .none, e => by simp only [evO]; exact .refl _
  | .some x, e => by simp only [evO]; exact .bindO (ev_mono x e)
theorem evC_mono : ∀ (x : OE) (e : Env), RLe (evC ⟨φ, tb, P⟩ x e) (evC ⟨ψ, tb, P⟩ x e)
  | .none, e => by simp only [evC]; exact .refl _
  | .some x, e => by simp only [evC]; exact .bindO (ev_mono x e)
theorem evI_mono : ∀ (x : It) (e : Env), RLe (evI ⟨φ, tb, P⟩ x e) (evI ⟨ψ, tb, P⟩ x e)
  | .seq a, e => by simp only [evI]; exact .bindO (ev_mono a e)
  | .rng1 a, e => by simp only [evI]; exact .bindO (ev_mono a e)
  | .rng2 a b, e => by simp only [evI]; exact .bind (ev_mono a e) fun x e1 => .bindO (ev_mono b e1)
  | .enum a, e => by simp only [evI]; exact .bindO (ev_mono a e)
  | .zip a b, e => by simp only [evI]; exact .bind (ev_mono a e) fun x e1 => .bindO (ev_mono b e1)
end
theorem ex_mono : ∀ (x : S) (e : Env), SLe (ex ⟨φ, tb, P⟩ x e) (ex ⟨ψ, tb, P⟩ x e)
  | .nop, e => by simp only [ex]; exact .refl _
  | .seq a b, e => by simp only [ex]; exact .sq (ex_mono a e) fun e1 => ex_mono b e1
  | .asg tg x, e => by simp only [ex]; exact RLe.st (ev_mono hφ x e) fun t e1 => .refl _
  | .par i j x y, e => by simp only [ex]; exact RLe.st (ev_mono hφ x e) fun t e1 => RLe.st (ev_mono hφ y e1) fun u e2 => .refl _
  | .seti i k x, e => by simp only [ex]; exact RLe.st (ev_mono hφ x e) fun t e1 => .ite (RLe.st (ev_mono hφ k e1) fun y e2 => .refl _) (.refl _)
  | .exp x, e => by simp only [ex]; exact RLe.st (ev_mono hφ x e) fun t e1 => .refl _
  | .app i x, e => by simp only [ex]; exact .ite (RLe.st (ev_mono hφ x e) fun t e1 => .refl _) (.refl _)
  | .ext i x, e => by simp only [ex]; exact .ite (RLe.st (ev_mono hφ x e) fun t e1 => .refl _) (.refl _)
  | .app1 i j n, e => by simp only [ex]; exact .refl _
  | .ifs c a b, e => by simp only [ex]; exact RLe.st (.bindO (ev_mono hφ c e)) fun d e1 => .ite (ex_mono a e1) (ex_mono b e1)
  | .fors tg it b, e => by simp only [ex]; exact RLe.st (evI_mono hφ it e) fun items e1 => goFor_mono (fun t e2 => RLe.st (.refl _) fun _ e3 => ex_mono b e3) items e1
  | .whl n c b, e => by simp only [ex]; exact goWhl_mono (fun e => .bindO (ev_mono hφ c e)) (fun e => ex_mono b e) n e
  | .ret x, e => by simp only [ex]; exact RLe.st (ev_mono hφ x e) fun t e1 => .refl _
  | .retn, e => by simp only [ex]; exact .refl _
  | .pass, e => by simp only [ex]; exact .refl _
  | .brk, e => by simp only [ex]; exact .refl _
  | .cnt, e => by simp only [ex]; exact .refl _
  | .rais c fs as, e => by simp only [ex]; exact RLe.st (evL_mono hφ as e) fun ts e1 => .refl _
  | .never, e => by simp only [ex]; exact .refl _
theorem run_mono (d : Df) (ts : List T) : FLe (run φ tb d ts) (run ψ tb d ts) := by
  unfold run
  split
  · rcases ex_mono (tb := tb) (P := d.P) hφ d.b (ts.map some ++ List.replicate (d.n - d.np) none) with q | q
    · rw [q]; exact .inl rfl
    · rw [q]; exact .inr rfl
  · exact .inl rfl
end
/-! ### a table's own meaning -/
/-- what stands for a def: its text, or a function of what is called, by hand -/
inductive Dh where
  | df (d : Df)
  | hd (g : (Nat → List T → FR) → List T → FR)
  | nn
def Dh.run (φ : Nat → List T → FR) (tb : Tb) : Dh → List T → FR
  | .df d, ts => PT.run φ tb d ts
  | .hd g, ts => g φ ts
  | .nn, _ => .fail
def Dh.Mono : Dh → Prop
  | .hd g => ∀ φ ψ : Nat → List T → FR, (∀ f ts, FLe (φ f ts) (ψ f ts)) → ∀ ts, FLe (g φ ts) (g ψ ts)
  | _ => True
def Phi0 (tb : Tb) (D : Nat → Dh) : Nat → Nat → List T → FR
  | 0, _, _ => .fail
  | n + 1, f, ts => (D f).run (Phi0 tb D n) tb ts
@[irreducible] def Phi (tb : Tb) (D : Nat → Dh) (n : Nat) : Nat → List T → FR := Phi0 tb D n
theorem Phi_0 {tb : Tb} {D : Nat → Dh} {f : Nat} {ts : List T} : Phi tb D 0 f ts = .fail := by unfold Phi; rfl
theorem Phi_s {tb : Tb} {D : Nat → Dh} {n f : Nat} {ts : List T} : Phi tb D (n + 1) f ts = (D f).run (Phi tb D n) tb ts := by unfold Phi; rfl
theorem Phi_mono {tb : Tb} {D : Nat → Dh} (hD : ∀ f, (D f).Mono) : ∀ (n f : Nat) (ts : List T), FLe (Phi tb D n f ts) (Phi tb D (n + 1) f ts)
  | 0, _, _ => .inl Phi_0
  | n + 1, f, ts => by
    rw [Phi_s, Phi_s]
    have m := hD f
    cases q : D f with
    | df d => exact run_mono (Phi_mono hD n) d ts
    | hd g => rw [q] at m; exact m _ _ (Phi_mono hD n) ts
    | nn => exact .inl rfl
theorem Phi_le {tb : Tb} {D : Nat → Dh} (hD : ∀ f, (D f).Mono) {n m : Nat} (h : n ≤ m) (f : Nat) (ts : List T) : FLe (Phi tb D n f ts) (Phi tb D m f ts) := by
  induction h with
  | refl => exact .inr rfl
  | step _ ih =>
    rcases ih with q | q
    · exact .inl q
    · rcases Phi_mono hD _ f ts with z | z
      · exact .inl (q.trans z)
      · exact .inr (q.trans z)
/-- more fuel, the same -/
theorem Phi_up {tb : Tb} {D : Nat → Dh} (hD : ∀ f, (D f).Mono) {n m f : Nat} {ts : List T} {r : FR} (h : n ≤ m) (e : Phi tb D n f ts = r) (hr : r ≠ .fail) : Phi tb D m f ts = r := by
  rcases Phi_le hD h f ts with q | q
  · exact absurd (e.symm.trans q) hr
  · exact q.symm.trans e
/-! ### every def of the table keeps its promise -/
/-- what is known of a def of the table -/
structure DefAt (K : PySem.W.Frag) (mg : Str → Option Value) (tb : Tb) (D : Nat → Dh) (g : Nat) (gi : FnI) (a : Addr) (fd : FuncData) : Prop where
  mg : mg gi.nm = some (.ref a)
  kp : PySem.W.keepIn K (.ref a) = true
  lk : ∃ o, K.lookup a = some o ∧ o.data = .func fd
  bd : ∀ (d : Nat) (ds : List T), gi.ds[d]? = some ds → ∃ us dvs, Binds K fd gi.ps us ∧ Vals dvs us ∧ ∀ H Z, RepL K H Z ds dvs []
  tx : ∀ d, D g = .df d → ∃ x qual params body scope dvs kws N, FunD K x qual params body scope dvs kws a fd ∧ FnScope N gi.ps scope ∧ d.np = gi.ps.length ∧ d.n = N.length ∧ 3 ≤ gi.lv ∧ mB tb N (gi.lv - 1) scope d.b body = true
  no : D g ≠ .nn
section
variable {P : Program} {w : World} {K : PySem.W.Frag} {mg : Str → Option Value} {base : Heap}
theorem all_ok {tb : Tb} {D : Nat → Dh} {M : Nat} (hD : ∀ f, (D f).Mono) (pr : Pr P w K mg base tb) (hlv : ∀ g gi, tb.fn g = some gi → 0 < gi.lv) (at_ : ∀ g gi, tb.fn g = some gi → ∃ a fd, DefAt K mg tb D g gi a fd)
    (hand : ∀ g gi h a fd, tb.fn g = some gi → D g = .hd h → DefAt K mg tb D g gi a fd → (∀ g2 gi2, tb.fn g2 = some gi2 → gi2.lv ≤ gi.lv - 1 → ∃ a fd, CalK P w K mg base (Phi tb D M) g2 gi2 a fd) → FnOk P w K mg base (L2.CX P w) gi.lv a fd gi.ps (spF K mg gi.ps.length (h (Phi tb D M)))) :
    ∀ (k g : Nat) (gi : FnI), tb.fn g = some gi → gi.lv ≤ k → ∃ a fd, CalK P w K mg base (Phi tb D M) g gi a fd
  | 0, g, gi, h, hk => absurd (hlv g gi h) (by omega)
  | k + 1, g, gi, h, hk => by
    obtain ⟨a, fd, q⟩ := at_ g gi h
    have ih := all_ok hD pr hlv at_ hand k
    have low : ∀ g2 gi2, tb.fn g2 = some gi2 → gi2.lv ≤ gi.lv - 1 → ∃ a fd, CalK P w K mg base (Phi tb D M) g2 gi2 a fd := fun g2 gi2 h2 h3 => ih g2 gi2 h2 (by omega)
    have hr : ∀ ts, Phi tb D M g ts = .fail ∨ (D g).run (Phi tb D M) tb ts = Phi tb D M g ts := fun ts => by
      rcases Phi_mono hD M g ts with z | z
      · exact .inl z
      · rw [Phi_s] at z; exact .inr z.symm
    refine ⟨a, fd, ?_, q.mg, q.kp, q.bd⟩
    cases e : D g with
    | nn => exact absurd e q.no
    | df d =>
      obtain ⟨x, qual, params, body, scope, dvs, kws, N, F, S, h1, h2, h3, h4⟩ := q.tx d e
      have lv : gi.lv = (gi.lv - 1) + 1 := by omega
      rw [lv]
      exact fn_ok F S pr low (by omega) h1 h2 h4 fun ts => by
        have := hr ts
        rw [e] at this
        exact this
    | hd f =>
      have := hand g gi f a fd h e q low
      refine ⟨fun vs H Q E h => h.1, fun A outer s H args us vs Q E h1 h2 h3 h4 h5 => this.run A outer s H args us vs Q E h1 h2 h3 h4 ?_⟩
      obtain ⟨hl, ts, Z, F, rl, ok, hsp⟩ := h5
      refine ⟨hl, ts, Z, F, rl, ok, ?_⟩
      rcases hr ts with z | z
      · rw [z] at hsp; exact hsp.elim
      · rw [e] at z
        have z : f (Phi tb D M) ts = Phi tb D M g ts := z
        rw [z]; exact hsp
end
end PT

/-! PtWp: what a block of the little language comes to, told by what holds of its end. -/
namespace PTw
open PySem PT PTy
open L2 (atI ixN)
variable {C : Cf} {o : Option T} {e e1 e2 : PT.Env} {t u : T} {a b c s : S} {x : E} {P Q : SR → Prop}
/-- the block s, run on e, ends so that P -/
def Wp (C : Cf) (s : S) (e : PT.Env) (P : SR → Prop) : Prop := P (ex C s e)
/-- what follows a first block -/
def Kt (C : Cf) (b : S) (P : SR → Prop) : SR → Prop
  | .next e => Wp C b e P
  | r => P r
def Nx (r : SR) (e : PT.Env) : Prop := r = .next e
def Ok {α : Type} (r : R α) (t : α) (e : PT.Env) : Prop := r = .ok t e
theorem w_run {φ : Nat → List T → FR} {tb : Tb} {d : Df} {ts : List T} {res : FR} (h : ts.length = d.np) (w : Wp ⟨φ, tb, d.P⟩ d.b (ts.map some ++ List.replicate (d.n - d.np) none) fun r => fin d.P d.np r = res) : PT.run φ tb d ts = res := (run_fin h).trans w
theorem w_imp (h : Wp C s e P) (k : ∀ r, P r → Q r) : Wp C s e Q := k _ h
theorem w_nop (h : P (.next e)) : Wp C .nop e P := by
  show P (ex C .nop e)
  rw [ex_nop]; exact h
theorem w_seq (h : Wp C a (o :: e) (Kt C b P)) : Wp C (.seq a b) (o :: e) P := by
  show P (ex C (.seq a b) (o :: e))
  rw [ex_seq]
  have h : Kt C b P (ex C a (o :: e)) := h
  generalize ex C a (o :: e) = r at h
  cases r <;> exact h
theorem w_k (h : Wp C b e P) : Wp C .nop e (Kt C b P) := w_nop (P := Kt C b P) h
/-- a statement that goes on -/
theorem w_s (h : Nx (ex C a (o :: e)) e1) (k : Wp C b e1 P) : Wp C (.seq a b) (o :: e) P := by
  show P (ex C (.seq a b) (o :: e))
  rw [ex_seq, show ex C a (o :: e) = .next e1 from h]
  exact k
theorem w_ret (h : Ok (ev C x (o :: e)) t e1) (k : P (.ret t e1)) : Wp C (.seq (.ret x) b) (o :: e) P := by
  show P (ex C (.seq (.ret x) b) (o :: e))
  rw [ex_seq, ex_ret, show ev C x (o :: e) = .ok t e1 from h]
  exact k
theorem w_if {d : Bool} (h : Ok (ev C x (o :: e)) (.bl d) e1) (k1 : d = true → Wp C a e1 (Kt C c P)) (k2 : d = false → Wp C b e1 (Kt C c P)) : Wp C (.seq (.ifs x a b) c) (o :: e) P := by
  refine w_seq ?_
  show Kt C c P (ex C (.ifs x a b) (o :: e))
  rw [ex_ifs, show ev C x (o :: e) = .ok (.bl d) e1 from h, bindO_ok, boolOf_bl, ofO_some, st_ok]
  cases d with
  | true => rw [if_pos rfl]; exact k1 rfl
  | false => rw [if_neg (fun z => nomatch z)]; exact k2 rfl
/-- a turn's end -/
def Tn (I : PT.Env → Prop) (P : SR → Prop) : SR → Prop
  | .next e => I e
  | .cnt e => I e
  | .brk e => P (.next e)
  | .ret t e => P (.ret t e)
  | .exc x e => P (.exc x e)
  | .fail => False
theorem w_goFor {f : T → PT.Env → SR} : ∀ {items : List T} {e : PT.Env} (I : Nat → PT.Env → Prop) (h0 : I 0 e) (hs : ∀ i y e, items[i]? = some y → I i e → Tn (I (i + 1)) P (f y e)) (he : ∀ e, I items.length e → P (.next e)), P (goFor f items e)
  | [], e, I, h0, hs, he => he e h0
  | y :: ys, e, I, h0, hs, he => by
    have h := hs 0 y e rfl h0
    show P (SR.turn (f y e) fun e1 => goFor f ys e1)
    generalize f y e = r at h
    have go : ∀ e1, I 1 e1 → P (goFor f ys e1) := fun e1 h1 => w_goFor (fun i e => I (i + 1) e) h1 (fun i z e hz hi => hs (i + 1) z e (by simpa using hz) hi) he
    cases r with
    | next e1 => exact go e1 h
    | cnt e1 => exact go e1 h
    | brk e1 => exact h
    | ret t e1 => exact h
    | exc z e1 => exact h
    | fail => exact h.elim
/-- for: I holds ahead of the turn i -/
theorem w_for {tg : Tg} {it : It} {items : List T} (hi : Ok (evI C it (o :: e)) items e1) (I : Nat → PT.Env → Prop) (h0 : I 0 e1)
    (hs : ∀ i y e, items[i]? = some y → I i e → ∃ e2, Ok (asgE C.P tg y e) () e2 ∧ Wp C b e2 (Tn (I (i + 1)) (Kt C c P))) (he : ∀ e, I items.length e → Wp C c e P) : Wp C (.seq (.fors tg it b) c) (o :: e) P := by
  refine w_seq ?_
  show Kt C c P (ex C (.fors tg it b) (o :: e))
  rw [ex_fors, show evI C it (o :: e) = .ok items e1 from hi, st_ok]
  refine w_goFor I h0 (fun i y e hy hI => ?_) he
  obtain ⟨e2, h1, h2⟩ := hs i y e hy hI
  rw [show asgE C.P tg y e = .ok () e2 from h1]
  exact h2
theorem w_whl {n : Nat} {x : E} (I : PT.Env → Nat → Prop) (h0 : I (o :: e) n) (hs : ∀ e m, I e (m + 1) → ∃ d e1, Ok ((ev C x e).bo boolOf) d e1 ∧ (d = true → Wp C b e1 (Tn (fun e => I e m) (Kt C c P))) ∧ (d = false → Wp C c e1 P)) (hz : ∀ e, ¬ I e 0) : Wp C (.seq (.whl n x b) c) (o :: e) P := by
  refine w_seq ?_
  show Kt C c P (ex C (.whl n x b) (o :: e))
  rw [ex_whl]
  generalize o :: e = e0 at h0
  induction n generalizing e0 with
  | zero => exact absurd h0 (hz e0)
  | succ n ih =>
    obtain ⟨d, e1, h1, h2, h3⟩ := hs e0 n h0
    show Kt C c P (R.st ((ev C x e0).bo boolOf) _)
    rw [show (ev C x e0).bo boolOf = .ok d e1 from h1]
    cases d with
    | false =>
      show Kt C c P (if false = true then _ else SR.next e1)
      rw [if_neg (fun z => nomatch z)]
      exact h3 rfl
    | true =>
      show Kt C c P (if true = true then _ else SR.next e1)
      rw [if_pos rfl]
      have h := h2 rfl
      show Kt C c P (SR.turn (ex C b e1) _)
      have h : Tn (fun e => I e n) (Kt C c P) (ex C b e1) := h
      generalize ex C b e1 = r at h
      cases r with
      | next e1 => exact ih e1 h
      | cnt e1 => exact ih e1 h
      | brk e1 => exact h
      | ret t e1 => exact h
      | exc z e1 => exact h
      | fail => exact h.elim
theorem w_rng {tg : Nat} {it : It} {n : Nat} (hi : Ok (evI C it (o :: e)) (rngT 0 n) e1) (I : Nat → PT.Env → Prop) (h0 : I 0 e1)
    (hs : ∀ i e, i < n → I i e → ∃ e2, Ok (asgE C.P (.nm tg) (.int (i : Int)) e) () e2 ∧ Wp C b e2 (Tn (I (i + 1)) (Kt C c P))) (he : ∀ e, I n e → Wp C c e P) : Wp C (.seq (.fors (.nm tg) it b) c) (o :: e) P := by
  refine w_for hi I h0 (fun i y e hy hI => ?_) ?_
  · unfold rngT at hy
    rw [List.getElem?_map] at hy
    cases q : (List.range n)[i]? with
    | none => rw [q] at hy; cases hy
    | some j =>
      rw [q] at hy
      obtain ⟨h1, h2⟩ := List.getElem?_eq_some_iff.mp q
      have hj : i = j := by rw [← h2]; simp
      subst hj
      have e := Option.some.inj hy
      rw [← e]
      simp only [Int.zero_add]
      exact hs i _ (by simpa using h1) hI
  · have : (rngT 0 n).length = n := by unfold rngT; simp
    rw [this]; exact he
/-! ### calls -/
def nLend : E → Bool
  | .lend _ => false
  | _ => true
theorem lends_n {x : E} {r : EL} (h : nLend x = true) : lends (.cons x r) = none :: lends r := by
  cases x <;> first | rfl | cases h
theorem give_none : ∀ {l : List (Option Nat)} (us : List T) (e : PT.Env), (∀ x, x ∈ l → x = none) → give l us e = e
  | [], us, e, _ => by cases us <;> rfl
  | x :: l, [], e, h => by rw [h x List.mem_cons_self]; rfl
  | x :: l, u :: us, e, h => by
    rw [h x List.mem_cons_self]
    exact give_none us e fun y hy => h y (List.mem_cons_of_mem _ hy)
theorem take_none : ∀ {l : List (Option Nat)} {ts : List T} (e : PT.Env), l.length = ts.length → (∀ x, x ∈ l → x = none) → take l ts e = some (ts, e)
  | [], [], e, _, _ => rfl
  | [], _ :: _, e, h, _ => by cases h
  | _ :: _, [], e, h, _ => by cases h
  | x :: l, t :: ts, e, hl, h => by
    rw [h x List.mem_cons_self]
    show (match take l ts e with | some (us, e2) => some (t :: us, e2) | none => none) = _
    rw [take_none e (by simpa using hl) fun y hy => h y (List.mem_cons_of_mem _ hy)]
section
variable {f : Nat} {fi : FnI} {as : EL} {ts us : List T} {r : T} {xa xb xc : E} {ta tb' tc : T}
theorem call_n {a : T} {l : List (Option Nat)} (hl : lends as = l) (hn : ∀ x, x ∈ l → x = none) (hz : l.length = ts.length) (h : evL C as (o :: e) = .ok ts e1) (hd : C.tb.dfl f 0 = some []) (hf : C.φ f ts = .ok a us) : ev C (.call f 0 as) (o :: e) = .ok a e1 := by
  rw [ev_call, h, bind_ok, hl, hd]
  unfold callE
  rw [take_none e1 hz hn]
  simp only [List.append_nil, hf]
  show R.ok a (give l us e1) = _
  rw [give_none us e1 hn]
theorem call1 (hx : nLend xa = true) (h : ev C xa (o :: e) = .ok ta e1) (hd : C.tb.dfl f 0 = some []) (hf : C.φ f [ta] = .ok r us) : ev C (.call f 0 (.cons xa .nil)) (o :: e) = .ok r e1 := by
  refine call_n (l := [none]) (ts := [ta]) ?_ (by simp) rfl ?_ hd hf
  · rw [lends_n hx]; rfl
  · rw [evL_cons, h, bind_ok, evL_nil, bindO_ok, ofO_some]
theorem call2 {o1 : Option T} (hx : nLend xa = true) (hy : nLend xb = true) (h : ev C xa (o :: e) = .ok ta (o1 :: e1)) (h2 : ev C xb (o1 :: e1) = .ok tb' e2) (hd : C.tb.dfl f 0 = some []) (hf : C.φ f [ta, tb'] = .ok r us) : ev C (.call f 0 (.cons xa (.cons xb .nil))) (o :: e) = .ok r e2 := by
  refine call_n (l := [none, none]) (ts := [ta, tb']) ?_ (by simp) rfl ?_ hd hf
  · rw [lends_n hx, lends_n hy]; rfl
  · rw [evL_cons, h, bind_ok, evL_cons, h2, bind_ok, evL_nil, bindO_ok, ofO_some, bindO_ok, ofO_some]
theorem call3 {o1 o2 : Option T} {e3 : PT.Env} (hx : nLend xa = true) (hy : nLend xb = true) (hw : nLend xc = true) (h : ev C xa (o :: e) = .ok ta (o1 :: e1)) (h2 : ev C xb (o1 :: e1) = .ok tb' (o2 :: e2)) (h3 : ev C xc (o2 :: e2) = .ok tc e3) (hd : C.tb.dfl f 0 = some []) (hf : C.φ f [ta, tb', tc] = .ok r us) : ev C (.call f 0 (.cons xa (.cons xb (.cons xc .nil)))) (o :: e) = .ok r e3 := by
  refine call_n (l := [none, none, none]) (ts := [ta, tb', tc]) ?_ (by simp) rfl ?_ hd hf
  · rw [lends_n hx, lends_n hy, lends_n hw]; rfl
  · rw [evL_cons, h, bind_ok, evL_cons, h2, bind_ok, evL_cons, h3, bind_ok, evL_nil, bindO_ok, ofO_some, bindO_ok, ofO_some, bindO_ok, ofO_some]
/-- the first argument is lent -/
theorem call_l {i : Nat} {s s' : T} {l : List (Option Nat)} (hi : (o :: e)[i]? = some (some s)) (hl : lends as = l) (hn : ∀ x, x ∈ l → x = none) (hz : l.length = ts.length) (h : evL C as (o :: e) = .ok ts e1) (hi1 : e1[i]? = some (some s')) {s2 : T} (hd : C.tb.dfl f 0 = some []) (hf : C.φ f (s' :: ts) = .ok r (s2 :: us)) : ev C (.call f 0 (.cons (.lend i) as)) (o :: e) = .ok r (e1.set i (some s2)) := by
  have hle : lendE i (o :: e) = .ok .hole (o :: e) := by unfold lendE; rw [hi]
  rw [ev_call, evL_cons, ev_lend, hle, bind_ok, h, bindO_ok, ofO_some, bind_ok, lends_lend, hl, hd]
  unfold callE
  have ht : take (some i :: l) (.hole :: ts) e1 = some (s' :: ts, e1.set i none) := by
    simp only [take, hi1]
    rw [take_none _ hz hn]
  rw [ht]
  simp only [List.append_nil, hf]
  show R.ok r (give (some i :: l) (s2 :: us) (e1.set i none)) = _
  have hg : give (some i :: l) (s2 :: us) (e1.set i none) = give l us ((e1.set i none).set i (some s2)) := rfl
  rw [hg, give_none us _ hn, List.set_set]
theorem call_l0 {i : Nat} {s s2 : T} (hi : (o :: e)[i]? = some (some s)) (hd : C.tb.dfl f 0 = some []) (hf : C.φ f [s] = .ok r (s2 :: us)) : ev C (.call f 0 (.cons (.lend i) .nil)) (o :: e) = .ok r ((o :: e).set i (some s2)) :=
  call_l (l := []) hi rfl (by simp) rfl evL_nil hi hd hf
theorem call_l1 {i : Nat} {s s' s2 : T} (hi : (o :: e)[i]? = some (some s)) (hx : nLend xa = true) (h : ev C xa (o :: e) = .ok ta e1) (hi1 : e1[i]? = some (some s')) (hd : C.tb.dfl f 0 = some []) (hf : C.φ f [s', ta] = .ok r (s2 :: us)) : ev C (.call f 0 (.cons (.lend i) (.cons xa .nil))) (o :: e) = .ok r (e1.set i (some s2)) := by
  refine call_l (l := [none]) (ts := [ta]) hi ?_ (by simp) rfl ?_ hi1 hd hf
  · rw [lends_n hx]; rfl
  · rw [evL_cons, h, bind_ok, evL_nil, bindO_ok, ofO_some]
theorem call_l2 {i : Nat} {s s' s2 : T} {o1 : Option T} (hi : (o :: e)[i]? = some (some s)) (hx : nLend xa = true) (hy : nLend xb = true) (h : ev C xa (o :: e) = .ok ta (o1 :: e1)) (h2 : ev C xb (o1 :: e1) = .ok tb' e2) (hi1 : e2[i]? = some (some s')) (hd : C.tb.dfl f 0 = some []) (hf : C.φ f [s', ta, tb'] = .ok r (s2 :: us)) : ev C (.call f 0 (.cons (.lend i) (.cons xa (.cons xb .nil)))) (o :: e) = .ok r (e2.set i (some s2)) := by
  refine call_l (l := [none, none]) (ts := [ta, tb']) hi ?_ (by simp) rfl ?_ hi1 hd hf
  · rw [lends_n hx, lends_n hy]; rfl
  · rw [evL_cons, h, bind_ok, evL_cons, h2, bind_ok, evL_nil, bindO_ok, ofO_some, bindO_ok, ofO_some]
end
/-! ### comprehensions: J holds of the environment between two turns -/
theorem lc_w {own : List Nat} {f : T → PT.Env → R (Option T)} {g : T → Option T} {J : PT.Env → Prop} : ∀ {items acc : List T} {e : PT.Env}, J e → (∀ x e, x ∈ items → J e → ∃ e1, f x e = .ok (g x) e1 ∧ J (wipeE e1 own)) → acc.length + items.length ≤ 16777216 → ∃ e', lcGo own f items acc e = .ok (acc ++ items.filterMap g) e' ∧ J e'
  | [], acc, e, h0, _, _ => ⟨e, by simp [lcGo], h0⟩
  | x :: xs, acc, e, h0, h, hz => by
    obtain ⟨e1, h1, h2⟩ := h x e List.mem_cons_self h0
    have hl : acc.length + (xs.length + 1) ≤ 16777216 := by simpa using hz
    cases q : g x with
    | none =>
      obtain ⟨e', r1, r2⟩ := lc_w (acc := acc) h2 (fun y e hy => h y e (List.mem_cons_of_mem _ hy)) (by omega)
      refine ⟨e', ?_, r2⟩
      show lcStep own acc (fun acc e => lcGo own f xs acc e) (f x e) = _
      rw [h1, q, List.filterMap_cons_none q]
      exact r1
    | some t =>
      obtain ⟨e', r1, r2⟩ := lc_w (acc := acc ++ [t]) h2 (fun y e hy => h y e (List.mem_cons_of_mem _ hy)) (by simp; omega)
      refine ⟨e', ?_, r2⟩
      show lcStep own acc (fun acc e => lcGo own f xs acc e) (f x e) = _
      rw [h1, q, List.filterMap_cons_some q]
      show (if decide (acc.length < sizeLine) = true then _ else R.fail) = _
      rw [if_pos (decide_eq_true (by rw [PySem.sizeLine_eq]; omega)), r1]
      simp
end PTw

/-! PtHd: what the head tells, for the table. -/
namespace PtHd
open PySem PySem.Spec PyProof.Rows L2 PT
open He (ba ga fAd)
/-! ### exception classes -/
def eqB (a b : Option (Option Value)) : Bool := decide (a = b)
def excCB (K : PySem.W.Frag) (D : Addr) : Bool :=
  eqB (PySem.W.findIn K (.ref D) "__getattribute__") (some (some (.builtin "BaseException.__getattribute__"))) && (eqB (PySem.W.findIn K (.ref D) "__getattr__") (some none) && (decide (PySem.W.subIn K (.ref D) (.type "BaseException") = some true) && (PySem.W.hasDictIn K D &&
  (eqB (PySem.W.findIn K (.ref D) "__class__") (some (some (.builtin "object.__class__"))) && (eqB (PySem.W.specialIn K (.builtin "object.__class__") "__get__") (some (some (.builtin "getset_descriptor.__get__"))) && (decide (PySem.W.takesIn K (.builtin "object.__class__") = some true) &&
  decide (PySem.W.mroIn K D (.type "object") = some true)))))))
theorem excCB_ok {K : PySem.W.Frag} {D : Addr} (h : excCB K D = true) : ExcC K D := by
  obtain ⟨h1, h⟩ := ba h
  obtain ⟨h2, h⟩ := ba h
  obtain ⟨h3, h⟩ := ba h
  obtain ⟨h4, h⟩ := ba h
  obtain ⟨h5, h⟩ := ba h
  obtain ⟨h6, h⟩ := ba h
  obtain ⟨h7, h8⟩ := ba h
  exact ⟨of_decide_eq_true h1, of_decide_eq_true h2, of_decide_eq_true h3, h4, of_decide_eq_true h5, of_decide_eq_true h6, of_decide_eq_true h7, of_decide_eq_true h8⟩
def slB : List (Option Value) → Bool
  | [_, _, _, _, some (.builtin b), _] => decide (b = "ValueError.__new__")
  | _ => false
def mroB (C : Addr) : List Value → Bool
  | .ref c :: bm => decide (c = C) && PySem.HandSPX.refsVE bm
  | _ => false
def oexO (C : Addr) : Option Obj → Bool
  | some ⟨.type t, _, .cls cd, sl⟩ => decide (t = "type") && (mroB C cd.mro && (cd.hasDict && (!cd.hasDel && slB sl.toList)))
  | _ => false
def oexB (K : PySem.W.Frag) (C : Addr) : Bool := oexO C (K.lookup C) && (eqB (PySem.W.findIn K (.ref C) "__setattr__") (some (some (.builtin "object.__setattr__"))) && (decide (PySem.W.subIn K (.ref C) (.type "BaseException") = some true) && (decide (PySem.W.typeIn K (.ref C) = some (.type "type")) && PySem.W.keepIn K (.ref C))))
theorem slB_ok {l : List (Option Value)} (h : slB l = true) : ∃ k0 k1 k2 k3 k5, l = [k0, k1, k2, k3, some (.builtin "ValueError.__new__"), k5] := by
  unfold slB at h
  split at h
  · rename_i a b c d e f
    rw [of_decide_eq_true h]
    exact ⟨_, _, _, _, _, rfl⟩
  · cases h
theorem mroB_ok {C : Addr} {l : List Value} (h : mroB C l = true) : ∃ bm, l = .ref C :: bm ∧ PySem.HandSPX.refsVE bm = true := by
  unfold mroB at h
  split at h
  · rename_i c bm
    obtain ⟨h1, h2⟩ := ba h
    rw [of_decide_eq_true h1]
    exact ⟨bm, rfl, h2⟩
  · cases h
theorem oexB_ok {K : PySem.W.Frag} {C : Addr} (h : oexB K C = true) : OexC K C := by
  obtain ⟨h1, h⟩ := ba h
  obtain ⟨h2, h⟩ := ba h
  obtain ⟨h3, h⟩ := ba h
  obtain ⟨h4, h5⟩ := ba h
  refine ⟨?_, of_decide_eq_true h2, of_decide_eq_true h3, of_decide_eq_true h4, h5⟩
  cases q : K.lookup C with
  | none => rw [q] at h1; cases h1
  | some o =>
    rw [q] at h1
    unfold oexO at h1
    split at h1
    · rename_i t od cd sl e
      cases e
      obtain ⟨g1, h1⟩ := ba h1
      obtain ⟨g2, h1⟩ := ba h1
      obtain ⟨g3, h1⟩ := ba h1
      obtain ⟨g4, g5⟩ := ba h1
      obtain ⟨bm, e1, e2⟩ := mroB_ok g2
      obtain ⟨k0, k1, k2, k3, k5, e3⟩ := slB_ok g5
      have et := of_decide_eq_true g1
      obtain ⟨nm, bs, mro, ns, qn, hd, sn, sb, ab, co, hl⟩ := cd
      simp only at e1 g3 g4
      have g4 : hl = false := by simpa using g4
      subst et e1 g3 g4
      have es : sl = #[k0, k1, k2, k3, some (.builtin "ValueError.__new__"), k5] := by rw [← e3]
      subst es
      exact ⟨nm, qn, ns, bs, bm, sn, sb, ab, co, od, k0, k1, k2, k3, k5, rfl, e2⟩
    · cases h1
/-- the class x of one field f: raised with it -/
def xc1B (K : PySem.W.Frag) (x : Str) : Bool := oexB K (ga K x) && (eqB (PySem.W.findIn K (.ref (ga K x)) "__init__") (some (some (.ref (fAd K (x, some "__init__"))))) && decide (PySem.W.typeIn K (.ref (fAd K (x, some "__init__"))) = some (.type "function")))
/-! ### what a table's names stand for -/
def glB (K : PySem.W.Frag) (p : Str × T) : Bool := match PySem.W.nsIn K mainGlobals p.1, p.2 with
  | some (some (.int j _)), .int i => decide (j = i)
  | some (some (.str y _)), .str z => decide (y = z)
  | some (some (.bool y)), .bl z => decide (y = z)
  | some (some .none), .non => true
  | _, _ => false
/-- a tuple of the module: its items flat -/
def flV : T → Value → Bool
  | .int i, .int j _ => decide (i = j)
  | .str i, .str j _ => decide (i = j)
  | .bl i, .bool j => decide (i = j)
  | .non, .none => true
  | _, _ => false
def flL : List T → List Value → Bool
  | [], [] => true
  | t :: ts, v :: vs => flV t v && flL ts vs
  | _, _ => false
def seqB (K : PySem.W.Frag) (p : Str × T) : Bool := match PySem.W.nsIn K mainGlobals p.1, p.2 with
  | some (some (.ref a)), .node false .tup ts => (match K.lookup a with
    | some ⟨.type c, _, .seq its _, _⟩ => decide (c = "tuple") && (decide (its.size ≤ sizeLine) && flL ts its.toList)
    | _ => false)
  | some (some (.ref a)), .node false .klst ts => (match K.lookup a with
    | some ⟨.type c, none, .seq its _, _⟩ => decide (c = "list") && (decide (its.size ≤ sizeLine) && flL ts its.toList)
    | _ => false)
  | _, _ => false
theorem flV_ok {K : PySem.W.Frag} {t : T} {u : Value} (h : flV t u = true) : ∃ v, RelV v u ∧ frz t = t ∧ ∀ H Z, Rep K H Z t v [] := by
  cases t <;> cases u <;> first | (cases h; done) | skip
  · exact ⟨.non, rfl, rfl, fun _ _ => .non⟩
  · have := of_decide_eq_true h
    subst this
    exact ⟨.bl _, rfl, rfl, fun _ _ => .bl _⟩
  · have := of_decide_eq_true h
    subst this
    exact ⟨.int _, ⟨_, rfl⟩, rfl, fun _ _ => .int _⟩
  · have := of_decide_eq_true h
    subst this
    exact ⟨.str _, ⟨_, rfl⟩, rfl, fun _ _ => .str _⟩
theorem flL_ok {K : PySem.W.Frag} : ∀ {ts : List T} {us : List Value}, flL ts us = true → ∃ vs, Vals vs us ∧ frzL ts = ts ∧ ∀ H Z, RepL K H Z ts vs []
  | [], [], _ => ⟨[], .nil, rfl, fun _ _ => .nil⟩
  | [], _ :: _, h => by cases h
  | _ :: _, [], h => by cases h
  | t :: ts, u :: us, h => by
    obtain ⟨h1, h2⟩ := ba h
    obtain ⟨v, r1, f1, p1⟩ := flV_ok (K := K) h1
    obtain ⟨vs, r2, f2, p2⟩ := flL_ok (K := K) h2
    refine ⟨v :: vs, .cons r1 r2, by show frz t :: frzL ts = _; rw [f1, f2], fun H Z => ?_⟩
    have := RepL.cons t v [] ts vs [] (p1 H Z) (p2 H Z) (fun _ z => absurd z (by simp))
    simpa using this
section
variable {K : PySem.W.Frag} {h : Heap} {mg : Str → Option Value}
theorem glB_ok (X : K.In h) (G : h.Ns mainGlobals mg) {p : Str × T} (c : glB K p = true) : ∃ v u, mg p.1 = some u ∧ RelV v u ∧ ∀ H Z, Rep K H Z (frz p.2) v [] := by
  unfold glB at c
  split at c
  · rename_i j t i e1 e2
    have := of_decide_eq_true c
    subst this
    rw [e2]
    exact ⟨.int j, _, PySem.W.mg_of X G e1, ⟨_, rfl⟩, fun _ _ => .int j⟩
  · rename_i j t i e1 e2
    have := of_decide_eq_true c
    subst this
    rw [e2]
    exact ⟨.str j, _, PySem.W.mg_of X G e1, ⟨_, rfl⟩, fun _ _ => .str j⟩
  · rename_i j i e1 e2
    have := of_decide_eq_true c
    subst this
    rw [e2]
    exact ⟨.bl j, _, PySem.W.mg_of X G e1, rfl, fun _ _ => .bl j⟩
  · rename_i e1 e2
    rw [e2]
    exact ⟨.non, _, PySem.W.mg_of X G e1, rfl, fun _ _ => .non⟩
  · cases c
theorem seqB_ok (X : K.In h) (G : h.Ns mainGlobals mg) {p : Str × T} (c : seqB K p = true) : ∃ v u, mg p.1 = some u ∧ RelV v u ∧ ∀ H Z, Rep K H Z (frz p.2) v [] := by
  unfold seqB at c
  split at c
  · rename_i a ts e1 e2
    split at c
    · rename_i cl od its n sl e3
      obtain ⟨c1, c⟩ := ba c
      obtain ⟨c2, c3⟩ := ba c
      obtain ⟨vs, r, f, pl⟩ := flL_ok (K := K) c3
      have := of_decide_eq_true c1
      subst this
      refine ⟨.ref a, _, PySem.W.mg_of X G e1, rfl, fun H Z => ?_⟩
      rw [e2]
      simp only [frz]
      rw [f]
      exact .shr .tup ts a vs (.inr ⟨_, its, n, e3, rfl, rfl, of_decide_eq_true c2, r⟩) (pl H Z)
    · cases c
  · rename_i a ts e1 e2
    split at c
    · rename_i cl its n sl e3
      obtain ⟨c1, c⟩ := ba c
      obtain ⟨c2, c3⟩ := ba c
      obtain ⟨vs, r, f, pl⟩ := flL_ok (K := K) c3
      have := of_decide_eq_true c1
      subst this
      refine ⟨.ref a, _, PySem.W.mg_of X G e1, rfl, fun H Z => ?_⟩
      rw [e2]
      simp only [frz]
      rw [f]
      exact .shr .klst ts a vs (.inr ⟨_, its, n, e3, rfl, rfl, rfl, of_decide_eq_true c2, r⟩) (pl H Z)
    · cases c
  · cases c
end
/-! ### the end of a law by its table -/
/-- what the head gives of the table -/
structure Facts (P : Program) (tb : Tb) (D : Nat → Dh) (M : Nat) (w : World) (K : PySem.W.Frag) (mg : Str → Option Value) : Prop where
  pr : ∀ base, Pr P w K mg base tb
  at_ : ∀ g gi, tb.fn g = some gi → ∃ a fd, DefAt K mg tb D g gi a fd
  hand : ∀ base g gi h a fd, tb.fn g = some gi → D g = .hd h → DefAt K mg tb D g gi a fd → (∀ g2 gi2, tb.fn g2 = some gi2 → gi2.lv ≤ gi.lv - 1 → ∃ a fd, CalK P w K mg base (Phi tb D M) g2 gi2 a fd) → FnOk P w K mg base (L2.CX P w) gi.lv a fd gi.ps (spF K mg gi.ps.length (h (Phi tb D M)))
theorem script_rep {K : PySem.W.Frag} {H : Hp} {a : Addr} {ns : List Int} (h : SqL K H a (ns.map V.int)) : ∃ Z, RepL K H Z [.node false .klst (ns.map T.int)] [.ref a] [] ∧ Okk H Z [] := by
  have itsR : ∀ (Z : Addr → Prop) (ns : List Int), RepL K H Z (ns.map T.int) (ns.map V.int) [] := fun Z ns => by
    induction ns with
    | nil => exact .nil
    | cons i ns ih =>
      have := RepL.cons (.int i) (.int i) [] _ _ [] (.int i) ih Dj.nilL
      simpa using this
  have one : ∀ {Z : Addr → Prop}, Shr K H Z a .klst (ns.map V.int) → RepL K H Z [.node false .klst (ns.map T.int)] [.ref a] [] := fun {Z} s => by
    have := RepL.cons (.node false .klst (ns.map T.int)) (.ref a) [] [] [] [] (.shr .klst _ a _ s (itsR Z ns)) .nil Dj.nilL
    simpa using this
  rcases h with h | ⟨o, its, n, h1, h2, h3, h4, h5, h6⟩
  · refine ⟨fun b => b = a, one (.inl ⟨rfl, _, rfl, ?_⟩), fun _ z => absurd z (by simp), fun b hb => ?_⟩
    · rcases h with h | ⟨ob, h⟩
      · exact .inl h
      · exact .inr ⟨(fun z => nomatch z), ob, h⟩
    · subst hb
      rcases h with h | ⟨ob, h⟩ <;> rw [h] <;> rfl
  · exact ⟨fun _ => False, one (.inr ⟨o, its, n, h1, h2, h3, h4, h5, h6⟩), fun _ z => absurd z (by simp), fun _ z => z.elim⟩
theorem walk_tb {l : PySem.W.OpenLaw} {n lv M gL : Nat} {q : Program} {loose : List Str} {XP : (Str → Option Value) → Heap → Prop} {YP : World → Heap → Prop} {d : DefRec} {tb : Tb} {D : Nat → Dh} {dL : Df}
    (hn : l.most = some n) (hn2 : n ≤ sizeLine) (hdf : d.params.defaults = []) (hr : Room lv callerA) (hD : ∀ f, (D f).Mono) (hlv : ∀ g gi, tb.fn g = some gi → 0 < gi.lv)
    (hL : tb.fn gL = some ⟨d.name, ["script"], lv, [[]]⟩) (hDL : D gL = .df dL)
    (F : ∀ (w : World) (mg : Str → Option Value) (h : Heap), YP w h → h.Ns mainGlobals mg → ∃ K : PySem.W.Frag, K.In h ∧ Facts l.prog tb D M w K mg ∧ ∃ a fd, DefAt K mg tb D gL ⟨d.name, ["script"], lv, [[]]⟩ a fd ∧ ∀ (s : Shared) (u : Value), BindsTo s fd ⟨[u], []⟩ [("script", u)])
    (hT : ∀ ns : List Int, ns.length ≤ n → (∀ z ∈ ns, Builtin.Int.intBits z ≤ 1048576) → ∃ us, Phi tb D M gL [.node false .klst (ns.map T.int)] = .ok (.bl true) us) :
    PySem.W.WalkO q loose XP YP l.row.toRowW d [] (fun f vs => PySem.call f vs) := by
  refine LamX.walk_ofTsE (k := lv) (x := "script") (CX := fun w => L2.CX l.prog w) hn hn2 hdf hr ?_ ?_
  · intro w mg fa h Y G hmg
    obtain ⟨K, KX, fc, a, fd, q, hb⟩ := F w mg h Y G
    have ea : a = fa := by
      have := q.mg.symm.trans hmg
      exact Value.ref.inj (Option.some.inj this)
    subst ea
    refine ⟨K, KX, fd, [], spF K mg 1 (Phi tb D M gL), fun _ z => absurd z (by simp), fun _ z => absurd z (by simp), fun _ z => absurd z (by simp), hb, fun H a ns h1 h2 _ hS => ?_, fun base _ _ _ => ?_⟩
    · obtain ⟨Z, rl, ok⟩ := script_rep hS
      obtain ⟨us, e⟩ := hT ns h1 h2
      refine ⟨rfl, _, Z, [], rl, ok, ?_⟩
      rw [e]
      intro v H' Z' F' Ft _ r _ _ _
      cases r
      rfl
    · obtain ⟨x, qual, params, body, scope, dvs, kws, N, F, S, h1, h2, h3, h4⟩ := q.tx dL hDL
      have e : lv = (lv - 1) + 1 := by have : 3 ≤ lv := h3; omega
      rw [e]
      refine fn_ok F S (fc.pr base) (fun g gi g1 g2 => all_ok hD (fc.pr base) hlv fc.at_ (fc.hand base) _ g gi g1 g2) (by have : 3 ≤ lv := h3; omega) h1 h2 h4 fun ts => ?_
      rcases Phi_mono hD M gL ts with z | z
      · exact .inl z
      · rw [Phi_s, hDL] at z; exact .inr z.symm
  · intro w H s e s' h
    obtain ⟨_, _, _, _, _, _, _, _, _, _, _, _, z⟩ := h
    exact z
theorem same_fd {K : PySem.W.Frag} {mg : Str → Option Value} {tb : Tb} {D : Nat → Dh} {g : Nat} {gi : FnI} {a : Addr} {fd fd' : FuncData} {x qual : Str} {params : Arguments} {body : List Stmt} {scope : Scope} {dvs : List V} {kws : List (Str × V)} (q : DefAt K mg tb D g gi a fd) (F : FunD K x qual params body scope dvs kws a fd') : fd = fd' := by
  obtain ⟨o, h1, h2⟩ := q.lk
  obtain ⟨_, _, _, _, _, _, _, _, _, _, _, h, _⟩ := F.ex
  rw [h] at h1
  cases h1
  exact (Data.func.inj h2).symm
/-- a def without defaults, as the head has it -/
theorem at_plain {K : PySem.W.Frag} {mg : Str → Option Value} {tb : Tb} {D : Nat → Dh} {g : Nat} {gi : FnI} {a : Addr} {fd : FuncData} {x qual : Str} {params : Arguments} {body : List Stmt} {scope : Scope} {N : List Str} {d : Df} (F : FunD K x qual params body scope [] [] a fd) (m : mg gi.nm = some (.ref a)) (hds : gi.ds = [[]])
    (hb : ∀ (kV doc pm : Value) (an : Option Addr) (cdv ct : Value) (us : List Value), us.length = gi.ps.length → bindArgs (PySem.W.fnOf x qual params body scope .none kV doc pm an cdv ct) ⟨us, []⟩ = pure (gi.ps.zip us))
    (hd : D g = .df d) (S : FnScope N gi.ps scope) (h1 : d.np = gi.ps.length) (h2 : d.n = N.length) (h3 : 3 ≤ gi.lv) (h4 : mB tb N (gi.lv - 1) scope d.b body = true) : DefAt K mg tb D g gi a fd where
  mg := m
  kp := F.kp
  lk := (let ⟨_, _, _, _, _, _, _, _, _, _, _, h, _⟩ := F.ex; ⟨_, h, rfl⟩)
  bd := fun i ds h => by
    rw [hds] at h
    cases i with
    | zero => cases h; exact ⟨[], [], F.bindsN hb, .nil, fun _ _ => .nil⟩
    | succ i => simp at h
  tx := fun d' e => by
    rw [hd] at e
    cases e
    exact ⟨x, qual, params, body, scope, [], [], N, F, S, h1, h2, h3, h4⟩
  no := by rw [hd]; exact fun z => nomatch z
/-- the same of a def by hand -/
theorem at_hand {K : PySem.W.Frag} {mg : Str → Option Value} {tb : Tb} {D : Nat → Dh} {g : Nat} {gi : FnI} {a : Addr} {fd : FuncData} {x qual : Str} {params : Arguments} {body : List Stmt} {scope : Scope} {h : (Nat → List T → FR) → List T → FR} (F : FunD K x qual params body scope [] [] a fd) (m : mg gi.nm = some (.ref a)) (hds : gi.ds = [[]])
    (hb : ∀ (kV doc pm : Value) (an : Option Addr) (cdv ct : Value) (us : List Value), us.length = gi.ps.length → bindArgs (PySem.W.fnOf x qual params body scope .none kV doc pm an cdv ct) ⟨us, []⟩ = pure (gi.ps.zip us))
    (hd : D g = .hd h) : DefAt K mg tb D g gi a fd where
  mg := m
  kp := F.kp
  lk := (let ⟨_, _, _, _, _, _, _, _, _, _, _, h, _⟩ := F.ex; ⟨_, h, rfl⟩)
  bd := fun i ds h => by
    rw [hds] at h
    cases i with
    | zero => cases h; exact ⟨[], [], F.bindsN hb, .nil, fun _ _ => .nil⟩
    | succ i => simp at h
  tx := fun d' e => by rw [hd] at e; cases e
  no := by rw [hd]; exact fun z => nomatch z
theorem fail_fn {P : Program} {w : World} {K : PySem.W.Frag} {mg : Str → Option Value} {base : Heap} {CT : CXT} {k n : Nat} {a : Addr} {fd : FuncData} {ps : List Str} (hn : n = ps.length) : FnOk P w K mg base CT k a fd ps (spF K mg n (fun _ => .fail)) where
  len := fun vs H Q E h => by rw [← hn]; exact h.1
  run := fun A outer s H args us vs Q E _ _ _ _ h => by obtain ⟨_, ts, Z, F, _, _, z⟩ := h; exact z.elim
end PtHd

/-! LwSame: _law_same, whatever the table. -/
namespace Lw
open PySem PT PTy PTw
open L2 (atI ixN)
def okV : T → Bool
  | .hole => false
  | .node _ (.dtu _) _ => false
  | _ => true
def isNon : T → Bool
  | .non => true
  | _ => false
variable {tb : Tb}
mutual
/-- plain data, all shared -/
def plT : T → Bool
  | .non => true
  | .bl _ => true
  | .int _ => true
  | .str _ => true
  | .node false .lst ts => plL ts
  | .node false .klst ts => plL ts
  | .node false .tup ts => plL ts
  | _ => false
def plL : List T → Bool
  | [] => true
  | t :: ts => plT t && plL ts
end
mutual
def sameT : T → T → Bool
  | a, .node _ .tup bs => (match a with
    | .node _ .tup as => sameL as bs
    | _ => false)
  | a, .node _ .lst bs => (match a with
    | .node _ .lst as => sameL as bs
    | .node _ .klst as => sameL as bs
    | _ => false)
  | a, .node _ .klst bs => (match a with
    | .node _ .lst as => sameL as bs
    | .node _ .klst as => sameL as bs
    | _ => false)
  | a, .bl y => (match a with
    | .bl x => x == y
    | _ => false)
  | a, .int y => (match a with
    | .int x => decide (x = y)
    | _ => false)
  | a, .str y => (match a with
    | .str x => decide (x = y)
    | _ => false)
  | a, .non => (match a with
    | .non => true
    | _ => false)
  | _, _ => false
def sameL : List T → List T → Bool
  | [], [] => true
  | a :: as, b :: bs => sameT a b && sameL as bs
  | _, _ => false
end
mutual
def szT : T → Nat
  | .node _ _ ts => szL ts + 1
  | _ => 1
def szL : List T → Nat
  | [] => 0
  | t :: ts => szT t + szL ts
end
def pr1 (p : T × T) : T := .node false .tup [p.1, p.2]
def prs (st : List (T × T)) : List T := st.map pr1
abbrev envS (ac du : T) (st : List (T × T)) (o3 o4 o5 : Option T) : PT.Env := [some ac, some du, some (.node true .lst (prs st)), o3, o4, o5, none]
theorem prs_app (st : List (T × T)) (p : T × T) : prs (st ++ [p]) = prs st ++ [pr1 p] := by unfold prs; simp
theorem pop_run (C : Cf) (ac du : T) (st : List (T × T)) (p : T × T) (o3 o4 o5 : Option T) : ev C (.pop 2) (envS ac du (st ++ [p]) o3 o4 o5) = .ok (pr1 p) (envS ac du st o3 o4 o5) := by
  rw [ev_pop]
  unfold envS
  rw [prs_app]
  simp
theorem asg_run (C : Cf) (hP : C.P = [false, false]) (ac du a b : T) (st : List (T × T)) (o3 o4 o5 : Option T) : asgE C.P (.tp (.cons (.nm 4) (.cons (.nm 5) .nil))) (pr1 (a, b)) (envS ac du st o3 o4 o5) = .ok () (envS ac du st o3 (some a) (some b)) := by
  rw [hP]
  rfl
theorem len_ro (φ : Nat → List T → FR) (ac du : T) (st : List (T × T)) (o3 o4 o5 : Option T) : ev ⟨φ, tb, [false, false]⟩ (.ro [false, false, true] (.cmp .eq (.bi .len (.cons (.var 2) .nil)) (.int 0))) (envS ac du st o3 o4 o5) = .ok (.bl (decide (st.length = 0))) (envS ac du st o3 o4 o5) := by
  have hl : (prs st).length = st.length := by unfold prs; simp
  by_cases h : st = []
  · subst h
    simp [prs]
  · have h2 : ¬ st.length = 0 := fun z => h (List.length_eq_zero_iff.mp z)
    simp [hl, h2]
abbrev cmpB : S := (.ifs (.or (.isi (.var 5) .tuple) (.isi (.var 5) .list)) (.seq (.ifs (.or (.cmp .ne (.isi (.var 5) .tuple) (.isi (.var 4) .tuple)) (.cmp .ne (.isi (.var 5) .list) (.isi (.var 4) .list))) (.seq (.ret (.bl false)) .nop) .nop) (.seq (.ifs (.cmp .ne (.bi .len (.cons (.var 4) .nil)) (.bi .len (.cons (.var 5) .nil))) (.seq (.ret (.bl false)) .nop) .nop) (.seq (.ext 2 (.lc [6] (.nm 6) (.rng1 (.bi .len (.cons (.var 5) .nil))) .none (.tup (.cons (.ix (.var 4) (.var 6)) (.cons (.ix (.var 5) (.var 6)) .nil))))) .nop))) (.seq (.ifs (.isi (.var 5) .bool) (.seq (.ifs (.or (.not (.isi (.var 4) .bool)) (.cmp .ne (.var 4) (.var 5))) (.seq (.ret (.bl false)) .nop) .nop) .nop) (.seq (.ifs (.isi (.var 5) .int) (.seq (.ifs (.or (.not (.isi (.var 4) .int)) (.or (.isi (.var 4) .bool) (.cmp .ne (.var 4) (.var 5)))) (.seq (.ret (.bl false)) .nop) .nop) .nop) (.seq (.ifs (.isi (.var 5) .str) (.seq (.ifs (.or (.not (.isi (.var 4) .str)) (.cmp .ne (.var 4) (.var 5))) (.seq (.ret (.bl false)) .nop) .nop) .nop) (.seq (.ifs (.cmp .notn (.var 4) .non) (.seq (.ret (.bl false)) .nop) .nop) .nop)) .nop)) .nop)) .nop))
abbrev sameB : S := (.seq (.ifs (.ro [false, false, true] (.cmp .eq (.bi .len (.cons (.var 2) .nil)) (.int 0))) (.seq (.ret (.bl true)) .nop) .nop) (.seq (.asg (.tp (.cons (.nm 4) (.cons (.nm 5) .nil))) (.pop 2)) (.seq (.ifs (.or (.isi (.var 5) .tuple) (.isi (.var 5) .list)) (.seq (.ifs (.or (.cmp .ne (.isi (.var 5) .tuple) (.isi (.var 4) .tuple)) (.cmp .ne (.isi (.var 5) .list) (.isi (.var 4) .list))) (.seq (.ret (.bl false)) .nop) .nop) (.seq (.ifs (.cmp .ne (.bi .len (.cons (.var 4) .nil)) (.bi .len (.cons (.var 5) .nil))) (.seq (.ret (.bl false)) .nop) .nop) (.seq (.ext 2 (.lc [6] (.nm 6) (.rng1 (.bi .len (.cons (.var 5) .nil))) .none (.tup (.cons (.ix (.var 4) (.var 6)) (.cons (.ix (.var 5) (.var 6)) .nil))))) .nop))) (.seq (.ifs (.isi (.var 5) .bool) (.seq (.ifs (.or (.not (.isi (.var 4) .bool)) (.cmp .ne (.var 4) (.var 5))) (.seq (.ret (.bl false)) .nop) .nop) .nop) (.seq (.ifs (.isi (.var 5) .int) (.seq (.ifs (.or (.not (.isi (.var 4) .int)) (.or (.isi (.var 4) .bool) (.cmp .ne (.var 4) (.var 5)))) (.seq (.ret (.bl false)) .nop) .nop) .nop) (.seq (.ifs (.isi (.var 5) .str) (.seq (.ifs (.or (.not (.isi (.var 4) .str)) (.cmp .ne (.var 4) (.var 5))) (.seq (.ret (.bl false)) .nop) .nop) .nop) (.seq (.ifs (.cmp .notn (.var 4) .non) (.seq (.ret (.bl false)) .nop) .nop) .nop)) .nop)) .nop)) .nop)) .nop)))
def leafT : T → Bool
  | .bl _ => true
  | .int _ => true
  | .str _ => true
  | .non => true
  | _ => false
mutual
theorem pl_frz : ∀ t : T, plT t = true → frz t = t
  | .non, _ => rfl
  | .bl _, _ => rfl
  | .int _, _ => rfl
  | .str _, _ => rfl
  | .hole, _ => rfl
  | .node false .lst ts, h => by rw [frz_node, pl_frzL ts (by simpa [plT] using h)]
  | .node false .klst ts, h => by rw [frz_node, pl_frzL ts (by simpa [plT] using h)]
  | .node false .tup ts, h => by rw [frz_node, pl_frzL ts (by simpa [plT] using h)]
  | .node true k ts, h => by cases k <;> simp [plT] at h
  | .node false (.dic _) ts, h => by simp [plT] at h
  | .node false (.dtu _) ts, h => by simp [plT] at h
theorem pl_frzL : ∀ ts : List T, plL ts = true → frzL ts = ts
  | [], _ => rfl
  | t :: ts, h => by
    simp only [plL, Bool.and_eq_true] at h
    rw [frzL_cons, pl_frz t h.1, pl_frzL ts h.2]
end
/-- a pair whose due side is no list and no tuple -/
theorem leaf_run (φ : Nat → List T → FR) (ac du a b : T) (st : List (T × T)) (o3 : Option T) (ha : plT a = true) (hb : leafT b = true) :
    ex ⟨φ, tb, [false, false]⟩ cmpB (envS ac du st o3 (some a) (some b)) = if sameT a b = true then .next (envS ac du st o3 (some a) (some b)) else .ret (.bl false) (envS ac du st o3 (some a) (some b)) := by
  have fr : frz a = a := pl_frz a ha
  have nn : ∀ {x : T}, okV x = true → cmpT .notn x .non = some (!isNon x) := fun {x} h => by cases x <;> first | rfl | cases h
  have ok : okV a = true := by
    cases a with
    | hole => cases ha
    | node o k ts => cases o <;> cases k <;> first | rfl | (simp [plT] at ha; done)
    | _ => rfl
  cases b with
  | hole => cases hb
  | node o k ts => cases hb
  | non =>
    have := nn ok
    cases a <;> first | (cases ha; done) | (simp [isiT, sameT, this, isNon, fr] at this ⊢; try simp [this, isNon])
  | bl y =>
    cases a with
    | hole => cases ha
    | node o k ts => cases o <;> cases k <;> first | (simp [plT] at ha; done) | (simp [isiT, sameT]; exact pl_frzL ts (by simpa [plT] using ha))
    | bl x => by_cases h : x = y <;> simp [isiT, sameT, h]
    | int x => simp [isiT, sameT]
    | str x => simp [isiT, sameT]
    | non => simp [isiT, sameT]
  | int y =>
    cases a with
    | hole => cases ha
    | node o k ts => cases o <;> cases k <;> first | (simp [plT] at ha; done) | (simp [isiT, sameT]; exact pl_frzL ts (by simpa [plT] using ha))
    | bl x => simp [isiT, sameT]
    | int x => by_cases h : x = y <;> simp [isiT, sameT, h]
    | str x => simp [isiT, sameT]
    | non => simp [isiT, sameT]
  | str y =>
    cases a with
    | hole => cases ha
    | node o k ts => cases o <;> cases k <;> first | (simp [plT] at ha; done) | (simp [isiT, sameT]; exact pl_frzL ts (by simpa [plT] using ha))
    | bl x => simp [isiT, sameT]
    | int x => simp [isiT, sameT]
    | str x => by_cases h : x = y <;> simp [isiT, sameT, h]
    | non => simp [isiT, sameT]
def sameS (N : Int) : S := (.seq (.asg (.nm 2) (.lst (.cons (.tup (.cons (.var 0) (.cons (.var 1) .nil))) .nil))) (.seq (.fors (.nm 3) (.rng1 (.int N)) (.seq (.ifs (.ro [false, false, true] (.cmp .eq (.bi .len (.cons (.var 2) .nil)) (.int 0))) (.seq (.ret (.bl true)) .nop) .nop) (.seq (.asg (.tp (.cons (.nm 4) (.cons (.nm 5) .nil))) (.pop 2)) (.seq (.ifs (.or (.isi (.var 5) .tuple) (.isi (.var 5) .list)) (.seq (.ifs (.or (.cmp .ne (.isi (.var 5) .tuple) (.isi (.var 4) .tuple)) (.cmp .ne (.isi (.var 5) .list) (.isi (.var 4) .list))) (.seq (.ret (.bl false)) .nop) .nop) (.seq (.ifs (.cmp .ne (.bi .len (.cons (.var 4) .nil)) (.bi .len (.cons (.var 5) .nil))) (.seq (.ret (.bl false)) .nop) .nop) (.seq (.ext 2 (.lc [6] (.nm 6) (.rng1 (.bi .len (.cons (.var 5) .nil))) .none (.tup (.cons (.ix (.var 4) (.var 6)) (.cons (.ix (.var 5) (.var 6)) .nil))))) .nop))) (.seq (.ifs (.isi (.var 5) .bool) (.seq (.ifs (.or (.not (.isi (.var 4) .bool)) (.cmp .ne (.var 4) (.var 5))) (.seq (.ret (.bl false)) .nop) .nop) .nop) (.seq (.ifs (.isi (.var 5) .int) (.seq (.ifs (.or (.not (.isi (.var 4) .int)) (.or (.isi (.var 4) .bool) (.cmp .ne (.var 4) (.var 5)))) (.seq (.ret (.bl false)) .nop) .nop) .nop) (.seq (.ifs (.isi (.var 5) .str) (.seq (.ifs (.or (.not (.isi (.var 4) .str)) (.cmp .ne (.var 4) (.var 5))) (.seq (.ret (.bl false)) .nop) .nop) .nop) (.seq (.ifs (.cmp .notn (.var 4) .non) (.seq (.ret (.bl false)) .nop) .nop) .nop)) .nop)) .nop)) .nop)) .nop)))) (.seq (.ret (.bl false)) .nop)))
end Lw

/-! LwSame2: _law_same, the pair of lists or tuples, the loop. -/
namespace Lw
open PySem PT PTy PTw
open L2 (atI ixN)
variable {tb : Tb}
/-- 1: a list, 2: a tuple -/
def kindT : T → Nat
  | .node _ .lst _ => 1
  | .node _ .klst _ => 1
  | .node _ .tup _ => 2
  | _ => 0
def kidsT : T → List T
  | .node _ _ ts => ts
  | _ => []
theorem pl_ok {a : T} (h : plT a = true) : okV a = true := by
  cases a with
  | hole => cases h
  | node o k ts => cases o <;> cases k <;> first | rfl | (simp [plT] at h; done)
  | _ => rfl
theorem pl_node {o : Bool} {k : Kd} {ts : List T} (h : plT (.node o k ts) = true) : o = false ∧ (k = .lst ∨ k = .klst ∨ k = .tup) ∧ plL ts = true := by
  cases o <;> cases k <;> simp [plT] at h <;> simp [h]
theorem pl_mem : ∀ {ts : List T} {i : Nat} {t : T}, plL ts = true → ts[i]? = some t → plT t = true
  | [], i, t, _, h => by simp at h
  | u :: us, 0, t, hp, h => by
    simp only [plL, Bool.and_eq_true] at hp
    have e := Option.some.inj h
    rw [← e]; exact hp.1
  | u :: us, i + 1, t, hp, h => by
    simp only [plL, Bool.and_eq_true] at hp
    exact pl_mem hp.2 (i := i) (by simpa using h)
theorem isi_tup {a : T} (h : plT a = true) : isiT a .tuple = some (decide (kindT a = 2)) := by
  cases a with
  | hole => cases h
  | node o k ts => obtain ⟨rfl, h | h | h, _⟩ := pl_node h <;> subst h <;> rfl
  | _ => rfl
theorem isi_lst {a : T} (h : plT a = true) : isiT a .list = some (decide (kindT a = 1)) := by
  cases a with
  | hole => cases h
  | node o k ts => obtain ⟨rfl, h | h | h, _⟩ := pl_node h <;> subst h <;> rfl
  | _ => rfl
theorem same_node {a : T} {k : Kd} {bs : List T} (ha : plT a = true) (hk : k = .lst ∨ k = .klst ∨ k = .tup) : sameT a (.node false k bs) = (decide (kindT a = kindT (.node false k bs)) && sameL (kidsT a) bs) := by
  cases a with
  | hole => cases ha
  | node o k' ts => obtain ⟨rfl, h | h | h, _⟩ := pl_node ha <;> subst h <;> rcases hk with h | h | h <;> subst h <;> simp [sameT, kindT, kidsT]
  | _ => rcases hk with h | h | h <;> subst h <;> simp [sameT, kindT]
theorem sameL_len : ∀ {as bs : List T}, as.length ≠ bs.length → sameL as bs = false
  | [], [], h => absurd rfl h
  | [], _ :: _, _ => by simp [sameL]
  | _ :: _, [], _ => by simp [sameL]
  | a :: as, b :: bs, h => by simp only [sameL]; rw [sameL_len (as := as) (bs := bs) (by simpa using h)]; simp
theorem sameL_all : ∀ {as bs : List T}, as.length = bs.length → sameL as bs = (as.zip bs).all fun p => sameT p.1 p.2
  | [], [], _ => rfl
  | [], _ :: _, h => by cases h
  | _ :: _, [], h => by cases h
  | a :: as, b :: bs, h => by simp only [sameL, List.zip_cons_cons, List.all_cons]; rw [sameL_all (as := as) (bs := bs) (by simpa using h)]
theorem len_pl {a : T} (h : plT a = true) (hk : kindT a ≠ 0) : biT .len [a] = some (.int (kidsT a).length) := by
  cases a with
  | hole => cases h
  | node o k ts => obtain ⟨rfl, h | h | h, _⟩ := pl_node h <;> subst h <;> rfl
  | _ => exact absurd rfl hk
theorem ix_pl {a : T} (h : plT a = true) (hk : kindT a ≠ 0) (i : Nat) : ixT a (.int (i : Int)) = (kidsT a)[i]? := by
  cases a with
  | hole => cases h
  | node o k ts => obtain ⟨rfl, h | h | h, _⟩ := pl_node h <;> subst h <;> simp [kidsT]
  | _ => exact absurd rfl hk
theorem rng1_nat {n : Nat} (hn : n ≤ 10000000) : rng1T (.int (n : Int)) = some (rngT 0 n) := by
  show (if rngOk (n : Int) = true then some (rngT 0 (n : Int).toNat) else none) = _
  rw [if_pos (show rngOk (n : Int) = true from decide_eq_true ⟨by omega, by omega⟩)]
  rfl
theorem rng_len (n : Nat) : (rngT 0 n).length = n := by unfold rngT; simp
theorem rng_mem {x : T} {n : Nat} (h : x ∈ rngT 0 n) : ∃ i : Nat, i < n ∧ x = .int (i : Int) := by
  unfold rngT at h
  obtain ⟨i, hi, rfl⟩ := List.mem_map.mp h
  exact ⟨i, by simpa using hi, by simp⟩
theorem kids_len {a : T} (h : plT a = true) (hk : kindT a ≠ 0) : szL (kidsT a) + 1 = szT a := by
  cases a with
  | hole => cases h
  | node o k ts => rfl
  | _ => exact absurd rfl hk
theorem szT_pos (t : T) : 1 ≤ szT t := by cases t <;> simp [szT]
theorem szL_len : ∀ ts : List T, ts.length ≤ szL ts
  | [] => by simp [szL]
  | t :: ts => by have := szL_len ts; have := szT_pos t; simp [szL]; omega
theorem lcBody_bd {P : List Bool} {tg : Tg} {c : PT.Env → R Bool} {x : PT.Env → R T} {t : T} {e : PT.Env} : lcBody P tg c x t e = R.bd (asgE P tg t e) fun _ e2 => R.bd (c e2) fun b e3 => if b = true then R.bo (x e3) (fun t => some (some t)) else .ok none e3 := rfl
/-- what the comprehension gives at the place i -/
def pairAt (a b : T) : T → Option T
  | .int i => some (.node false .tup [(kidsT a).getD i.toNat .non, (kidsT b).getD i.toNat .non])
  | _ => none
theorem pairs_zip : ∀ {as bs : List T}, as.length = bs.length → (List.range bs.length).map (fun i => T.node false .tup [as.getD i .non, bs.getD i .non]) = prs (as.zip bs)
  | [], [], _ => rfl
  | [], _ :: _, h => by cases h
  | _ :: _, [], h => by cases h
  | a :: as, b :: bs, h => by
    have ih := pairs_zip (as := as) (bs := bs) (by simpa using h)
    rw [List.length_cons, List.range_succ_eq_map, List.map_cons, List.map_map]
    show _ :: _ = pr1 (a, b) :: prs (as.zip bs)
    rw [← ih]
    rfl
theorem pairs_fm {a b : T} (h : (kidsT a).length = (kidsT b).length) : (rngT 0 (kidsT b).length).filterMap (pairAt a b) = prs ((kidsT a).zip (kidsT b)) := by
  rw [← pairs_zip h]
  unfold rngT
  rw [List.filterMap_map]
  have : (pairAt a b ∘ fun i : Nat => T.int (0 + (i : Int))) = fun i : Nat => some (T.node false .tup [(kidsT a).getD i .non, (kidsT b).getD i .non]) := by
    funext i
    simp [pairAt]
  rw [this]
  simp [List.filterMap_eq_map']
theorem lc_pairs (φ : Nat → List T → FR) (ac du a b : T) (st : List (T × T)) (o3 : Option T) (ha : plT a = true) (hb : plT b = true) (ka : kindT a ≠ 0) (kb : kindT b ≠ 0) (hl : (kidsT a).length = (kidsT b).length) (hz : szT b ≤ 2000000) :
    ev ⟨φ, tb, [false, false]⟩ (.lc [6] (.nm 6) (.rng1 (.bi .len (.cons (.var 5) .nil))) .none (.tup (.cons (.ix (.var 4) (.var 6)) (.cons (.ix (.var 5) (.var 6)) .nil)))) (envS ac du st o3 (some a) (some b)) = .ok (.node true .lst (prs ((kidsT a).zip (kidsT b)))) (envS ac du st o3 (some a) (some b)) := by
  have fa := pl_frz a ha
  have fb := pl_frz b hb
  have h1 := len_pl hb kb
  have hn : (kidsT b).length ≤ 2000000 := by have := szL_len (kidsT b); have := kids_len hb kb; omega
  have f2 : fitB 2 = true := by decide
  have hl2 := lcGo_all (own := [6]) (f := lcBody [false, false] (.nm 6) (fun e => evC ⟨φ, tb, [false, false]⟩ .none e) (fun e => ev ⟨φ, tb, [false, false]⟩ (.tup (.cons (.ix (.var 4) (.var 6)) (.cons (.ix (.var 5) (.var 6)) .nil))) e))
    (g := pairAt a b) (e0 := envS ac du st o3 (some a) (some b)) (items := rngT 0 (kidsT b).length) (acc := []) (fun x hx => ?_) (by rw [rng_len]; simp; omega)
  · rw [ev_lc, evI_rng1, ev_bi, evL_cons, ev_var]
    have e1 : varE 5 (envS ac du st o3 (some a) (some b)) = .ok b (envS ac du st o3 (some a) (some b)) := by simp [fb]
    rw [e1, bind_ok, evL_nil, bindO_ok, ofO_some, bindO_ok, h1, ofO_some, bindO_ok, rng1_nat (by omega), ofO_some, bind_ok]
    have hw : wipeE (envS ac du st o3 (some a) (some b)) [6] = envS ac du st o3 (some a) (some b) := rfl
    rw [hw]
    show R.bo (lcGo [6] _ _ [] _) _ = _
    rw [hl2, bindO_ok, pairs_fm hl]
    rfl
  · obtain ⟨i, hi, rfl⟩ := rng_mem hx
    refine ⟨[some ac, some du, some (.node true .lst (prs st)), o3, some a, some b, some (.int (i : Int))], ?_, rfl⟩
    have ia : ixT a (.int (i : Int)) = some ((kidsT a).getD i .non) := by
      rw [ix_pl ha ka, List.getElem?_eq_getElem (by omega), List.getD_eq_getElem?_getD, List.getElem?_eq_getElem (by omega)]; rfl
    have ib : ixT b (.int (i : Int)) = some ((kidsT b).getD i .non) := by
      rw [ix_pl hb kb, List.getElem?_eq_getElem hi, List.getD_eq_getElem?_getD, List.getElem?_eq_getElem hi]; rfl
    have hq : asgE [false, false] (.nm 6) (.int (i : Int)) (envS ac du st o3 (some a) (some b)) = .ok () [some ac, some du, some (.node true .lst (prs st)), o3, some a, some b, some (.int (i : Int))] := rfl
    rw [lcBody_bd, hq, bind_ok]
    simp [fa, fb, ia, ib, f2, pairAt]
theorem kind_cases {a : T} (h : kindT a ≠ 0) : kindT a = 1 ∨ kindT a = 2 := by
  cases a with
  | node o k ts => cases k <;> simp [kindT] at h ⊢
  | _ => exact absurd rfl h
theorem node_run (φ : Nat → List T → FR) (ac du a b : T) (st : List (T × T)) (o3 : Option T) (ha : plT a = true) (hb : plT b = true) (kb : kindT b ≠ 0) (hz : szT b ≤ 2000000) (hst : st.length ≤ 2000000) :
    ex ⟨φ, tb, [false, false]⟩ cmpB (envS ac du st o3 (some a) (some b)) = if (decide (kindT a = kindT b) && decide ((kidsT a).length = (kidsT b).length)) = true then .next (envS ac du (st ++ (kidsT a).zip (kidsT b)) o3 (some a) (some b)) else .ret (.bl false) (envS ac du st o3 (some a) (some b)) := by
  have fa := pl_frz a ha
  have fb := pl_frz b hb
  have t1 := isi_tup hb
  have t2 := isi_lst hb
  have t3 := isi_tup ha
  have t4 := isi_lst ha
  have c1 : ev ⟨φ, tb, [false, false]⟩ (.or (.isi (.var 5) .tuple) (.isi (.var 5) .list)) (envS ac du st o3 (some a) (some b)) = .ok (.bl true) (envS ac du st o3 (some a) (some b)) := by
    rcases kind_cases kb with h | h <;> simp [fb, t1, t2, h]
  refine ifs_t c1 ?_
  by_cases hk : kindT a = kindT b
  · have ka : kindT a ≠ 0 := by rw [hk]; exact kb
    have l1 := len_pl ha ka
    have l2 := len_pl hb kb
    refine seq_n (e1 := envS ac du st o3 (some a) (some b)) ?_ ?_
    · refine ifs_f (e1 := envS ac du st o3 (some a) (some b)) ?_ (ex_nop)
      simp [fa, fb, t1, t2, t3, t4, hk]
    by_cases hl : (kidsT a).length = (kidsT b).length
    · rw [if_pos (by simp [hk, hl])]
      refine seq_n (e1 := envS ac du st o3 (some a) (some b)) ?_ ?_
      · refine ifs_f (e1 := envS ac du st o3 (some a) (some b)) ?_ (ex_nop)
        simp [fa, fb, l1, l2, hl]
      refine seq_n ?_ ex_nop
      have hn : (kidsT b).length ≤ 2000000 := by have := szL_len (kidsT b); have := kids_len hb kb; omega
      rw [ex_ext, lc_pairs φ ac du a b st o3 ha hb ka kb hl hz]
      have pl : (prs st).length = st.length := by unfold prs; simp
      have pz : (prs ((kidsT a).zip (kidsT b))).length = (kidsT b).length := by unfold prs; simp [hl]
      have ft : fitB ((prs st).length + (prs ((kidsT a).zip (kidsT b))).length) = true := fit_of (by omega)
      have ez : extT (.node true .lst (prs st)) (.node true .lst (prs ((kidsT a).zip (kidsT b)))) = some (.node true .lst (prs (st ++ (kidsT a).zip (kidsT b)))) := by
        show (if fitB _ = true then some (T.node true .lst (prs st ++ prs ((kidsT a).zip (kidsT b)))) else none) = _
        rw [if_pos ft]
        unfold prs; simp
      simp [ez]
    · rw [if_neg (by simp [hl])]
      refine seq_r ?_
      refine ifs_t (e1 := envS ac du st o3 (some a) (some b)) ?_ (by simp)
      have hl' : ¬ ((kidsT a).length : Int) = ((kidsT b).length : Int) := by omega
      simp [fa, fb, l1, l2, hl']
  · rw [if_neg (by simp [hk])]
    refine seq_r ?_
    refine ifs_t (e1 := envS ac du st o3 (some a) (some b)) ?_ (by simp)
    rcases kind_cases kb with h | h
    · have h1 : ¬ kindT a = 1 := by rw [← h]; exact hk
      by_cases h2 : kindT a = 2 <;> simp [fa, fb, t1, t2, t3, t4, h, h1, h2]
    · have h1 : ¬ kindT a = 2 := by rw [← h]; exact hk
      simp [fa, fb, t1, t2, t3, t4, h, h1]
theorem leaf_kind {b : T} (hb : plT b = true) (h : kindT b = 0) : leafT b = true := by
  cases b with
  | hole => cases hb
  | node o k ts => obtain ⟨rfl, q | q | q, _⟩ := pl_node hb <;> subst q <;> cases h
  | _ => rfl
/-- the pairs to be looked at, d turns behind the start -/
structure SameI (A D : T) (st : List (T × T)) (i : Nat) : Prop where
  pl : ∀ p, p ∈ st → plT p.1 = true ∧ plT p.2 = true
  all : (st.all fun p => sameT p.1 p.2) = sameT A D
  sz : i + szL (st.map (·.2)) ≤ szT D
theorem szL_app : ∀ a b : List T, szL (a ++ b) = szL a + szL b
  | [], b => by simp [szL]
  | t :: a, b => by rw [List.cons_append]; simp only [szL]; rw [szL_app a b]; omega
theorem st_len {A D : T} {st : List (T × T)} {i : Nat} (h : SameI A D st i) : st.length ≤ szT D := by
  have := szL_len (st.map (·.2))
  have := h.sz
  simp at *
  omega
theorem pl_kids {a : T} (h : plT a = true) : plL (kidsT a) = true := by
  cases a with
  | node o k ts => exact (pl_node h).2.2
  | _ => rfl
theorem zip_pl {as bs : List T} (ha : plL as = true) (hb : plL bs = true) {p : T × T} (h : p ∈ as.zip bs) : plT p.1 = true ∧ plT p.2 = true := by
  obtain ⟨x, y⟩ := p
  obtain ⟨h1, h2⟩ := List.of_mem_zip h
  obtain ⟨i, hi⟩ := List.getElem?_of_mem h1
  obtain ⟨j, hj⟩ := List.getElem?_of_mem h2
  exact ⟨pl_mem ha hi, pl_mem hb hj⟩
theorem zip_snd : ∀ {as bs : List T}, as.length = bs.length → (as.zip bs).map (·.2) = bs
  | [], [], _ => rfl
  | [], _ :: _, h => by cases h
  | _ :: _, [], h => by cases h
  | a :: as, b :: bs, h => by simp [zip_snd (as := as) (bs := bs) (by simpa using h)]
theorem same_step {A D a b : T} {st : List (T × T)} {i : Nat} (h : SameI A D (st ++ [(a, b)]) i) (hz : szT D < 2000000) (φ : Nat → List T → FR) (o3 : Option T) {P : SR → Prop} (hi : ∀ st', SameI A D st' (i + 1) → P (.next (envS A D st' o3 (some a) (some b)))) (hf : sameT A D = false → P (.ret (.bl false) (envS A D st o3 (some a) (some b)))) :
    P (ex ⟨φ, tb, [false, false]⟩ cmpB (envS A D st o3 (some a) (some b))) := by
  obtain ⟨ha, hb⟩ : plT a = true ∧ plT b = true := h.pl (a, b) (by simp)
  have hall := h.all
  rw [List.all_append] at hall
  simp only [List.all_cons, List.all_nil, Bool.and_true] at hall
  have hsz := h.sz
  rw [List.map_append, szL_app] at hsz
  simp only [List.map_cons, List.map_nil, szL] at hsz
  have low : ∀ p, p ∈ st → plT p.1 = true ∧ plT p.2 = true := fun p hp => h.pl p (List.mem_append_left _ hp)
  have hlen := st_len h
  rw [List.length_append, List.length_singleton] at hlen
  by_cases kb : kindT b = 0
  · rw [leaf_run φ A D a b st o3 ha (leaf_kind hb kb)]
    have pb := szT_pos b
    cases q : sameT a b with
    | true =>
      rw [if_pos rfl]
      rw [q, Bool.and_true] at hall
      exact hi st ⟨low, hall, by omega⟩
    | false =>
      rw [if_neg (fun z => nomatch z)]
      rw [q, Bool.and_false] at hall
      exact hf hall.symm
  · rw [node_run φ A D a b st o3 ha hb kb (by omega) (by omega)]
    have eb : sameT a b = (decide (kindT a = kindT b) && sameL (kidsT a) (kidsT b)) := by
      cases b with
      | node o k ts => obtain ⟨rfl, q, _⟩ := pl_node hb; exact same_node ha q
      | _ => exact absurd rfl kb
    by_cases hc : (decide (kindT a = kindT b) && decide ((kidsT a).length = (kidsT b).length)) = true
    · rw [if_pos hc]
      simp only [Bool.and_eq_true, decide_eq_true_eq] at hc
      refine hi _ ⟨fun p hp => (List.mem_append.mp hp).elim (low p) fun z => zip_pl (pl_kids ha) (pl_kids hb) z, ?_, ?_⟩
      · rw [List.all_append, ← sameL_all hc.2, ← hall, eb, decide_eq_true hc.1, Bool.true_and]
      · rw [List.map_append, szL_app, zip_snd hc.2]
        have := kids_len hb kb
        omega
    · rw [if_neg hc]
      refine hf ?_
      rw [← hall, eb]
      simp only [Bool.and_eq_true, decide_eq_true_eq] at hc
      by_cases h1 : kindT a = kindT b
      · rw [sameL_len fun z => hc ⟨h1, z⟩]; simp
      · simp [h1]
theorem run_same (φ : Nat → List T → FR) (d : Df) (N : Int) (hd : d = ⟨2, 7, [false, false], sameS N⟩) (hN : 1000000 ≤ N ∧ N ≤ 2000000) (ac du : T) (ha : plT (frz ac) = true) (hb : plT (frz du) = true) (hz : szT (frz du) < 1000000) :
    PT.run φ tb d [ac, du] = .ok (.bl (sameT (frz ac) (frz du))) [.hole, .hole] := by
  subst hd
  refine w_run rfl ?_
  show Wp ⟨φ, tb, [false, false]⟩ (sameS N) [some ac, some du, none, none, none, none, none] _
  generalize hA : frz ac = A at ha ⊢
  generalize hD : frz du = D at hb hz ⊢
  unfold sameS
  have f2 : fitB 2 = true := by decide
  have f1 : fitB 1 = true := by decide
  refine w_s (e1 := envS A D [(A, D)] none none none) ?_ ?_
  · show ex _ _ _ = _
    simp [hA, hD, f1, f2]
    rfl
  obtain ⟨n, rfl⟩ : ∃ n : Nat, N = n := ⟨N.toNat, by omega⟩
  refine w_rng (n := n) (e1 := envS A D [(A, D)] none none none) ?_ (fun i e => ∃ st o3 o4 o5, e = envS A D st o3 o4 o5 ∧ SameI A D st i) ⟨_, _, _, _, rfl, ?_⟩ ?_ ?_
  · show evI _ _ _ = _
    rw [evI_rng1, ev_int, bindO_ok, rng1_nat (by omega), ofO_some]
  · refine ⟨fun p hp => ?_, ?_, ?_⟩
    · have : p = (A, D) := by simpa using hp
      subst this; exact ⟨ha, hb⟩
    · simp
    · simp [szL]
  · rintro i e hi ⟨st, o3, o4, o5, rfl, hI⟩
    refine ⟨envS A D st (some (.int (i : Int))) o4 o5, rfl, ?_⟩
    rcases List.eq_nil_or_concat st with rfl | ⟨st', p, rfl⟩
    · refine w_if (d := true) (e1 := envS A D [] (some (.int (i : Int))) o4 o5) (len_ro φ A D [] _ _ _) (fun _ => ?_) (fun z => nomatch z)
      refine w_ret (t := .bl true) (e1 := envS A D [] (some (.int (i : Int))) o4 o5) (ev_bl true) ?_
      show fin _ _ _ = _
      have := hI.all
      rw [← this]
      rfl
    · rw [List.concat_eq_append] at hI ⊢
      obtain ⟨a, b⟩ := p
      refine w_if (d := false) (e1 := envS A D (st' ++ [(a, b)]) (some (.int (i : Int))) o4 o5) ?_ (fun z => nomatch z) (fun _ => w_k ?_)
      · show ev _ _ _ = _
        rw [len_ro]
        simp
      refine w_s (e1 := envS A D st' (some (.int (i : Int))) (some a) (some b)) ?_ ?_
      · show ex _ _ _ = _
        rw [ex_asg, pop_run, st_ok, asg_run _ rfl, st_ok]
      refine w_seq ?_
      refine same_step hI (by omega) φ _ (fun st2 h2 => ?_) (fun hf => ?_)
      · refine w_k (w_nop ?_)
        exact ⟨st2, _, _, _, rfl, h2⟩
      · show fin _ _ _ = _
        rw [hf]; rfl
  · rintro e ⟨st, o3, o4, o5, rfl, hI⟩
    have := hI.sz
    omega
end Lw

/-! The text's table and its defs in the little language (printed by gen.py). -/
namespace K15
open PySem PySem.Spec PyProof.Rows L2 PT
def b_is_integer : S := (.seq (.ret (.and (.isi (.var 0) .int) (.not (.isi (.var 0) .bool)))) .nop)
def d_is_integer : Df := ⟨1, 1, [false], b_is_integer⟩
def n_is_integer : List Str := ["value"]
def b_is_between : S := (.seq (.ret (.and (.call 0 0 (.cons (.var 0) .nil)) (.chn .le .le (.var 1) (.var 0) (.var 2)))) .nop)
def d_is_between : Df := ⟨3, 3, [false, false, false], b_is_between⟩
def n_is_between : List Str := ["value", "low", "high"]
def b_is_between_or_none : S := (.seq (.ret (.or (.cmp .isn (.var 0) .non) (.call 1 0 (.cons (.var 0) (.cons (.var 1) (.cons (.var 2) .nil)))))) .nop)
def d_is_between_or_none : Df := ⟨3, 3, [false, false, false], b_is_between_or_none⟩
def n_is_between_or_none : List Str := ["value", "low", "high"]
def b_is_list_of : S := (.seq (.ret (.and (.isi (.var 0) .list) (.chn .le .le (.var 1) (.bi .len (.cons (.var 0) .nil)) (.var 2)))) .nop)
def d_is_list_of : Df := ⟨3, 3, [false, false, false], b_is_list_of⟩
def n_is_list_of : List Str := ["value", "low", "high"]
def b_inverse : S := (.seq (.asg (.nm 1) (.int 1)) (.seq (.fors (.nm 2) (.rng1 (.int 8)) (.seq (.asg (.nm 1) (.bin .mod (.bin .mul (.bin .mul (.var 1) (.var 1)) (.var 0)) (.glo 0))) .nop)) (.seq (.ret (.mv 1)) .nop)))
def d_inverse : Df := ⟨1, 3, [false], b_inverse⟩
def n_inverse : List Str := ["number", "answer", "_"]
def b_coefficient : S := (.seq (.ret (.call 4 0 (.cons (.bin .sub (.bin .add (.glo 1) (.var 0)) (.var 1)) .nil))) .nop)
def d_coefficient : Df := ⟨2, 2, [false, false], b_coefficient⟩
def n_coefficient : List Str := ["k", "slot"]
def b_parity_of : S := (.seq (.asg (.nm 2) (.lc [3, 4] (.tp (.cons (.nm 3) (.cons (.nm 4) .nil))) (.enum (.var 0)) (.some (.cmp .notn (.var 4) .non)) (.bin .mul (.var 4) (.call 5 0 (.cons (.var 1) (.cons (.var 3) .nil)))))) (.seq (.ret (.bin .mod (.bi .sum (.cons (.var 2) .nil)) (.glo 0))) .nop))
def d_parity_of : Df := ⟨2, 5, [false, false], b_parity_of⟩
def n_parity_of : List Str := ["contents", "k", "terms", "slot", "content"]
def b_parities_of : S := (.seq (.ret (.lc [2] (.nm 2) (.rng1 (.var 1)) .none (.call 6 0 (.cons (.var 0) (.cons (.var 2) .nil))))) .nop)
def d_parities_of : Df := ⟨2, 3, [false, false], b_parities_of⟩
def n_parities_of : List Str := ["contents", "many", "k"]
def b_is_contents : S := (.seq (.ret (.and (.call 3 0 (.cons (.var 0) (.cons (.int 1) (.cons (.glo 3) .nil)))) (.bi .all (.cons (.lc [1] (.nm 1) (.seq (.var 0)) .none (.call 2 0 (.cons (.var 1) (.cons (.int 0) (.cons (.glo 2) .nil))))) .nil)))) .nop)
def d_is_contents : Df := ⟨1, 2, [false], b_is_contents⟩
def n_is_contents : List Str := ["value", "item"]
def b_parities : S := (.seq (.ifs (.not (.call 8 0 (.cons (.var 0) .nil))) (.seq (.rais "BadValue" ["name"] (.cons (.str "contents") .nil)) .nop) .nop) (.seq (.ifs (.not (.call 1 0 (.cons (.var 1) (.cons (.int 0) (.cons (.glo 4) .nil))))) (.seq (.rais "BadValue" ["name"] (.cons (.str "guard") .nil)) .nop) .nop) (.seq (.ret (.call 7 0 (.cons (.var 0) (.cons (.var 1) .nil)))) .nop)))
def d_parities : Df := ⟨2, 2, [false, false], b_parities⟩
def n_parities : List Str := ["contents", "guard"]
def b__law_stream : S := (.seq (.ret (.lst (.cons (.bi .list (.cons (.var 0) .nil)) (.cons (.int 0) (.cons (.int 0) .nil))))) .nop)
def d__law_stream : Df := ⟨1, 1, [false], b__law_stream⟩
def n__law_stream : List Str := ["script"]
def b__law_next : S := (.seq (.ifs (.ro [true] (.cmp .eq (.ix (.var 0) (.int 1)) (.int 0))) (.seq (.asg (.nm 3) (.ro [true] (.ix (.var 0) (.int 2)))) (.seq (.asg (.nm 4) (.bin .add (.int 7) (.var 3))) (.seq (.ifs (.ro [true, false, false, true] (.cmp .lt (.var 3) (.bi .len (.cons (.ix (.var 0) (.int 0)) .nil)))) (.seq (.asg (.nm 4) (.ro [true, false, false, true] (.bi .abs (.cons (.ix (.ix (.var 0) (.int 0)) (.var 3)) .nil)))) .nop) .nop) (.seq (.ifs (.cmp .lt (.var 4) (.bin .pow (.int 10) (.int 18))) (.seq (.asg (.nm 4) (.bin .mod (.bi .int (.cons (.bin .add (.bin .add (.bin .mul (.var 4) (.int 48271)) (.bin .mul (.var 3) (.int 69621))) (.int 11)) .nil)) (.int 2147483647))) (.seq (.asg (.nm 4) (.bin .add (.bin .mul (.bin .mod (.bi .int (.cons (.bin .add (.bin .mul (.var 4) (.int 16807)) (.int 13)) .nil)) (.int 2147483647)) (.int 65537)) (.var 4))) .nop)) .nop) (.seq (.seti 0 (.int 1) (.var 4)) (.seq (.seti 0 (.int 2) (.bin .add (.var 3) (.int 1))) .nop)))))) .nop) (.seq (.asg (.nm 2) (.ro [true, true] (.bin .mod (.bi .int (.cons (.ix (.var 0) (.int 1)) .nil)) (.var 1)))) (.seq (.seti 0 (.int 1) (.ro [true, true] (.bin .fdiv (.ix (.var 0) (.int 1)) (.var 1)))) (.seq (.ret (.mv 2)) .nop))))
def d__law_next : Df := ⟨2, 5, [true, false], b__law_next⟩
def n__law_next : List Str := ["stream", "many", "digit", "k", "cell"]
def b__law_pick : S := (.seq (.ret (.ix (.var 1) (.call 11 0 (.cons (.lend 0) (.cons (.bi .len (.cons (.var 1) .nil)) .nil))))) .nop)
def d__law_pick : Df := ⟨2, 2, [true, false], b__law_pick⟩
def n__law_pick : List Str := ["stream", "rows"]
def b__law_from : S := (.seq (.ret (.bin .add (.var 1) (.call 11 0 (.cons (.lend 0) (.cons (.bin .add (.bin .sub (.var 2) (.var 1)) (.int 1)) .nil))))) .nop)
def d__law_from : Df := ⟨3, 3, [true, false, false], b__law_from⟩
def n__law_from : List Str := ["stream", "low", "high"]
def b__law_same : S := (.seq (.asg (.nm 2) (.lst (.cons (.tup (.cons (.var 0) (.cons (.var 1) .nil))) .nil))) (.seq (.fors (.nm 3) (.rng1 (.int 2000000)) (.seq (.ifs (.ro [false, false, true] (.cmp .eq (.bi .len (.cons (.var 2) .nil)) (.int 0))) (.seq (.ret (.bl true)) .nop) .nop) (.seq (.asg (.tp (.cons (.nm 4) (.cons (.nm 5) .nil))) (.pop 2)) (.seq (.ifs (.or (.isi (.var 5) .tuple) (.isi (.var 5) .list)) (.seq (.ifs (.or (.cmp .ne (.isi (.var 5) .tuple) (.isi (.var 4) .tuple)) (.cmp .ne (.isi (.var 5) .list) (.isi (.var 4) .list))) (.seq (.ret (.bl false)) .nop) .nop) (.seq (.ifs (.cmp .ne (.bi .len (.cons (.var 4) .nil)) (.bi .len (.cons (.var 5) .nil))) (.seq (.ret (.bl false)) .nop) .nop) (.seq (.ext 2 (.lc [6] (.nm 6) (.rng1 (.bi .len (.cons (.var 5) .nil))) .none (.tup (.cons (.ix (.var 4) (.var 6)) (.cons (.ix (.var 5) (.var 6)) .nil))))) .nop))) (.seq (.ifs (.isi (.var 5) .bool) (.seq (.ifs (.or (.not (.isi (.var 4) .bool)) (.cmp .ne (.var 4) (.var 5))) (.seq (.ret (.bl false)) .nop) .nop) .nop) (.seq (.ifs (.isi (.var 5) .int) (.seq (.ifs (.or (.not (.isi (.var 4) .int)) (.or (.isi (.var 4) .bool) (.cmp .ne (.var 4) (.var 5)))) (.seq (.ret (.bl false)) .nop) .nop) .nop) (.seq (.ifs (.isi (.var 5) .str) (.seq (.ifs (.or (.not (.isi (.var 4) .str)) (.cmp .ne (.var 4) (.var 5))) (.seq (.ret (.bl false)) .nop) .nop) .nop) (.seq (.ifs (.cmp .notn (.var 4) .non) (.seq (.ret (.bl false)) .nop) .nop) .nop)) .nop)) .nop)) .nop)) .nop)))) (.seq (.ret (.bl false)) .nop)))
def d__law_same : Df := ⟨2, 7, [false, false], b__law_same⟩
def n__law_same : List Str := ["actual", "due", "left", "turn", "one", "other", "at"]
def b__law_inverses : S := (.seq (.asg (.nm 0) (.lst (.cons (.int 1) .nil))) (.seq (.fors (.nm 1) (.rng1 (.int 255)) (.seq (.app 0 (.ro [true, true] (.bin .mod (.bi .int (.cons (.bin .mul (.ix (.var 0) (.var 1)) (.int 3)) .nil)) (.int 257)))) .nop)) (.seq (.asg (.nm 2) (.bin .mul (.lst (.cons (.int 0) .nil)) (.int 257))) (.seq (.fors (.nm 1) (.rng1 (.int 256)) (.seq (.seti 2 (.ro [true, true] (.ix (.var 0) (.var 1))) (.ro [true, true] (.ix (.var 0) (.bin .mod (.bi .int (.cons (.bin .sub (.int 256) (.var 1)) .nil)) (.int 256))))) .nop)) (.seq (.ret (.mv 2)) .nop)))))
def d__law_inverses : Df := ⟨0, 3, [], b__law_inverses⟩
def n__law_inverses : List Str := ["powers", "k", "found"]
def b__law_parities : S := (.seq (.asg (.nm 3) (.lst .nil)) (.seq (.fors (.nm 4) (.rng1 (.var 2)) (.seq (.asg (.nm 5) (.lc [6] (.nm 6) (.rng1 (.bi .len (.cons (.var 1) .nil))) (.some (.cmp .notn (.ix (.var 1) (.var 6)) .non)) (.bin .mul (.ix (.var 1) (.var 6)) (.ix (.var 0) (.bin .sub (.bin .add (.int 250) (.var 4)) (.var 6)))))) (.seq (.app 3 (.bin .mod (.bi .int (.cons (.bi .sum (.cons (.var 5) .nil)) .nil)) (.int 257))) .nop))) (.seq (.ret (.mv 3)) .nop)))
def d__law_parities : Df := ⟨3, 7, [false, false, false], b__law_parities⟩
def n__law_parities : List Str := ["inverses", "contents", "guard", "found", "k", "terms", "slot"]
def b__law_contents : S := (.seq (.asg (.nm 1) (.ife (.cmp .eq (.call 11 0 (.cons (.lend 0) (.cons (.int 4) .nil))) (.int 0)) (.int 40) (.call 13 0 (.cons (.lend 0) (.cons (.int 1) (.cons (.int 40) .nil)))))) (.seq (.asg (.nm 2) (.cmp .eq (.call 11 0 (.cons (.lend 0) (.cons (.int 3) .nil))) (.int 0))) (.seq (.asg (.nm 3) (.lst .nil)) (.seq (.fors (.nm 4) (.rng1 (.var 1)) (.seq (.asg (.nm 5) (.call 11 0 (.cons (.lend 0) (.cons (.int 8) .nil)))) (.seq (.ifs (.and (.var 2) (.cmp .lt (.var 5) (.int 6))) (.seq (.app 3 (.ix (.tup (.cons (.int 0) (.cons (.int 0) (.cons (.int 0) (.cons (.int 0) (.cons .non (.cons (.int 250) .nil))))))) (.var 5))) .nop) (.seq (.app 3 (.ife (.cmp .eq (.var 5) (.int 7)) .non (.call 11 0 (.cons (.lend 0) (.cons (.int 251) .nil))))) .nop)) .nop))) (.seq (.ret (.mv 3)) .nop)))))
def d__law_contents : Df := ⟨1, 6, [true], b__law_contents⟩
def n__law_contents : List Str := ["stream", "many", "thin", "found", "slot", "kind"]
def b__law_wrong : S := (.seq (.asg (.nm 2) (.call 11 0 (.cons (.lend 0) (.cons (.int 6) .nil)))) (.seq (.ifs (.cmp .eq (.var 2) (.int 0)) (.seq (.ret (.call 12 0 (.cons (.lend 0) (.cons (.lst (.cons (.lst .nil) (.cons (.bin .add (.var 1) (.bin .mul (.lst (.cons (.int 0) .nil)) (.bin .sub (.int 41) (.bi .len (.cons (.var 1) .nil))))) (.cons (.bi .tuple (.cons (.var 1) .nil)) (.cons .non (.cons (.int 7) (.cons (.str "7") .nil))))))) .nil)))) .nop) .nop) (.seq (.asg (.nm 3) (.call 11 0 (.cons (.lend 0) (.cons (.bi .len (.cons (.var 1) .nil)) .nil)))) (.seq (.ret (.bin .add (.bin .add (.sl (.var 1) .none (.some (.var 3))) (.lst (.cons (.call 12 0 (.cons (.lend 0) (.cons (.lst (.cons (.int 251) (.cons (.neg (.int 1)) (.cons (.bl true) (.cons (.bl false) (.cons (.str "7") (.cons (.lst (.cons (.int 7) .nil)) (.cons (.tup (.cons (.int 7) .nil)) (.cons (.int 257) (.cons (.bin .add (.int 251) (.call 11 0 (.cons (.lend 0) (.cons (.bin .pow (.int 10) (.int 6)) .nil)))) .nil)))))))))) .nil))) .nil))) (.sl (.var 1) (.some (.bin .add (.var 3) (.int 1))) .none))) .nop))))
def d__law_wrong : Df := ⟨2, 4, [true, false], b__law_wrong⟩
def n__law_wrong : List Str := ["stream", "contents", "kind", "at"]
def b__law_refusals : S := (.seq (.fors (.nm 3) (.rng1 (.int 4)) (.seq (.asg (.nm 4) (.call 20 0 (.cons (.lend 0) (.cons (.var 1) .nil)))) (.seq (.asg (.nm 5) (.call 12 0 (.cons (.lend 0) (.cons (.lst (.cons (.int 4) (.cons (.neg (.int 1)) (.cons (.bl true) (.cons .non (.cons (.str "1") (.cons (.lst (.cons (.int 1) .nil)) (.cons (.tup .nil) (.cons (.bin .add (.int 4) (.call 11 0 (.cons (.lend 0) (.cons (.bin .pow (.int 10) (.int 6)) .nil)))) (.cons (.bin .sub (.neg (.int 1)) (.call 11 0 (.cons (.lend 0) (.cons (.bin .pow (.int 10) (.int 6)) .nil)))) .nil)))))))))) .nil)))) (.seq (.ifs (.not (.call 14 0 (.cons (.call 19 0 (.cons (.var 4) (.cons (.var 2) .nil))) (.cons (.tup (.cons (.str "refused") (.cons (.str "BadValue") (.cons (.str "contents") .nil)))) .nil)))) (.seq (.ret (.bl false)) .nop) .nop) (.seq (.ifs (.not (.call 14 0 (.cons (.call 19 0 (.cons (.var 4) (.cons (.var 5) .nil))) (.cons (.tup (.cons (.str "refused") (.cons (.str "BadValue") (.cons (.str "contents") .nil)))) .nil)))) (.seq (.ret (.bl false)) .nop) .nop) (.seq (.ifs (.not (.call 14 0 (.cons (.call 19 0 (.cons (.bi .list (.cons (.var 1) .nil)) (.cons (.var 5) .nil))) (.cons (.tup (.cons (.str "refused") (.cons (.str "BadValue") (.cons (.str "guard") .nil)))) .nil)))) (.seq (.ret (.bl false)) .nop) .nop) .nop)))))) (.seq (.ret (.bl true)) .nop))
def d__law_refusals : Df := ⟨3, 6, [true, false, false], b__law_refusals⟩
def n__law_refusals : List Str := ["stream", "contents", "guard", "turn", "wrong", "odd"]
def b_law : S := (.seq (.asg (.nm 1) (.call 10 0 (.cons (.var 0) .nil))) (.seq (.asg (.nm 2) (.call 16 0 .nil)) (.seq (.asg (.nm 3) (.call 18 0 (.cons (.lend 1) .nil))) (.seq (.asg (.nm 4) (.call 11 0 (.cons (.lend 1) (.cons (.int 4) .nil)))) (.seq (.fors (.nm 5) (.rng1 (.int 3)) (.seq (.asg (.nm 6) (.call 17 0 (.cons (.var 2) (.cons (.var 3) (.cons (.var 4) .nil))))) (.seq (.asg (.nm 7) (.bi .list (.cons (.var 3) .nil))) (.seq (.asg (.nm 8) (.call 19 0 (.cons (.var 7) (.cons (.var 4) .nil)))) (.seq (.ifs (.ro [false, false, false, true, false, false, true, true, true] (.or (.not (.call 14 0 (.cons (.var 8) (.cons (.tup (.cons (.str "told") (.cons (.var 6) .nil))) .nil)))) (.not (.call 14 0 (.cons (.var 7) (.cons (.var 3) .nil)))))) (.seq (.ret (.bl false)) .nop) .nop) (.seq (.app1 8 1 5) (.seq (.ifs (.not (.call 14 0 (.cons (.call 19 0 (.cons (.var 7) (.cons (.var 4) .nil))) (.cons (.tup (.cons (.str "told") (.cons (.var 6) .nil))) .nil)))) (.seq (.ret (.bl false)) .nop) .nop) (.seq (.ifs (.not (.call 21 0 (.cons (.lend 1) (.cons (.var 3) (.cons (.var 4) .nil))))) (.seq (.ret (.bl false)) .nop) .nop) (.seq (.asg (.nm 9) (.call 11 0 (.cons (.lend 1) (.cons (.bi .len (.cons (.var 3) .nil)) .nil)))) (.seq (.asg (.nm 10) (.bi .list (.cons (.var 3) .nil))) (.seq (.asg (.nm 11) (.ife (.cmp .isn (.ix (.var 3) (.var 9)) .non) (.int 0) (.ix (.var 3) (.var 9)))) (.seq (.seti 10 (.var 9) (.bin .mod (.bi .int (.cons (.bin .add (.bin .add (.var 11) (.int 1)) (.call 11 0 (.cons (.lend 1) (.cons (.int 250) .nil)))) .nil)) (.int 251))) (.seq (.asg (.nm 12) (.ro [false, false, false, false, false, false, false, false, false, false, true] (.call 19 0 (.cons (.var 10) (.cons (.int 3) .nil))))) (.seq (.ifs (.ro [false, false, true, false, false, false, false, false, false, false, true, false, true] (.not (.call 14 0 (.cons (.var 12) (.cons (.tup (.cons (.str "told") (.cons (.call 17 0 (.cons (.var 2) (.cons (.var 10) (.cons (.int 3) .nil)))) .nil))) .nil))))) (.seq (.ret (.bl false)) .nop) .nop) (.seq (.asg (.nm 13) (.call 17 0 (.cons (.var 2) (.cons (.var 3) (.cons (.int 3) .nil))))) (.seq (.ifs (.cmp .gt (.bi .len (.cons (.lc [14] (.nm 14) (.rng1 (.int 3)) (.some (.cmp .eq (.ix (.ix (.var 12) (.int 1)) (.var 14)) (.ix (.var 13) (.var 14)))) (.var 14)) .nil)) (.int 0)) (.seq (.ret (.bl false)) .nop) .nop) (.seq (.asg (.nm 3) (.var 10)) (.seq (.asg (.nm 4) (.bin .mod (.bi .int (.cons (.bin .add (.var 4) (.int 1)) .nil)) (.int 4))) .nop)))))))))))))))))) (.seq (.ret (.bl true)) .nop))))))
def d_law : Df := ⟨1, 15, [false], b_law⟩
def n_law : List Str := ["script", "stream", "inverses", "contents", "guard", "turn", "due", "handed", "told", "at", "other", "was", "further", "before", "k"]
def tbFn : Nat → Option FnI
  | 0 => some ⟨"is_integer", ["value"], 3, [[]]⟩
  | 1 => some ⟨"is_between", ["value", "low", "high"], 4, [[]]⟩
  | 2 => some ⟨"is_between_or_none", ["value", "low", "high"], 5, [[]]⟩
  | 3 => some ⟨"is_list_of", ["value", "low", "high"], 3, [[]]⟩
  | 4 => some ⟨"inverse", ["number"], 3, [[]]⟩
  | 5 => some ⟨"coefficient", ["k", "slot"], 4, [[]]⟩
  | 6 => some ⟨"parity_of", ["contents", "k"], 5, [[]]⟩
  | 7 => some ⟨"parities_of", ["contents", "many"], 6, [[]]⟩
  | 8 => some ⟨"is_contents", ["value"], 6, [[]]⟩
  | 9 => some ⟨"parities", ["contents", "guard"], 7, [[]]⟩
  | 10 => some ⟨"_law_stream", ["script"], 3, [[]]⟩
  | 11 => some ⟨"_law_next", ["stream", "many"], 3, [[]]⟩
  | 12 => some ⟨"_law_pick", ["stream", "rows"], 4, [[]]⟩
  | 13 => some ⟨"_law_from", ["stream", "low", "high"], 4, [[]]⟩
  | 14 => some ⟨"_law_same", ["actual", "due"], 3, [[]]⟩
  | 15 => some ⟨"_law_named", ["error"], 3, [[]]⟩
  | 16 => some ⟨"_law_inverses", [], 3, [[]]⟩
  | 17 => some ⟨"_law_parities", ["inverses", "contents", "guard"], 3, [[]]⟩
  | 18 => some ⟨"_law_contents", ["stream"], 5, [[]]⟩
  | 19 => some ⟨"_law_told", ["contents", "guard"], 8, [[]]⟩
  | 20 => some ⟨"_law_wrong", ["stream", "contents"], 5, [[]]⟩
  | 21 => some ⟨"_law_refusals", ["stream", "contents", "guard"], 9, [[]]⟩
  | 22 => some ⟨"law", ["script"], 10, [[]]⟩
  | _ => none
def tbGl : Nat → Option (Str × T)
  | 0 => some ("FIELD", (.int 257))
  | 1 => some ("BASE", (.int 250))
  | 2 => some ("MOST_CONTENT", (.int 250))
  | 3 => some ("MOST_ROOM", (.int 40))
  | 4 => some ("MOST_GUARD", (.int 3))
  | _ => none
def tbBn : List Str := ["isinstance", "bool", "int", "len", "list", "range", "sum", "enumerate", "all", "abs", "tuple", "str"]
def tbXc (x : Str) : Option (List Str) :=
  if x = "BadValue" then some ["name"] else none
def tb : Tb := ⟨tbFn, tbGl, tbBn, tbXc⟩
end K15

/-! The text is the given one (printed by gen.py). -/
namespace K15
open PySem PySem.Spec PyProof.Rows L2 PT
def top (i : Nat) : Stmt := PySem.Challenge.pw_tolddown_k15_parities_of_pages.main.body.getD i (.Pass ⟨0, 0, 0, 0⟩)
abbrev s_is_integer : Stmt := top 21
abbrev s_is_between : Stmt := top 22
abbrev s_is_between_or_none : Stmt := top 23
abbrev s_is_list_of : Stmt := top 24
abbrev s_inverse : Stmt := top 31
abbrev s_coefficient : Stmt := top 32
abbrev s_parity_of : Stmt := top 33
abbrev s_parities_of : Stmt := top 34
abbrev s_is_contents : Stmt := top 35
abbrev s_parities : Stmt := top 36
abbrev s__law_stream : Stmt := top 38
abbrev s__law_next : Stmt := top 39
abbrev s__law_pick : Stmt := top 40
abbrev s__law_from : Stmt := top 41
abbrev s__law_same : Stmt := top 42
abbrev s__law_named : Stmt := top 43
abbrev s__law_inverses : Stmt := top 44
abbrev s__law_parities : Stmt := top 45
abbrev s__law_contents : Stmt := top 46
abbrev s__law_told : Stmt := top 47
abbrev s__law_wrong : Stmt := top 48
abbrev s__law_refusals : Stmt := top 49
abbrev s_law : Stmt := top 50
theorem m_is_integer : mB tb n_is_integer 2 (defScope s_is_integer) b_is_integer (defBody s_is_integer) = true := by decide +kernel
theorem sc_is_integer : FnScope n_is_integer ["value"] (defScope s_is_integer) := ⟨rfl, rfl, rfl, by decide +kernel, rfl, by decide +kernel, by decide +kernel⟩
theorem m_is_between : mB tb n_is_between 3 (defScope s_is_between) b_is_between (defBody s_is_between) = true := by decide +kernel
theorem sc_is_between : FnScope n_is_between ["value", "low", "high"] (defScope s_is_between) := ⟨rfl, rfl, rfl, by decide +kernel, rfl, by decide +kernel, by decide +kernel⟩
theorem m_is_between_or_none : mB tb n_is_between_or_none 4 (defScope s_is_between_or_none) b_is_between_or_none (defBody s_is_between_or_none) = true := by decide +kernel
theorem sc_is_between_or_none : FnScope n_is_between_or_none ["value", "low", "high"] (defScope s_is_between_or_none) := ⟨rfl, rfl, rfl, by decide +kernel, rfl, by decide +kernel, by decide +kernel⟩
theorem m_is_list_of : mB tb n_is_list_of 2 (defScope s_is_list_of) b_is_list_of (defBody s_is_list_of) = true := by decide +kernel
theorem sc_is_list_of : FnScope n_is_list_of ["value", "low", "high"] (defScope s_is_list_of) := ⟨rfl, rfl, rfl, by decide +kernel, rfl, by decide +kernel, by decide +kernel⟩
theorem m_inverse : mB tb n_inverse 2 (defScope s_inverse) b_inverse (defBody s_inverse) = true := by decide +kernel
theorem sc_inverse : FnScope n_inverse ["number"] (defScope s_inverse) := ⟨rfl, rfl, rfl, by decide +kernel, rfl, by decide +kernel, by decide +kernel⟩
theorem m_coefficient : mB tb n_coefficient 3 (defScope s_coefficient) b_coefficient (defBody s_coefficient) = true := by decide +kernel
theorem sc_coefficient : FnScope n_coefficient ["k", "slot"] (defScope s_coefficient) := ⟨rfl, rfl, rfl, by decide +kernel, rfl, by decide +kernel, by decide +kernel⟩
theorem m_parity_of : mB tb n_parity_of 4 (defScope s_parity_of) b_parity_of (defBody s_parity_of) = true := by decide +kernel
theorem sc_parity_of : FnScope n_parity_of ["contents", "k"] (defScope s_parity_of) := ⟨rfl, rfl, rfl, by decide +kernel, rfl, by decide +kernel, by decide +kernel⟩
theorem m_parities_of : mB tb n_parities_of 5 (defScope s_parities_of) b_parities_of (defBody s_parities_of) = true := by decide +kernel
theorem sc_parities_of : FnScope n_parities_of ["contents", "many"] (defScope s_parities_of) := ⟨rfl, rfl, rfl, by decide +kernel, rfl, by decide +kernel, by decide +kernel⟩
theorem m_is_contents : mB tb n_is_contents 5 (defScope s_is_contents) b_is_contents (defBody s_is_contents) = true := by decide +kernel
theorem sc_is_contents : FnScope n_is_contents ["value"] (defScope s_is_contents) := ⟨rfl, rfl, rfl, by decide +kernel, rfl, by decide +kernel, by decide +kernel⟩
theorem m_parities : mB tb n_parities 6 (defScope s_parities) b_parities (defBody s_parities) = true := by decide +kernel
theorem sc_parities : FnScope n_parities ["contents", "guard"] (defScope s_parities) := ⟨rfl, rfl, rfl, by decide +kernel, rfl, by decide +kernel, by decide +kernel⟩
theorem m__law_stream : mB tb n__law_stream 2 (defScope s__law_stream) b__law_stream (defBody s__law_stream) = true := by decide +kernel
theorem sc__law_stream : FnScope n__law_stream ["script"] (defScope s__law_stream) := ⟨rfl, rfl, rfl, by decide +kernel, rfl, by decide +kernel, by decide +kernel⟩
theorem m__law_next : mB tb n__law_next 2 (defScope s__law_next) b__law_next (defBody s__law_next) = true := by decide +kernel
theorem sc__law_next : FnScope n__law_next ["stream", "many"] (defScope s__law_next) := ⟨rfl, rfl, rfl, by decide +kernel, rfl, by decide +kernel, by decide +kernel⟩
theorem m__law_pick : mB tb n__law_pick 3 (defScope s__law_pick) b__law_pick (defBody s__law_pick) = true := by decide +kernel
theorem sc__law_pick : FnScope n__law_pick ["stream", "rows"] (defScope s__law_pick) := ⟨rfl, rfl, rfl, by decide +kernel, rfl, by decide +kernel, by decide +kernel⟩
theorem m__law_from : mB tb n__law_from 3 (defScope s__law_from) b__law_from (defBody s__law_from) = true := by decide +kernel
theorem sc__law_from : FnScope n__law_from ["stream", "low", "high"] (defScope s__law_from) := ⟨rfl, rfl, rfl, by decide +kernel, rfl, by decide +kernel, by decide +kernel⟩
theorem m__law_same : mB tb n__law_same 2 (defScope s__law_same) b__law_same (defBody s__law_same) = true := by decide +kernel
theorem sc__law_same : FnScope n__law_same ["actual", "due"] (defScope s__law_same) := ⟨rfl, rfl, rfl, by decide +kernel, rfl, by decide +kernel, by decide +kernel⟩
theorem m__law_inverses : mB tb n__law_inverses 2 (defScope s__law_inverses) b__law_inverses (defBody s__law_inverses) = true := by decide +kernel
theorem sc__law_inverses : FnScope n__law_inverses [] (defScope s__law_inverses) := ⟨rfl, rfl, rfl, by decide +kernel, rfl, by decide +kernel, by decide +kernel⟩
theorem m__law_parities : mB tb n__law_parities 2 (defScope s__law_parities) b__law_parities (defBody s__law_parities) = true := by decide +kernel
theorem sc__law_parities : FnScope n__law_parities ["inverses", "contents", "guard"] (defScope s__law_parities) := ⟨rfl, rfl, rfl, by decide +kernel, rfl, by decide +kernel, by decide +kernel⟩
theorem m__law_contents : mB tb n__law_contents 4 (defScope s__law_contents) b__law_contents (defBody s__law_contents) = true := by decide +kernel
theorem sc__law_contents : FnScope n__law_contents ["stream"] (defScope s__law_contents) := ⟨rfl, rfl, rfl, by decide +kernel, rfl, by decide +kernel, by decide +kernel⟩
theorem m__law_wrong : mB tb n__law_wrong 4 (defScope s__law_wrong) b__law_wrong (defBody s__law_wrong) = true := by decide +kernel
theorem sc__law_wrong : FnScope n__law_wrong ["stream", "contents"] (defScope s__law_wrong) := ⟨rfl, rfl, rfl, by decide +kernel, rfl, by decide +kernel, by decide +kernel⟩
theorem m__law_refusals : mB tb n__law_refusals 8 (defScope s__law_refusals) b__law_refusals (defBody s__law_refusals) = true := by decide +kernel
theorem sc__law_refusals : FnScope n__law_refusals ["stream", "contents", "guard"] (defScope s__law_refusals) := ⟨rfl, rfl, rfl, by decide +kernel, rfl, by decide +kernel, by decide +kernel⟩
theorem m_law : mB tb n_law 9 (defScope s_law) b_law (defBody s_law) = true := by decide +kernel
theorem sc_law : FnScope n_law ["script"] (defScope s_law) := ⟨rfl, rfl, rfl, by decide +kernel, rfl, by decide +kernel, by decide +kernel⟩
end K15

namespace K15
open PySem PT PTy
open L2 (atI ixN)
def tI (s : List Int) : List T := s.map .int
/-- the stream's tree -/
def tS (s : List Int) (c : Int) (k : Nat) : T := .node true .lst [.node true .lst (tI s), .int c, .int k]
def cell0 (s : List Int) (k : Nat) : Int := match s[k]? with
  | some i => if i < 0 then -i else i
  | none => 7 + k
def mix (cell : Int) (k : Nat) : Int := if cell < 10 ^ 18 then ((cell * 48271 + k * 69621 + 11) % 2147483647 * 16807 + 13) % 2147483647 * 65537 + (cell * 48271 + k * 69621 + 11) % 2147483647 else cell
def nextC (s : List Int) (c : Int) (k : Nat) : Int := if c = 0 then mix (cell0 s k) k else c
def nextK (c : Int) (k : Nat) : Nat := if c = 0 then k + 1 else k
@[simp] theorem frzL_tI (s : List Int) : frzL (tI s) = tI s := by
  induction s with
  | nil => rfl
  | cons a s ih => show frz (.int a) :: frzL (tI s) = _; rw [ih]; rfl
@[simp] theorem tI_len (s : List Int) : (tI s).length = s.length := by unfold tI; simp
@[simp] theorem tI_get (s : List Int) (k : Nat) : (tI s)[k]? = s[k]?.map T.int := by unfold tI; simp
@[simp] theorem tI_at (s : List Int) (k : Nat) (h : k < (tI s).length) : (tI s)[k] = T.int (s[k]'(by simpa using h)) := by
  have := tI_get s k
  rw [List.getElem?_eq_getElem h] at this
  rw [List.getElem?_eq_getElem (by simpa using h)] at this
  exact Option.some.inj this
@[simp] theorem mul_lit (i : Int) (n : Nat) (h : n < 2 ^ 64 := by decide) : mulOk i (no_index (OfNat.ofNat n : Int)) = true := by
  have h2 : (n : Int) < 2 ^ 64 := by omega
  show (decide _ || _) = true
  have : (-(2 ^ 64) < i ∧ i < 2 ^ 64) ∨ (-(2 ^ 64) < (n : Int) ∧ (n : Int) < 2 ^ 64) := .inr ⟨by omega, h2⟩
  rw [decide_eq_true (show (-(2 ^ 64) < i ∧ i < 2 ^ 64) ∨ (-(2 ^ 64) < (OfNat.ofNat n : Int) ∧ (OfNat.ofNat n : Int) < 2 ^ 64) from this)]
  rfl
theorem div_ok {m : Int} (h : 0 < m ∧ m < 1073741824) : divOk m = true := by
  unfold divOk
  rw [decide_eq_true h]
  rfl
theorem run_next (φ : Nat → List T → FR) (s : List Int) (c m : Int) (k : Nat) (hm : 0 < m ∧ m < 1073741824) :
    PT.run φ tb d__law_next [tS s c k, .int m] = .ok (.int (nextC s c k % m)) [tS s (nextC s c k / m) (nextK c k), .hole] := by
  rw [run_fin rfl]
  show fin [true, false] 2 (ex ⟨φ, tb, [true, false]⟩ b__law_next [some (tS s c k), some (.int m), none, none, none]) = _
  have pw : powOk 10 18 = true := by decide
  have m1 : ∀ i : Int, mulOk i 48271 = true := fun i => mul_lit i 48271
  have m2 : ∀ i : Int, mulOk i 69621 = true := fun i => mul_lit i 69621
  have m3 : ∀ i : Int, mulOk i 16807 = true := fun i => mul_lit i 16807
  have m4 : ∀ i : Int, mulOk i 65537 = true := fun i => mul_lit i 65537
  generalize hqa : (if c = 0 then some (T.int k) else none) = qa
  generalize hqb : (if c = 0 then some (T.int (mix (cell0 s k) k)) else none) = qb
  refine fin_of (r := .ret (.int (nextC s c k % m)) [some (tS s (nextC s c k / m) (nextK c k)), some (.int m), none, qa, qb]) ?x ?y
  case x =>
    refine seq_n (e1 := [some (tS s (nextC s c k) (nextK c k)), some (.int m), none, qa, qb]) ?x1 ?x2
    case x2 =>
      refine seq_n (e1 := [some (tS s (nextC s c k) (nextK c k)), some (.int m), some (.int (nextC s c k % m)), qa, qb]) ?_ ?_
      · simp [tS, hm]
      refine seq_n (e1 := [some (tS s (nextC s c k / m) (nextK c k)), some (.int m), some (.int (nextC s c k % m)), qa, qb]) ?_ ?_
      · simp [tS, div_ok hm]
      · simp
    subst hqa hqb
    by_cases hc : c = 0
    · subst hc
      refine ifs_t (e1 := [some (tS s 0 k), some (.int m), none, none, none]) (by simp [tS]) ?_
      refine seq_n (e1 := [some (tS s 0 k), some (.int m), none, some (.int k), none]) (by simp [tS]) ?_
      refine seq_n (e1 := [some (tS s 0 k), some (.int m), none, some (.int k), some (.int (7 + k))]) (by simp [tS]) ?_
      refine seq_n (e1 := [some (tS s 0 k), some (.int m), none, some (.int k), some (.int (cell0 s k))]) ?_ ?_
      · cases hk : s[k]? with
        | none =>
          have hl : ¬ k < s.length := by
            intro h
            rw [List.getElem?_eq_getElem h] at hk
            cases hk
          refine ifs_f (e1 := [some (tS s 0 k), some (.int m), none, some (.int k), some (.int (7 + k))]) (by simp [tS, hl]) (by simp [cell0, hk])
        | some i =>
          have hl : k < s.length := (List.getElem?_eq_some_iff.mp hk).1
          have hs : s[k]'hl = i := by
            rw [List.getElem?_eq_getElem hl] at hk
            exact Option.some.inj hk
          refine ifs_t (e1 := [some (tS s 0 k), some (.int m), none, some (.int k), some (.int (7 + k))]) (by simp [tS, hl]) ?_
          simp [tS, hl, hs, cell0, hk]
      have hnc : nextC s 0 k = mix (cell0 s k) k := by simp [nextC]
      rw [hnc, if_pos rfl, if_pos rfl]
      generalize cell0 s k = c0
      refine seq_n (e1 := [some (tS s 0 k), some (.int m), none, some (.int k), some (.int (mix c0 k))]) ?_ ?_
      · unfold mix
        by_cases h18 : c0 < 1000000000000000000
        · refine ifs_t (e1 := [some (tS s 0 k), some (.int m), none, some (.int k), some (.int c0)]) (by simp [pw, h18]) ?_
          refine seq_n (e1 := [some (tS s 0 k), some (.int m), none, some (.int k), some (.int ((c0 * 48271 + k * 69621 + 11) % 2147483647))]) (by simp [m1, m2]) ?_
          simp [m3, m4, h18]
        · refine ifs_f (e1 := [some (tS s 0 k), some (.int m), none, some (.int k), some (.int c0)]) (by simp [pw, h18]) (by simp [h18])
      · simp [tS, nextK]
    · refine ifs_f (e1 := [some (tS s c k), some (.int m), none, none, none]) (by simp [tS, hc]) (by simp [hc, nextC, nextK])
  case y => simp
end K15

/-! K15c: what the program's defs do (the lesser ones). -/
namespace K15
open PySem PT PTy
open L2 (atI ixN)
/-- a value that isinstance may be asked about -/
def okV : T → Bool
  | .hole => false
  | .node _ (.dtu _) _ => false
  | _ => true
def isI : T → Bool
  | .int _ => true
  | _ => false
def between (t : T) (lo hi : Int) : Bool := match t with
  | .int i => decide (lo ≤ i ∧ i ≤ hi)
  | _ => false
def fIsInteger : List T → FR
  | [t] => if okV t = true then .ok (.bl (isI t)) [.hole] else .fail
  | _ => .fail
def fIsBetween : List T → FR
  | [t, .int lo, .int hi] => if okV t = true then .ok (.bl (between t lo hi)) [.hole, .hole, .hole] else .fail
  | _ => .fail
def fIsBetweenOrNone : List T → FR
  | [t, .int lo, .int hi] => if okV t = true then .ok (.bl (match t with
    | .non => true
    | t => between t lo hi)) [.hole, .hole, .hole] else .fail
  | _ => .fail
def listLen : T → Option Nat
  | .node _ .lst ts => some ts.length
  | .node _ .klst ts => some ts.length
  | _ => none
def fIsListOf : List T → FR
  | [t, .int lo, .int hi] => if okV t = true then .ok (.bl (match listLen t with
    | some n => decide (lo ≤ (n : Int) ∧ (n : Int) ≤ hi)
    | none => false)) [.hole, .hole, .hole] else .fail
  | _ => .fail
theorem okV_frz {t : T} : okV (frz t) = okV t := by
  cases t with
  | node b k ts => cases k <;> simp [okV]
  | _ => rfl
theorem run_is_integer (φ : Nat → List T → FR) (t : T) (h : okV t = true) : PT.run φ tb d_is_integer [t] = .ok (.bl (isI t)) [.hole] := by
  rw [run_fin rfl]
  show fin [false] 1 (ex ⟨φ, tb, [false]⟩ b_is_integer [some t]) = _
  unfold b_is_integer
  cases t with
  | hole => cases h
  | node b k us => cases k <;> first | (cases h; done) | simp [isiT, isI]
  | _ => simp [isiT, isI]
@[simp] theorem lends_nl (x : E) (r : EL) (h : ∀ i, x ≠ .lend i) : lends (.cons x r) = none :: lends r := nlend h
theorem run_is_between (φ : Nat → List T → FR) (t : T) (lo hi : Int) (h : okV t = true) (h0 : ∀ t, okV t = true → φ 0 [t] = .ok (.bl (isI t)) [.hole]) : PT.run φ tb d_is_between [t, .int lo, .int hi] = .ok (.bl (between t lo hi)) [.hole, .hole, .hole] := by
  rw [run_fin rfl]
  show fin [false, false, false] 3 (ex ⟨φ, tb, [false, false, false]⟩ b_is_between [some t, some (.int lo), some (.int hi)]) = _
  have c0 := h0 (frz t) (by rw [okV_frz]; exact h)
  have hd : tb.dfl 0 0 = some [] := rfl
  unfold b_is_between
  simp [hd, callE, take, c0, backE, give]
  cases t with
  | int i =>
    by_cases h1 : lo ≤ i
    · by_cases h2 : i ≤ hi <;> simp [isI, between, h1, h2]
    · simp [isI, between, h1]
  | node b k us => simp [isI, between]
  | _ => simp [isI, between]
end K15

/-! K15d: inverse, coefficient. -/
namespace K15
open PySem PT PTy
open L2 (atI ixN)
def invS (n : Int) : Nat → Int
  | 0 => 1
  | k + 1 => invS n k * invS n k * n % 257
def inv (n : Int) : Int := invS n 8
theorem inv_bd (n : Int) (k : Nat) : 0 ≤ invS n k ∧ invS n k < 257 := by
  cases k with
  | zero => exact ⟨(by decide : (0:Int) ≤ 1), (by decide : (1:Int) < 257)⟩
  | succ k => exact ⟨Int.emod_nonneg _ (by decide), Int.emod_lt_of_pos _ (by decide)⟩
theorem mul_small {i j : Int} (h : 0 ≤ i ∧ i < 257) : mulOk i j = true := by
  unfold mulOk
  rw [decide_eq_true (show (-(2 ^ 64) < i ∧ i < 2 ^ 64) ∨ (-(2 ^ 64) < j ∧ j < 2 ^ 64) from .inl ⟨by omega, by omega⟩)]
  rfl
theorem mul_mid {i j : Int} (h : 0 ≤ i ∧ i < 100000) : mulOk i j = true := by
  unfold mulOk
  rw [decide_eq_true (show (-(2 ^ 64) < i ∧ i < 2 ^ 64) ∨ (-(2 ^ 64) < j ∧ j < 2 ^ 64) from .inl ⟨by omega, by omega⟩)]
  rfl
theorem run_inverse (φ : Nat → List T → FR) (n : Int) : PT.run φ tb d_inverse [.int n] = .ok (.int (inv n)) [.hole] := by
  rw [run_fin rfl]
  show fin [false] 1 (ex ⟨φ, tb, [false]⟩ b_inverse [some (.int n), none, none]) = _
  have g0 : tb.gl 0 = some (("FIELD" : Str), T.int 257) := rfl
  refine fin_of (r := .ret (.int (inv n)) [some (.int n), none, some (.int 7)]) ?_ rfl
  refine seq_n (e1 := [some (.int n), some (.int 1), none]) (by simp) ?_
  refine seq_n (e1 := [some (.int n), some (.int (inv n)), some (.int 7)]) ?_ (by simp)
  rw [ex_fors, evI_rng1]
  have hr : R.bo (ev ⟨φ, tb, [false]⟩ (.int 8) [some (.int n), some (.int 1), none]) rng1T = .ok (rngT 0 8) [some (.int n), some (.int 1), none] := by
    simp [rng1T]
    rfl
  rw [hr, st_ok]
  have := goFor_all (f := fun t e2 => R.s (asgE [false] (.nm 2) t e2) fun _ e3 => ex ⟨φ, tb, [false]⟩ (.seq (.asg (.nm 1) (.bin .mod (.bin .mul (.bin .mul (.var 1) (.var 1)) (.var 0)) (.glo 0))) .nop) e3) (items := rngT 0 8)
    (fun i => [some (.int n), some (.int (invS n i)), if i = 0 then none else some (.int ((i : Int) - 1))]) (fun i x hx => ?_)
  · exact this
  · have hx' : x = .int (i : Int) := by
      unfold rngT at hx
      rw [List.getElem?_map] at hx
      cases q : (List.range 8)[i]? with
      | none => rw [q] at hx; cases hx
      | some j =>
        rw [q] at hx
        have hj := List.getElem?_eq_some_iff.mp q
        obtain ⟨h1, h2⟩ := hj
        have : i = j := by rw [← h2]; simp
        subst this
        have := Option.some.inj hx
        rw [← this]
        simp
    subst hx'
    have b := inv_bd n i
    have m1 : mulOk (invS n i) (invS n i) = true := mul_small b
    have m2 : mulOk (invS n i * invS n i) n = true := mul_mid ⟨Int.mul_nonneg b.1 b.1, by
      have := Int.mul_le_mul (show invS n i ≤ 256 by omega) (show invS n i ≤ 256 by omega) b.1 (by decide)
      omega⟩
    have e1 : ((i : Int) + 1 - 1) = i := by omega
    have gg : ∀ (e : PT.Env), gloE (some (("FIELD" : Str), T.int 257)) e = .ok (.int 257) e := fun _ => rfl
    simp [m1, m2, g0, gg, invS, e1]
end K15

/-! Told: _law_named within an except suite. -/
namespace Told
open PySem PySem.Spec PyProof.Rows L2 L2H PTz
def tStrs : List Str → TA
  | [] => tNil
  | s :: r => tCons (tC (.str s)) (tStrs r)
theorem ea_strs {σ : L2.St} {H : Hp} : ∀ ss : List Str, Evl.EvA (tStrs ss) σ H (ss.map V.str)
  | [] => Evl.ea_nil
  | s :: r => Evl.ea_cons Evl.ev_c (ea_strs r)
def tIsx (K : PySem.W.Frag) (D a : Addr) (d : Option Addr) (c : V) : TE := tCB (rIsP K D a d) (tCons (tVar 0) (tCons (tC c) tNil))
def tIss (K : PySem.W.Frag) (D a : Addr) (d : Option Addr) (cl : Str → Addr) : List Str → TA
  | [] => tNil
  | c :: r => tCons (tIsx K D a d (.ref (cl c))) (tIss K D a d cl r)
theorem ev_isx {K : PySem.W.Frag} {D a : Addr} {d : Option Addr} {c : V} {cv : Value} {b : Bool} {σ : L2.St} {H : Hp} (h0 : σ[0]? = some (some (.ref a))) (hc : ∀ u, RelV c u → u = cv) (hk : PySem.W.kitOne K (.ref D) cv = some b) (hd : ∀ dd, d = some dd → ∃ fs, H dd = some (.xd fs)) :
    Evl.Ev (tIsx K D a d c) σ H (.bl b) := fun H1 e Q q => ⟨.ref a, h0, c, cv, b, rfl, hc, hk, fun dd ed => (hd dd ed).imp fun fs h => e _ _ h, q H1 (Evl.Ex.refl H1)⟩
theorem ea_iss {K : PySem.W.Frag} {D a : Addr} {d : Option Addr} {cl : Str → Addr} {f : Str → Bool} {σ : L2.St} {H : Hp} (h0 : σ[0]? = some (some (.ref a))) (hd : ∀ dd, d = some dd → ∃ fs, H dd = some (.xd fs)) : ∀ cs : List Str, (∀ c, c ∈ cs → PySem.W.kitOne K (.ref D) (.ref (cl c)) = some (f c)) → Evl.EvA (tIss K D a d cl cs) σ H (cs.map fun c => V.bl (f c))
  | [], _ => Evl.ea_nil
  | c :: r, h => Evl.ea_cons (ev_isx h0 (fun u r => r) (h c List.mem_cons_self) hd) (ea_iss h0 hd r fun c' hc => h c' (List.mem_cons_of_mem _ hc))
abbrev ns1 : List Str := ["BadPlan", "BadCourse", "BadWorld", "BadSky", "BadSeen", "BadMenu", "BadEdit", "BadValue", "BadText", "BadSize", "TooMany"]
abbrev ns2 : List Str := ["TooLong", "NotPlain", "NoRoom", "NoFit", "NotThere", "NothingToUndo", "NothingToRedo"]
abbrev allC : List Str := "DownError" :: (ns1 ++ ns2)
abbrev f1 : List Str := ["BadPlan", "BadCourse", "BadWorld", "BadSky"]
abbrev f2 : List Str := ["BadSeen", "BadMenu", "BadEdit", "BadValue"]
abbrev f3 : List Str := ["BadText", "BadSize", "TooMany", "TooLong"]
abbrev f4 : List Str := ["NotPlain", "NoRoom", "NoFit", "NotThere"]
abbrev f5 : List Str := ["NothingToUndo", "NothingToRedo"]
/-- the body's reading -/
def tNamed (K : PySem.W.Frag) (D a : Addr) (d : Option Addr) (cl : Str → Addr) : TS :=
  tSeq (tAsg (tLst (tStrs ns1)) (gName 1)) (tSeq (tAsg (tOp rCat (tVar 1) (tLst (tStrs ns2))) (gName 1))
  (tSeq (tAsg (tLst (tIss K D a d cl f1)) (gName 2)) (tSeq (tAsg (tOp rCat (tVar 2) (tLst (tIss K D a d cl f2))) (gName 2)) (tSeq (tAsg (tOp rCat (tVar 2) (tLst (tIss K D a d cl f3))) (gName 2))
  (tSeq (tAsg (tOp rCat (tVar 2) (tLst (tIss K D a d cl f4))) (gName 2)) (tSeq (tAsg (tOp rCat (tVar 2) (tLst (tIss K D a d cl f5))) (gName 2))
  (tSeq (tIfS (tOr (tTest (tOp rNe (tBM K "list" (rCntF K) (tVar 2) (tCons (tC (.bl true)) tNil)) (tC (.int 1)))) (tOr (tNot (tB (tIsx K D a d (.ref (cl "DownError"))))) (tNot (tB (tIsx K D a d (.ty "ValueError")))))) (tRet (tC (.str "other"))) tNext)
  (tRet (tOp (rIxL K) (tVar 1) (tBM K "list" (rIndex K) (tVar 2) (tCons (tC (.bl true)) tNil)))))))))))
abbrev nN : List Str := ["error", "names", "fits"]
section
variable {X : Cx} {p : Addr × Obj} {D : Addr} {cl : Str → Addr}
/-- what the walk of _law_named needs of its context -/
structure Nx (X : Cx) (p : Addr × Obj) (D : Addr) (cl : Str → Addr) : Prop where
  N : X.N = nN
  sc : X.env.scope = defScope K15.s__law_named
  pn : p ∈ X.pn
  ex : ExcC X.K D
  isc : (PySem.W.clsIn X.K D).isSome = true
  pc : p.2.cls = .ref D
  pf : ∃ vs, p.2.data = .fields vs
  mg : ∀ c, c ∈ allC → X.mg c = some (.ref (cl c))
  bi : X.mg "isinstance" = none
  bv : X.mg "ValueError" = none
  fn : ∀ x, X.fn x = true
theorem pe_is {c : Str} {p1 p2 p3 pos : Pos} {cv : V} (n : Nx X p D cl) (hc : PE X (.Name c p3) (tC cv)) : PE X (.Call (.Name "isinstance" p1) [.Name "error" p2, .Name c p3] [] pos) (tIsx X.K D p.1 p.2.dict cv) := by
  have g : Gl X "isinstance" := by
    show X.env.scope.names.lookup _ = _
    rw [n.sc]; rfl
  have v : PE X (.Name "error" p2) (tVar 0) := pe_var (by rw [n.N]; rfl) (by rw [n.sc]; exact .inl rfl)
  exact pe_callB (call_isP n.pn n.ex n.isc n.pc n.pf) g n.bi rfl (pa_cons v (pa_cons hc pa_nil))
theorem pe_cls {c : Str} {p3 : Pos} (n : Nx X p D cl) (hc : c ∈ allC) (hg : (defScope K15.s__law_named).names.lookup c = some .globalImplicit) (hd : (c == ("__debug__" : Str)) = false) : PE X (.Name c p3) (tC (.ref (cl c))) :=
  pe_glob (show X.env.scope.names.lookup c = _ by rw [n.sc]; exact hg) (n.mg c hc) rfl hd
theorem ps_nm {i : Nat} {x : Str} {e : Expr} {te : TE} {p1 p2 : Pos} (n : Nx X p D cl) (hi : nN[i]? = some x) (hx : (defScope K15.s__law_named).names.lookup x = some .local) (he : PE X e te) (hs : swapsWith e (some (.Name x p1)) p2.line X.env = pure false := by rfl) : PS X (.Assign [.Name x p1] e p2) (tAsg te (gName i)) :=
  ps_set (by rw [n.N]; decide) (by rw [n.N]; exact hi) (by rw [n.sc]; exact .inl hx) he hs (.inl (n.fn x))
theorem pe_v {i : Nat} {x : Str} {p1 : Pos} (n : Nx X p D cl) (hi : nN[i]? = some x) (hx : (defScope K15.s__law_named).names.lookup x = some .local) (hd : (x == ("__debug__" : Str)) = false := by decide) (hc : (x == ("__classdict__" : Str)) = false := by decide) : PE X (.Name x p1) (tVar i) :=
  pe_var (by rw [n.N]; exact hi) (by rw [n.sc]; exact .inl hx) hd hc
theorem pt_isx {c : V} {p1 p2 : Pos} {es : List Expr} (h : PE X (.Call (.Name "isinstance" p1) es [] p2) (tIsx X.K D p.1 p.2.dict c)) : L2.PT X (.Call (.Name "isinstance" p1) es [] p2) (tB (tIsx X.K D p.1 p.2.dict c)) := pt_val h
theorem ps_named (n : Nx X p D cl) : PSs X (defBody K15.s__law_named) (tNamed X.K D p.1 p.2.dict cl) := by
  have v1 : ∀ p1, PE X (.Name "names" p1) (tVar 1) := fun p1 => pe_v n rfl rfl
  have v2 : ∀ p1, PE X (.Name "fits" p1) (tVar 2) := fun p1 => pe_v n rfl rfl
  refine pss_cons (ps_nm n rfl rfl (pe_lst (pa_cons pe_str (pa_cons pe_str (pa_cons pe_str (pa_cons pe_str (pa_cons pe_str (pa_cons pe_str (pa_cons pe_str (pa_cons pe_str (pa_cons pe_str (pa_cons pe_str (pa_cons pe_str pa_nil))))))))))))) ?_
  refine pss_cons (ps_nm n rfl rfl (pe_op op_cat (v1 _) (pe_lst (pa_cons pe_str (pa_cons pe_str (pa_cons pe_str (pa_cons pe_str (pa_cons pe_str (pa_cons pe_str (pa_cons pe_str pa_nil)))))))))) ?_
  refine pss_cons (ps_nm n rfl rfl (pe_lst (pa_cons (pe_is n (pe_cls (c := "BadPlan") n (by decide) rfl rfl)) (pa_cons (pe_is n (pe_cls (c := "BadCourse") n (by decide) rfl rfl)) (pa_cons (pe_is n (pe_cls (c := "BadWorld") n (by decide) rfl rfl)) (pa_cons (pe_is n (pe_cls (c := "BadSky") n (by decide) rfl rfl)) pa_nil)))))) ?_
  refine pss_cons (ps_nm n rfl rfl (pe_op op_cat (v2 _) (pe_lst (pa_cons (pe_is n (pe_cls (c := "BadSeen") n (by decide) rfl rfl)) (pa_cons (pe_is n (pe_cls (c := "BadMenu") n (by decide) rfl rfl)) (pa_cons (pe_is n (pe_cls (c := "BadEdit") n (by decide) rfl rfl)) (pa_cons (pe_is n (pe_cls (c := "BadValue") n (by decide) rfl rfl)) pa_nil))))))) ?_
  refine pss_cons (ps_nm n rfl rfl (pe_op op_cat (v2 _) (pe_lst (pa_cons (pe_is n (pe_cls (c := "BadText") n (by decide) rfl rfl)) (pa_cons (pe_is n (pe_cls (c := "BadSize") n (by decide) rfl rfl)) (pa_cons (pe_is n (pe_cls (c := "TooMany") n (by decide) rfl rfl)) (pa_cons (pe_is n (pe_cls (c := "TooLong") n (by decide) rfl rfl)) pa_nil))))))) ?_
  refine pss_cons (ps_nm n rfl rfl (pe_op op_cat (v2 _) (pe_lst (pa_cons (pe_is n (pe_cls (c := "NotPlain") n (by decide) rfl rfl)) (pa_cons (pe_is n (pe_cls (c := "NoRoom") n (by decide) rfl rfl)) (pa_cons (pe_is n (pe_cls (c := "NoFit") n (by decide) rfl rfl)) (pa_cons (pe_is n (pe_cls (c := "NotThere") n (by decide) rfl rfl)) pa_nil))))))) ?_
  refine pss_cons (ps_nm n rfl rfl (pe_op op_cat (v2 _) (pe_lst (pa_cons (pe_is n (pe_cls (c := "NothingToUndo") n (by decide) rfl rfl)) (pa_cons (pe_is n (pe_cls (c := "NothingToRedo") n (by decide) rfl rfl)) pa_nil))))) ?_
  have pve : ∀ p3, PE X (.Name "ValueError" p3) (tC (.ty "ValueError")) := fun p3 => pe_bltn (show X.env.scope.names.lookup _ = _ by rw [n.sc]; rfl) n.bv rfl rfl
  refine pss_cons (ps_if (PT.pt_of (pw_or (pt_cmpR op_ne (pe_bm PySem.F.plainAttrs_list PySem.F.slot_list_count PySem.F.type_list_count mt_countF (v2 _) (pa_cons pe_bl pa_nil)) pe_int rfl) (pw_or (pt_not (pt_isx (p := p) (pe_is n (pe_cls (c := "DownError") n (by decide) rfl rfl)))) (pw_or1 (pt_not (pt_isx (p := p) (pe_is n (pve _))))))) ) (pss_one (ps_ret pe_str)) pss_nil) ?_
  exact pss_one (ps_ret (pe_ix ix_list (v1 _) (pe_bm PySem.F.plainAttrs_list PySem.F.slot_list_index PySem.F.type_list_index mt_index (v2 _) (pa_cons pe_bl pa_nil)) (fun _ _ => rfl)))
end
def fitsOf (name : Str) (cs : List Str) : List V := cs.map fun c => V.bl (decide (c = name))
abbrev allF : List Str := f1 ++ f2 ++ f3 ++ f4 ++ f5
def posOf (name : Str) : List Str → Nat
  | [] => 0
  | c :: r => if c = name then 0 else posOf name r + 1
theorem fits_all : ∀ name, name ∈ ns1 ++ ns2 → (fitsOf name allF).countP (fun z => eqV z (.bl true)) = 1 ∧ ((ns1.map V.str ++ ns2.map V.str)[posOf name allF]? = some (.str name) ∧ posOf name allF < 18) := by
  decide +kernel
theorem flat_fits (name : Str) : ∀ cs : List Str, (fitsOf name cs).all flatV = true
  | [] => rfl
  | c :: r => by
    show (flatV (.bl _) && (fitsOf name r).all flatV) = true
    rw [flat_fits name r]; rfl
theorem pos_fits (name : Str) : ∀ cs : List Str, posOf name cs < cs.length → (fitsOf name cs)[posOf name cs]? = some (.bl true) ∧ ∀ m z, m < posOf name cs → (fitsOf name cs)[m]? = some z → eqV z (.bl true) = false
  | [], h => by simp [posOf] at h
  | c :: r, h => by
    unfold posOf at h ⊢
    by_cases e : c = name
    · rw [if_pos e]
      refine ⟨?_, fun m z hm => absurd hm (by omega)⟩
      show some (V.bl (decide (c = name))) = _
      rw [decide_eq_true e]
    · rw [if_neg e] at h ⊢
      obtain ⟨h1, h2⟩ := pos_fits name r (by simpa using h)
      refine ⟨by simpa [fitsOf] using h1, fun m z hm hz => ?_⟩
      cases m with
      | zero =>
        have : z = V.bl (decide (c = name)) := by simpa [fitsOf] using hz.symm
        rw [this, decide_eq_false e]
        rfl
      | succ m => exact h2 m z (by omega) (by simpa [fitsOf] using hz)
/-- what _law_named promises: the exception's class by name -/
def spNamed (a : Addr) (d : Option Addr) (name : Str) : Sp := fun vs H Q _ => vs = [.ref a] ∧ (∀ dd, d = some dd → ∃ fs, H dd = some (.xd fs)) ∧ ∀ H', Evl.Ex H H' → Q (.str name) H'
/-- the class D by name -/
structure Kn (K : PySem.W.Frag) (D : Addr) (cl : Str → Addr) (name : Str) : Prop where
  mem : name ∈ ns1 ++ ns2
  one : ∀ c, c ∈ allF → PySem.W.kitOne K (.ref D) (.ref (cl c)) = some (decide (c = name))
  down : PySem.W.kitOne K (.ref D) (.ref (cl "DownError")) = some true
  val : PySem.W.kitOne K (.ref D) (.type "ValueError") = some true
theorem ev_cnt {K : PySem.W.Frag} {σ : L2.St} {H : Hp} {p : Addr} {ys : List V} (h0 : σ[2]? = some (some (.ref p))) (hp : H p = some (.lst ys)) (hf : ys.all flatV = true) :
    Evl.Ev (tBM K "list" (rCntF K) (tVar 2) (tCons (tC (.bl true)) tNil)) σ H (.int (ys.countP fun z => eqV z (.bl true) : Nat)) := fun H1 e Q q =>
  ⟨.ref p, h0, .inl ⟨rfl, ys, Evl.sq_of (e _ _ hp)⟩, p, ys, .bl true, rfl, rfl, Evl.sq_of (e _ _ hp), rfl, hf, q H1 (Evl.Ex.refl H1)⟩
theorem ev_idx {K : PySem.W.Frag} {σ : L2.St} {H : Hp} {p : Addr} {ys : List V} {j : Nat} (h0 : σ[2]? = some (some (.ref p))) (hp : H p = some (.lst ys)) (hf : ys.all flatV = true) (hj : ys[j]? = some (.bl true)) (hn : ∀ m z, m < j → ys[m]? = some z → eqV z (.bl true) = false) :
    Evl.Ev (tBM K "list" (rIndex K) (tVar 2) (tCons (tC (.bl true)) tNil)) σ H (.int (j : Nat)) := fun H1 e Q q =>
  ⟨.ref p, h0, .inl ⟨rfl, ys, Evl.sq_of (e _ _ hp)⟩, p, ys, .bl true, j, .bl true, rfl, rfl, Evl.sq_of (e _ _ hp), rfl, hf, hj, rfl, hn, q H1 (Evl.Ex.refl H1)⟩
theorem named_ok {K : PySem.W.Frag} {D a : Addr} {d : Option Addr} {cl : Str → Addr} {name : Str} (k : Kn K D cl name) {vs : List V} {H : Hp} {Q : VK} {E : XK} (h : spNamed a d name vs H Q E) : tNamed K D a d cl { nx := fun _ H' => Q .non H', rt := Q } (L2.start nN vs) H := by
  obtain ⟨rfl, hd, hQ⟩ := h
  obtain ⟨c1, c2, c3⟩ := fits_all name k.mem
  have mono : ∀ {H' : Hp}, Evl.Ex H H' → ∀ dd, d = some dd → ∃ fs, H' dd = some (.xd fs) := fun e dd ed => (hd dd ed).imp fun fs q => e _ _ q
  have sz : ∀ {n : Nat}, n ≤ 100 → n ≤ sizeLine := fun h => Evl.sz_of (by omega)
  refine Evl.q_asgL (Evl.el_lst (ea_strs ns1) (by decide)) fun p1 H1 _ e1 h1 => ?_
  refine Evl.q_asgL (el_cat (Evl.ev_var rfl) h1 (Evl.el_lst (ea_strs ns2) (by decide)) (sz (by decide))) fun p2 H2 _ e2 h2 => ?_
  have x2 := e1.trans e2
  refine Evl.q_asgL (Evl.el_lst (ea_iss (f := fun c => decide (c = name)) rfl (mono x2) f1 fun c hc => k.one c (by simp only [allF, List.mem_append]; exact .inl (.inl (.inl (.inl hc))))) (by simp)) fun p3 H3 _ e3 h3 => ?_
  have x3 := x2.trans e3
  refine Evl.q_asgL (el_cat (Evl.ev_var rfl) h3 (Evl.el_lst (ea_iss (f := fun c => decide (c = name)) rfl (mono x3) f2 fun c hc => k.one c (by simp only [allF, List.mem_append]; exact .inl (.inl (.inl (.inr hc))))) (by simp)) (sz (by simp))) fun p4 H4 _ e4 h4 => ?_
  have x4 := x3.trans e4
  refine Evl.q_asgL (el_cat (Evl.ev_var rfl) h4 (Evl.el_lst (ea_iss (f := fun c => decide (c = name)) rfl (mono x4) f3 fun c hc => k.one c (by simp only [allF, List.mem_append]; exact .inl (.inl (.inr hc)))) (by simp)) (sz (by simp))) fun p5 H5 _ e5 h5 => ?_
  have x5 := x4.trans e5
  refine Evl.q_asgL (el_cat (Evl.ev_var rfl) h5 (Evl.el_lst (ea_iss (f := fun c => decide (c = name)) rfl (mono x5) f4 fun c hc => k.one c (by simp only [allF, List.mem_append]; exact .inl (.inr hc))) (by simp)) (sz (by simp))) fun p6 H6 _ e6 h6 => ?_
  have x6 := x5.trans e6
  refine Evl.q_asgL (el_cat (Evl.ev_var rfl) h6 (Evl.el_lst (ea_iss (f := fun c => decide (c = name)) rfl (mono x6) f5 fun c hc => k.one c (by simp only [allF, List.mem_append]; exact .inr hc)) (by simp)) (sz (by simp))) fun p7 H7 _ e7 h7 => ?_
  have x7 := x6.trans e7
  have h7' : H7 p7 = some (.lst (fitsOf name allF)) := h7
  have h2' : H7 p2 = some (.lst (ns1.map V.str ++ ns2.map V.str)) := e7 _ _ (e6 _ _ (e5 _ _ (e4 _ _ (e3 _ _ h2))))
  obtain ⟨q1, q2⟩ := pos_fits name allF (by show _ < 18; exact c3)
  refine Evl.q_when (b := false) ?_ (fun z => nomatch z) fun _ H8 e8 => ?_
  · have t1 : Evl.EvT (tTest (tOp rNe (tBM K "list" (rCntF K) (tVar 2) (tCons (tC (.bl true)) tNil)) (tC (.int 1)))) [some (.ref a), some (.ref p2), some (.ref p7)] H7 false := by
      refine Evl.et_test (Evl.ev_is (Evl.ev_op (ev_cnt rfl h7' (flat_fits name allF)) Evl.ev_c (Evl.rv_ne ?_)) ?_)
      · rfl
      · rw [c1]; rfl
    exact Evl.et_or t1 fun _ => Evl.et_or (Evl.et_not (Evl.et_B (ev_isx (c := .ref (cl "DownError")) (cv := .ref (cl "DownError")) rfl (fun u r => r) k.down (mono x7)))) fun _ => Evl.et_not (Evl.et_B (ev_isx (c := .ty "ValueError") (cv := .type "ValueError") rfl (fun u r => r) k.val (mono x7)))
  · have x8 := x7.trans e8
    refine Evl.s_ret (Evl.ev_op (Evl.ev_var rfl) (ev_idx rfl (e8 _ _ h7') (flat_fits name allF) q1 q2) (Evl.rv_ixL (Evl.sq_of (e8 _ _ h2')) ?_)) fun H9 e9 => hQ H9 (x8.trans e9)
    exact (PTy.atI_nat _ _).trans c2
theorem named_sc : FnScope nN ["error"] (defScope K15.s__law_named) := ⟨rfl, rfl, rfl, by decide +kernel, rfl, by decide +kernel, by decide +kernel⟩
theorem named_fn {P : Program} {w : World} {K : PySem.W.Frag} {mg : Str → Option Value} {base : Heap} {CT : CXT} {k : Nat} {p : Addr × Obj} {D : Addr} {cl : Str → Addr} {name x qual : Str} {f : Addr} {fd : FuncData}
    (F : FunD K x qual (defArgs K15.s__law_named) (defBody K15.s__law_named) (defScope K15.s__law_named) [] [] f fd) (kn : Kn K D cl name) (ex : ExcC K D) (isc : (PySem.W.clsIn K D).isSome = true) (pc : p.2.cls = .ref D) (pf : ∃ vs, p.2.data = .fields vs)
    (hmg : ∀ c, c ∈ allC → mg c = some (.ref (cl c))) (bi : mg "isinstance" = none) (bv : mg "ValueError" = none) : FnP P w K mg base CT (k + 1) p f fd ["error"] (spNamed p.1 p.2.dict name) := by
  obtain ⟨oc, od, dV, kV, doc, pm, an, cdv, ct, osl, rfl, lk, hcd, _, _⟩ := F.ex
  refine fn_pin lk hcd named_sc (fun vs H Q E h => by obtain ⟨rfl, _⟩ := h; rfl) fun A outer s H vs Q E hr h => ⟨_, ps_named (D := D) (cl := cl) ⟨rfl, rfl, List.mem_cons_self, ex, isc, pc, pf, hmg, bi, bv, fun _ => rfl⟩, named_ok kn h⟩
end Told

/-! Told2: _law_told. -/
namespace Told
open PySem PySem.Spec PyProof.Rows L2 L2H PTz
abbrev nT : List Str := ["contents", "guard", "error", "kind"]
def bTry : PT.S := .seq (.ret (.tup (.cons (.str "told") (.cons (.call 9 0 (.cons (.var 0) (.cons (.var 1) .nil))) .nil)))) .nop
theorem PSs_when {X : Cx} {st : List Stmt} {t : TS} {h : Prop} (f : h → PSs X st t) : PSs X st (fun D σ H => h ∧ t D σ H) := ⟨fun pins s σ H D I q => (f q.1).run pins s σ H D I q.2⟩
/-- the suite's reading, the exception's class by name -/
def tSuite (K : PySem.W.Frag) (a : Addr) (cls : Value) (d : Option Addr) (cl : Str → Addr) (name : Str) : TS :=
  tSeq (tAsg (fun σ H Q => tCons (tVar 2) tNil σ H fun vs H1 => spNamed a d name vs H1 Q fun _ _ _ => False) (gName 3))
  (tRet (tTup (tCons (tC (.str "refused")) (tCons (tVar 3) (tCons (tIf (tTest (tOp rEq (tVar 3) (tC (.str "BadValue")))) (tXf a cls d (cl "BadValue") "name" (tVar 2)) (tC .non)) tNil)))))
abbrev toldTry : Stmt := (defBody K15.s__law_told).getD 0 (.Pass ⟨0, 0, 0, 0⟩)
def suiteOf : Stmt → List Stmt
  | .Try _ [.ExceptHandler _ _ s _] _ _ _ => s
  | _ => []
def tryOf : Stmt → List Stmt
  | .Try s _ _ _ _ => s
  | _ => []
theorem told_try : PT.mB K15.tb nT 7 (defScope K15.s__law_told) bTry (tryOf toldTry) = true := by decide +kernel
theorem told_sc : FnScope nT ["contents", "guard"] (defScope K15.s__law_told) := ⟨rfl, rfl, rfl, by decide +kernel, rfl, by decide +kernel, by decide +kernel⟩
section
variable {X : Cx} {cl : Str → Addr}
theorem pss_suite {a : Addr} {oe : Obj} {d : Option Addr} {pn : List (Addr × Obj)} {name : Str} {CT : CXT} {k : Nat} {f : Addr} {fd : FuncData} (hN : X.N = nT) (hs : X.env.scope = defScope K15.s__law_told) (hfn : ∀ x, X.fn x = true) (hr : RoomH k (X.A.mark (some (.ref a))))
    (F : FnP X.prog X.w X.K X.mg X.base CT k (a, oe) f fd ["error"] (spNamed a oe.dict name)) (mf : X.mg "_law_named" = some (.ref f)) (kf : PySem.W.keepIn X.K (.ref f) = true) (bf : Binds X.K fd ["error"] []) (hx : ∀ σ, PassesAt CT (X.suite a ((a, oe) :: pn)) σ (fun _ _ _ => False))
    (T : XfC X.K (cl "BadValue")) (hno : PySem.W.findIn X.K (.ref (cl "BadValue")) "name" = some none) {cls : Value} (hz : Zc cls d oe) (hf : ∃ vs, oe.data = .fields vs) :
    PSs (X.suite a ((a, oe) :: pn)) (suiteOf toldTry) (tSuite X.K a cls d cl name) := by
  obtain ⟨hz1, hz2⟩ := hz
  have g : ∀ x, (defScope K15.s__law_told).names.lookup x = some .globalImplicit → Gl (X.suite a ((a, oe) :: pn)) x := fun x h => by
    show X.env.scope.names.lookup x = _
    rw [hs]; exact h
  have v2 : ∀ p1, PE (X.suite a ((a, oe) :: pn)) (.Name "error" p1) (tVar 2) := fun p1 => pe_var (show X.N[2]? = _ by rw [hN]; rfl) (show Vis X.env.scope _ by rw [hs]; exact .inl rfl)
  have v3 : ∀ p1, PE (X.suite a ((a, oe) :: pn)) (.Name "kind" p1) (tVar 3) := fun p1 => pe_var (show X.N[3]? = _ by rw [hN]; rfl) (show Vis X.env.scope _ by rw [hs]; exact .inl rfl)
  subst hz2
  refine pss_cons (ps_set (i := 3) (show X.N.Nodup by rw [hN]; decide) (show X.N[3]? = _ by rw [hN]; rfl) (show Loc X.env.scope _ by rw [hs]; exact .inl rfl)
    (pe_callP (X := X.suite a ((a, oe) :: pn)) (E := fun _ _ _ _ => False) F hr List.mem_cons_self (g "_law_named" rfl) mf kf bf hx (pa_cons (v2 _) pa_nil)) rfl (.inl (hfn _))) ?_
  exact pss_one (ps_ret (pe_tup (pa_cons pe_str (pa_cons (v3 _) (pa_cons (pe_ifExp (pt_cmpR op_eq (v3 _) pe_str rfl) (pe_xf T hno ⟨hz1, rfl⟩ hf (v2 _)) pe_non) pa_nil)))))
end
end Told

/-! Told3: _law_told keeps its promise. -/
namespace Told
open PySem PySem.Spec PyProof.Rows L2 L2H PTz
/-- what the module says of its exceptions -/
structure Xk (K : PySem.W.Frag) (mg : Str → Option Value) (cl : Str → Addr) : Prop where
  mgc : ∀ c, c ∈ allC → mg c = some (.ref (cl c))
  kn : ∀ n, n ∈ ns1 ++ ns2 → Kn K (cl n) cl n
  ex : ∀ n, n ∈ ns1 ++ ns2 → ExcC K (cl n)
  isc : ∀ n, n ∈ ns1 ++ ns2 → (PySem.W.clsIn K (cl n)).isSome = true
  exm : ∀ n, n ∈ ns1 ++ ns2 → PySem.W.exmOne K (.ref (cl n)) (.ref (cl "DownError")) = some true
  T : XfC K (cl "BadValue")
  no : PySem.W.findIn K (.ref (cl "BadValue")) "name" = some none
  bi : mg "isinstance" = none
  bv : mg "ValueError" = none
def fieldT (x : PT.Exn) : Option PT.T := if x.c = "BadValue" then x.fs.lookup ("name" : Str) else some .non
def phiTold (φ : Nat → List PT.T → PT.FR) : List PT.T → PT.FR
  | [c, g] => (match φ 9 [PT.frz c, PT.frz g] with
    | .ok t _ => .ok (.node false .tup [.str "told", t]) [.hole, .hole]
    | .exc x => if x.c ∈ ns1 ++ ns2 then (match fieldT x with
      | some t => .ok (.node false .tup [.str "refused", .str x.c, t]) [.hole, .hole]
      | none => .fail) else .fail
    | .fail => .fail)
  | _ => .fail
theorem try_run (φ : Nat → List PT.T → PT.FR) (c g : PT.T) : PT.ex ⟨φ, K15.tb, [false, false]⟩ bTry [some c, some g, none, none] = (match φ 9 [PT.frz c, PT.frz g] with
    | .ok t _ => .ret (.node false .tup [.str "told", t]) [some (PT.frz c), some (PT.frz g), none, none]
    | .exc x => .exc x [some (PT.frz c), some (PT.frz g), none, none]
    | .fail => .fail) := by
  have hd : PT.Tb.dfl K15.tb 9 0 = some [] := rfl
  have f2 : PT.fitB 2 = true := by decide
  unfold bTry
  simp [PT.lends, hd]
  unfold PT.callE
  simp [PT.take]
  cases φ 9 [PT.frz c, PT.frz g] with
  | ok t us =>
    have hg : PT.give [none, none] us [some (PT.frz c), some (PT.frz g), none, none] = [some (PT.frz c), some (PT.frz g), none, none] := by
      rcases us with _ | ⟨_, _ | ⟨_, _⟩⟩ <;> rfl
    simp [PT.backE, hg, f2]
  | exc x => simp [PT.backE]
  | fail => simp [PT.backE]
theorem told_body : defBody K15.s__law_told = [toldTry] := by rfl
theorem lookup_rep {K : PySem.W.Frag} {H : Hp} {Z : Addr → Prop} {n : Str} {t : PT.T} : ∀ {fs : List (Str × PT.T)} {vs : List V}, PT.RepL K H Z (fs.map (·.2)) vs [] → fs.lookup n = some t → ∃ v, ((fs.map (·.1)).zip vs).lookup n = some v ∧ PT.Rep K H Z t v []
  | [], _, _, h => by cases h
  | (m, u) :: fs, vs, r, h => by
    generalize hF : ([] : List Addr) = Fx at r
    cases r with
    | cons t' v F ts vs' G r q d =>
      obtain ⟨rfl, rfl⟩ := List.append_eq_nil_iff.mp hF.symm
      simp only [List.lookup_cons] at h
      simp only [List.map_cons, List.zip_cons_cons, List.lookup_cons]
      split at h
      · cases h
        exact ⟨v, rfl, r⟩
      · exact lookup_rep q h
theorem PSs_ex {X : Cx} {st : List Stmt} {ι : Type} {h : ι → Prop} {t : ι → TS} (f : ∀ i, h i → PSs X st (t i)) : PSs X st (fun D σ H => ∃ i, h i ∧ t i D σ H) := ⟨fun pins s σ H D I ⟨i, q1, q2⟩ => (f i q1).run pins s σ H D I q2⟩
theorem told_ok {P : Program} {w : World} {K : PySem.W.Frag} {mg : Str → Option Value} {base : Heap} {cl : Str → Addr} {x qual x2 qual2 : Str} {f f2 : Addr} {fd fd2 : FuncData} {φ : Nat → List PT.T → PT.FR}
    (F : FunD K x qual (defArgs K15.s__law_told) (defBody K15.s__law_told) (defScope K15.s__law_told) [] [] f fd) (F2 : FunD K x2 qual2 (defArgs K15.s__law_named) (defBody K15.s__law_named) (defScope K15.s__law_named) [] [] f2 fd2)
    (m2 : mg "_law_named" = some (.ref f2)) (b2 : Binds K fd2 ["error"] []) (xk : Xk K mg cl) (pr : PT.Pr P w K mg base K15.tb) (cal : ∀ g gi, K15.tb.fn g = some gi → gi.lv ≤ 7 → ∃ a fd, PT.CalK P w K mg base φ g gi a fd) :
    FnOk P w K mg base (L2.CX P w) 8 f fd ["contents", "guard"] (PT.spF K mg 2 (phiTold φ)) := by
  refine F.ok told_sc (fun vs H Q E h => h.1) fun cdv A outer s H vs Q E hroom hsp => ?_
  obtain ⟨hl, ts, Z, Fr, rl, ok, hsp⟩ := hsp
  refine ⟨_, by
    rw [told_body]
    refine pss_one (ps_try_as (X := cxOf (L2.CX P w) P w K mg base nT qual (defScope K15.s__law_told) f cdv A outer s H E) (n := "error") (i := 2) (c := .ref (cl "DownError")) (Wout := fun cls d _ H' => E cls d H')
      (tb := fun W => PT.semS K mg W [false, false] (PT.ex ⟨φ, K15.tb, [false, false]⟩ bTry)) (ts := fun a cls d D σ H => ∃ n, (n ∈ ns1 ++ ns2 ∧ cls = .ref (cl n)) ∧ tSuite K a cls d cl n D σ H)
      rfl rfl told_sc.nd rfl rfl ⟨rfl, rfl, .inl (xk.mgc _ (by decide))⟩ (L2.takes_of rfl rfl rfl rfl) (fun W pn xe tk po => ?_) (fun a oe cls d pn hz hf => ?_))
    · exact PT.goB (C := ⟨φ, K15.tb, [false, false]⟩) (k := 7) (N := nT) (sc := defScope K15.s__law_told) ⟨rfl, told_sc.nd, rfl, told_sc.kind, rfl, hroom, tk, pr.bn, pr.gl, fun g gi h1 h2 => (let ⟨a, fd, q⟩ := cal g gi h1 h2; ⟨a, fd, q.ok, q.mg, q.kp, q.bd⟩), po⟩
        ⟨fun _ _ => rfl, fun c fs h => (let ⟨Cc, m1, mk⟩ := pr.xc c fs h; ⟨Cc, m1, mk _ rfl rfl rfl rfl rfl rfl (hroom.mono (by decide))⟩)⟩ bTry told_try
    · exact PSs_ex fun n hn => pss_suite (X := cxOf (L2.CX P w) P w K mg base nT qual (defScope K15.s__law_told) f cdv A outer s H E) (name := n) (CT := L2.CX P w) (k := 7) rfl rfl (fun _ => rfl) ⟨hroom.dp, hroom.un⟩
        (named_fn (k := 6) F2 (xk.kn n hn.1) (xk.ex n hn.1) (xk.isc n hn.1) (hz.1.trans hn.2) hf xk.mgc xk.bi xk.bv) m2 F2.kp b2 (L2.passAt takes0) xk.T xk.no hz hf, ?_⟩
  match ts, vs, rl, hl, hsp with
  | [c, g], [v1, v2], rl, hl, hsp =>
    have holes : ∀ (H' : Hp) (Z' : Addr → Prop), PT.RepL K H' Z' [PT.T.hole, PT.T.hole] [v1, v2] [] := fun H' Z' => by
      have := PT.RepL.cons .hole v1 [] [.hole] [v2] [] (.hole v1 : PT.Rep K H' Z' _ _ _) (.cons .hole v2 [] [] [] [] (.hole v2) .nil PT.Dj.nilL) PT.Dj.nilL
      simpa using this
    have re : PT.RepE K H Z [some c, some g, none, none] (L2.start nT [v1, v2]) Fr := PT.start_ok 2 rl
    refine ⟨_, Z, Fr, re, ok, ?_⟩
    rw [try_run]
    unfold phiTold at hsp
    cases q : φ 9 [PT.frz c, PT.frz g] with
    | fail => simp only [q] at hsp
    | ok t us =>
      simp only [q] at hsp
      intro v σ' H' Z' F' Ft h1 h2 h3 h4 h5 h6
      exact hsp v H' Z' [] Ft (holes H' Z') h2 PT.Dj.nilL (h4.mono fun x hx => List.mem_append_right _ (by simpa using hx)) (h5.weak fun x hx => List.mem_append_right _ (by simpa using hx))
    | exc y =>
      simp only [q] at hsp
      have hn : y.c ∈ ns1 ++ ns2 := Classical.byContradiction fun hn => by
        rw [if_neg hn] at hsp
        exact hsp.elim
      rw [if_pos hn] at hsp
      cases qf : fieldT y with
      | none => simp only [qf] at hsp
      | some t =>
        simp only [qf] at hsp
        intro cls d σ' H' Z' F' h1 hx h3 h4 h5
        obtain ⟨Cc, mc, rfl, hd⟩ := hx
        have mem : y.c ∈ allC := List.mem_cons_of_mem _ hn
        have hC : Cc = cl y.c := by
          have := (xk.mgc _ mem).symm.trans mc
          exact (Value.ref.inj (Option.some.inj this)).symm
        subst hC
        refine ⟨true, xk.exm y.c hn, fun _ a ha => ⟨y.c, ⟨hn, rfl⟩, ?_⟩, fun z => nomatch z⟩
        have sl : σ'.length = 4 := by rw [← h1.length]; rfl
        have s2 : (σ'.set 2 (some (V.ref a)))[2]? = some (some (V.ref a)) := by simp [sl]
        have s2' : ((σ'.set 2 (some (V.ref a))).set 3 (some (V.str y.c)))[2]? = some (some (V.ref a)) := by simp [sl]
        have s3 : ((σ'.set 2 (some (V.ref a))).set 3 (some (V.str y.c)))[3]? = some (some (V.str y.c)) := by simp [sl]
        have hdd : ∀ dd, d = some dd → ∃ fs, H' dd = some (.xd fs) := fun dd ed => by
          rcases hd with ⟨_, hd⟩ | ⟨_, d2, ws, hd, _, hx, _⟩
          · rw [hd] at ed; cases ed
          · rw [hd] at ed; cases ed; exact ⟨_, hx⟩
        refine ⟨.ref a, s2, rfl, hdd, fun H1 e1 => ?_⟩
        unfold gName
        unfold tRet tTup tCons tC
        simp only []
        -- the end of the suite
        have fin : ∀ v, PT.Rep K H' Z' t v [] → ∀ p, H1 p = none → Q (.ref p) (upd H1 p (.tup [.str "refused", .str y.c, v])) := fun v rv p hp => by
          have kept : ∀ b, (H' b).isSome = true → upd H1 p (.tup [.str "refused", .str y.c, v]) b = H' b := fun b hb => by
            cases qb : H' b with
            | none => rw [qb] at hb; cases hb
            | some o =>
              have e2 := e1 b o qb
              rw [upd_ne fun z => by rw [z, hp] at e2; cases e2]
              exact e2
          have ez : ∀ b, Z' b → upd H1 p (.tup [.str "refused", .str y.c, v]) b = H' b := fun b z => kept b (h3.zd b z)
          have rl3 : PT.RepL K (upd H1 p (.tup [.str "refused", .str y.c, v])) (fun b => Z' b ∨ b = p) [.str "refused", .str y.c, t] [.str "refused", .str y.c, v] [] := by
            have r3 := rv.keep (Z' := fun b => Z' b ∨ b = p) (fun _ z => absurd z (by simp)) ez fun _ z => .inl z
            have := PT.RepL.cons (.str "refused") (.str "refused") [] _ _ [] (.str _) (.cons (.str y.c) (.str y.c) [] _ _ [] (.str _) (.cons t v [] [] [] [] r3 .nil PT.Dj.nilL) PT.Dj.nilL) PT.Dj.nilL
            simpa using this
          refine hsp (.ref p) _ (fun b => Z' b ∨ b = p) [] [] (holes _ _) (.shr .tup _ p _ (.inl ⟨.inr rfl, _, rfl, .inl upd_same⟩) rl3) PT.Dj.nilL ⟨fun _ z => absurd z (by simp), fun b z => ?_⟩ ⟨fun b z => .inl (h4.1 b z), fun b hb hnb => ?_⟩
          · rcases z with z | z
            · rw [ez b z]; exact h3.zd b z
            · rw [z, upd_same]; rfl
          · obtain ⟨g1, g2, g3⟩ := h4.2 b hb hnb
            have hb' : (H' b).isSome = true := by rw [g1]; exact hb
            refine ⟨(kept b hb').trans g1, by simp, fun z => z.elim g3 fun z => ?_⟩
            cases qb : H' b with
            | none => rw [qb] at hb'; cases hb'
            | some o =>
              have e2 := e1 b o qb
              rw [z, hp] at e2; cases e2
        refine ⟨_, s3, _, s3, rfl, _, rfl, ?_⟩
        by_cases hb : y.c = "BadValue"
        · have hf : y.fs.lookup ("name" : Str) = some t := by unfold fieldT at qf; rw [if_pos hb] at qf; exact qf
          show ite (decide (V.str y.c = V.str "BadValue") = true) _ _
          rw [if_pos (decide_eq_true (show V.str y.c = V.str "BadValue" by rw [hb]))]
          rcases hd with ⟨hd, _⟩ | ⟨_, d2, ws, hd, hz2, hx2, rw2⟩
          · rw [hd] at hf; cases hf
          · obtain ⟨v, lv, rv⟩ := lookup_rep rw2 hf
            exact ⟨.ref a, s2', rfl, by rw [hb], d2, _, v, hd, e1 _ _ hx2, lv, (show 3 ≤ sizeLine by decide), fin v rv⟩
        · have hf : t = .non := by unfold fieldT at qf; rw [if_neg hb] at qf; exact (Option.some.inj qf).symm
          show ite (decide (V.str y.c = V.str "BadValue") = true) _ _
          rw [if_neg (show ¬ decide (V.str y.c = V.str "BadValue") = true from fun z => hb (V.str.inj (of_decide_eq_true z)))]
          subst hf
          exact ⟨(show 3 ≤ sizeLine by decide), fin .non .non⟩
  | [], _, rl, hl, _ => have := rl.length; simp at this; omega
  | [_], _, rl, hl, _ => have := rl.length; simp at this; omega
  | _ :: _ :: _ :: _, _, rl, hl, _ => have := rl.length; simp at this; omega
end Told

/-! K15e: coefficient, parity_of, parities_of. -/
namespace K15
open PySem PT PTy
open L2 (atI ixN)
theorem g_base : tb.gl 1 = some (("BASE" : Str), T.int 250) := rfl
theorem g_field : tb.gl 0 = some (("FIELD" : Str), T.int 257) := rfl
theorem gloE_some {p : Str × T} {e : PT.Env} : gloE (some p) e = .ok (frz p.2) e := rfl
theorem run_coefficient (φ : Nat → List T → FR) (k s : Int) (h4 : ∀ n : Int, φ 4 [.int n] = .ok (.int (inv n)) [.hole]) : PT.run φ tb d_coefficient [.int k, .int s] = .ok (.int (inv (250 + k - s))) [.hole, .hole] := by
  rw [run_fin rfl]
  show fin [false, false] 2 (ex ⟨φ, tb, [false, false]⟩ b_coefficient [some (.int k), some (.int s)]) = _
  have hd : tb.dfl 4 0 = some [] := rfl
  unfold b_coefficient
  simp [hd, callE, take, h4, backE, give, g_base, gloE_some]
/-- a slot's content as a tree -/
def tO : Option Int → T
  | some i => .int i
  | none => .non
def tC (cs : List (Option Int)) : List T := cs.map tO
/-- the terms of a parity, from slot j on -/
def terms (k : Int) : Nat → List (Option Int) → List Int
  | _, [] => []
  | j, none :: cs => terms k (j + 1) cs
  | j, some c :: cs => c * inv (250 + k - j) :: terms k (j + 1) cs
def par (k : Int) (cs : List (Option Int)) : Int := (terms k 0 cs).sum % 257
@[simp] theorem frz_tO (o : Option Int) : frz (tO o) = tO o := by cases o <;> rfl
@[simp] theorem frzL_tC (cs : List (Option Int)) : frzL (tC cs) = tC cs := by
  induction cs with
  | nil => rfl
  | cons c cs ih => show frz (tO c) :: frzL (tC cs) = _; rw [ih, frz_tO]; rfl
@[simp] theorem tC_len (cs : List (Option Int)) : (tC cs).length = cs.length := by unfold tC; simp
theorem mul_smallR {i j : Int} (h : 0 ≤ j ∧ j < 257) : mulOk i j = true := by
  unfold mulOk
  rw [decide_eq_true (show (-(2 ^ 64) < i ∧ i < 2 ^ 64) ∨ (-(2 ^ 64) < j ∧ j < 2 ^ 64) from .inr ⟨by omega, by omega⟩)]
  rfl
def turnP (k : Int) : T → Option T
  | .node _ .tup [.int j, .int c] => some (.int (c * inv (250 + k - j)))
  | _ => none
theorem turns (k : Int) : ∀ (n : Nat) (cs : List (Option Int)), (enumT n (tC cs)).filterMap (turnP k) = (terms k n cs).map T.int
  | _, [] => rfl
  | n, none :: cs => turns k (n + 1) cs
  | n, some c :: cs => by
    show (turnP k (.node false .tup [.int n, .int c]) |>.toList) ++ (enumT (n + 1) (tC cs)).filterMap (turnP k) = _
    rw [turns k (n + 1) cs]
    rfl
theorem enum_mem {x : T} : ∀ (n : Nat) (cs : List (Option Int)), x ∈ enumT n (tC cs) → ∃ (j : Nat) (o : Option Int), x = .node false .tup [.int j, tO o]
  | _, [], h => by cases h
  | n, c :: cs, h => (List.mem_cons.mp h).elim (fun z => ⟨n, c, z⟩) fun z => enum_mem (n + 1) cs z
theorem enum_length : ∀ (n : Nat) (cs : List (Option Int)), (enumT n (tC cs)).length = cs.length
  | _, [] => rfl
  | n, c :: cs => by
    show (enumT (n + 1) (tC cs)).length + 1 = cs.length + 1
    rw [enum_length (n + 1) cs]
@[simp] theorem ints_map (l : List Int) : intsT (l.map T.int) = some l := by
  induction l with
  | nil => rfl
  | cons a l ih => show (intsT (l.map T.int)).map (a :: ·) = _; rw [ih]; rfl
theorem frzL_ints (l : List Int) : frzL (l.map T.int) = l.map T.int := frzL_tI l
theorem sum_lst {b : Bool} {ts : List T} : biT .sum [.node b .lst ts] = (intsT ts).map fun ns => .int ns.sum := by cases b <;> rfl
theorem lcBody_bd {P : List Bool} {tg : Tg} {c : PT.Env → R Bool} {x : PT.Env → R T} {t : T} {e : PT.Env} : lcBody P tg c x t e = R.bd (asgE P tg t e) fun _ e2 => R.bd (c e2) fun b e3 => if b = true then R.bo (x e3) (fun t => some (some t)) else .ok none e3 := rfl
theorem notn_non : cmpT .notn .non .non = some false := nrfl rfl
theorem notn_int {i : Int} : cmpT .notn (.int i) .non = some true := nrfl rfl
theorem run_parity (φ : Nat → List T → FR) (cs : List (Option Int)) (b : Bool) (k : Int) (hz : cs.length ≤ 16777216) (h5 : ∀ k s : Int, φ 5 [.int k, .int s] = .ok (.int (inv (250 + k - s))) [.hole, .hole]) :
    PT.run φ tb d_parity_of [.node b .lst (tC cs), .int k] = .ok (.int (par k cs)) [.hole, .hole] := by
  rw [run_fin rfl]
  show fin [false, false] 2 (ex ⟨φ, tb, [false, false]⟩ b_parity_of [some (.node b .lst (tC cs)), some (.int k), none, none, none]) = _
  have hd : tb.dfl 5 0 = some [] := rfl
  refine fin_of (r := .ret (.int (par k cs)) [some (.node false .lst (tC cs)), some (.int k), some (.node false .lst ((terms k 0 cs).map T.int)), none, none]) ?_ rfl
  refine seq_n (e1 := [some (.node false .lst (tC cs)), some (.int k), some (.node true .lst ((terms k 0 cs).map T.int)), none, none]) ?_ ?_
  · rw [ex_asg, ev_lc, evI_enum, ev_var, varE_0, bindO_ok]
    have he : enum1T (frz (.node b .lst (tC cs))) = some (enumT 0 (tC cs)) := by
      rw [frz_node]
      show some (enumT 0 (frzL (frzL (tC cs)))) = _
      rw [frzL_frzL', frzL_tC]
    rw [he, ofO_some, bind_ok, frz_node, frzL_tC]
    have hl := lcGo_all (own := [3, 4]) (f := lcBody [false, false] (.tp (.cons (.nm 3) (.cons (.nm 4) .nil))) (fun e => evC ⟨φ, tb, [false, false]⟩ (.some (.cmp .notn (.var 4) .non)) e) (fun e => ev ⟨φ, tb, [false, false]⟩ (.bin .mul (.var 4) (.call 5 0 (.cons (.var 1) (.cons (.var 3) .nil)))) e))
      (g := turnP k) (e0 := [some (.node false .lst (tC cs)), some (.int k), none, none, none]) (items := enumT 0 (tC cs)) (acc := []) (fun x hx => ?_) (by rw [enum_length]; simpa using hz)
    · have hw : wipeE [some (.node false .lst (tC cs)), some (.int k), none, none, none] [3, 4] = [some (.node false .lst (tC cs)), some (.int k), none, none, none] := rfl
      rw [hw]
      show R.s (R.bo (lcGo [3, 4] _ (enumT 0 (tC cs)) [] _) _) _ = _
      rw [hl]
      simp [turns]
    · obtain ⟨j, o, rfl⟩ := enum_mem 0 cs hx
      cases o with
      | none =>
        refine ⟨[some (.node false .lst (tC cs)), some (.int k), none, some (.int j), some .non], ?_, rfl⟩
        have ha : asgE [false, false] (.tp (.cons (.nm 3) (.cons (.nm 4) .nil))) (.node false .tup [.int j, .non]) [some (.node false .lst (tC cs)), some (.int k), none, none, none] = .ok () [some (.node false .lst (tC cs)), some (.int k), none, some (.int j), some .non] := rfl
        rw [lcBody_bd]
        rw [show tO none = T.non from rfl, ha, bind_ok]
        simp [notn_non]
        rfl
      | some c =>
        refine ⟨[some (.node false .lst (tC cs)), some (.int k), none, some (.int j), some (.int c)], ?_, rfl⟩
        have hm : mulOk c (inv (250 + k - j)) = true := mul_smallR (inv_bd _ 8)
        have ha : asgE [false, false] (.tp (.cons (.nm 3) (.cons (.nm 4) .nil))) (.node false .tup [.int j, (.int c)]) [some (.node false .lst (tC cs)), some (.int k), none, none, none] = .ok () [some (.node false .lst (tC cs)), some (.int k), none, some (.int j), some (.int c)] := rfl
        rw [lcBody_bd]
        rw [show tO (some c) = T.int c from rfl, ha, bind_ok]
        simp [notn_int, hd, callE, take, h5, backE, give, hm]
        rfl
  · simp [sum_lst, frzL_ints, g_field, gloE_some, par]
end K15

/-! K15f: parities_of. -/
namespace K15
open PySem PT PTy
open L2 (atI ixN)
theorem rng_mem {x : T} {n : Nat} (h : x ∈ rngT 0 n) : ∃ i : Nat, i < n ∧ x = .int (i : Int) := by
  unfold rngT at h
  obtain ⟨i, hi, rfl⟩ := List.mem_map.mp h
  exact ⟨i, by simpa using hi, by simp⟩
theorem rng_fm {g : T → Option T} {f : Nat → T} (n : Nat) (h : ∀ i, i < n → g (.int (i : Int)) = some (f i)) : (rngT 0 n).filterMap g = (List.range n).map f := by
  unfold rngT
  rw [List.filterMap_map]
  have : ∀ l : List Nat, (∀ i ∈ l, i < n) → l.filterMap (g ∘ fun i : Nat => T.int (0 + (i : Int))) = l.map f := by
    intro l
    induction l with
    | nil => intro _; rfl
    | cons a l ih =>
      intro hl
      have e : (g ∘ fun i : Nat => T.int (0 + (i : Int))) a = some (f a) := by
        show g (T.int (0 + (a : Int))) = _
        rw [Int.zero_add]
        exact h a (hl a List.mem_cons_self)
      rw [List.filterMap_cons_some e, ih fun i hi => hl i (List.mem_cons_of_mem _ hi)]
      rfl
  exact this _ fun i hi => by simpa using hi
def parsOf (n : Nat) (cs : List (Option Int)) : List Int := (List.range n).map fun (k : Nat) => par (k : Int) cs
def turnQ (cs : List (Option Int)) : T → Option T
  | .int k => some (.int (par k cs))
  | _ => none
theorem rng_get {n i : Nat} {x : T} (h : (rngT 0 n)[i]? = some x) : i < n ∧ x = .int (i : Int) := by
  unfold rngT at h
  rw [List.getElem?_map] at h
  cases q : (List.range n)[i]? with
  | none => rw [q] at h; cases h
  | some j =>
    rw [q] at h
    obtain ⟨h1, h2⟩ := List.getElem?_eq_some_iff.mp q
    have hj : i = j := by rw [← h2]; simp
    subst hj
    have e := Option.some.inj h
    refine ⟨by simpa using h1, ?_⟩
    rw [← e]
    simp
theorem rng1_nat {n : Nat} (hn : n ≤ 1000000) : rng1T (.int (n : Int)) = some (rngT 0 n) := by
  show (if rngOk (n : Int) = true then some (rngT 0 (n : Int).toNat) else none) = _
  rw [if_pos (show rngOk (n : Int) = true from decide_eq_true ⟨by omega, by omega⟩)]
  rfl
theorem rng_len (n : Nat) : (rngT 0 n).length = n := by unfold rngT; simp
theorem run_parities_of (φ : Nat → List T → FR) (cs : List (Option Int)) (b : Bool) (n : Nat) (hn : n ≤ 1000) (h6 : ∀ k : Int, φ 6 [.node false .lst (tC cs), .int k] = .ok (.int (par k cs)) [.hole, .hole]) :
    PT.run φ tb d_parities_of [.node b .lst (tC cs), .int n] = .ok (.node true .lst ((parsOf n cs).map T.int)) [.hole, .hole] := by
  rw [run_fin rfl]
  show fin [false, false] 2 (ex ⟨φ, tb, [false, false]⟩ b_parities_of [some (.node b .lst (tC cs)), some (.int n), none]) = _
  have hd : tb.dfl 6 0 = some [] := rfl
  have hl := lcGo_st (own := [2]) (f := lcBody [false, false] (.nm 2) (fun e => evC ⟨φ, tb, [false, false]⟩ .none e) (fun e => ev ⟨φ, tb, [false, false]⟩ (.call 6 0 (.cons (.var 0) (.cons (.var 2) .nil))) e)) (g := turnQ cs) (items := rngT 0 n) (acc := [])
    (fun i => [some (T.node (if i = 0 then b else false) .lst (tC cs)), some (.int n), none]) (fun i x hx => ?_) (by rw [rng_len]; simp; omega)
  · refine fin_of (r := .ret (.node true .lst ((parsOf n cs).map T.int)) [some (T.node (if n = 0 then b else false) .lst (tC cs)), some (.int n), none]) ?_ rfl
    refine seq_r (ret_of ?_)
    rw [ev_lc, evI_rng1]
    have e1 : R.bo (ev ⟨φ, tb, [false, false]⟩ (.var 1) [some (.node b .lst (tC cs)), some (.int n), none]) rng1T = .ok (rngT 0 n) [some (.node b .lst (tC cs)), some (.int n), none] := by
      simp [rng1_nat (show n ≤ 1000000 by omega)]
    rw [e1, bind_ok]
    rw [rng_len] at hl
    show R.bo (lcGo [2] _ (rngT 0 n) [] [some (T.node (if 0 = 0 then b else false) .lst (tC cs)), some (.int n), none]) _ = _
    rw [hl, bindO_ok, rng_fm (f := fun k => T.int (par (k : Int) cs)) n (fun i _ => rfl)]
    simp [parsOf]
  · obtain ⟨h1, rfl⟩ := rng_get hx
    refine ⟨[some (T.node false .lst (tC cs)), some (.int n), some (.int i)], ?_, by simp [wipeE]⟩
    rw [lcBody_bd]
    simp [hd, callE, take, h6, backE, give]
    rfl
end K15

/-! K15g: is_between_or_none, is_list_of. -/
namespace K15
open PySem PT PTy
open L2 (atI ixN)
def betweenN (t : T) (lo hi : Int) : Bool := match t with
  | .non => true
  | t => between t lo hi
theorem between_frz {t : T} {lo hi : Int} : between (frz t) lo hi = between t lo hi := by cases t <;> simp [between]
def isNon : T → Bool
  | .non => true
  | _ => false
theorem isn_cases {t : T} (h : okV t = true) : cmpT .isn t .non = some (isNon t) := by
  cases t <;> first | rfl | cases h
theorem run_between_or_none (φ : Nat → List T → FR) (t : T) (lo hi : Int) (h : okV t = true) (h1 : ∀ t, okV t = true → φ 1 [t, .int lo, .int hi] = .ok (.bl (between t lo hi)) [.hole, .hole, .hole]) :
    PT.run φ tb d_is_between_or_none [t, .int lo, .int hi] = .ok (.bl (betweenN t lo hi)) [.hole, .hole, .hole] := by
  rw [run_fin rfl]
  show fin [false, false, false] 3 (ex ⟨φ, tb, [false, false, false]⟩ b_is_between_or_none [some t, some (.int lo), some (.int hi)]) = _
  have c1 := h1 (frz t) (by rw [okV_frz]; exact h)
  have hd : tb.dfl 1 0 = some [] := rfl
  have hi1 := isn_cases (t := frz t) (by rw [okV_frz]; exact h)
  unfold b_is_between_or_none
  simp [hi1]
  cases t with
  | non => simp [betweenN, isNon]
  | _ => simp [betweenN, isNon, hd, callE, take, backE, give] at c1 ⊢ <;> simp [c1, backE, give, between]
theorem run_list_of (φ : Nat → List T → FR) (t : T) (lo hi : Int) (h : okV t = true) : PT.run φ tb d_is_list_of [t, .int lo, .int hi] = .ok (.bl (match listLen t with
    | some n => decide (lo ≤ (n : Int) ∧ (n : Int) ≤ hi)
    | none => false)) [.hole, .hole, .hole] := by
  rw [run_fin rfl]
  show fin [false, false, false] 3 (ex ⟨φ, tb, [false, false, false]⟩ b_is_list_of [some t, some (.int lo), some (.int hi)]) = _
  unfold b_is_list_of
  cases t with
  | hole => cases h
  | node b k us =>
    cases k with
    | lst =>
      by_cases h1 : lo ≤ (us.length : Int)
      · by_cases h2 : (us.length : Int) ≤ hi <;> simp [isiT, listLen, h1, h2]
      · simp [isiT, listLen, h1]
    | klst =>
      have hk : ∀ ts : List T, biT .len [.node false .klst ts] = some (.int ts.length) := fun _ => nrfl rfl
      by_cases h1 : lo ≤ (us.length : Int)
      · by_cases h2 : (us.length : Int) ≤ hi <;> simp [isiT, listLen, h1, h2, hk]
      · simp [isiT, listLen, h1, hk]
    | dtu ks => cases h
    | _ => simp [isiT, listLen]
  | _ => simp [isiT, listLen]
end K15

/-! K15h: is_contents, parities. -/
namespace K15
open PySem PT PTy
open L2 (atI ixN)
theorem g_room : tb.gl 3 = some (("MOST_ROOM" : Str), T.int 40) := rfl
theorem g_content : tb.gl 2 = some (("MOST_CONTENT" : Str), T.int 250) := rfl
theorem g_guard : tb.gl 4 = some (("MOST_GUARD" : Str), T.int 3) := rfl
/-- is_contents of a list of plain values -/
def contOk (ts : List T) : Bool := ts.all fun t => betweenN t 0 250
@[simp] theorem bls_map (l : List Bool) : blsT (l.map T.bl) = some l := by
  induction l with
  | nil => rfl
  | cons a l ih => show (blsT (l.map T.bl)).map (a :: ·) = _; rw [ih]; rfl
theorem all_lst {b : Bool} {ts : List T} : biT .all [.node b .lst ts] = (blsT ts).map fun bs => .bl (bs.all id) := by cases b <;> rfl
def spListOf (φ : Nat → List T → FR) : Prop := ∀ (t : T) (lo hi : Int), okV t = true → φ 3 [t, .int lo, .int hi] = .ok (.bl (match listLen t with
    | some n => decide (lo ≤ (n : Int) ∧ (n : Int) ≤ hi)
    | none => false)) [.hole, .hole, .hole]
def spBoN (φ : Nat → List T → FR) : Prop := ∀ (t : T) (lo hi : Int), okV t = true → φ 2 [t, .int lo, .int hi] = .ok (.bl (betweenN t lo hi)) [.hole, .hole, .hole]
/-- no list: it is not looked into -/
theorem run_contents_no (φ : Nat → List T → FR) (t : T) (h : okV t = true) (h3 : spListOf φ) (hn : (match listLen t with
    | some n => decide ((1 : Int) ≤ (n : Int) ∧ (n : Int) ≤ 40)
    | none => false) = false) : PT.run φ tb d_is_contents [t] = .ok (.bl false) [.hole] := by
  rw [run_fin rfl]
  show fin [false] 1 (ex ⟨φ, tb, [false]⟩ b_is_contents [some t, none]) = _
  have hd : tb.dfl 3 0 = some [] := rfl
  have c3 := h3 (frz t) 1 40 (by rw [okV_frz]; exact h)
  have e : listLen (frz t) = listLen t := by
    cases t with
    | node b k us => cases k <;> simp [listLen]
    | _ => rfl
  rw [e] at c3
  rw [hn] at c3
  unfold b_is_contents
  simp [hd, callE, take, c3, backE, give, g_room, gloE_some]
def turnB (x : T) : Option T := some (.bl (betweenN x 0 250))
theorem betweenN_frz {t : T} {lo hi : Int} : betweenN (frz t) lo hi = betweenN t lo hi := by cases t <;> simp [betweenN, between]
theorem turnsB : ∀ ts : List T, (frzL ts).filterMap turnB = (ts.map fun t => betweenN t 0 250).map T.bl
  | [] => rfl
  | t :: ts => by
    have h := turnsB ts
    show (turnB (frz t)).toList ++ (frzL ts).filterMap turnB = _
    rw [h]
    unfold turnB
    rw [betweenN_frz]
    rfl
theorem okL_mem {x : T} : ∀ {ts : List T}, ts.all okV = true → x ∈ frzL ts → okV x = true ∧ frz x = x
  | [], _, h => by cases h
  | t :: ts, h, hx => by
    simp only [List.all_cons, Bool.and_eq_true] at h
    rcases List.mem_cons.mp (show x ∈ frz t :: frzL ts from hx) with z | z
    · rw [z]; exact ⟨by rw [okV_frz]; exact h.1, frz_frz t⟩
    · exact okL_mem h.2 z
theorem run_contents (φ : Nat → List T → FR) (b : Bool) (ts : List T) (hok : ts.all okV = true) (h1 : 1 ≤ ts.length) (h40 : ts.length ≤ 40) (h3 : spListOf φ) (h2 : spBoN φ) : PT.run φ tb d_is_contents [.node b .lst ts] = .ok (.bl (contOk ts)) [.hole] := by
  rw [run_fin rfl]
  show fin [false] 1 (ex ⟨φ, tb, [false]⟩ b_is_contents [some (.node b .lst ts), none]) = _
  have hd : tb.dfl 3 0 = some [] := rfl
  have hd2 : tb.dfl 2 0 = some [] := rfl
  have c3 := h3 (.node false .lst (frzL ts)) 1 40 rfl
  have e : (match listLen (T.node false .lst (frzL ts)) with
    | some n => decide ((1 : Int) ≤ (n : Int) ∧ (n : Int) ≤ 40)
    | none => false) = true := by
    show decide ((1 : Int) ≤ ((frzL ts).length : Int) ∧ ((frzL ts).length : Int) ≤ 40) = true
    rw [frzL_len']
    exact decide_eq_true ⟨by omega, by omega⟩
  rw [e] at c3
  have first : ev ⟨φ, tb, [false]⟩ (.call 3 0 (.cons (.var 0) (.cons (.int 1) (.cons (.glo 3) .nil)))) [some (.node b .lst ts), none] = .ok (.bl true) [some (.node false .lst (frzL ts)), none] := by
    simp [hd, callE, take, c3, backE, give, g_room, gloE_some]
  have hl := lcGo_all (own := [1]) (f := lcBody [false] (.nm 1) (fun e => evC ⟨φ, tb, [false]⟩ .none e) (fun e => ev ⟨φ, tb, [false]⟩ (.call 2 0 (.cons (.var 1) (.cons (.int 0) (.cons (.glo 2) .nil)))) e)) (g := turnB) (e0 := [some (.node false .lst (frzL ts)), none]) (items := frzL ts) (acc := []) (fun x hx => ?_) (by rw [frzL_len']; simp; omega)
  · have second : ev ⟨φ, tb, [false]⟩ (.lc [1] (.nm 1) (.seq (.var 0)) .none (.call 2 0 (.cons (.var 1) (.cons (.int 0) (.cons (.glo 2) .nil))))) [some (.node false .lst (frzL ts)), none] = .ok (.node true .lst ((ts.map fun t => betweenN t 0 250).map T.bl)) [some (.node false .lst (frzL ts)), none] := by
      rw [ev_lc, evI_seq, ev_var, varE_0, bindO_ok]
      have hi : (itemsT (frz (T.node false .lst (frzL ts)))).map frzL = some (frzL ts) := by
        rw [frz_node, frzL_frzL']
        show some (frzL (frzL ts)) = _
        rw [frzL_frzL']
      rw [hi, ofO_some, bind_ok, frz_node, frzL_frzL']
      show R.bo (lcGo [1] _ (frzL ts) [] [some (.node false .lst (frzL ts)), none]) _ = _
      rw [hl, bindO_ok, turnsB]
      rfl
    refine fin_of (r := .ret (.bl (contOk ts)) [some (.node false .lst (frzL ts)), none]) ?_ rfl
    refine seq_r (ret_of ?_)
    rw [ev_and, first, bindO_ok]
    show R.bd (R.ok true _) _ = _
    rw [bind_ok, if_pos rfl, ev_bi, evL_cons, second, bind_ok, evL_nil, bindO_ok, ofO_some, bindO_ok, all_lst, bls_map]
    simp [contOk]
  · obtain ⟨o1, o2⟩ := okL_mem hok hx
    refine ⟨[some (.node false .lst (frzL ts)), some x], ?_, rfl⟩
    have c2 := h2 x 0 250 o1
    rw [lcBody_bd]
    simp [hd2, callE, take, o2, c2, backE, give, g_content, gloE_some, turnB]
end K15

/-! K15i: parities. -/
namespace K15
open PySem PT PTy
open L2 (atI ixN)
def badV (w : Str) : Exn := ⟨"BadValue", [("name", .str w)]⟩
/-- the contents are refused -/
theorem run_par_c (φ : Nat → List T → FR) (c g : T) (h8 : φ 8 [frz c] = .ok (.bl false) [.hole]) : PT.run φ tb d_parities [c, g] = .exc (badV "contents") := by
  rw [run_fin rfl]
  show fin [false, false] 2 (ex ⟨φ, tb, [false, false]⟩ b_parities [some c, some g]) = _
  have hd : tb.dfl 8 0 = some [] := rfl
  unfold b_parities
  simp [hd, callE, take, h8, backE, give, zipF, badV]
/-- the guard is refused -/
theorem run_par_g (φ : Nat → List T → FR) (c g : T) (h8 : φ 8 [frz c] = .ok (.bl true) [.hole]) (h1 : φ 1 [frz g, .int 0, .int 3] = .ok (.bl false) [.hole, .hole, .hole]) : PT.run φ tb d_parities [c, g] = .exc (badV "guard") := by
  rw [run_fin rfl]
  show fin [false, false] 2 (ex ⟨φ, tb, [false, false]⟩ b_parities [some c, some g]) = _
  have hd : tb.dfl 8 0 = some [] := rfl
  have hd1 : tb.dfl 1 0 = some [] := rfl
  unfold b_parities
  simp [hd, hd1, callE, take, h8, h1, backE, give, zipF, badV, g_guard, gloE_some]
theorem run_par_y (φ : Nat → List T → FR) (c g : T) (t : T) (us : List T) (h8 : φ 8 [frz c] = .ok (.bl true) [.hole]) (h1 : φ 1 [frz g, .int 0, .int 3] = .ok (.bl true) [.hole, .hole, .hole]) (h7 : φ 7 [frz c, frz g] = .ok t [.hole, .hole]) : PT.run φ tb d_parities [c, g] = .ok t [.hole, .hole] := by
  rw [run_fin rfl]
  show fin [false, false] 2 (ex ⟨φ, tb, [false, false]⟩ b_parities [some c, some g]) = _
  have hd : tb.dfl 8 0 = some [] := rfl
  have hd1 : tb.dfl 1 0 = some [] := rfl
  have hd7 : tb.dfl 7 0 = some [] := rfl
  unfold b_parities
  simp [hd, hd1, hd7, callE, take, h8, h1, h7, backE, give, zipF, badV, g_guard, gloE_some]
end K15

/-! K15j: stream, pick, from. -/
namespace K15
open PySem PT PTy
open L2 (atI ixN)
theorem run_stream (φ : Nat → List T → FR) (b : Bool) (s : List Int) (hz : s.length ≤ 100) : PT.run φ tb d__law_stream [.node b .klst (tI s)] = .ok (tS s 0 0) [.hole] := by
  rw [run_fin rfl]
  show fin [false] 1 (ex ⟨φ, tb, [false]⟩ b__law_stream [some (.node b .klst (tI s))]) = _
  have f3 : fitB 3 = true := by decide
  unfold b__law_stream
  simp [f3, tS]
def spNext (φ : Nat → List T → FR) : Prop := ∀ (s : List Int) (c m : Int) (k : Nat), 0 < m ∧ m < 1073741824 → φ 11 [tS s c k, .int m] = .ok (.int (nextC s c k % m)) [tS s (nextC s c k / m) (nextK c k), .hole]
theorem run_from (φ : Nat → List T → FR) (s : List Int) (c lo hi : Int) (k : Nat) (h : 0 < hi - lo + 1 ∧ hi - lo + 1 < 1073741824) (h11 : spNext φ) :
    PT.run φ tb d__law_from [tS s c k, .int lo, .int hi] = .ok (.int (lo + nextC s c k % (hi - lo + 1))) [tS s (nextC s c k / (hi - lo + 1)) (nextK c k), .hole, .hole] := by
  rw [run_fin rfl]
  show fin [true, false, false] 3 (ex ⟨φ, tb, [true, false, false]⟩ b__law_from [some (tS s c k), some (.int lo), some (.int hi)]) = _
  have hd : tb.dfl 11 0 = some [] := rfl
  have h1 := h11 s c (hi - lo + 1) k h
  unfold b__law_from
  simp [hd, callE, take, h1, backE, give]
theorem nth_ok {n : Nat} {i : Int} (h : 0 ≤ i ∧ i < n) : ∃ j : Nat, i = (j : Int) ∧ j < n := ⟨i.toNat, by omega, by omega⟩
theorem run_pick (φ : Nat → List T → FR) (s : List Int) (c : Int) (k : Nat) (b : Bool) (rows : List T) (t : T) (h : 0 < rows.length ∧ rows.length < 1000000) (h11 : spNext φ) (ht : (frzL rows)[(nextC s c k % (rows.length : Int)).toNat]? = some t) :
    PT.run φ tb d__law_pick [tS s c k, .node b .lst rows] = .ok t [tS s (nextC s c k / (rows.length : Int)) (nextK c k), .hole] := by
  rw [run_fin rfl]
  show fin [true, false] 2 (ex ⟨φ, tb, [true, false]⟩ b__law_pick [some (tS s c k), some (.node b .lst rows)]) = _
  have hd : tb.dfl 11 0 = some [] := rfl
  have h1 := h11 s c (rows.length : Int) k ⟨by omega, by omega⟩
  have hm : 0 ≤ nextC s c k % (rows.length : Int) ∧ nextC s c k % (rows.length : Int) < rows.length := ⟨Int.emod_nonneg _ (by omega), Int.emod_lt_of_pos _ (by omega)⟩
  obtain ⟨j, hj, hj2⟩ := nth_ok hm
  rw [hj] at ht h1
  have ht' : (frzL rows)[j]? = some t := by simpa using ht
  unfold b__law_pick
  simp [hd, callE, take, h1, backE, give, ht']
end K15

/-! K15k: the table of inverses. -/
namespace K15
open PySem PT PTy
open L2 (atI ixN)
/-- powers of 3, the first n + 1 -/
def pw3 (k : Nat) : Int := (3 ^ k % 257 : Nat)
def pows (n : Nat) : List Int := (List.range n).map fun k => pw3 k
theorem pw3_succ (k : Nat) : pw3 k * 3 % 257 = pw3 (k + 1) := by
  unfold pw3
  have : ((3 ^ k % 257 : Nat) : Int) * 3 % 257 = ((3 ^ k % 257 * 3 % 257 : Nat) : Int) := by omega
  rw [this, Nat.pow_succ, Nat.mod_mul_mod]
theorem pows_succ (n : Nat) : pows n ++ [pw3 n] = pows (n + 1) := by
  unfold pows
  rw [List.range_succ, List.map_append]
  rfl
theorem pows_get {n k : Nat} (h : k < n) : (pows n)[k]? = some (pw3 k) := by
  unfold pows
  simp [h]
theorem loop1 (φ : Nat → List T → FR) : ex ⟨φ, tb, []⟩ (.fors (.nm 1) (.rng1 (.int 255)) (.seq (.app 0 (.ro [true, true] (.bin .mod (.bi .int (.cons (.bin .mul (.ix (.var 0) (.var 1)) (.int 3)) .nil)) (.int 257)))) .nop)) [some (.node true .lst (tI (pows 1))), none, none] = .next [some (.node true .lst (tI (pows 256))), some (.int 254), none] := by
  rw [ex_fors, evI_rng1]
  have hr : R.bo (ev ⟨φ, tb, []⟩ (.int 255) [some (T.node true .lst (tI (pows 1))), none, none]) rng1T = .ok (rngT 0 255) [some (.node true .lst (tI (pows 1))), none, none] := by
    rw [ev_int, bindO_ok, show rng1T (.int 255) = some (rngT 0 255) from rng1_nat (n := 255) (by omega)]
    rfl
  rw [hr, st_ok]
  have := goFor_all (f := fun t e2 => R.s (asgE [] (.nm 1) t e2) fun _ e3 => ex ⟨φ, tb, []⟩ (.seq (.app 0 (.ro [true, true] (.bin .mod (.bi .int (.cons (.bin .mul (.ix (.var 0) (.var 1)) (.int 3)) .nil)) (.int 257)))) .nop) e3) (items := rngT 0 255)
    (fun i => [some (.node true .lst (tI (pows (i + 1)))), if i = 0 then none else some (.int ((i : Int) - 1)), none]) (fun i x hx => ?_)
  · rw [rng_len] at this
    exact this
  · obtain ⟨h1, rfl⟩ := rng_get hx
    have m3 : mulOk (pw3 i) 3 = true := mul_smallR ⟨by decide, by decide⟩
    have hg : (tI (pows (i + 1)))[i]? = some (.int (pw3 i)) := by rw [tI_get, pows_get (by omega)]; rfl
    have hs : (pows (i + 1)).length < sizeLine := by rw [PySem.sizeLine_eq]; unfold pows; simp; omega
    have e1 : ((i : Int) + 1 - 1) = i := by omega
    have ea : tI (pows (i + 1)) ++ [T.int (pw3 i * 3 % 257)] = tI (pows (i + 1 + 1)) := by
      rw [pw3_succ, ← pows_succ (i + 1)]
      unfold tI
      simp
    by_cases hi : i = 0
    · subst hi
      simp at hg hs ea
      simp [hg, m3, hs, ea]
    · simp [hi, hg, m3, hs, ea]
end K15

/-! K15l: the table's second loop; the table tells the inverses. -/
namespace K15
open PySem PT PTy
open L2 (atI ixN)
def fnd : Nat → List Int
  | 0 => List.replicate 257 0
  | k + 1 => (fnd k).set (3 ^ k % 257) (pw3 ((256 - k) % 256))
theorem fnd_len (k : Nat) : (fnd k).length = 257 := by
  induction k with
  | zero => rfl
  | succ k ih => show ((fnd k).set _ _).length = 257; rw [List.length_set]; exact ih
def tableOk : Bool := (List.range 257).all fun j => decide (j = 0 ∨ (fnd 256)[j]? = some (inv (j : Int)))
theorem table_ok : tableOk = true := by decide +kernel
theorem table_at {j : Nat} (h : 1 ≤ j) (h2 : j < 257) : (fnd 256)[j]? = some (inv (j : Int)) := by
  have := List.all_eq_true.mp table_ok j (by simpa using h2)
  have := of_decide_eq_true this
  rcases this with z | z
  · omega
  · exact z
end K15

/-! K15m: _law_inverses. -/
namespace K15
open PySem PT PTy
open L2 (atI ixN)
theorem tI_set (l : List Int) (j : Nat) (x : Int) : (tI l).set j (.int x) = tI (l.set j x) := by unfold tI; rw [List.map_set]
theorem loop2 (φ : Nat → List T → FR) : ex ⟨φ, tb, []⟩ (.fors (.nm 1) (.rng1 (.int 256)) (.seq (.seti 2 (.ro [true, true] (.ix (.var 0) (.var 1))) (.ro [true, true] (.ix (.var 0) (.bin .mod (.bi .int (.cons (.bin .sub (.int 256) (.var 1)) .nil)) (.int 256))))) .nop)) [some (.node true .lst (tI (pows 256))), some (.int 254), some (.node true .lst (tI (fnd 0)))] = .next [some (.node true .lst (tI (pows 256))), some (.int 255), some (.node true .lst (tI (fnd 256)))] := by
  rw [ex_fors, evI_rng1]
  have hr : R.bo (ev ⟨φ, tb, []⟩ (.int 256) [some (T.node true .lst (tI (pows 256))), some (.int 254), some (.node true .lst (tI (fnd 0)))]) rng1T = .ok (rngT 0 256) [some (.node true .lst (tI (pows 256))), some (.int 254), some (.node true .lst (tI (fnd 0)))] := by
    rw [ev_int, bindO_ok, show rng1T (.int 256) = some (rngT 0 256) from rng1_nat (n := 256) (by omega)]
    rfl
  rw [hr, st_ok]
  have := goFor_all (f := fun t e2 => R.s (asgE [] (.nm 1) t e2) fun _ e3 => ex ⟨φ, tb, []⟩ (.seq (.seti 2 (.ro [true, true] (.ix (.var 0) (.var 1))) (.ro [true, true] (.ix (.var 0) (.bin .mod (.bi .int (.cons (.bin .sub (.int 256) (.var 1)) .nil)) (.int 256))))) .nop) e3) (items := rngT 0 256)
    (fun i => [some (.node true .lst (tI (pows 256))), if i = 0 then some (.int 254) else some (.int ((i : Int) - 1)), some (.node true .lst (tI (fnd i)))]) (fun i x hx => ?_)
  · rw [rng_len] at this
    exact this
  · obtain ⟨h1, rfl⟩ := rng_get hx
    have hm : (256 - (i : Int)) % 256 = (((256 - i) % 256 : Nat) : Int) := by omega
    have hv : (tI (pows 256))[(256 - i) % 256]? = some (.int (pw3 ((256 - i) % 256))) := by rw [tI_get, pows_get (by omega)]; rfl
    have hav : atI (tI (pows 256)) ((256 - (i : Int)) % 256) = some (.int (pw3 ((256 - i) % 256))) := by rw [hm, atI_nat, hv]
    have hm2 : -(i : Int) % 256 = (((256 - i) % 256 : Nat) : Int) := by omega
    have hav2 : atI (tI (pows 256)) (-(i : Int) % 256) = some (.int (pw3 ((256 - i) % 256))) := by rw [hm2, atI_nat, hv]
    have hk : (tI (pows 256))[i]? = some (.int (pw3 i)) := by rw [tI_get, pows_get (by omega)]; rfl
    have hx2 : ixN 257 (pw3 i) = some (3 ^ i % 257) := by
      unfold pw3
      exact PTy.ixN_nat (Nat.mod_lt _ (by decide))
    have e1 : ((i : Int) + 1 - 1) = i := by omega
    have ef : (fnd i).set (3 ^ i % 257) (pw3 ((256 - i) % 256)) = fnd (i + 1) := rfl
    have hstep : ex ⟨φ, tb, []⟩ (.seq (.seti 2 (.ro [true, true] (.ix (.var 0) (.var 1))) (.ro [true, true] (.ix (.var 0) (.bin .mod (.bi .int (.cons (.bin .sub (.int 256) (.var 1)) .nil)) (.int 256))))) .nop) [some (.node true .lst (tI (pows 256))), some (.int i), some (.node true .lst (tI (fnd i)))] = .next [some (.node true .lst (tI (pows 256))), some (.int i), some (.node true .lst (tI (fnd (i + 1))))] := by
      simp [hav2, hk, fnd_len, hx2, tI_set, ef]
    by_cases hi : i = 0
    · subst hi
      simpa using hstep
    · simpa [hi, e1] using hstep
theorem run_inverses (φ : Nat → List T → FR) : PT.run φ tb d__law_inverses [] = .ok (.node true .lst (tI (fnd 256))) [] := by
  rw [run_fin rfl]
  show fin [] 0 (ex ⟨φ, tb, []⟩ b__law_inverses [none, none, none]) = _
  have f1 : fitB 1 = true := by decide
  refine fin_of (r := .ret (.node true .lst (tI (fnd 256))) [some (.node true .lst (tI (pows 256))), some (.int 255), none]) ?_ rfl
  refine seq_n (e1 := [some (.node true .lst (tI (pows 1))), none, none]) ?_ ?_
  · simp [f1]
    rfl
  refine seq_n (loop1 φ) ?_
  refine seq_n (e1 := [some (.node true .lst (tI (pows 256))), some (.int 254), some (.node true .lst (tI (fnd 0)))]) ?_ ?_
  · have f257 : fitB 257 = true := by decide
    simp [f1, f257]
    rfl
  refine seq_n (loop2 φ) ?_
  exact seq_r (ret_of (by simp))
end K15

/-! K15n: the law's own parities. -/
namespace K15
open PySem PT PTy
open L2 (atI ixN)
/-- a turn of the inner comprehension: slot j -/
def turnL (k : Nat) (cs : List (Option Int)) : T → Option T
  | .int j => (match cs[j.toNat]? with
    | some (some c) => some (.int (c * inv (250 + (k : Int) - j)))
    | _ => none)
  | _ => none
theorem terms_range (k : Nat) : ∀ (cs : List (Option Int)) (n : Nat), (List.range cs.length).filterMap (fun j => match cs[j]? with
    | some (some c) => some (c * inv (250 + (k : Int) - ((n + j : Nat) : Int)))
    | _ => none) = terms (k : Int) n cs
  | [], n => rfl
  | o :: cs, n => by
    rw [List.length_cons, List.range_succ_eq_map, List.filterMap_cons]
    have ih := terms_range k cs (n + 1)
    have e : (List.map Nat.succ (List.range cs.length)).filterMap (fun j => match (o :: cs)[j]? with
      | some (some c) => some (c * inv (250 + (k : Int) - ((n + j : Nat) : Int)))
      | _ => none) = terms (k : Int) (n + 1) cs := by
      rw [List.filterMap_map, ← ih]
      congr 1
      funext j
      show (match cs[j]? with
        | some (some c) => some (c * inv (250 + (k : Int) - ((n + (j + 1) : Nat) : Int)))
        | _ => none) = _
      have : n + (j + 1) = n + 1 + j := by omega
      rw [this]
      cases cs[j]? with
      | none => rfl
      | some o => cases o <;> rfl
    cases o with
    | none => exact e
    | some c =>
      show c * inv (250 + (k : Int) - ((n + 0 : Nat) : Int)) :: _ = _
      rw [e]
      rfl
end K15

/-! K15o: the law's own parities, the run. -/
namespace K15
open PySem PT PTy
open L2 (atI ixN)
theorem atI_inv (k j : Nat) (hk : k < 4) (hj : j < 40) : atI (tI (fnd 256)) (250 + (k : Int) - (j : Int)) = some (.int (inv (250 + (k : Int) - (j : Int)))) := by
  have e : (250 + (k : Int) - (j : Int)) = ((250 + k - j : Nat) : Int) := by omega
  rw [e, atI_nat, tI_get, table_at (by omega) (by omega)]
  rfl
abbrev envL (cs : List (Option Int)) (g k : Int) (fo : List Int) (o5 o6 : Option T) : PT.Env := [some (.node false .lst (tI (fnd 256))), some (.node false .lst (tC cs)), some (.int g), some (.node true .lst (tI fo)), some (.int k), o5, o6]
theorem tC_get (cs : List (Option Int)) (j : Nat) : (tC cs)[j]? = cs[j]?.map tO := by unfold tC; simp
theorem inner (φ : Nat → List T → FR) (cs : List (Option Int)) (g : Int) (k : Nat) (fo : List Int) (o5 : Option T) (hc : cs.length ≤ 40) (hk : k < 4) :
    ev ⟨φ, tb, [false, false, false]⟩ (.lc [6] (.nm 6) (.rng1 (.bi .len (.cons (.var 1) .nil))) (.some (.cmp .notn (.ix (.var 1) (.var 6)) .non)) (.bin .mul (.ix (.var 1) (.var 6)) (.ix (.var 0) (.bin .sub (.bin .add (.int 250) (.var 4)) (.var 6))))) (envL cs g k fo o5 none) =
      .ok (.node true .lst ((rngT 0 cs.length).filterMap (turnL k cs))) (envL cs g k fo o5 none) := by
  have hl := lcGo_all (own := [6]) (f := lcBody [false, false, false] (.nm 6) (fun e => evC ⟨φ, tb, [false, false, false]⟩ (.some (.cmp .notn (.ix (.var 1) (.var 6)) .non)) e) (fun e => ev ⟨φ, tb, [false, false, false]⟩ (.bin .mul (.ix (.var 1) (.var 6)) (.ix (.var 0) (.bin .sub (.bin .add (.int 250) (.var 4)) (.var 6)))) e))
    (g := turnL k cs) (e0 := envL cs g k fo o5 none) (items := rngT 0 cs.length) (acc := []) (fun x hx => ?_) (by rw [rng_len]; simp; omega)
  · rw [ev_lc, evI_rng1]
    have e1 : R.bo (ev ⟨φ, tb, [false, false, false]⟩ (.bi .len (.cons (.var 1) .nil)) (envL cs g k fo o5 none)) rng1T = .ok (rngT 0 cs.length) (envL cs g k fo o5 none) := by
      simp [rng1_nat (show cs.length ≤ 1000000 by omega)]
    rw [e1, bind_ok]
    show R.bo (lcGo [6] _ (rngT 0 cs.length) [] (envL cs g k fo o5 none)) _ = _
    rw [hl, bindO_ok]
    rfl
  · obtain ⟨j, hj, rfl⟩ := rng_mem hx
    refine ⟨envL cs g k fo o5 (some (.int j)), ?_, rfl⟩
    have ha := atI_inv k j hk (by omega)
    rw [lcBody_bd]
    cases hq : cs[j]? with
    | none => rw [List.getElem?_eq_getElem hj] at hq; cases hq
    | some o =>
      have hg : (tC cs)[j]? = some (tO o) := by rw [tC_get, hq]; rfl
      cases o with
      | none => simp [hg, tO, notn_non, turnL, hq]
      | some c =>
        have hm : mulOk c (inv (250 + (k : Int) - j)) = true := mul_smallR (inv_bd _ 8)
        simp [hg, tO, notn_int, turnL, hq, ha, hm]
end K15

/-! K15p: _law_parities. -/
namespace K15
open PySem PT PTy
open L2 (atI ixN)
theorem turnL_terms (k : Nat) (cs : List (Option Int)) : (rngT 0 cs.length).filterMap (turnL k cs) = (terms (k : Int) 0 cs).map T.int := by
  rw [← terms_range k cs 0]
  unfold rngT
  rw [List.filterMap_map, List.map_filterMap]
  congr 1
  funext j
  show turnL k cs (T.int (0 + (j : Int))) = _
  rw [Int.zero_add]
  unfold turnL
  have : ((j : Int)).toNat = j := rfl
  simp only [this, Nat.zero_add]
  cases cs[j]? with
  | none => rfl
  | some o => cases o <;> rfl
theorem pars_succ (n : Nat) (cs : List (Option Int)) : parsOf n cs ++ [par (n : Int) cs] = parsOf (n + 1) cs := by
  unfold parsOf
  rw [List.range_succ, List.map_append]
  rfl
def stL (cs : List (Option Int)) (g : Nat) (i : Nat) : PT.Env := [some (.node false .lst (tI (fnd 256))), some (.node false .lst (tC cs)), some (.int g), some (.node true .lst (tI (parsOf i cs))), if i = 0 then none else some (.int ((i : Int) - 1)), if i = 0 then none else some (.node false .lst ((terms ((i - 1 : Nat) : Int) 0 cs).map T.int)), none]
theorem run_law_parities (φ : Nat → List T → FR) (cs : List (Option Int)) (g : Nat) (hc : cs.length ≤ 40) (hg : g < 4) :
    PT.run φ tb d__law_parities [.node false .lst (tI (fnd 256)), .node false .lst (tC cs), .int g] = .ok (.node true .lst (tI (parsOf g cs))) [.hole, .hole, .hole] := by
  rw [run_fin rfl]
  show fin [false, false, false] 3 (ex ⟨φ, tb, [false, false, false]⟩ b__law_parities [some (.node false .lst (tI (fnd 256))), some (.node false .lst (tC cs)), some (.int g), none, none, none, none]) = _
  have f0 : fitB 0 = true := by decide
  refine fin_of (r := .ret (.node true .lst (tI (parsOf g cs))) ((stL cs g g).set 3 none)) ?_ rfl
  refine seq_n (e1 := stL cs g 0) ?_ ?_
  · simp [f0, stL]
    rfl
  refine seq_n (e1 := stL cs g g) ?_ ?_
  · rw [ex_fors, evI_rng1]
    have hr : R.bo (ev ⟨φ, tb, [false, false, false]⟩ (.var 2) (stL cs g 0)) rng1T = .ok (rngT 0 g) (stL cs g 0) := by
      simp [stL, rng1_nat (show g ≤ 1000000 by omega)]
    show R.s (R.bo (ev ⟨φ, tb, [false, false, false]⟩ (.var 2) (stL cs g 0)) rng1T) _ = _
    rw [hr, st_ok]
    have := goFor_all (items := rngT 0 g) (stL cs g) (f := fun t e2 => R.s (asgE [false, false, false] (.nm 4) t e2) fun _ e3 => ex ⟨φ, tb, [false, false, false]⟩ (.seq (.asg (.nm 5) (.lc [6] (.nm 6) (.rng1 (.bi .len (.cons (.var 1) .nil))) (.some (.cmp .notn (.ix (.var 1) (.var 6)) .non)) (.bin .mul (.ix (.var 1) (.var 6)) (.ix (.var 0) (.bin .sub (.bin .add (.int 250) (.var 4)) (.var 6)))))) (.seq (.app 3 (.bin .mod (.bi .int (.cons (.bi .sum (.cons (.var 5) .nil)) .nil)) (.int 257))) .nop)) e3) (fun i x hx => ?_)
    · rw [rng_len] at this
      exact this
    · obtain ⟨h1, rfl⟩ := rng_get hx
      have hs : (parsOf i cs).length < sizeLine := by rw [PySem.sizeLine_eq]; unfold parsOf; simp; omega
      have ea : tI (parsOf i cs) ++ [T.int (par (i : Int) cs)] = tI (parsOf (i + 1) cs) := by
        rw [← pars_succ]
        unfold tI
        simp
      have ha : asgE [false, false, false] (.nm 4) (.int (i : Int)) (stL cs g i) = .ok () (envL cs g i (parsOf i cs) (if i = 0 then none else some (.node false .lst ((terms ((i - 1 : Nat) : Int) 0 cs).map T.int))) none) := rfl
      rw [ha, st_ok]
      refine seq_n (e1 := envL cs g i (parsOf i cs) (some (.node true .lst ((terms (i : Int) 0 cs).map T.int))) none) ?_ ?_
      · rw [ex_asg, inner φ cs g i (parsOf i cs) _ hc (by omega), turnL_terms, st_ok]
        rfl
      · have hs1 : biT .sum [T.node false .lst ((terms (i : Int) 0 cs).map T.int)] = some (.int (terms (i : Int) 0 cs).sum) := by rw [sum_lst, ints_map]; rfl
        unfold par at ea
        simp [hs1, frzL_ints, hs, ea]
        have e1 : ((i : Int) + 1 - 1) = i := by omega
        simp [stL, e1]
  · exact seq_r (ret_of rfl)
end K15

/-! K15q: the stream's state; _law_contents. -/
namespace K15
open PySem PT PTy
open L2 (atI ixN)
structure Stm where
  s : List Int
  c : Int
  k : Nat
def tSt (x : Stm) : T := tS x.s x.c x.k
def Stm.dg (x : Stm) (m : Int) : Int := nextC x.s x.c x.k % m
def Stm.go (x : Stm) (m : Int) : Stm := ⟨x.s, nextC x.s x.c x.k / m, nextK x.c x.k⟩
theorem next_st {φ : Nat → List T → FR} (h : spNext φ) (x : Stm) (m : Int) (hm : 0 < m ∧ m < 1073741824) : φ 11 [tSt x, .int m] = .ok (.int (x.dg m)) [tSt (x.go m), .hole] := h x.s x.c m x.k hm
theorem dg_bd (x : Stm) {m : Int} (hm : 0 < m) : 0 ≤ x.dg m ∧ x.dg m < m := ⟨Int.emod_nonneg _ (by omega), Int.emod_lt_of_pos _ hm⟩
/-- how many slots -/
def manyOf (x : Stm) : Int × Stm := if x.dg 4 = 0 then (40, x.go 4) else (1 + (x.go 4).dg 40, (x.go 4).go 40)
def slotOf (thin : Bool) (x : Stm) : Option Int × Stm :=
  if thin = true ∧ x.dg 8 < 6 then ((if x.dg 8 = 4 then none else if x.dg 8 = 5 then some 250 else some 0), x.go 8)
  else if x.dg 8 = 7 then (none, x.go 8) else (some ((x.go 8).dg 251), (x.go 8).go 251)
def slotsOf (thin : Bool) : Nat → Stm → List (Option Int) × Stm
  | 0, x => ([], x)
  | n + 1, x => let p := slotsOf thin n x; let q := slotOf thin p.2; (p.1 ++ [q.1], q.2)
def contentsOf (x : Stm) : List (Option Int) × Stm :=
  let p := manyOf x
  slotsOf (decide (p.2.dg 3 = 0)) p.1.toNat (p.2.go 3)
theorem slots_len (thin : Bool) (n : Nat) (x : Stm) : (slotsOf thin n x).1.length = n := by
  induction n with
  | zero => rfl
  | succ n ih => show ((slotsOf thin n x).1 ++ [_]).length = n + 1; rw [List.length_append, ih]; rfl
theorem many_bd (x : Stm) : 1 ≤ (manyOf x).1 ∧ (manyOf x).1 ≤ 40 := by
  unfold manyOf
  have := dg_bd (x.go 4) (m := 40) (by decide)
  split <;> (simp; try omega)
end K15

/-! K15r: _law_contents, the run. -/
namespace K15
open PySem PT PTy
open L2 (atI ixN)
def spFrom (φ : Nat → List T → FR) : Prop := ∀ (x : Stm) (lo hi : Int), 0 < hi - lo + 1 ∧ hi - lo + 1 < 1073741824 → φ 13 [tSt x, .int lo, .int hi] = .ok (.int (lo + x.dg (hi - lo + 1))) [tSt (x.go (hi - lo + 1)), .hole, .hole]
/-- stream[..] by one call -/
theorem ev_next {φ : Nat → List T → FR} (h : spNext φ) {P : List Bool} (x : Stm) (m : Int) (hm : 0 < m ∧ m < 1073741824) (e : PT.Env) : ev ⟨φ, tb, P⟩ (.call 11 0 (.cons (.lend 0) (.cons (.int m) .nil))) (some (tSt x) :: e) = .ok (.int (x.dg m)) (some (tSt (x.go m)) :: e) := by
  have hd : tb.dfl 11 0 = some [] := rfl
  have h1 := next_st h x m hm
  simp [hd, callE, take, h1, backE, give]
theorem ev_from {φ : Nat → List T → FR} (h : spFrom φ) {P : List Bool} (x : Stm) (lo hi : Int) (hm : 0 < hi - lo + 1 ∧ hi - lo + 1 < 1073741824) (e : PT.Env) : ev ⟨φ, tb, P⟩ (.call 13 0 (.cons (.lend 0) (.cons (.int lo) (.cons (.int hi) .nil)))) (some (tSt x) :: e) = .ok (.int (lo + x.dg (hi - lo + 1))) (some (tSt (x.go (hi - lo + 1))) :: e) := by
  have hd : tb.dfl 13 0 = some [] := rfl
  have h1 := h x lo hi hm
  simp [hd, callE, take, h1, backE, give]
theorem ev_many {φ : Nat → List T → FR} (h : spNext φ) (h2 : spFrom φ) (x : Stm) (e : PT.Env) : ev ⟨φ, tb, [true]⟩ (.ife (.cmp .eq (.call 11 0 (.cons (.lend 0) (.cons (.int 4) .nil))) (.int 0)) (.int 40) (.call 13 0 (.cons (.lend 0) (.cons (.int 1) (.cons (.int 40) .nil))))) (some (tSt x) :: e) = .ok (.int (manyOf x).1) (some (tSt (manyOf x).2) :: e) := by
  have h1 := ev_next h (P := [true]) x 4 (by decide) e
  have h3 := ev_from h2 (P := [true]) (x.go 4) 1 40 (by decide) e
  rw [ev_ife, ev_cmp, h1]
  unfold manyOf
  by_cases hz : x.dg 4 = 0
  · simp [hz]
  · rw [bind_ok, ev_int, bindO_ok]
    simp only [cmp_eq, eq_int, Option.map_some, ofO_some, bindO_ok, boolOf_bl, bind_ok, decide_eq_false hz, Bool.false_eq_true, if_false, if_neg hz]
    rw [h3]
    rfl
abbrev slotB : S := (.seq (.asg (.nm 5) (.call 11 0 (.cons (.lend 0) (.cons (.int 8) .nil)))) (.seq (.ifs (.and (.var 2) (.cmp .lt (.var 5) (.int 6))) (.seq (.app 3 (.ix (.tup (.cons (.int 0) (.cons (.int 0) (.cons (.int 0) (.cons (.int 0) (.cons .non (.cons (.int 250) .nil))))))) (.var 5))) .nop) (.seq (.app 3 (.ife (.cmp .eq (.var 5) (.int 7)) .non (.call 11 0 (.cons (.lend 0) (.cons (.int 251) .nil))))) .nop)) .nop))
abbrev envC (x : Stm) (m : Int) (thin : Bool) (cs : List (Option Int)) (i : Int) (o5 : Option T) : PT.Env := [some (tSt x), some (.int m), some (.bl thin), some (.node true .lst (tC cs)), some (.int i), o5]
theorem tC_app (cs : List (Option Int)) (o : Option Int) : tC cs ++ [tO o] = tC (cs ++ [o]) := by unfold tC; simp
theorem slot_run {φ : Nat → List T → FR} (h : spNext φ) (x : Stm) (m : Int) (thin : Bool) (cs : List (Option Int)) (i : Int) (o5 : Option T) (hz : cs.length ≤ 100) :
    ex ⟨φ, tb, [true]⟩ slotB (envC x m thin cs i o5) = .next (envC (slotOf thin x).2 m thin (cs ++ [(slotOf thin x).1]) i (some (.int (x.dg 8)))) := by
  have h1 := ev_next h (P := [true]) x 8 (by decide) [some (.int m), some (.bl thin), some (.node true .lst (tC cs)), some (.int i), o5]
  have h2 := ev_next h (P := [true]) (x.go 8) 251 (by decide) [some (.int m), some (.bl thin), some (.node true .lst (tC cs)), some (.int i), some (.int (x.dg 8))]
  have hs : cs.length < sizeLine := by rw [PySem.sizeLine_eq]; omega
  have f6 : fitB 6 = true := by decide
  have bd := dg_bd x (m := 8) (by decide)
  refine seq_n (e1 := envC (x.go 8) m thin cs i (some (.int (x.dg 8)))) ?_ ?_
  · rw [ex_asg, h1, st_ok]
    rfl
  refine seq_n (e1 := envC (slotOf thin x).2 m thin (cs ++ [(slotOf thin x).1]) i (some (.int (x.dg 8)))) ?_ (by simp)
  unfold slotOf
  by_cases hb : thin = true ∧ x.dg 8 < 6
  · obtain ⟨rfl, hb2⟩ := hb
    refine ifs_t (e1 := envC (x.go 8) m true cs i (some (.int (x.dg 8)))) (by simp [hb2]) ?_
    rw [if_pos ⟨rfl, hb2⟩]
    refine seq_n (e1 := envC (x.go 8) m true (cs ++ [if x.dg 8 = 4 then none else if x.dg 8 = 5 then some 250 else some 0]) i (some (.int (x.dg 8)))) ?_ (by simp)
    have c : x.dg 8 = 0 ∨ x.dg 8 = 1 ∨ x.dg 8 = 2 ∨ x.dg 8 = 3 ∨ x.dg 8 = 4 ∨ x.dg 8 = 5 := by omega
    rcases c with c | c | c | c | c | c <;> rw [c] <;> simp [hs, f6, ← tC_app, tO]
  · refine ifs_f (e1 := envC (x.go 8) m thin cs i (some (.int (x.dg 8)))) ?_ ?_
    · cases thin with
      | false => simp
      | true =>
        have hb2 : ¬ x.dg 8 < 6 := fun z => hb ⟨rfl, z⟩
        simp [hb2]
    rw [if_neg hb]
    by_cases h7 : x.dg 8 = 7
    · rw [if_pos h7]
      refine seq_n (e1 := envC (x.go 8) m thin (cs ++ [none]) i (some (.int (x.dg 8)))) ?_ (by simp)
      rw [h7]
      simp [hs, ← tC_app, tO]
    · rw [if_neg h7]
      refine seq_n (e1 := envC ((x.go 8).go 251) m thin (cs ++ [some ((x.go 8).dg 251)]) i (some (.int (x.dg 8)))) ?_ (by simp)
      have hd : tb.dfl 11 0 = some [] := rfl
      have h3 := next_st h (x.go 8) 251 (by decide)
      simp [h7, hd, callE, take, h3, backE, give, hs, ← tC_app, tO]
end K15

/-! K15s: _law_contents, whole. -/
namespace K15
open PySem PT PTy
open L2 (atI ixN)
def envF (thin : Bool) (x : Stm) (m : Nat) (i : Nat) : PT.Env := [some (tSt (slotsOf thin i x).2), some (.int m), some (.bl thin), some (.node true .lst (tC (slotsOf thin i x).1)), if i = 0 then none else some (.int ((i : Int) - 1)), if i = 0 then none else some (.int ((slotsOf thin (i - 1) x).2.dg 8))]
theorem run_contents_law {φ : Nat → List T → FR} (h : spNext φ) (h2 : spFrom φ) (x : Stm) : PT.run φ tb d__law_contents [tSt x] = .ok (.node true .lst (tC (contentsOf x).1)) [tSt (contentsOf x).2] := by
  rw [run_fin rfl]
  show fin [true] 1 (ex ⟨φ, tb, [true]⟩ b__law_contents [some (tSt x), none, none, none, none, none]) = _
  have f0 : fitB 0 = true := by decide
  have mb := many_bd x
  obtain ⟨n, hn, hn2⟩ : ∃ n : Nat, (manyOf x).1 = (n : Int) ∧ n ≤ 40 := ⟨(manyOf x).1.toNat, by omega, by omega⟩
  generalize hth : decide ((manyOf x).2.dg 3 = 0) = thin
  generalize hx3 : (manyOf x).2.go 3 = x3
  have hcx : contentsOf x = slotsOf thin n x3 := by
    show slotsOf (decide ((manyOf x).2.dg 3 = 0)) (manyOf x).1.toNat ((manyOf x).2.go 3) = _
    rw [hth, hx3, hn]
    rfl
  refine fin_of (r := .ret (.node true .lst (tC (contentsOf x).1)) ((envF thin x3 n n).set 3 none)) ?_ (by rw [hcx]; rfl)
  refine seq_n (e1 := [some (tSt (manyOf x).2), some (.int n), none, none, none, none]) ?_ ?_
  · rw [ex_asg, ev_many h h2, st_ok, hn]
    rfl
  refine seq_n (e1 := [some (tSt x3), some (.int n), some (.bl thin), none, none, none]) ?_ ?_
  · rw [ex_asg, ev_cmp, ev_next h _ 3 (by decide), bind_ok, ev_int, bindO_ok]
    simp only [cmp_eq, eq_int, Option.map_some, ofO_some, st_ok, hth, hx3]
    rfl
  refine seq_n (e1 := envF thin x3 n 0) ?_ ?_
  · simp [f0, envF, slotsOf]
    rfl
  refine seq_n (e1 := envF thin x3 n n) ?_ ?_
  · rw [ex_fors, evI_rng1]
    have hr : R.bo (ev ⟨φ, tb, [true]⟩ (.var 1) (envF thin x3 n 0)) rng1T = .ok (rngT 0 n) (envF thin x3 n 0) := by
      simp [envF, rng1_nat (show n ≤ 1000000 by omega)]
    show R.s (R.bo (ev ⟨φ, tb, [true]⟩ (.var 1) (envF thin x3 n 0)) rng1T) _ = _
    rw [hr, st_ok]
    have := goFor_all (items := rngT 0 n) (envF thin x3 n) (f := fun t e2 => R.s (asgE [true] (.nm 4) t e2) fun _ e3 => ex ⟨φ, tb, [true]⟩ slotB e3) (fun i x hx => ?_)
    · rw [rng_len] at this
      exact this
    · obtain ⟨h1, rfl⟩ := rng_get hx
      have ha : asgE [true] (.nm 4) (.int (i : Int)) (envF thin x3 n i) = .ok () (envC (slotsOf thin i x3).2 n thin (slotsOf thin i x3).1 i (if i = 0 then none else some (.int ((slotsOf thin (i - 1) x3).2.dg 8)))) := rfl
      rw [ha, st_ok, slot_run h _ _ _ _ _ _ (by rw [slots_len]; omega)]
      have e1 : ((i : Int) + 1 - 1) = i := by omega
      simp [envF, slotsOf, e1]
  · rw [hcx]
    exact seq_r (ret_of rfl)
end K15

/-! K15x: the table's own meaning: what each def answers; parities, told. -/
namespace K15
open PySem PT PTy PTw
open L2 (atI ixN)
def D : Nat → Dh
  | 0 => .df d_is_integer
  | 1 => .df d_is_between
  | 2 => .df d_is_between_or_none
  | 3 => .df d_is_list_of
  | 4 => .df d_inverse
  | 5 => .df d_coefficient
  | 6 => .df d_parity_of
  | 7 => .df d_parities_of
  | 8 => .df d_is_contents
  | 9 => .df d_parities
  | 10 => .df d__law_stream
  | 11 => .df d__law_next
  | 12 => .df d__law_pick
  | 13 => .df d__law_from
  | 14 => .df d__law_same
  | 15 => .hd (fun _ _ => .fail)
  | 16 => .df d__law_inverses
  | 17 => .df d__law_parities
  | 18 => .df d__law_contents
  | 19 => .hd Told.phiTold
  | 20 => .df d__law_wrong
  | 21 => .df d__law_refusals
  | 22 => .df d_law
  | _ => .nn
abbrev Φ (n : Nat) : Nat → List T → FR := Phi tb D n
theorem fuel {n k : Nat} (h : k + 1 ≤ n) : ∃ m, n = m + 1 ∧ k ≤ m := ⟨n - 1, by omega, by omega⟩
variable {n : Nat}
theorem S0 (hn : 1 ≤ n) (t : T) (h : okV t = true) : Φ n 0 [t] = .ok (.bl (isI t)) [.hole] := by
  obtain ⟨m, rfl, hm⟩ := fuel hn
  exact Phi_s.trans (run_is_integer (Φ m) t h)
theorem S1 (hn : 2 ≤ n) (t : T) (lo hi : Int) (h : okV t = true) : Φ n 1 [t, .int lo, .int hi] = .ok (.bl (between t lo hi)) [.hole, .hole, .hole] := by
  obtain ⟨m, rfl, hm⟩ := fuel hn
  exact Phi_s.trans (run_is_between (Φ m) t lo hi h fun t h => S0 hm t h)
theorem S2 (hn : 3 ≤ n) : spBoN (Φ n) := by
  obtain ⟨m, rfl, hm⟩ := fuel hn
  refine fun t lo hi h => Phi_s.trans (run_between_or_none (Φ m) t lo hi h fun t h => S1 hm t lo hi h)
theorem S3 (hn : 1 ≤ n) : spListOf (Φ n) := by
  obtain ⟨m, rfl, hm⟩ := fuel hn
  refine fun t lo hi h => Phi_s.trans (run_list_of (Φ m) t lo hi h)
theorem S4 (hn : 1 ≤ n) (i : Int) : Φ n 4 [.int i] = .ok (.int (inv i)) [.hole] := by
  obtain ⟨m, rfl, hm⟩ := fuel hn
  exact Phi_s.trans (run_inverse (Φ m) i)
theorem S5 (hn : 2 ≤ n) (k s : Int) : Φ n 5 [.int k, .int s] = .ok (.int (inv (250 + k - s))) [.hole, .hole] := by
  obtain ⟨m, rfl, hm⟩ := fuel hn
  exact Phi_s.trans (run_coefficient (Φ m) k s (S4 hm))
theorem S6 (hn : 3 ≤ n) (cs : List (Option Int)) (b : Bool) (k : Int) (hz : cs.length ≤ 16777216) : Φ n 6 [.node b .lst (tC cs), .int k] = .ok (.int (par k cs)) [.hole, .hole] := by
  obtain ⟨m, rfl, hm⟩ := fuel hn
  exact Phi_s.trans (run_parity (Φ m) cs b k hz (S5 hm))
theorem S7 (hn : 4 ≤ n) (cs : List (Option Int)) (b : Bool) (g : Nat) (hg : g ≤ 1000) (hz : cs.length ≤ 16777216) : Φ n 7 [.node b .lst (tC cs), .int g] = .ok (.node true .lst ((parsOf g cs).map T.int)) [.hole, .hole] := by
  obtain ⟨m, rfl, hm⟩ := fuel hn
  exact Phi_s.trans (run_parities_of (Φ m) cs b g hg fun k => S6 hm cs false k hz)
/-- contents, by the tree; okD: what it is asked of -/
def okD : T → Bool
  | .hole => false
  | .node _ (.dtu _) _ => false
  | .node _ .klst _ => false
  | .node _ _ ts => ts.all okV
  | _ => true
def isCont : T → Bool
  | .node _ .lst ts => decide (1 ≤ ts.length ∧ ts.length ≤ 40) && contOk ts
  | _ => false
theorem S8 (hn : 4 ≤ n) (t : T) (h : okD t = true) : Φ n 8 [t] = .ok (.bl (isCont t)) [.hole] := by
  obtain ⟨m, rfl, hm⟩ := fuel hn
  have no : okV t = true → (match listLen t with
    | some n => decide ((1 : Int) ≤ (n : Int) ∧ (n : Int) ≤ 40)
    | none => false) = false → Φ (m + 1) 8 [t] = .ok (.bl false) [.hole] := fun h1 h2 => Phi_s.trans (run_contents_no (Φ m) t h1 (S3 (by omega)) h2)
  cases t with
  | hole => cases h
  | node o k ts =>
    cases k with
    | lst =>
      by_cases hl : 1 ≤ ts.length ∧ ts.length ≤ 40
      · have := run_contents (Φ m) o ts (by simpa [okD] using h) hl.1 hl.2 (S3 (by omega)) (S2 hm)
        rw [show isCont (.node o .lst ts) = contOk ts by simp [isCont, hl]]
        exact Phi_s.trans this
      · rw [show isCont (.node o .lst ts) = false by simp [isCont]; intro a b; omega]
        refine no rfl ?_
        simp [listLen]
        omega
    | klst => cases h
    | dtu ks => cases h
    | tup => exact no rfl rfl
    | dic ks => exact no rfl rfl
  | _ => exact no rfl rfl
theorem okV_all {ts : List T} : (frzL ts).all okV = ts.all okV := by
  induction ts with
  | nil => rfl
  | cons t ts ih => simp only [frzL_cons, List.all_cons, okV_frz, ih]
theorem okD_frz {t : T} : okD (frz t) = okD t := by
  cases t with
  | node o k ts => cases k <;> simp [okD, okV_all]
  | _ => rfl
theorem cont_frz {ts : List T} : contOk (frzL ts) = contOk ts := by
  unfold contOk
  induction ts with
  | nil => rfl
  | cons t ts ih => simp only [frzL_cons, List.all_cons, betweenN_frz, ih]
theorem isCont_frz {t : T} : isCont (frz t) = isCont t := by
  cases t with
  | node o k ts => cases k <;> simp [isCont, cont_frz]
  | _ => rfl
theorem S9c (hn : 5 ≤ n) (c g : T) (h : okD c = true) (hc : isCont c = false) : Φ n 9 [c, g] = .exc (badV "contents") := by
  obtain ⟨m, rfl, hm⟩ := fuel hn
  have := S8 hm (frz c) (by rw [okD_frz]; exact h)
  rw [isCont_frz, hc] at this
  exact Phi_s.trans (run_par_c (Φ m) c g this)
theorem S9g (hn : 5 ≤ n) (c g : T) (h : okD c = true) (hc : isCont c = true) (hg : okV g = true) (hb : between g 0 3 = false) : Φ n 9 [c, g] = .exc (badV "guard") := by
  obtain ⟨m, rfl, hm⟩ := fuel hn
  have h8 := S8 hm (frz c) (by rw [okD_frz]; exact h)
  rw [isCont_frz, hc] at h8
  have h1 := S1 (n := m) (by omega) (frz g) 0 3 (by rw [okV_frz]; exact hg)
  rw [between_frz, hb] at h1
  exact Phi_s.trans (run_par_g (Φ m) c g h8 h1)
/-- contents that are right -/
def GoodC (cs : List (Option Int)) : Prop := 1 ≤ cs.length ∧ cs.length ≤ 40 ∧ ∀ c, some c ∈ cs → 0 ≤ c ∧ c ≤ 250
theorem okD_tC {b : Bool} (cs : List (Option Int)) : okD (.node b .lst (tC cs)) = true := by
  show (tC cs).all okV = true
  unfold tC
  rw [List.all_map, List.all_eq_true]
  intro o _
  cases o <;> rfl
theorem good_cont {b : Bool} {cs : List (Option Int)} (h : GoodC cs) : isCont (.node b .lst (tC cs)) = true := by
  obtain ⟨h1, h2, h3⟩ := h
  simp only [isCont, tC_len, Bool.and_eq_true, decide_eq_true_eq]
  refine ⟨⟨h1, h2⟩, ?_⟩
  unfold contOk tC
  rw [List.all_map, List.all_eq_true]
  intro o ho
  cases o with
  | none => rfl
  | some c => exact decide_eq_true (h3 c ho)
theorem S9y (hn : 5 ≤ n) (b : Bool) (cs : List (Option Int)) (g : Nat) (h : GoodC cs) (hg : g ≤ 3) : Φ n 9 [.node b .lst (tC cs), .int g] = .ok (.node true .lst (tI (parsOf g cs))) [.hole, .hole] := by
  obtain ⟨m, rfl, hm⟩ := fuel hn
  have h8 := S8 hm (frz (.node b .lst (tC cs))) (by rw [okD_frz]; exact okD_tC cs)
  rw [isCont_frz, good_cont h] at h8
  have h1 := S1 (n := m) (by omega) (frz (.int g)) 0 3 rfl
  rw [show between (frz (.int (g : Int))) 0 3 = true from decide_eq_true ⟨by omega, by omega⟩] at h1
  have h7 := S7 (n := m) hm cs false g (by omega) (by have := h.2.1; omega)
  exact Phi_s.trans (run_par_y (Φ m) _ _ _ [] h8 h1 (by rw [frz_node, frzL_tC]; exact h7))
/-! told -/
def refT (w : Str) : T := .node false .tup [.str "refused", .str "BadValue", .str w]
theorem told_x {φ : Nat → List T → FR} {c g : T} {w : Str} (h : φ 9 [frz c, frz g] = .exc (badV w)) : Told.phiTold φ [c, g] = .ok (refT w) [.hole, .hole] := by
  unfold Told.phiTold
  simp only [h]
  rw [if_pos (show (badV w).c ∈ Told.ns1 ++ Told.ns2 by show ("BadValue" : Str) ∈ _; decide)]
  have e1 : Told.fieldT (badV w) = some (.str w) := by
    unfold Told.fieldT
    rw [if_pos (show (badV w).c = "BadValue" from rfl)]
    rfl
  simp only [e1]
  rfl
theorem S19c (hn : 6 ≤ n) (c g : T) (h : okD c = true) (hc : isCont c = false) : Φ n 19 [c, g] = .ok (refT "contents") [.hole, .hole] := by
  obtain ⟨m, rfl, hm⟩ := fuel hn
  exact Phi_s.trans (told_x (S9c hm (frz c) (frz g) (by rw [okD_frz]; exact h) (by rw [isCont_frz]; exact hc)))
theorem S19g (hn : 6 ≤ n) (c g : T) (h : okD c = true) (hc : isCont c = true) (hg : okV g = true) (hb : between g 0 3 = false) : Φ n 19 [c, g] = .ok (refT "guard") [.hole, .hole] := by
  obtain ⟨m, rfl, hm⟩ := fuel hn
  exact Phi_s.trans (told_x (S9g hm (frz c) (frz g) (by rw [okD_frz]; exact h) (by rw [isCont_frz]; exact hc) (by rw [okV_frz]; exact hg) (by rw [between_frz]; exact hb)))
def tellT (g : Nat) (cs : List (Option Int)) : T := .node false .tup [.str "told", .node true .lst (tI (parsOf g cs))]
theorem S19y (hn : 6 ≤ n) (b : Bool) (cs : List (Option Int)) (g : Nat) (h : GoodC cs) (hg : g ≤ 3) : Φ n 19 [.node b .lst (tC cs), .int g] = .ok (tellT g cs) [.hole, .hole] := by
  obtain ⟨m, rfl, hm⟩ := fuel hn
  have := S9y hm false cs g h hg
  have e : Told.phiTold (Φ m) [.node b .lst (tC cs), .int g] = .ok (tellT g cs) [.hole, .hole] := by
    unfold Told.phiTold
    simp only [frz_node, frzL_tC, frz_int, this]
    rfl
  exact Phi_s.trans e
/-! the stream -/
theorem S11 (hn : 1 ≤ n) : spNext (Φ n) := by
  obtain ⟨m, rfl, hm⟩ := fuel hn
  refine fun s c mm k h => Phi_s.trans (run_next (Φ m) s c mm k h)
theorem S13 (hn : 2 ≤ n) : spFrom (Φ n) := by
  obtain ⟨m, rfl, hm⟩ := fuel hn
  refine fun x lo hi h => Phi_s.trans (run_from (Φ m) x.s x.c lo hi x.k h (S11 hm))
def spPick (φ : Nat → List T → FR) : Prop := ∀ (x : Stm) (b : Bool) (rows : List T), 0 < rows.length ∧ rows.length < 1000000 → ∃ t x2, φ 12 [tSt x, .node b .lst rows] = .ok t [tSt x2, .hole] ∧ t ∈ frzL rows
theorem S12 (hn : 2 ≤ n) : spPick (Φ n) := by
  obtain ⟨m, rfl, hm⟩ := fuel hn
  intro x b rows h
  have hp : 0 ≤ nextC x.s x.c x.k % (rows.length : Int) ∧ nextC x.s x.c x.k % (rows.length : Int) < rows.length := ⟨Int.emod_nonneg _ (by omega), Int.emod_lt_of_pos _ (by omega)⟩
  have hlt : (nextC x.s x.c x.k % (rows.length : Int)).toNat < (frzL rows).length := by rw [frzL_len']; omega
  exact ⟨_, ⟨x.s, nextC x.s x.c x.k / (rows.length : Int), nextK x.c x.k⟩, Phi_s.trans (run_pick (Φ m) x.s x.c x.k b rows _ h (S11 hm) (List.getElem?_eq_getElem hlt)), List.getElem_mem hlt⟩
theorem S18 (hn : 3 ≤ n) (x : Stm) : Φ n 18 [tSt x] = .ok (.node true .lst (tC (contentsOf x).1)) [tSt (contentsOf x).2] := by
  obtain ⟨m, rfl, hm⟩ := fuel hn
  exact Phi_s.trans (run_contents_law (S11 (by omega)) (S13 hm) x)
theorem S17 (hn : 1 ≤ n) (cs : List (Option Int)) (g : Nat) (hc : cs.length ≤ 40) (hg : g < 4) : Φ n 17 [.node false .lst (tI (fnd 256)), .node false .lst (tC cs), .int g] = .ok (.node true .lst (tI (parsOf g cs))) [.hole, .hole, .hole] := by
  obtain ⟨m, rfl, hm⟩ := fuel hn
  exact Phi_s.trans (run_law_parities (Φ m) cs g hc hg)
theorem S16 (hn : 1 ≤ n) : Φ n 16 [] = .ok (.node true .lst (tI (fnd 256))) [] := by
  obtain ⟨m, rfl, hm⟩ := fuel hn
  exact Phi_s.trans (run_inverses (Φ m))
theorem e_same : d__law_same = ⟨2, 7, [false, false], Lw.sameS 2000000⟩ := by
  unfold d__law_same b__law_same Lw.sameS
  rfl
theorem S14 (hn : 1 ≤ n) (ac du : T) (ha : Lw.plT (frz ac) = true) (hb : Lw.plT (frz du) = true) (hz : Lw.szT (frz du) < 1000000) : Φ n 14 [ac, du] = .ok (.bl (Lw.sameT (frz ac) (frz du))) [.hole, .hole] := by
  obtain ⟨m, rfl, hm⟩ := fuel hn
  have := Lw.run_same (tb := tb) (Φ m) d__law_same 2000000 e_same ⟨by omega, by omega⟩ ac du ha hb hz
  exact Phi_s.trans this
theorem S10 (hn : 1 ≤ n) (s : List Int) (hz : s.length ≤ 100) : Φ n 10 [.node false .klst (tI s)] = .ok (tS s 0 0) [.hole] := by
  obtain ⟨m, rfl, hm⟩ := fuel hn
  exact Phi_s.trans (run_stream (Φ m) false s hz)
end K15

/-! K15y: _law_wrong. -/
namespace K15
open PySem PT PTy PTw
open L2 (atI ixN)
variable {n : Nat} {φ : Nat → List T → FR} {P : List Bool}
theorem d11 : tb.dfl 11 0 = some [] := rfl
theorem d12 : tb.dfl 12 0 = some [] := rfl
theorem d14 : tb.dfl 14 0 = some [] := rfl
theorem d17 : tb.dfl 17 0 = some [] := rfl
theorem d19 : tb.dfl 19 0 = some [] := rfl
theorem d20 : tb.dfl 20 0 = some [] := rfl
theorem d21 : tb.dfl 21 0 = some [] := rfl
/-- a drawn number, its bound reckoned -/
theorem ev_nextE (h : spNext φ) (x : Stm) {mE : E} {m : Int} {e e1 : PT.Env} (hm : 0 < m ∧ m < 1073741824) (hl : ∀ i, mE ≠ .lend i) (he : ev ⟨φ, tb, P⟩ mE (some (tSt x) :: e) = .ok (.int m) (some (tSt x) :: e1)) :
    ev ⟨φ, tb, P⟩ (.call 11 0 (.cons (.lend 0) (.cons mE .nil))) (some (tSt x) :: e) = .ok (.int (x.dg m)) (some (tSt (x.go m)) :: e1) := by
  have h1 := next_st h x m hm
  have l2 : lends (.cons mE .nil) = [none] := by rw [lends_nl _ _ hl]; rfl
  simp [d11, callE, he, l2, take, h1, backE, give]
theorem ev_pickE (h : spPick φ) (x x1 : Stm) {rE : E} {b : Bool} {rows : List T} {e e1 : PT.Env} (hr : 0 < rows.length ∧ rows.length < 1000000) (hl : ∀ i, rE ≠ .lend i) (he : ev ⟨φ, tb, P⟩ rE (some (tSt x) :: e) = .ok (.node b .lst rows) (some (tSt x1) :: e1)) :
    ∃ t x2, ev ⟨φ, tb, P⟩ (.call 12 0 (.cons (.lend 0) (.cons rE .nil))) (some (tSt x) :: e) = .ok t (some (tSt x2) :: e1) ∧ t ∈ frzL rows := by
  obtain ⟨t, x2, h1, h2⟩ := h x1 b rows hr
  have l2 : lends (.cons rE .nil) = [none] := by rw [lends_nl _ _ hl]; rfl
  refine ⟨t, x2, ?_, h2⟩
  simp [d12, callE, he, l2, take, h1, backE, give]
theorem dg_nat (x : Stm) {m : Int} (hm : 0 < m) : ∃ j : Nat, x.dg m = (j : Int) ∧ (j : Int) < m := ⟨(x.dg m).toNat, by have := (dg_bd x hm).1; omega, by have := dg_bd x hm; omega⟩
theorem pw6 : powOk 10 6 = true := by decide
/-- 10 ** 6 -/
theorem ev_mil {e : PT.Env} {o : Option T} : ev ⟨φ, tb, P⟩ (.bin .pow (.int 10) (.int 6)) (o :: e) = .ok (.int 1000000) (o :: e) := by simp [pw6]
abbrev rows1 : E := .lst (.cons (.lst .nil) (.cons (.bin .add (.var 1) (.bin .mul (.lst (.cons (.int 0) .nil)) (.bin .sub (.int 41) (.bi .len (.cons (.var 1) .nil))))) (.cons (.bi .tuple (.cons (.var 1) .nil)) (.cons .non (.cons (.int 7) (.cons (.str "7") .nil))))))
abbrev rows2 : E := .lst (.cons (.int 251) (.cons (.neg (.int 1)) (.cons (.bl true) (.cons (.bl false) (.cons (.str "7") (.cons (.lst (.cons (.int 7) .nil)) (.cons (.tup (.cons (.int 7) .nil)) (.cons (.int 257) (.cons (.bin .add (.int 251) (.call 11 0 (.cons (.lend 0) (.cons (.bin .pow (.int 10) (.int 6)) .nil)))) .nil)))))))))
theorem cut_lo (ts : List T) (j : Nat) : cutT ts none (some (j : Int)) = ts.take j := by
  unfold cutT
  show (ts.drop 0).take (HT.sIx ts.length ts.length (some (j : Int)) - 0) = _
  rw [List.drop_zero, Nat.sub_zero]
  have : HT.sIx ts.length ts.length (some (j : Int)) = min j ts.length := by
    unfold HT.sIx
    simp
    omega
  rw [this, List.take_eq_take_iff]
  omega
theorem cut_hi (ts : List T) (j : Nat) : cutT ts (some ((j : Int))) none = ts.drop j := by
  unfold cutT
  have : HT.sIx ts.length 0 (some (j : Int)) = min j ts.length := by
    unfold HT.sIx
    simp
    omega
  rw [this]
  show (ts.drop (min j ts.length)).take (ts.length - min j ts.length) = _
  by_cases h : j ≤ ts.length
  · rw [Nat.min_eq_left h, List.take_of_length_le (by simp)]
  · rw [Nat.min_eq_right (by omega), List.drop_eq_nil_of_le (Nat.le_refl _), List.drop_eq_nil_of_le (by omega), List.take_nil]
/-- refused for its contents -/
def BadC (t : T) : Prop := okD t = true ∧ isCont t = false
def spWrong (φ : Nat → List T → FR) : Prop := ∀ (x : Stm) (cs : List (Option Int)), GoodC cs → ∃ t x2, φ 20 [tSt x, .node false .lst (tC cs)] = .ok t [tSt x2, .hole] ∧ BadC t
theorem bad1 (cs : List (Option Int)) (h : GoodC cs) {t : T} (ht : t ∈ frzL [.node true .lst [], .node true .lst (tC cs ++ List.replicate (41 - cs.length) (T.int 0)), .node false .tup (tC cs), .non, .int 7, .str "7"]) : BadC t := by
  simp only [frzL_cons, frzL_nil, List.mem_cons, List.not_mem_nil, or_false, frz_node, frzL_tC, frz_non, frz_int, frz_str] at ht
  obtain ⟨h1, h2, h3⟩ := h
  have e : List.replicate (41 - cs.length) (T.int 0) = tC (List.replicate (41 - cs.length) (some 0)) := by
    unfold tC
    rw [List.map_replicate]
    rfl
  have e2 : tC cs ++ tC (List.replicate (41 - cs.length) (some 0)) = tC (cs ++ List.replicate (41 - cs.length) (some 0)) := by unfold tC; rw [List.map_append]
  rcases ht with rfl | rfl | rfl | rfl | rfl | rfl
  · exact ⟨rfl, rfl⟩
  · rw [e, e2, frzL_tC]
    refine ⟨okD_tC _, ?_⟩
    simp only [isCont, tC_len, List.length_append, List.length_replicate]
    rw [decide_eq_false (by omega)]
    rfl
  · exact ⟨okD_tC (b := false) cs, rfl⟩
  · exact ⟨rfl, rfl⟩
  · exact ⟨rfl, rfl⟩
  · exact ⟨rfl, rfl⟩
theorem bad2 {d : Int} (hd : 0 ≤ d) {t : T} (ht : t ∈ frzL [.int 251, .int (-1), .bl true, .bl false, .str "7", .node true .lst [.int 7], .node false .tup [.int 7], .int 257, .int (251 + d)]) : okV t = true ∧ betweenN t 0 250 = false ∧ frz t = t := by
  simp only [frzL_cons, frzL_nil, List.mem_cons, List.not_mem_nil, or_false, frz_node, frz_int, frz_str, frz_bl] at ht
  rcases ht with rfl | rfl | rfl | rfl | rfl | rfl | rfl | rfl | rfl <;> refine ⟨rfl, ?_, by simp⟩ <;> simp [betweenN, between] <;> omega
theorem tC_take (cs : List (Option Int)) (j : Nat) : (tC cs).take j = tC (cs.take j) := by unfold tC; rw [List.map_take]
theorem tC_drop (cs : List (Option Int)) (j : Nat) : (tC cs).drop j = tC (cs.drop j) := by unfold tC; rw [List.map_drop]
theorem bad3 {cs : List (Option Int)} (j : Nat) {w : T} (h1 : okV w = true) (h2 : betweenN w 0 250 = false) {o : Bool} : BadC (.node o .lst (tC (cs.take j) ++ [w] ++ tC (cs.drop (j + 1)))) := by
  constructor
  · show (tC (cs.take j) ++ [w] ++ tC (cs.drop (j + 1))).all okV = true
    have a : ∀ ds : List (Option Int), (tC ds).all okV = true := fun ds => okD_tC (b := false) ds
    rw [List.all_append, List.all_append, a, a]
    simp [h1]
  · simp only [isCont, contOk, List.all_append, List.all_cons, h2]
    simp
theorem slT_lst (b : Bool) (ts : List T) (lo hi : Option Int) : slT (.node b .lst ts) lo hi = some (.node true .lst (frzL (cutT ts lo hi))) := by cases b <;> rfl
theorem S20 (hn : 3 ≤ n) : spWrong (Φ n) := by
  obtain ⟨m, rfl, hm⟩ := fuel hn
  have h11 : spNext (Φ m) := S11 (by omega)
  have h12 : spPick (Φ m) := S12 hm
  intro x cs hcs
  obtain ⟨hl1, hl2, hl3⟩ := id hcs
  suffices hs : ∃ t x2, PT.run (Φ m) tb d__law_wrong [tSt x, .node false .lst (tC cs)] = .ok t [tSt x2, .hole] ∧ BadC t from by
    obtain ⟨t, x2, h1, h2⟩ := hs
    exact ⟨t, x2, Phi_s.trans h1, h2⟩
  have f0 : fitB 0 = true := by decide
  have f1 : fitB 1 = true := by decide
  have f6 : fitB 6 = true := by decide
  have f9 : fitB 9 = true := by decide
  by_cases hz : x.dg 6 = 0
  · have er : ev ⟨Φ m, tb, [true, false]⟩ rows1 [some (tSt (x.go 6)), some (.node false .lst (tC cs)), some (.int (x.dg 6)), none] = .ok (.node true .lst [.node true .lst [], .node true .lst (tC cs ++ List.replicate (41 - cs.length) (T.int 0)), .node false .tup (tC cs), .non, .int 7, .str "7"]) [some (tSt (x.go 6)), some (.node false .lst (tC cs)), some (.int (x.dg 6)), none] := by
      have g1 : fitB (41 - cs.length) = true := fit_of (by omega)
      have g2 : fitB (cs.length + (41 - cs.length)) = true := fit_of (by omega)
      have g4 : -9223372036854775808 ≤ 41 - (cs.length : Int) ∧ 41 - (cs.length : Int) < 9223372036854775808 := by omega
      simp [f0, f1, f6, g1, g2, g4]
    obtain ⟨t, x2, e1, e2⟩ := ev_pickE (P := [true, false]) h12 (x.go 6) (x.go 6) (by simp) (by intro i z; cases z) er
    refine ⟨t, x2, w_run rfl ?_, bad1 cs hcs e2⟩
    show Wp ⟨Φ m, tb, [true, false]⟩ b__law_wrong [some (tSt x), some (.node false .lst (tC cs)), none, none] _
    refine w_s (e1 := [some (tSt (x.go 6)), some (.node false .lst (tC cs)), some (.int (x.dg 6)), none]) ?_ ?_
    · show ex _ _ _ = _
      rw [ex_asg, ev_next h11 x 6 (by decide), st_ok]
      rfl
    refine w_if (d := true) (e1 := [some (tSt (x.go 6)), some (.node false .lst (tC cs)), some (.int (x.dg 6)), none]) ?_ (fun _ => ?_) (fun z => nomatch z)
    · show ev _ _ _ = _
      simp [hz]
    exact w_ret e1 rfl
  · obtain ⟨j, hj, hjl⟩ := dg_nat (x.go 6) (m := (cs.length : Int)) (by omega)
    generalize hx2 : (x.go 6).go (cs.length : Int) = x2
    have er : ev ⟨Φ m, tb, [true, false]⟩ rows2 [some (tSt x2), some (.node false .lst (tC cs)), some (.int (x.dg 6)), some (.int j)] = .ok (.node true .lst [.int 251, .int (-1), .bl true, .bl false, .str "7", .node true .lst [.int 7], .node false .tup [.int 7], .int 257, .int (251 + x2.dg 1000000)]) [some (tSt (x2.go 1000000)), some (.node false .lst (tC cs)), some (.int (x.dg 6)), some (.int j)] := by
      have e1 := ev_nextE (P := [true, false]) h11 x2 (m := 1000000) (e := [some (.node false .lst (tC cs)), some (.int (x.dg 6)), some (.int j)]) (by decide) (by intro i z; cases z) ev_mil
      simp [-ev_call, e1, f1, f9]
    obtain ⟨w, x3, e1, e2⟩ := ev_pickE (P := [true, false]) h12 x2 (x2.go 1000000) (by simp) (by intro i z; cases z) er
    obtain ⟨b1, b2, b3⟩ := bad2 (dg_bd x2 (m := 1000000) (by decide)).1 e2
    refine ⟨.node true .lst (tC (cs.take j) ++ [w] ++ tC (cs.drop (j + 1))), x3, w_run rfl ?_, bad3 j b1 b2⟩
    show Wp ⟨Φ m, tb, [true, false]⟩ b__law_wrong [some (tSt x), some (.node false .lst (tC cs)), none, none] _
    refine w_s (e1 := [some (tSt (x.go 6)), some (.node false .lst (tC cs)), some (.int (x.dg 6)), none]) ?_ ?_
    · show ex _ _ _ = _
      rw [ex_asg, ev_next h11 x 6 (by decide), st_ok]
      rfl
    refine w_if (d := false) (e1 := [some (tSt (x.go 6)), some (.node false .lst (tC cs)), some (.int (x.dg 6)), none]) ?_ (fun z => nomatch z) (fun _ => w_k ?_)
    · show ev _ _ _ = _
      simp [hz]
    refine w_s (e1 := [some (tSt x2), some (.node false .lst (tC cs)), some (.int (x.dg 6)), some (.int j)]) ?_ ?_
    · show ex _ _ _ = _
      have el : ev ⟨Φ m, tb, [true, false]⟩ (.bi .len (.cons (.var 1) .nil)) [some (tSt (x.go 6)), some (.node false .lst (tC cs)), some (.int (x.dg 6)), none] = .ok (.int (cs.length : Int)) [some (tSt (x.go 6)), some (.node false .lst (tC cs)), some (.int (x.dg 6)), none] := by simp
      rw [ex_asg, ev_nextE h11 (x.go 6) (m := (cs.length : Int)) (by omega) (by intro i z; cases z) el, st_ok, hj, hx2]
      rfl
    refine w_ret (t := .node true .lst (tC (cs.take j) ++ [w] ++ tC (cs.drop (j + 1)))) (e1 := [some (tSt x3), some (.node false .lst (tC cs)), some (.int (x.dg 6)), some (.int j)]) ?_ rfl
    show ev _ _ _ = _
    have k1 : ((j : Int) + 1) = ((j + 1 : Nat) : Int) := by omega
    have g1 : fitB (min j cs.length + 1) = true := fit_of (by omega)
    have g2 : fitB (min j cs.length + 1 + (cs.length - (j + 1))) = true := fit_of (by omega)
    simp only [ev_bin, ev_sl, ev_lst, evL_cons, evL_nil, ev_var, varE_0, varE_s, evO_none, evO_some, pre_ok, bind_ok, bindO_ok, ofO_some, partOf_int, frz_node, frz_int, frzL_tC, slT_lst, cut_lo, tC_take, e1, newT_def, List.length_cons, List.length_nil, f1, if_true, ev_int, bin_add, k1, cut_hi, tC_drop, bin_addL, tC_len, List.length_append, List.length_take, List.length_drop, g1, g2]
end K15

/-! K15z: _law_refusals. -/
namespace K15
open PySem PT PTy PTw
open L2 (atI ixN)
variable {n : Nat} {φ : Nat → List T → FR} {P : List Bool}
theorem same_ref (w : Str) : Φ (n + 1) 14 [refT w, refT w] = .ok (.bl true) [.hole, .hole] := by
  have h := S14 (n := n + 1) (by omega) (refT w) (refT w) (by simp [refT, Lw.plT, Lw.plL]) (by simp [refT, Lw.plT, Lw.plL]) (by simp [refT, Lw.szT, Lw.szL])
  rw [h]
  simp [refT, Lw.sameT, Lw.sameL]
theorem bad4 {d1 d2 : Int} (h1 : 0 ≤ d1) (h2 : 0 ≤ d2) {t : T} (ht : t ∈ frzL [.int 4, .int (-1), .bl true, .non, .str "1", .node true .lst [.int 1], .node false .tup [], .int (4 + d1), .int (-1 - d2)]) : okV t = true ∧ between t 0 3 = false ∧ frz t = t := by
  simp only [frzL_cons, frzL_nil, List.mem_cons, List.not_mem_nil, or_false, frz_node, frz_int, frz_str, frz_bl, frz_non] at ht
  rcases ht with rfl | rfl | rfl | rfl | rfl | rfl | rfl | rfl | rfl <;> refine ⟨rfl, ?_, by simp⟩ <;> simp [between] <;> omega
abbrev rows3 : E := (.lst (.cons (.int 4) (.cons (.neg (.int 1)) (.cons (.bl true) (.cons .non (.cons (.str "1") (.cons (.lst (.cons (.int 1) .nil)) (.cons (.tup .nil) (.cons (.bin .add (.int 4) (.call 11 0 (.cons (.lend 0) (.cons (.bin .pow (.int 10) (.int 6)) .nil)))) (.cons (.bin .sub (.neg (.int 1)) (.call 11 0 (.cons (.lend 0) (.cons (.bin .pow (.int 10) (.int 6)) .nil)))) .nil))))))))))
abbrev tup3 (w : Str) : E := (.tup (.cons (.str "refused") (.cons (.str "BadValue") (.cons (.str w) .nil))))
theorem ev_tup3 {w : Str} {o : Option T} {e : PT.Env} : ev ⟨φ, tb, P⟩ (tup3 w) (o :: e) = .ok (refT w) (o :: e) := by
  have f3 : fitB 3 = true := by decide
  simp [f3, refT]
/-- not _law_same(_law_told(a, b), ("refused", "BadValue", w)) -/
theorem ev_ref {m : Nat} (w : Str) {xa xb : E} {o o1 o2 : Option T} {e e1 e2 : PT.Env} {ta tg : T} (hx : nLend xa = true) (hy : nLend xb = true) (h : ev ⟨Φ (m + 1), tb, P⟩ xa (o :: e) = .ok ta (o1 :: e1)) (h2 : ev ⟨Φ (m + 1), tb, P⟩ xb (o1 :: e1) = .ok tg (o2 :: e2)) (hf : Φ (m + 1) 19 [ta, tg] = .ok (refT w) [.hole, .hole]) :
    ev ⟨Φ (m + 1), tb, P⟩ (.not (.call 14 0 (.cons (.call 19 0 (.cons xa (.cons xb .nil))) (.cons (tup3 w) .nil)))) (o :: e) = .ok (.bl false) (o2 :: e2) := by
  have c1 := call2 (C := ⟨Φ (m + 1), tb, P⟩) (f := 19) hx hy h h2 d19 hf
  have c3 : ev ⟨Φ (m + 1), tb, P⟩ (tup3 w) (o2 :: e2) = .ok (refT w) (o2 :: e2) := ev_tup3
  have sr := same_ref (n := m) w
  generalize hq : (.call 19 0 (.cons xa (.cons xb .nil)) : E) = xq at c1 ⊢
  have l1 : nLend xq = true := by rw [← hq]; rfl
  generalize hr : tup3 w = xr at c3 ⊢
  have l2 : nLend xr = true := by rw [← hr]; rfl
  have c2 := call2 (C := ⟨Φ (m + 1), tb, P⟩) (f := 14) l1 l2 c1 c3 d14 sr
  rw [ev_not, c2]
  rfl
def spRefusals (φ : Nat → List T → FR) : Prop := ∀ (x : Stm) (cs : List (Option Int)) (g : Nat), GoodC cs → g ≤ 3 → ∃ x2, φ 21 [tSt x, .node false .lst (tC cs), .int g] = .ok (.bl true) [tSt x2, .hole, .hole]
theorem S21 (hn : 8 ≤ n) : spRefusals (Φ n) := by
  obtain ⟨m', rfl, hm⟩ := fuel hn
  obtain ⟨m, rfl, hm'⟩ := fuel hm
  have h11 : spNext (Φ (m + 1)) := S11 (by omega)
  have h12 : spPick (Φ (m + 1)) := S12 (by omega)
  have h20 : spWrong (Φ (m + 1)) := S20 (by omega)
  intro x cs g hcs hg
  suffices hs : ∃ r, PT.run (Φ (m + 1)) tb d__law_refusals [tSt x, .node false .lst (tC cs), .int g] = r ∧ ∃ x2, r = .ok (.bl true) [tSt x2, .hole, .hole] from by
    obtain ⟨r, h1, x2, h2⟩ := hs
    exact ⟨x2, Phi_s.trans (h1.trans h2)⟩
  refine ⟨_, rfl, ?_⟩
  rw [run_fin rfl]
  show Wp ⟨Φ (m + 1), tb, [true, false, false]⟩ b__law_refusals [some (tSt x), some (.node false .lst (tC cs)), some (.int g), none, none, none] (fun r => ∃ x2, fin [true, false, false] 3 r = .ok (.bl true) [tSt x2, .hole, .hole])
  have f0 : fitB 0 = true := by decide
  have f1 : fitB 1 = true := by decide
  have f9 : fitB 9 = true := by decide
  refine w_rng (n := 4) (e1 := [some (tSt x), some (.node false .lst (tC cs)), some (.int g), none, none, none]) ?_ (fun i e => ∃ x o3 o4 o5, e = [some (tSt x), some (.node false .lst (tC cs)), some (.int g), o3, o4, o5]) ⟨_, _, _, _, rfl⟩ ?_ ?_
  · show evI _ _ _ = _
    simp [rng1T]
    rfl
  · rintro i e hi ⟨x, o3, o4, o5, rfl⟩
    refine ⟨_, rfl, ?_⟩
    obtain ⟨t, x2, w1, w2⟩ := h20 x cs hcs
    show Wp _ _ [some (tSt x), some (.node false .lst (tC cs)), some (.int g), some (.int (i : Int)), o4, o5] _
    refine w_s (e1 := [some (tSt x2), some (.node false .lst (tC cs)), some (.int g), some (.int (i : Int)), some t, o5]) ?_ ?_
    · show ex _ _ _ = _
      rw [ex_asg, call_l1 (i := 0) (xa := .var 1) (ta := .node false .lst (tC cs)) (e1 := [some (tSt x), some (.node false .lst (tC cs)), some (.int g), some (.int (i : Int)), o4, o5]) rfl rfl (by simp) rfl d20 w1, st_ok]
      rfl
    have er : ev ⟨Φ (m + 1), tb, [true, false, false]⟩ rows3 [some (tSt x2), some (.node false .lst (tC cs)), some (.int g), some (.int (i : Int)), some t, o5] = .ok (.node true .lst [.int 4, .int (-1), .bl true, .non, .str "1", .node true .lst [.int 1], .node false .tup [], .int (4 + x2.dg 1000000), .int (-1 - (x2.go 1000000).dg 1000000)]) [some (tSt ((x2.go 1000000).go 1000000)), some (.node false .lst (tC cs)), some (.int g), some (.int (i : Int)), some t, o5] := by
      have e1 := fun x => ev_nextE (P := [true, false, false]) h11 x (m := 1000000) (e := [some (.node false .lst (tC cs)), some (.int g), some (.int (i : Int)), some t, o5]) (by decide) (by intro i z; cases z) ev_mil
      simp [-ev_call, e1, f0, f1, f9]
    obtain ⟨w, x3, p1, p2⟩ := ev_pickE (P := [true, false, false]) h12 x2 ((x2.go 1000000).go 1000000) (by simp) (by intro i z; cases z) er
    obtain ⟨b1, b2, b3⟩ := bad4 (dg_bd x2 (m := 1000000) (by decide)).1 (dg_bd (x2.go 1000000) (m := 1000000) (by decide)).1 p2
    refine w_s (e1 := [some (tSt x3), some (.node false .lst (tC cs)), some (.int g), some (.int (i : Int)), some t, some w]) ?_ ?_
    · show ex _ _ _ = _
      rw [ex_asg, p1, st_ok]
      rfl
    have ft := S19c (n := m + 1) (by omega) (frz t) (.int g) (by rw [okD_frz]; exact w2.1) (by rw [isCont_frz]; exact w2.2)
    have ft2 := S19c (n := m + 1) (by omega) (frz t) w (by rw [okD_frz]; exact w2.1) (by rw [isCont_frz]; exact w2.2)
    have ft3 := S19g (n := m + 1) (by omega) (.node true .lst (tC cs)) w (okD_tC cs) (good_cont hcs) b1 b2
    refine w_if (d := false) (e1 := [some (tSt x3), some (.node false .lst (tC cs)), some (.int g), some (.int (i : Int)), some (frz t), some w]) (ev_ref "contents" rfl rfl (ta := frz t) (tg := .int g) (by simp; exact ⟨rfl, rfl⟩) (by simp) ft) (fun z => nomatch z) (fun _ => w_k ?_)
    refine w_if (d := false) (e1 := [some (tSt x3), some (.node false .lst (tC cs)), some (.int g), some (.int (i : Int)), some (frz t), some w]) (ev_ref "contents" rfl rfl (ta := frz t) (tg := w) (by simp; exact ⟨rfl, rfl⟩) (by simp [b3]) ft2) (fun z => nomatch z) (fun _ => w_k ?_)
    refine w_if (d := false) (e1 := [some (tSt x3), some (.node false .lst (tC cs)), some (.int g), some (.int (i : Int)), some (frz t), some w]) (ev_ref "guard" rfl rfl (ta := .node true .lst (tC cs)) (tg := w) (by simp; exact ⟨rfl, rfl⟩) (by simp [b3]) ft3) (fun z => nomatch z) (fun _ => w_k (w_nop ⟨_, _, _, _, rfl⟩))
  · rintro e ⟨x, o3, o4, o5, rfl⟩
    exact w_ret (t := .bl true) (e1 := [some (tSt x), some (.node false .lst (tC cs)), some (.int g), o3, o4, o5]) (ev_bl true) ⟨x, rfl⟩
end K15

/-! K15math: a slot changed changes each parity; equal trees are the same. -/
namespace K15
open PySem PT PTy PTw
def wsum (k : Int) : Nat → List (Option Int) → Int
  | _, [] => 0
  | m, c :: cs => c.getD 0 * inv (250 + k - m) + wsum k (m + 1) cs
theorem terms_sum (k : Int) : ∀ (m : Nat) (cs : List (Option Int)), (terms k m cs).sum = wsum k m cs
  | _, [] => rfl
  | m, none :: cs => by
    show (terms k (m + 1) cs).sum = 0 * _ + wsum k (m + 1) cs
    rw [terms_sum k (m + 1) cs]; omega
  | m, some c :: cs => by
    show (c * inv (250 + k - m) :: terms k (m + 1) cs).sum = c * inv (250 + k - m) + wsum k (m + 1) cs
    rw [List.sum_cons, terms_sum k (m + 1) cs]
theorem wsum_set (k v : Int) : ∀ (m j : Nat) (cs : List (Option Int)) (o : Option Int), cs[j]? = some o → wsum k m (cs.set j (some v)) = wsum k m cs + (v - o.getD 0) * inv (250 + k - (m + j : Nat))
  | _, _, [], _, h => by simp at h
  | m, 0, c :: cs, o, h => by
    have e : c = o := by simpa using h
    subst e
    show v * inv (250 + k - m) + wsum k (m + 1) cs = c.getD 0 * inv (250 + k - m) + wsum k (m + 1) cs + (v - c.getD 0) * inv (250 + k - m)
    rw [Int.sub_mul]; omega
  | m, j + 1, c :: cs, o, h => by
    have ih := wsum_set k v (m + 1) j cs o (by simpa using h)
    show c.getD 0 * inv (250 + k - m) + wsum k (m + 1) (cs.set j (some v)) = c.getD 0 * inv (250 + k - m) + wsum k (m + 1) cs + (v - o.getD 0) * inv (250 + k - (m + (j + 1) : Nat))
    rw [ih, show m + 1 + j = m + (j + 1) by omega]; omega
theorem inv_unit : ∀ y : Nat, 200 ≤ y → y < 257 → inv (y : Int) * (y : Int) % 257 = 1 := by
  have h : ∀ y : Fin 257, 200 ≤ y.val → inv (y.val : Int) * (y.val : Int) % 257 = 1 := by decide +kernel
  exact fun y h1 h2 => h ⟨y, h2⟩ h1
theorem par_ne {k j : Nat} {v : Int} {cs : List (Option Int)} {o : Option Int} (hk : k < 3) (hj : j < 40) (ho : cs[j]? = some o) (hv : v ≠ o.getD 0) (h1 : -256 ≤ v - o.getD 0 ∧ v - o.getD 0 ≤ 256) : par (k : Int) (cs.set j (some v)) ≠ par (k : Int) cs := by
  unfold par
  rw [terms_sum, terms_sum, wsum_set _ _ _ _ _ _ ho]
  have u := inv_unit (250 + k - j) (by omega) (by omega)
  have ey : ((250 + k - j : Nat) : Int) = 250 + (k : Int) - ((0 + j : Nat) : Int) := by omega
  rw [ey] at u
  generalize 250 + (k : Int) - ((0 + j : Nat) : Int) = y at u
  generalize wsum (k : Int) 0 cs = S
  have hd : v - o.getD 0 ≠ 0 := by omega
  generalize v - o.getD 0 = d at h1 hd
  intro z
  have z1 : (d * inv y) % 257 = 0 := by omega
  have z2 : (d * inv y * y) % 257 = 0 := by rw [Int.mul_emod, z1]; simp
  rw [Int.mul_assoc, Int.mul_emod, u, Int.mul_one, Int.emod_emod_of_dvd _ (Int.dvd_refl 257)] at z2
  omega
theorem val_new {was d : Int} (h1 : 0 ≤ was ∧ was ≤ 250) (h2 : 0 ≤ d ∧ d < 250) : (was + 1 + d) % 251 ≠ was ∧ 0 ≤ (was + 1 + d) % 251 ∧ (was + 1 + d) % 251 ≤ 250 := by omega
theorem good_val {cs : List (Option Int)} {j : Nat} {o : Option Int} (h : GoodC cs) (ho : cs[j]? = some o) : 0 ≤ o.getD 0 ∧ o.getD 0 ≤ 250 := by
  cases o with
  | none => exact ⟨Int.le_refl 0, by decide⟩
  | some c => exact h.2.2 c (List.mem_of_getElem? ho)
theorem good_set {cs : List (Option Int)} {j : Nat} {v : Int} (h : GoodC cs) (hv : 0 ≤ v ∧ v ≤ 250) : GoodC (cs.set j (some v)) := by
  refine ⟨by rw [List.length_set]; exact h.1, by rw [List.length_set]; exact h.2.1, fun c hc => ?_⟩
  rcases List.mem_or_eq_of_mem_set hc with z | z
  · exact h.2.2 c z
  · cases z; exact hv
mutual
theorem same_refl : ∀ t : T, Lw.plT t = true → Lw.sameT t t = true
  | .non, _ => rfl
  | .bl b, _ => by simp [Lw.sameT]
  | .int _, _ => by simp [Lw.sameT]
  | .str _, _ => by simp [Lw.sameT]
  | .hole, h => by cases h
  | .node false .lst ts, h => by simp only [Lw.sameT]; exact same_reflL ts (by simpa [Lw.plT] using h)
  | .node false .klst ts, h => by simp only [Lw.sameT]; exact same_reflL ts (by simpa [Lw.plT] using h)
  | .node false .tup ts, h => by simp only [Lw.sameT]; exact same_reflL ts (by simpa [Lw.plT] using h)
  | .node true k ts, h => by cases k <;> simp [Lw.plT] at h
  | .node false (.dic _) ts, h => by simp [Lw.plT] at h
  | .node false (.dtu _) ts, h => by simp [Lw.plT] at h
theorem same_reflL : ∀ ts : List T, Lw.plL ts = true → Lw.sameL ts ts = true
  | [], _ => by simp [Lw.sameL]
  | t :: ts, h => by
    simp only [Lw.plL, Bool.and_eq_true] at h
    simp only [Lw.sameL, Bool.and_eq_true]
    exact ⟨same_refl t h.1, same_reflL ts h.2⟩
end
theorem slot_good (thin : Bool) (x : Stm) : ∀ c, (slotOf thin x).1 = some c → 0 ≤ c ∧ c ≤ 250 := by
  intro c h
  unfold slotOf at h
  have := dg_bd (x.go 8) (m := 251) (by decide)
  split at h
  · simp only at h
    split at h
    · cases h
    · split at h <;> (cases h; decide)
  · split at h
    · cases h
    · have e : (x.go 8).dg 251 = c := by simpa using h
      omega
theorem slots_good (thin : Bool) : ∀ (n : Nat) (x : Stm) (c : Int), some c ∈ (slotsOf thin n x).1 → 0 ≤ c ∧ c ≤ 250
  | 0, x, c, h => by cases h
  | n + 1, x, c, h => by
    rcases List.mem_append.mp (show some c ∈ (slotsOf thin n x).1 ++ [(slotOf thin (slotsOf thin n x).2).1] from h) with z | z
    · exact slots_good thin n x c z
    · exact slot_good thin _ c (List.mem_singleton.mp z).symm
theorem contents_good (x : Stm) : GoodC (contentsOf x).1 := by
  have mb := many_bd x
  refine ⟨?_, ?_, fun c h => slots_good _ _ _ c h⟩
  · show 1 ≤ (slotsOf _ _ _).1.length
    rw [slots_len]; omega
  · show (slotsOf _ _ _).1.length ≤ 40
    rw [slots_len]; omega
end K15

/-! K15law: the law's own run. -/
namespace K15
open PySem PT PTy PTw
open L2 (atI ixN)
variable {φ : Nat → List T → FR} {P : List Bool}
abbrev ivT (b : Bool) : T := .node b .lst (tI (fnd 256))
abbrev csT (b : Bool) (cs : List (Option Int)) : T := .node b .lst (tC cs)
/-- the law's slots -/
abbrev LE (s : List Int) (x : Stm) (iv ct g : T) (o5 o6 o7 o8 o9 o10 o11 o12 o13 o14 : Option T) : PT.Env := [some (.node false .klst (tI s)), some (tSt x), some iv, some ct, some g, o5, o6, o7, o8, o9, o10, o11, o12, o13, o14]
/-- a told answer, read -/
def tellF (g : Nat) (cs : List (Option Int)) : T := .node false .tup [.str "told", .node false .lst (tI (parsOf g cs))]
theorem frz_tell (g : Nat) (cs : List (Option Int)) : frz (tellT g cs) = tellF g cs := by simp [tellT, tellF]
theorem frz_tellF (g : Nat) (cs : List (Option Int)) : frz (tellF g cs) = tellF g cs := by simp [tellF]
theorem plL_tI (l : List Int) : Lw.plL (tI l) = true := by
  induction l with
  | nil => rfl
  | cons a l ih => show (Lw.plT (.int a) && Lw.plL (tI l)) = true; rw [ih]; rfl
theorem plL_tC (l : List (Option Int)) : Lw.plL (tC l) = true := by
  induction l with
  | nil => rfl
  | cons a l ih =>
    show (Lw.plT (tO a) && Lw.plL (tC l)) = true
    rw [ih]; cases a <;> rfl
theorem szL_tI (l : List Int) : Lw.szL (tI l) = l.length := by
  induction l with
  | nil => rfl
  | cons a l ih => show Lw.szT (.int a) + Lw.szL (tI l) = _; rw [ih]; simp [Lw.szT]; omega
theorem szL_tC (l : List (Option Int)) : Lw.szL (tC l) = l.length := by
  induction l with
  | nil => rfl
  | cons a l ih => show Lw.szT (tO a) + Lw.szL (tC l) = _; rw [ih]; cases a <;> simp [tO, Lw.szT] <;> omega
theorem pars_len (g : Nat) (cs : List (Option Int)) : (parsOf g cs).length = g := by unfold parsOf; simp
theorem same_tell {n g : Nat} {cs : List (Option Int)} (hg : g ≤ 3) {a b : T} (ha : frz a = tellF g cs) (hb : frz b = tellF g cs) : Φ (n + 1) 14 [a, b] = .ok (.bl true) [.hole, .hole] := by
  have pl : Lw.plT (tellF g cs) = true := by simp [tellF, Lw.plT, Lw.plL, plL_tI]
  have sz : Lw.szT (tellF g cs) < 1000000 := by simp [tellF, Lw.szT, Lw.szL, szL_tI, pars_len]; omega
  have h := S14 (n := n + 1) (by omega) a b (by rw [ha]; exact pl) (by rw [hb]; exact pl) (by rw [hb]; exact sz)
  rw [h, ha, hb, same_refl _ pl]
theorem same_cs {n : Nat} {cs : List (Option Int)} (hc : cs.length ≤ 40) : Φ (n + 1) 14 [csT false cs, csT false cs] = .ok (.bl true) [.hole, .hole] := by
  have pl : Lw.plT (csT false cs) = true := by simp [Lw.plT, plL_tC]
  have sz : Lw.szT (csT false cs) < 1000000 := by simp [Lw.szT, szL_tC]; omega
  have fr : frz (csT false cs) = csT false cs := by simp
  have h := S14 (n := n + 1) (by omega) (csT false cs) (csT false cs) (by rw [fr]; exact pl) (by rw [fr]; exact pl) (by rw [fr]; exact sz)
  rw [h, fr, same_refl _ pl]
/-- the last comprehension finds nothing -/
theorem lc_none (s : List Int) (x : Stm) (iv ct g : T) (o5 o6 o7 o8 o9 o10 o11 : Option T) (cs cs' : List (Option Int)) (hne : ∀ k : Nat, k < 3 → par (k : Int) cs' ≠ par (k : Int) cs) :
    ∃ t12 t13, ev ⟨φ, tb, [false]⟩ (.lc [14] (.nm 14) (.rng1 (.int 3)) (.some (.cmp .eq (.ix (.ix (.var 12) (.int 1)) (.var 14)) (.ix (.var 13) (.var 14)))) (.var 14)) (LE s x iv ct g o5 o6 o7 o8 o9 o10 o11 (some (tellT 3 cs')) (some (.node true .lst (tI (parsOf 3 cs)))) none) = .ok (.node true .lst []) (LE s x iv ct g o5 o6 o7 o8 o9 o10 o11 (some t12) (some t13) none) := by
  have key : ∀ y e, y ∈ rngT 0 3 → (∃ t12 t13, e = LE s x iv ct g o5 o6 o7 o8 o9 o10 o11 (some t12) (some t13) none ∧ frz t12 = tellF 3 cs' ∧ frz t13 = .node false .lst (tI (parsOf 3 cs))) →
      ∃ e1, lcBody [false] (.nm 14) (fun e => evC ⟨φ, tb, [false]⟩ (.some (.cmp .eq (.ix (.ix (.var 12) (.int 1)) (.var 14)) (.ix (.var 13) (.var 14)))) e) (fun e => ev ⟨φ, tb, [false]⟩ (.var 14) e) y e = .ok none e1 ∧
        (∃ t12 t13, wipeE e1 [14] = LE s x iv ct g o5 o6 o7 o8 o9 o10 o11 (some t12) (some t13) none ∧ frz t12 = tellF 3 cs' ∧ frz t13 = .node false .lst (tI (parsOf 3 cs))) := by
    rintro y e hy ⟨t12, t13, rfl, h12, h13⟩
    obtain ⟨k, hk, rfl⟩ := rng_mem hy
    have g1 : ∀ c : List (Option Int), (parsOf 3 c)[k]? = some (par (k : Int) c) := fun c => by unfold parsOf; simp [hk]
    have ne := hne k hk
    refine ⟨LE s x iv ct g o5 o6 o7 o8 o9 o10 o11 (some (tellF 3 cs')) (some (.node false .lst (tI (parsOf 3 cs)))) (some (.int (k : Int))), ?_, _, _, rfl, frz_tellF 3 cs', by simp⟩
    have ha : asgE [false] (.nm 14) (.int (k : Int)) (LE s x iv ct g o5 o6 o7 o8 o9 o10 o11 (some t12) (some t13) none) = .ok () (LE s x iv ct g o5 o6 o7 o8 o9 o10 o11 (some t12) (some t13) (some (.int (k : Int)))) := rfl
    rw [lcBody_bd, ha, bind_ok]
    have e1 : ixT (tellF 3 cs') (.int 1) = some (.node false .lst (tI (parsOf 3 cs'))) := rfl
    simp [h12, h13, e1, g1, ne]
  obtain ⟨e', hl, t12, t13, rfl, _, _⟩ := lc_w (own := [14]) (g := fun _ => none) (items := rngT 0 3) (acc := []) (e := LE s x iv ct g o5 o6 o7 o8 o9 o10 o11 (some (tellT 3 cs')) (some (.node true .lst (tI (parsOf 3 cs)))) none)
    (J := fun e => ∃ t12 t13, e = LE s x iv ct g o5 o6 o7 o8 o9 o10 o11 (some t12) (some t13) none ∧ frz t12 = tellF 3 cs' ∧ frz t13 = .node false .lst (tI (parsOf 3 cs))) ⟨_, _, rfl, frz_tell 3 cs', by simp⟩ key (by decide)
  refine ⟨t12, t13, ?_⟩
  rw [ev_lc, evI_rng1, ev_int, bindO_ok]
  have hr : rng1T (.int 3) = some (rngT 0 3) := rfl
  rw [hr, ofO_some, bind_ok]
  have hw : wipeE (LE s x iv ct g o5 o6 o7 o8 o9 o10 o11 (some (tellT 3 cs')) (some (.node true .lst (tI (parsOf 3 cs)))) none) [14] = LE s x iv ct g o5 o6 o7 o8 o9 o10 o11 (some (tellT 3 cs')) (some (.node true .lst (tI (parsOf 3 cs)))) none := rfl
  rw [hw]
  show R.bo (lcGo [14] _ (rngT 0 3) [] _) _ = _
  rw [hl]
  simp
end K15

/-! K15law2: the law ends with True. -/
namespace K15
open PySem PT PTy PTw
open L2 (atI ixN)
theorem d10 : tb.dfl 10 0 = some [] := rfl
theorem d16 : tb.dfl 16 0 = some [] := rfl
theorem d18 : tb.dfl 18 0 = some [] := rfl
theorem not_ev {C : Cf} {x : E} {o : Option T} {e e1 : PT.Env} {b : Bool} (h : ev C x (o :: e) = .ok (.bl b) e1) : ev C (.not x) (o :: e) = .ok (.bl (!b)) e1 := by
  rw [ev_not, h]; rfl
theorem call0 {C : Cf} {o : Option T} {e : PT.Env} {f : Nat} {r : T} {us : List T} (hd : C.tb.dfl f 0 = some []) (hf : C.φ f [] = .ok r us) : ev C (.call f 0 .nil) (o :: e) = .ok r (o :: e) :=
  call_n (l := []) (ts := []) rfl (by simp) rfl evL_nil hd hf
/-- ("told", e) -/
theorem ev_tup2 {C : Cf} {x : E} {o o1 : Option T} {e e1 : PT.Env} {t : T} (h : ev C x (o :: e) = .ok t (o1 :: e1)) : ev C (.tup (.cons (.str "told") (.cons x .nil))) (o :: e) = .ok (.node false .tup [.str "told", t]) (o1 :: e1) := by
  have f2 : fitB 2 = true := by decide
  simp [h, f2]
theorem turn_run {m : Nat} (hm : 8 ≤ m) (s : List Int) (x : Stm) (b2 b3 : Bool) (cs : List (Option Int)) (g : Nat) (hc : GoodC cs) (hg : g ≤ 3) (o6 o7 o8 o9 o10 o11 o12 o13 : Option T) (i : Int) {b : S} {P : SR → Prop}
    (hb : b_law = .seq (.asg (.nm 1) (.call 10 0 (.cons (.var 0) .nil))) (.seq (.asg (.nm 2) (.call 16 0 .nil)) (.seq (.asg (.nm 3) (.call 18 0 (.cons (.lend 1) .nil))) (.seq (.asg (.nm 4) (.call 11 0 (.cons (.lend 1) (.cons (.int 4) .nil)))) (.seq (.fors (.nm 5) (.rng1 (.int 3)) b) (.seq (.ret (.bl true)) .nop))))))
    (hP : ∀ x cs g o6 o7 o8 o9 o10 o11 o12 o13, GoodC cs → g ≤ 3 → P (.next (LE s x (ivT false) (csT false cs) (.int (g : Nat)) (some (.int i)) o6 o7 o8 o9 o10 o11 o12 o13 none))) :
    Wp ⟨Φ (m + 1), tb, [false]⟩ b (LE s x (ivT b2) (csT b3 cs) (.int g) (some (.int i)) o6 o7 o8 o9 o10 o11 o12 o13 none) P := by
  have hbb := hb
  unfold b_law at hbb
  injection hbb with _ hbb
  injection hbb with _ hbb
  injection hbb with _ hbb
  injection hbb with _ hbb
  injection hbb with hbb _
  injection hbb with _ _ hbb
  subst hbb
  clear hb
  have h11 : spNext (Φ (m + 1)) := S11 (by omega)
  have f2 : fitB 2 = true := by decide
  -- due
  refine w_s (e1 := LE s x (ivT false) (csT false cs) (.int g) (some (.int i)) (some (.node true .lst (tI (parsOf g cs)))) o7 o8 o9 o10 o11 o12 o13 none) ?_ ?_
  · show ex _ _ _ = _
    rw [ex_asg, call3 (xa := .var 2) (xb := .var 3) (xc := .var 4) (ta := ivT false) (tb' := csT false cs) (tc := .int g) rfl rfl rfl (by simp; exact ⟨rfl, rfl⟩) (by simp; exact ⟨rfl, rfl⟩) (by simp; rfl) d17 (S17 (n := m + 1) (by omega) cs g hc.2.1 (by omega)), st_ok]
    rfl
  -- handed
  refine w_s (e1 := LE s x (ivT false) (csT false cs) (.int g) (some (.int i)) (some (.node true .lst (tI (parsOf g cs)))) (some (csT true cs)) o8 o9 o10 o11 o12 o13 none) ?_ ?_
  · show ex _ _ _ = _
    simp
  -- told
  refine w_s (e1 := LE s x (ivT false) (csT false cs) (.int g) (some (.int i)) (some (.node true .lst (tI (parsOf g cs)))) (some (csT false cs)) (some (tellT g cs)) o9 o10 o11 o12 o13 none) ?_ ?_
  · show ex _ _ _ = _
    rw [ex_asg, call2 (xa := .var 7) (xb := .var 4) (ta := csT false cs) (tb' := .int g) rfl rfl (by simp; exact ⟨rfl, rfl⟩) (by simp; rfl) d19 (S19y (n := m + 1) (by omega) false cs g hc hg), st_ok]
    rfl
  -- the first test
  refine w_if (d := false) (e1 := LE s x (ivT false) (csT false cs) (.int g) (some (.int i)) (some (.node true .lst (tI (parsOf g cs)))) (some (csT false cs)) (some (tellT g cs)) o9 o10 o11 o12 o13 none) ?_ (fun z => nomatch z) (fun _ => w_k ?_)
  · show ev _ _ _ = _
    rw [ev_ro]
    have er : roE [false, false, false, true, false, false, true, true, true] (LE s x (ivT false) (csT false cs) (.int g) (some (.int i)) (some (.node true .lst (tI (parsOf g cs)))) (some (csT false cs)) (some (tellT g cs)) o9 o10 o11 o12 o13 none) = [none, none, none, some (csT false cs), none, none, some (.node false .lst (tI (parsOf g cs))), some (csT false cs), some (tellF g cs), none, none, none, none, none, none] := by
      simp [frz_tell]
    rw [er]
    have c1 := call2 (C := ⟨Φ (m + 1), tb, [false]⟩) (f := 14) (o := none) (e := [none, none, some (csT false cs), none, none, some (.node false .lst (tI (parsOf g cs))), some (csT false cs), some (tellF g cs), none, none, none, none, none, none]) (xa := .var 8) (xb := .tup (.cons (.str "told") (.cons (.var 6) .nil))) (ta := tellF g cs) (tb' := tellF g cs) rfl rfl
      (by simp [frz_tellF]; exact ⟨rfl, rfl⟩) (ev_tup2 (by simp; exact ⟨rfl, rfl⟩)) d14 (same_tell (n := m) hg (frz_tellF g cs) (frz_tellF g cs))
    have c2 := call2 (C := ⟨Φ (m + 1), tb, [false]⟩) (f := 14) (o := none) (e := [none, none, some (csT false cs), none, none, some (.node false .lst (tI (parsOf g cs))), some (csT false cs), some (tellF g cs), none, none, none, none, none, none]) (xa := .var 7) (xb := .var 3) (ta := csT false cs) (tb' := csT false cs) rfl rfl
      (by simp; exact ⟨rfl, rfl⟩) (by simp; rfl) d14 (same_cs (n := m) hc.2.1)
    rw [ev_or, not_ev c1, bindO_ok]
    simp only [Bool.not_true, boolOf_bl, ofO_some, bind_ok, Bool.false_eq_true, if_false]
    rw [not_ev c2]
    simp
  -- told[1].append(5)
  have sl : (parsOf g cs).length < sizeLine := by rw [PySem.sizeLine_eq, pars_len]; omega
  refine w_s (e1 := LE s x (ivT false) (csT false cs) (.int g) (some (.int i)) (some (.node true .lst (tI (parsOf g cs)))) (some (csT false cs)) (some (.node false .tup [.str "told", .node true .lst (tI (parsOf g cs) ++ [.int 5])])) o9 o10 o11 o12 o13 none) ?_ ?_
  · show ex _ _ _ = _
    have e1 : app1T 1 (tellT g cs) (.int 5) = some (.node false .tup [.str "told", .node true .lst (tI (parsOf g cs) ++ [.int 5])]) := by
      unfold app1T tellT
      simp [sl]
    simp [e1]
  generalize some (T.node false .tup [.str "told", .node true .lst (tI (parsOf g cs) ++ [.int 5])]) = o8'
  -- the second test
  refine w_if (d := false) (e1 := LE s x (ivT false) (csT false cs) (.int g) (some (.int i)) (some (.node false .lst (tI (parsOf g cs)))) (some (csT false cs)) o8' o9 o10 o11 o12 o13 none) ?_ (fun z => nomatch z) (fun _ => w_k ?_)
  · show ev _ _ _ = _
    have c1 := call2 (C := ⟨Φ (m + 1), tb, [false]⟩) (f := 19) (o := some (.node false .klst (tI s))) (e := [some (tSt x), some (ivT false), some (csT false cs), some (.int g), some (.int i), some (.node true .lst (tI (parsOf g cs))), some (csT false cs), o8', o9, o10, o11, o12, o13, none]) (xa := .var 7) (xb := .var 4) (ta := csT false cs) (tb' := .int g) rfl rfl (by simp; exact ⟨rfl, rfl⟩) (by simp; rfl) d19 (S19y (n := m + 1) (by omega) false cs g hc hg)
    have c2 := call2 (C := ⟨Φ (m + 1), tb, [false]⟩) (f := 14) (xa := .call 19 0 (.cons (.var 7) (.cons (.var 4) .nil))) (xb := .tup (.cons (.str "told") (.cons (.var 6) .nil))) (ta := tellT g cs) (tb' := tellF g cs) rfl rfl c1 (ev_tup2 (by simp; exact ⟨rfl, rfl⟩)) d14 (same_tell (n := m) hg (frz_tell g cs) (frz_tellF g cs))
    rw [not_ev c2]
    simp
  -- the refusals
  obtain ⟨x1, r1⟩ := S21 (n := m + 1) (by omega) x cs g hc hg
  refine w_if (d := false) (e1 := LE s x1 (ivT false) (csT false cs) (.int g) (some (.int i)) (some (.node false .lst (tI (parsOf g cs)))) (some (csT false cs)) o8' o9 o10 o11 o12 o13 none) ?_ (fun z => nomatch z) (fun _ => w_k ?_)
  · show ev _ _ _ = _
    have c1 := call_l2 (C := ⟨Φ (m + 1), tb, [false]⟩) (f := 21) (i := 1) (o := some (.node false .klst (tI s))) (e := [some (tSt x), some (ivT false), some (csT false cs), some (.int g), some (.int i), some (.node false .lst (tI (parsOf g cs))), some (csT false cs), o8', o9, o10, o11, o12, o13, none]) (xa := .var 3) (xb := .var 4) (ta := csT false cs) (tb' := .int g) rfl rfl rfl (by simp; exact ⟨rfl, rfl⟩) (by simp; rfl) rfl d21 r1
    rw [not_ev c1]
    simp
  -- at
  obtain ⟨j, hj, hjl⟩ := dg_nat x1 (m := (cs.length : Int)) (by have := hc.1; omega)
  have hjl : j < cs.length := by omega
  generalize hx2 : x1.go (cs.length : Int) = x2
  refine w_s (e1 := LE s x2 (ivT false) (csT false cs) (.int g) (some (.int i)) (some (.node false .lst (tI (parsOf g cs)))) (some (csT false cs)) o8' (some (.int j)) o10 o11 o12 o13 none) ?_ ?_
  · show ex _ _ _ = _
    have h1 := next_st h11 x1 (cs.length : Int) ⟨by omega, by have := hc.2.1; omega⟩
    rw [hj, hx2] at h1
    rw [ex_asg, call_l1 (i := 1) (xa := .bi .len (.cons (.var 3) .nil)) (ta := .int cs.length) (s := tSt x1) (s' := tSt x1) (s2 := tSt x2) (e1 := LE s x1 (ivT false) (csT false cs) (.int g) (some (.int i)) (some (.node false .lst (tI (parsOf g cs)))) (some (csT false cs)) o8' o9 o10 o11 o12 o13 none) rfl rfl (by simp) rfl d11 h1, st_ok]
    rfl
  -- other
  refine w_s (e1 := LE s x2 (ivT false) (csT false cs) (.int g) (some (.int i)) (some (.node false .lst (tI (parsOf g cs)))) (some (csT false cs)) o8' (some (.int j)) (some (csT true cs)) o11 o12 o13 none) ?_ ?_
  · show ex _ _ _ = _
    simp
  -- was
  obtain ⟨o, ho⟩ : ∃ o, cs[j]? = some o := ⟨_, List.getElem?_eq_getElem hjl⟩
  have hat : (tC cs)[j]? = some (tO o) := by rw [tC_get, ho]; rfl
  have gv := good_val hc ho
  refine w_s (e1 := LE s x2 (ivT false) (csT false cs) (.int g) (some (.int i)) (some (.node false .lst (tI (parsOf g cs)))) (some (csT false cs)) o8' (some (.int j)) (some (csT true cs)) (some (.int (o.getD 0))) o12 o13 none) ?_ ?_
  · show ex _ _ _ = _
    have ni : cmpT .isn .non .non = some true := nrfl rfl
    have ni2 : ∀ c : Int, cmpT .isn (.int c) .non = some false := fun c => nrfl rfl
    cases o with
    | none => simp [hat, tO, ni]
    | some c => simp [hat, tO, ni2]
  -- other[at] = ..
  obtain ⟨d, hd, hdl⟩ := dg_nat x2 (m := 250) (by decide)
  have nv := val_new (was := o.getD 0) (d := d) gv ⟨by omega, hdl⟩
  generalize hv : (o.getD 0 + 1 + (d : Int)) % 251 = v at nv
  have hx3 : ∃ x3, x2.go 250 = x3 := ⟨_, rfl⟩
  obtain ⟨x3, hx3⟩ := hx3
  refine w_s (e1 := LE s x3 (ivT false) (csT false cs) (.int g) (some (.int i)) (some (.node false .lst (tI (parsOf g cs)))) (some (csT false cs)) o8' (some (.int j)) (some (csT true (cs.set j (some v)))) (some (.int (o.getD 0))) o12 o13 none) ?_ ?_
  · show ex _ _ _ = _
    have h1 := next_st h11 x2 250 (by decide)
    rw [hd, hx3] at h1
    have c1 := call_l1 (C := ⟨Φ (m + 1), tb, [false]⟩) (f := 11) (i := 1) (o := some (.node false .klst (tI s))) (e := [some (tSt x2), some (ivT false), some (csT false cs), some (.int g), some (.int i), some (.node false .lst (tI (parsOf g cs))), some (csT false cs), o8', some (.int j), some (csT true cs), some (.int (o.getD 0)), o12, o13, none]) (xa := .int 250) (ta := .int 250) (s := tSt x2) (s' := tSt x2) (s2 := tSt x3) (e1 := LE s x2 (ivT false) (csT false cs) (.int g) (some (.int i)) (some (.node false .lst (tI (parsOf g cs)))) (some (csT false cs)) o8' (some (.int j)) (some (csT true cs)) (some (.int (o.getD 0))) o12 o13 none) rfl rfl ev_int rfl d11 h1
    have ei : ixN cs.length (j : Int) = some j := ixN_nat hjl
    have es : (tC cs).set j (.int v) = tC (cs.set j (some v)) := by unfold tC; rw [List.map_set]; rfl
    simp [-ev_call, c1, hv, ei, es]
  have hc2 : GoodC (cs.set j (some v)) := good_set hc nv.2
  have hne : ∀ k : Nat, k < 3 → par (k : Int) (cs.set j (some v)) ≠ par (k : Int) cs := fun k hk => par_ne hk (by have := hc.2.1; omega) ho nv.1 (by omega)
  generalize cs.set j (some v) = cs' at hc2 hne
  -- further
  refine w_s (e1 := LE s x3 (ivT false) (csT false cs) (.int g) (some (.int i)) (some (.node false .lst (tI (parsOf g cs)))) (some (csT false cs)) o8' (some (.int j)) (some (csT true cs')) (some (.int (o.getD 0))) (some (tellT 3 cs')) o13 none) ?_ ?_
  · show ex _ _ _ = _
    have c1 := call2 (C := ⟨Φ (m + 1), tb, [false]⟩) (f := 19) (o := none) (e := [none, none, none, none, none, none, none, none, none, some (csT false cs'), none, none, none, none]) (xa := .var 10) (xb := .int 3) (ta := csT false cs') (tb' := .int 3) rfl rfl (by simp; exact ⟨rfl, rfl⟩) ev_int d19 (S19y (n := m + 1) (by omega) false cs' 3 hc2 (by omega))
    have ns : noSh (tellT 3 cs') = true := by
      have : ∀ l : List Int, noShL (tI l) = true := fun l => by
        induction l with
        | nil => rfl
        | cons a l ih => show (noSh (.int a) && noShL (tI l)) = true; rw [ih]; rfl
      simp [tellT, noSh, noShL, this]
    have er : roE [false, false, false, false, false, false, false, false, false, false, true] (LE s x3 (ivT false) (csT false cs) (.int g) (some (.int i)) (some (.node false .lst (tI (parsOf g cs)))) (some (csT false cs)) o8' (some (.int j)) (some (csT true cs')) (some (.int (o.getD 0))) o12 o13 none) = [none, none, none, none, none, none, none, none, none, none, some (csT false cs'), none, none, none, none] := by simp
    rw [ex_asg, ev_ro, er, c1, roEnd_ok, if_pos ns, st_ok]
    rfl
  -- the third test
  refine w_if (d := false) (e1 := LE s x3 (ivT false) (csT false cs) (.int g) (some (.int i)) (some (.node false .lst (tI (parsOf g cs)))) (some (csT false cs)) o8' (some (.int j)) (some (csT true cs')) (some (.int (o.getD 0))) (some (tellT 3 cs')) o13 none) ?_ (fun z => nomatch z) (fun _ => w_k ?_)
  · show ev _ _ _ = _
    have er : roE [false, false, true, false, false, false, false, false, false, false, true, false, true] (LE s x3 (ivT false) (csT false cs) (.int g) (some (.int i)) (some (.node false .lst (tI (parsOf g cs)))) (some (csT false cs)) o8' (some (.int j)) (some (csT true cs')) (some (.int (o.getD 0))) (some (tellT 3 cs')) o13 none) = [none, none, some (ivT false), none, none, none, none, none, none, none, some (csT false cs'), none, some (tellF 3 cs'), none, none] := by simp [frz_tell]
    have c1 := call3 (C := ⟨Φ (m + 1), tb, [false]⟩) (f := 17) (o := none) (e := [none, some (ivT false), none, none, none, none, none, none, none, some (csT false cs'), none, some (tellF 3 cs'), none, none]) (xa := .var 2) (xb := .var 10) (xc := .int 3) (ta := ivT false) (tb' := csT false cs') (tc := .int 3) rfl rfl rfl (by simp; exact ⟨rfl, rfl⟩) (by simp; exact ⟨rfl, rfl⟩) ev_int d17 (S17 (n := m + 1) (by omega) cs' 3 hc2.2.1 (by omega))
    have c2 := call2 (C := ⟨Φ (m + 1), tb, [false]⟩) (f := 14) (o := none) (e := [none, some (ivT false), none, none, none, none, none, none, none, some (csT false cs'), none, some (tellF 3 cs'), none, none]) (xa := .var 12) (xb := .tup (.cons (.str "told") (.cons (.call 17 0 (.cons (.var 2) (.cons (.var 10) (.cons (.int 3) .nil)))) .nil))) (ta := tellF 3 cs') (tb' := .node false .tup [.str "told", .node true .lst (tI (parsOf 3 cs'))]) rfl rfl
      (by simp [frz_tellF]) (ev_tup2 c1) d14 (same_tell (n := m) (by omega) (frz_tellF 3 cs') (frz_tell 3 cs'))
    rw [ev_ro, er, not_ev c2, roEnd_ok]
    simp
  -- before
  refine w_s (e1 := LE s x3 (ivT false) (csT false cs) (.int g) (some (.int i)) (some (.node false .lst (tI (parsOf g cs)))) (some (csT false cs)) o8' (some (.int j)) (some (csT true cs')) (some (.int (o.getD 0))) (some (tellT 3 cs')) (some (.node true .lst (tI (parsOf 3 cs)))) none) ?_ ?_
  · show ex _ _ _ = _
    rw [ex_asg, call3 (xa := .var 2) (xb := .var 3) (xc := .int 3) (ta := ivT false) (tb' := csT false cs) (tc := .int 3) rfl rfl rfl (by simp; exact ⟨rfl, rfl⟩) (by simp; exact ⟨rfl, rfl⟩) ev_int d17 (S17 (n := m + 1) (by omega) cs 3 hc.2.1 (by omega)), st_ok]
    rfl
  -- none is the same
  obtain ⟨t12, t13, hlc⟩ := lc_none (φ := Φ (m + 1)) s x3 (ivT false) (csT false cs) (.int g) (some (.int i)) (some (.node false .lst (tI (parsOf g cs)))) (some (csT false cs)) o8' (some (.int j)) (some (csT true cs')) (some (.int (o.getD 0))) cs cs' hne
  refine w_if (d := false) (e1 := LE s x3 (ivT false) (csT false cs) (.int g) (some (.int i)) (some (.node false .lst (tI (parsOf g cs)))) (some (csT false cs)) o8' (some (.int j)) (some (csT true cs')) (some (.int (o.getD 0))) (some t12) (some t13) none) ?_ (fun z => nomatch z) (fun _ => w_k ?_)
  · show ev _ _ _ = _
    rw [ev_cmp, ev_bi, evL_cons, hlc]
    simp
  refine w_s (e1 := LE s x3 (ivT false) (csT false cs') (.int g) (some (.int i)) (some (.node false .lst (tI (parsOf g cs)))) (some (csT false cs)) o8' (some (.int j)) (some (csT false cs')) (some (.int (o.getD 0))) (some t12) (some t13) none) ?_ ?_
  · show ex _ _ _ = _
    simp
  have hg4 : ((g : Int) + 1) % 4 = (((g + 1) % 4 : Nat) : Int) := by omega
  refine w_s (e1 := LE s x3 (ivT false) (csT false cs') (.int (((g + 1) % 4 : Nat) : Int)) (some (.int i)) (some (.node false .lst (tI (parsOf g cs)))) (some (csT false cs)) o8' (some (.int j)) (some (csT false cs')) (some (.int (o.getD 0))) (some t12) (some t13) none) ?_ (w_nop (hP _ _ _ _ _ _ _ _ _ _ _ hc2 (by omega)))
  show ex _ _ _ = _
  rw [← hg4]
  simp
theorem law_run {n : Nat} (hn : 10 ≤ n) (s : List Int) (hs : s.length ≤ 100) : Φ n 22 [.node false .klst (tI s)] = .ok (.bl true) [.hole] := by
  obtain ⟨m', rfl, hm'⟩ := fuel hn
  obtain ⟨m, rfl, hm⟩ := fuel hm'
  refine Phi_s.trans (w_run rfl ?_)
  show Wp ⟨Φ (m + 1), tb, [false]⟩ b_law [some (.node false .klst (tI s)), none, none, none, none, none, none, none, none, none, none, none, none, none, none] _
  have h11 : spNext (Φ (m + 1)) := S11 (by omega)
  refine w_s (e1 := [some (.node false .klst (tI s)), some (tSt ⟨s, 0, 0⟩), none, none, none, none, none, none, none, none, none, none, none, none, none]) ?_ ?_
  · show ex _ _ _ = _
    rw [ex_asg, call1 (xa := .var 0) (ta := .node false .klst (tI s)) rfl (by simp; exact rfl) d10 (S10 (n := m + 1) (by omega) s hs), st_ok]
    rfl
  generalize (⟨s, 0, 0⟩ : Stm) = x
  refine w_s (e1 := [some (.node false .klst (tI s)), some (tSt x), some (ivT true), none, none, none, none, none, none, none, none, none, none, none, none]) ?_ ?_
  · show ex _ _ _ = _
    rw [ex_asg, call0 d16 (S16 (n := m + 1) (by omega)), st_ok]
    rfl
  have hc := contents_good x
  have h18 := S18 (n := m + 1) (by omega) x
  generalize (contentsOf x).1 = cs at hc h18
  generalize (contentsOf x).2 = x1 at h18
  refine w_s (e1 := [some (.node false .klst (tI s)), some (tSt x1), some (ivT true), some (csT true cs), none, none, none, none, none, none, none, none, none, none, none]) ?_ ?_
  · show ex _ _ _ = _
    rw [ex_asg, call_l0 (i := 1) (s := tSt x) rfl d18 h18, st_ok]
    rfl
  obtain ⟨g, hg, hgl⟩ := dg_nat x1 (m := 4) (by decide)
  refine w_s (e1 := LE s (x1.go 4) (ivT true) (csT true cs) (.int g) none none none none none none none none none none) ?_ ?_
  · show ex _ _ _ = _
    have h1 := next_st h11 x1 4 (by decide)
    rw [hg] at h1
    rw [ex_asg, call_l1 (i := 1) (xa := .int 4) (s := tSt x1) (s' := tSt x1) (s2 := tSt (x1.go 4)) rfl rfl ev_int rfl d11 h1, st_ok]
    rfl
  refine w_rng (n := 3) (e1 := LE s (x1.go 4) (ivT true) (csT true cs) (.int g) none none none none none none none none none none) ?_ (fun i e => ∃ x b2 b3 cs, ∃ g : Nat, ∃ o5 o6 o7 o8 o9 o10 o11 o12 o13, e = LE s x (ivT b2) (csT b3 cs) (.int g) o5 o6 o7 o8 o9 o10 o11 o12 o13 none ∧ GoodC cs ∧ g ≤ 3) ⟨_, _, _, _, _, _, _, _, _, _, _, _, _, _, rfl, hc, by omega⟩ ?_ ?_
  · show evI _ _ _ = _
    simp [rng1T]
    rfl
  · rintro i e hi ⟨x, b2, b3, cs, g, o5, o6, o7, o8, o9, o10, o11, o12, o13, rfl, hc, hg⟩
    refine ⟨_, rfl, ?_⟩
    exact turn_run (by omega) s x b2 b3 cs g hc hg o6 o7 o8 o9 o10 o11 o12 o13 i rfl fun x cs g o6 o7 o8 o9 o10 o11 o12 o13 h1 h2 => ⟨_, _, _, _, _, _, _, _, _, _, _, _, _, _, rfl, h1, h2⟩
  · rintro e ⟨x, b2, b3, cs, g, o5, o6, o7, o8, o9, o10, o11, o12, o13, rfl, hc, hg⟩
    exact w_ret (t := .bl true) (ev_bl true) rfl
end K15

/-! K15hd: the head of k15: facts. -/
namespace K15
open PySem PySem.Spec PyProof.Rows L2 PT
open He (ba ga fAd)
open PtHd
abbrev dd (x : Str) (st : Stmt) : He.DefD := ⟨(x, none), x, x, defArgs st, defBody st, defScope st, [], []⟩
abbrev s_init : Stmt := match top 9 with
  | .ClassDef _ _ _ [st] _ _ _ _ _ _ _ => st
  | _ => .Pass ⟨0, 0, 0, 0⟩
abbrev dInit : He.DefD := ⟨("BadValue", some "__init__"), "__init__", "BadValue.__init__", defArgs s_init, defBody s_init, defScope s_init, [], []⟩
def fnL : List He.DefD := [dd "is_integer" s_is_integer, dd "is_between" s_is_between, dd "is_between_or_none" s_is_between_or_none, dd "is_list_of" s_is_list_of, dd "inverse" s_inverse, dd "coefficient" s_coefficient, dd "parity_of" s_parity_of, dd "parities_of" s_parities_of, dd "is_contents" s_is_contents, dd "parities" s_parities, dd "_law_stream" s__law_stream, dd "_law_next" s__law_next, dd "_law_pick" s__law_pick, dd "_law_from" s__law_from, dd "_law_same" s__law_same, dd "_law_named" s__law_named, dd "_law_inverses" s__law_inverses, dd "_law_parities" s__law_parities, dd "_law_contents" s__law_contents, dd "_law_told" s__law_told, dd "_law_wrong" s__law_wrong, dd "_law_refusals" s__law_refusals, dd "law" s_law, dInit]
def gloL : List Str := (["is_integer", "is_between", "is_between_or_none", "is_list_of", "inverse", "coefficient", "parity_of", "parities_of", "is_contents", "parities", "_law_stream", "_law_next", "_law_pick", "_law_from", "_law_same", "_law_named"] : List Str) ++ ((["_law_inverses", "_law_parities", "_law_contents", "_law_told", "_law_wrong", "_law_refusals", "law"] : List Str) ++ Told.allC)
def freeL : List Str := tb.bn ++ (["ValueError"] : List Str)
def glL : List (Str × T) := [("FIELD", .int 257), ("BASE", .int 250), ("MOST_CONTENT", .int 250), ("MOST_ROOM", .int 40), ("MOST_GUARD", .int 3)]
def fa : List He.Fa := gloL.map .glo ++ freeL.map .free
def knB (K : PySem.W.Frag) (c : Str) : Bool := (Told.allF.all fun d => decide (PySem.W.kitOne K (.ref (ga K c)) (.ref (ga K d)) = some (decide (d = c)))) && (decide (PySem.W.kitOne K (.ref (ga K c)) (.ref (ga K "DownError")) = some true) && (decide (PySem.W.kitOne K (.ref (ga K c)) (.type "ValueError") = some true) &&
  (excCB K (ga K c) && ((PySem.W.clsIn K (ga K c)).isSome && decide (PySem.W.exmOne K (.ref (ga K c)) (.ref (ga K "DownError")) = some true)))))
def exB (K : PySem.W.Frag) : Bool := (glL.all fun p => glB K p || seqB K p) && (xc1B K "BadValue" && (((Told.ns1 ++ Told.ns2).all fun c => knB K c) && (xfB K (ga K "BadValue") && decide (PySem.W.findIn K (.ref (ga K "BadValue")) "name" = some none))))
abbrev hk : PySem.W.Hook := He.hookX 5 fa fnL [] [] exB
def ob (s : PySem.W.SharedT) : He.AlX := He.obsX 5 fa fnL [] [] exB (HandSHeadRun.getT s)
theorem ob_eq (s : PySem.W.SharedT) : ob s = hk.obs s.abs := He.obsX_eq (HandSHeadRun.getT_eq s)
abbrev R : PySem.W.OpenRow := PySem.W.OpenLaw.row PySem.Challenge.rw_tolddown_k15_parities_of_pages
def loose : List Str := (gloL.filter fun x : Str => !(decide (x = ("law" : Str)))) ++ glL.map (·.1)
theorem run (w : World) : HandSHeadRun.RunEq R (PySem.W.view R.prog [50]) hk ob 9000 loose w := by
  intro os
  kernel_rfl
end K15

/-! K15end: the end. -/
namespace K15
open PySem PySem.Spec PyProof.Rows L2 PT
open He (ba ga fAd)
open PtHd
section
variable {w : World} {K : PySem.W.Frag} {h : Heap} {mg : Str → Option Value}
theorem told_mono : ∀ φ ψ : Nat → List T → FR, (∀ f ts, FLe (φ f ts) (ψ f ts)) → ∀ ts, FLe (Told.phiTold φ ts) (Told.phiTold ψ ts) := by
  intro φ ψ hφ ts
  unfold Told.phiTold
  split
  · rename_i c g
    rcases hφ 9 [frz c, frz g] with q | q
    · rw [q]; exact .inl rfl
    · rw [q]; exact .inr rfl
  · exact .inl rfl
theorem mono : ∀ f, (D f).Mono := by
  intro f
  by_cases h19 : f = 19
  · subst h19; exact told_mono
  · by_cases h15 : f = 15
    · subst h15; exact fun _ _ _ _ => .inr rfl
    · unfold D
      split <;> first | trivial | (exact absurd rfl h19) | (exact absurd rfl h15)
theorem has (c : He.SaysX fa fnL [] [] exB w h K) {d : He.DefD} (hd : d ∈ fnL) : ∃ fd, FunD K d.name d.qual d.params d.body d.scope (d.dvs K) (d.kws K) (fAd K d.at_) fd := c.t.d.defs hd
theorem hglo (c : He.SaysX fa fnL [] [] exB w h K) (X : K.In h) (G : h.Ns mainGlobals mg) {x : Str} (hx : x ∈ gloL) : mg x = some (.ref (ga K x)) :=
  He.glo_ok X G (c.t.d.facts (f := .glo x) (List.mem_append_left _ (List.mem_map_of_mem hx)))
theorem hfree (c : He.SaysX fa fnL [] [] exB w h K) (X : K.In h) (G : h.Ns mainGlobals mg) {x : Str} (hx : x ∈ freeL) : mg x = none :=
  He.free_ok X G (c.t.d.facts (f := .free x) (List.mem_append_right _ (List.mem_map_of_mem hx)))
theorem at_of (c : He.SaysX fa fnL [] [] exB w h K) (X : K.In h) (G : h.Ns mainGlobals mg) {x : Str} {st : Stmt} {g : Nat} {gi : FnI} {N : List Str} {d : Df} (hm : dd x st ∈ fnL) (hn : gi.nm = x) (hg : x ∈ gloL) (hds : gi.ds = [[]])
    (hb : ∀ (kV doc pm : Value) (an : Option Addr) (cdv ct : Value) (us : List Value), us.length = gi.ps.length → bindArgs (PySem.W.fnOf x x (defArgs st) (defBody st) (defScope st) .none kV doc pm an cdv ct) ⟨us, []⟩ = pure (gi.ps.zip us))
    (hd : D g = .df d) (S : FnScope N gi.ps (defScope st)) (h1 : d.np = gi.ps.length) (h2 : d.n = N.length) (h3 : 3 ≤ gi.lv) (h4 : mB tb N (gi.lv - 1) (defScope st) d.b (defBody st) = true) : ∃ a fd, DefAt K mg tb D g gi a fd := by
  obtain ⟨fd, F⟩ := has c hm
  refine ⟨_, fd, at_plain F ?_ hds hb hd S h1 h2 h3 h4⟩
  rw [hn]
  exact hglo c X G hg
theorem at_all (c : He.SaysX fa fnL [] [] exB w h K) (X : K.In h) (G : h.Ns mainGlobals mg) : ∀ g gi, tb.fn g = some gi → ∃ a fd, DefAt K mg tb D g gi a fd := by
  intro g gi hg
  have hg : tbFn g = some gi := hg
  unfold tbFn at hg
  split at hg <;> cases hg
  · exact at_of c X G (st := s_is_integer) (by simp [fnL]) rfl (by decide) rfl (fun _ _ _ _ _ _ us hl => match us, hl with | [_], _ => rfl) rfl sc_is_integer rfl rfl (by decide) m_is_integer
  · exact at_of c X G (st := s_is_between) (by simp [fnL]) rfl (by decide) rfl (fun _ _ _ _ _ _ us hl => match us, hl with | [_, _, _], _ => rfl) rfl sc_is_between rfl rfl (by decide) m_is_between
  · exact at_of c X G (st := s_is_between_or_none) (by simp [fnL]) rfl (by decide) rfl (fun _ _ _ _ _ _ us hl => match us, hl with | [_, _, _], _ => rfl) rfl sc_is_between_or_none rfl rfl (by decide) m_is_between_or_none
  · exact at_of c X G (st := s_is_list_of) (by simp [fnL]) rfl (by decide) rfl (fun _ _ _ _ _ _ us hl => match us, hl with | [_, _, _], _ => rfl) rfl sc_is_list_of rfl rfl (by decide) m_is_list_of
  · exact at_of c X G (st := s_inverse) (by simp [fnL]) rfl (by decide) rfl (fun _ _ _ _ _ _ us hl => match us, hl with | [_], _ => rfl) rfl sc_inverse rfl rfl (by decide) m_inverse
  · exact at_of c X G (st := s_coefficient) (by simp [fnL]) rfl (by decide) rfl (fun _ _ _ _ _ _ us hl => match us, hl with | [_, _], _ => rfl) rfl sc_coefficient rfl rfl (by decide) m_coefficient
  · exact at_of c X G (st := s_parity_of) (by simp [fnL]) rfl (by decide) rfl (fun _ _ _ _ _ _ us hl => match us, hl with | [_, _], _ => rfl) rfl sc_parity_of rfl rfl (by decide) m_parity_of
  · exact at_of c X G (st := s_parities_of) (by simp [fnL]) rfl (by decide) rfl (fun _ _ _ _ _ _ us hl => match us, hl with | [_, _], _ => rfl) rfl sc_parities_of rfl rfl (by decide) m_parities_of
  · exact at_of c X G (st := s_is_contents) (by simp [fnL]) rfl (by decide) rfl (fun _ _ _ _ _ _ us hl => match us, hl with | [_], _ => rfl) rfl sc_is_contents rfl rfl (by decide) m_is_contents
  · exact at_of c X G (st := s_parities) (by simp [fnL]) rfl (by decide) rfl (fun _ _ _ _ _ _ us hl => match us, hl with | [_, _], _ => rfl) rfl sc_parities rfl rfl (by decide) m_parities
  · exact at_of c X G (st := s__law_stream) (by simp [fnL]) rfl (by decide) rfl (fun _ _ _ _ _ _ us hl => match us, hl with | [_], _ => rfl) rfl sc__law_stream rfl rfl (by decide) m__law_stream
  · exact at_of c X G (st := s__law_next) (by simp [fnL]) rfl (by decide) rfl (fun _ _ _ _ _ _ us hl => match us, hl with | [_, _], _ => rfl) rfl sc__law_next rfl rfl (by decide) m__law_next
  · exact at_of c X G (st := s__law_pick) (by simp [fnL]) rfl (by decide) rfl (fun _ _ _ _ _ _ us hl => match us, hl with | [_, _], _ => rfl) rfl sc__law_pick rfl rfl (by decide) m__law_pick
  · exact at_of c X G (st := s__law_from) (by simp [fnL]) rfl (by decide) rfl (fun _ _ _ _ _ _ us hl => match us, hl with | [_, _, _], _ => rfl) rfl sc__law_from rfl rfl (by decide) m__law_from
  · exact at_of c X G (st := s__law_same) (by simp [fnL]) rfl (by decide) rfl (fun _ _ _ _ _ _ us hl => match us, hl with | [_, _], _ => rfl) rfl sc__law_same rfl rfl (by decide) m__law_same
  · obtain ⟨fd, F⟩ := has c (d := dd "_law_named" s__law_named) (by simp [fnL])
    exact ⟨_, fd, at_hand F (hglo c X G (x := "_law_named") (by decide)) rfl (fun _ _ _ _ _ _ us hl => match us, hl with | [_], _ => rfl) rfl⟩
  · exact at_of c X G (st := s__law_inverses) (by simp [fnL]) rfl (by decide) rfl (fun _ _ _ _ _ _ us hl => match us, hl with | [], _ => rfl) rfl sc__law_inverses rfl rfl (by decide) m__law_inverses
  · exact at_of c X G (st := s__law_parities) (by simp [fnL]) rfl (by decide) rfl (fun _ _ _ _ _ _ us hl => match us, hl with | [_, _, _], _ => rfl) rfl sc__law_parities rfl rfl (by decide) m__law_parities
  · exact at_of c X G (st := s__law_contents) (by simp [fnL]) rfl (by decide) rfl (fun _ _ _ _ _ _ us hl => match us, hl with | [_], _ => rfl) rfl sc__law_contents rfl rfl (by decide) m__law_contents
  · obtain ⟨fd, F⟩ := has c (d := dd "_law_told" s__law_told) (by simp [fnL])
    exact ⟨_, fd, at_hand F (hglo c X G (x := "_law_told") (by decide)) rfl (fun _ _ _ _ _ _ us hl => match us, hl with | [_, _], _ => rfl) rfl⟩
  · exact at_of c X G (st := s__law_wrong) (by simp [fnL]) rfl (by decide) rfl (fun _ _ _ _ _ _ us hl => match us, hl with | [_, _], _ => rfl) rfl sc__law_wrong rfl rfl (by decide) m__law_wrong
  · exact at_of c X G (st := s__law_refusals) (by simp [fnL]) rfl (by decide) rfl (fun _ _ _ _ _ _ us hl => match us, hl with | [_, _, _], _ => rfl) rfl sc__law_refusals rfl rfl (by decide) m__law_refusals
  · exact at_of c X G (st := s_law) (by simp [fnL]) rfl (by decide) rfl (fun _ _ _ _ _ _ us hl => match us, hl with | [_], _ => rfl) rfl sc_law rfl rfl (by decide) m_law
theorem ex_parts (c : He.SaysX fa fnL [] [] exB w h K) : (∀ p, p ∈ glL → glB K p = true ∨ seqB K p = true) ∧ xc1B K "BadValue" = true ∧ (∀ x, x ∈ Told.ns1 ++ Told.ns2 → knB K x = true) ∧ XfC K (ga K "BadValue") ∧ PySem.W.findIn K (.ref (ga K "BadValue")) "name" = some none := by
  obtain ⟨h1, h⟩ := ba c.more
  obtain ⟨h2, h⟩ := ba h
  obtain ⟨h3, h⟩ := ba h
  obtain ⟨h4, h5⟩ := ba h
  exact ⟨fun p hp => by simpa using List.all_eq_true.mp h1 p hp, h2, fun x hx => List.all_eq_true.mp h3 x hx, xfB_ok h4, of_decide_eq_true h5⟩
theorem xk (c : He.SaysX fa fnL [] [] exB w h K) (X : K.In h) (G : h.Ns mainGlobals mg) : Told.Xk K mg (fun x => ga K x) := by
  obtain ⟨_, _, kn, xf, no⟩ := ex_parts c
  have kk : ∀ n, n ∈ Told.ns1 ++ Told.ns2 → (∀ d, d ∈ Told.allF → PySem.W.kitOne K (.ref (ga K n)) (.ref (ga K d)) = some (decide (d = n))) ∧ PySem.W.kitOne K (.ref (ga K n)) (.ref (ga K "DownError")) = some true ∧ PySem.W.kitOne K (.ref (ga K n)) (.type "ValueError") = some true ∧ ExcC K (ga K n) ∧ (PySem.W.clsIn K (ga K n)).isSome = true ∧ PySem.W.exmOne K (.ref (ga K n)) (.ref (ga K "DownError")) = some true := fun n hn => by
    obtain ⟨h1, h⟩ := ba (kn n hn)
    obtain ⟨h2, h⟩ := ba h
    obtain ⟨h3, h⟩ := ba h
    obtain ⟨h4, h⟩ := ba h
    obtain ⟨h5, h6⟩ := ba h
    exact ⟨fun d hd => of_decide_eq_true (List.all_eq_true.mp h1 d hd), of_decide_eq_true h2, of_decide_eq_true h3, excCB_ok h4, h5, of_decide_eq_true h6⟩
  refine ⟨fun x hx => hglo c X G (List.mem_append_right _ (List.mem_append_right _ hx)), fun n hn => ⟨hn, (kk n hn).1, (kk n hn).2.1, (kk n hn).2.2.1⟩, fun n hn => (kk n hn).2.2.2.1, fun n hn => (kk n hn).2.2.2.2.1, fun n hn => (kk n hn).2.2.2.2.2, xf, no, hfree c X G (by decide), hfree c X G (by decide)⟩
theorem pr (c : He.SaysX fa fnL [] [] exB w h K) (X : K.In h) (G : h.Ns mainGlobals mg) {P : Program} (base : Heap) : Pr P w K mg base tb := by
  obtain ⟨gl, x1, _, _, no⟩ := ex_parts c
  refine ⟨fun x hx => hfree c X G (List.mem_append_left _ hx), fun i p hp => ?_, fun x fs hx => ?_⟩
  · have hp : tbGl i = some p := hp
    have hm : p ∈ glL := by
      unfold tbGl at hp
      split at hp <;> first | (cases hp; simp [glL]) | cases hp
    rcases gl p hm with q | q
    · exact glB_ok X G q
    · exact seqB_ok X G q
  · have hx : tbXc x = some fs := hx
    unfold tbXc at hx
    split at hx
    · rename_i e
      subst e
      cases hx
      obtain ⟨o1, o⟩ := ba x1
      obtain ⟨o2, o3⟩ := ba o
      obtain ⟨fd, F⟩ := has c (d := dInit) (by simp [fnL])
      have T := oexB_ok o1
      have S : FnScope ["self", "name"] ["self", "name"] (defScope s_init) := ⟨rfl, rfl, rfl, by decide +kernel, rfl, by decide +kernel, by decide +kernel⟩
      exact PTz.xc_one T (of_decide_eq_true o2) (of_decide_eq_true o3) (PTz.init_fn F S T no rfl rfl rfl rfl) (F.bindsN (ps := ["self", "name"]) fun _ _ _ _ _ _ us hl => match us, hl with | [_, _], _ => rfl) (hglo c X G (by decide))
    · cases hx
theorem levels : ∀ g gi, tb.fn g = some gi → 0 < gi.lv := by
  intro g gi hg
  have hg : tbFn g = some gi := hg
  unfold tbFn at hg
  split at hg <;> cases hg <;> decide
theorem facts (P : Program) (M : Nat) (c : He.SaysX fa fnL [] [] exB w h K) (X : K.In h) (G : h.Ns mainGlobals mg) : Facts P tb D M w K mg := by
  refine ⟨fun base => pr c X G base, at_all c X G, fun base g gi hh a fd hg hD q low => ?_⟩
  have hg : tbFn g = some gi := hg
  by_cases h15 : g = 15
  · subst h15
    cases hg
    cases hD
    exact fail_fn rfl
  · by_cases h19 : g = 19
    · subst h19
      cases hg
      cases hD
      obtain ⟨fd1, F1⟩ := has c (d := dd "_law_told" s__law_told) (by simp [fnL])
      obtain ⟨fd2, F2⟩ := has c (d := dd "_law_named" s__law_named) (by simp [fnL])
      have ea : a = ga K "_law_told" := by
        have := q.mg.symm.trans (hglo c X G (x := "_law_told") (by decide))
        exact Value.ref.inj (Option.some.inj this)
      subst ea
      have ef := same_fd q F1
      subst ef
      exact Told.told_ok F1 F2 (hglo c X G (by decide)) (F2.bindsN (ps := ["error"]) fun _ _ _ _ _ _ us hl => match us, hl with | [_], _ => rfl) (xk c X G) (pr c X G base) fun g2 gi2 h1 h2 => low g2 gi2 h1 h2
    · exfalso
      unfold D at hD
      split at hD <;> first | (cases hD; done) | (exact h15 rfl) | (exact h19 rfl)
end
end K15
open PySem PySem.W PySem.Calls PyProof.Rows
set_option maxRecDepth 100000 in
set_option maxHeartbeats 8000000 in
theorem PySem.Challenge.cw_tolddown_k15_parities_of_pages_holds : PySem.Challenge.rw_tolddown_k15_parities_of_pages.Holds := by
  w_on; o_law
  refine HandSHeadRun.head_any (r := OpenLaw.row PySem.Challenge.rw_tolddown_k15_parities_of_pages) (q := view (OpenLaw.row PySem.Challenge.rw_tolddown_k15_parities_of_pages).prog [50]) (H := K15.hk) (ob := K15.ob) (M := 9000) (loose := K15.loose) (d := HandSHeadRun.topDef (OpenLaw.row PySem.Challenge.rw_tolddown_k15_parities_of_pages).prog 50) (kwd := []) K15.ob_eq
    (by kernel_rfl) (fun s => by kernel_rfl) K15.run (by kernel_rfl) (by kernel_rfl) (by kernel_rfl) (by rfl) (by first | assumption | decide +kernel) (by decide +kernel) ⟨rfl, rfl, rfl, rfl, rfl, by decide +kernel⟩ ?hw ?hc
  case hw => w_witness2
  case hc =>
    refine PtHd.walk_tb (l := PySem.Challenge.rw_tolddown_k15_parities_of_pages) (n := 63) (lv := 10) (M := 20) (gL := 22) (tb := K15.tb) (D := K15.D) (dL := K15.d_law) rfl (by decide) (by kernel_rfl) ⟨rfl, by decide, by decide⟩ K15.mono K15.levels ?hL rfl ?F ?hT
    case hL =>
      have e : (HandSHeadRun.topDef (OpenLaw.row PySem.Challenge.rw_tolddown_k15_parities_of_pages).prog 50).name = ("law" : PySem.Str) := by kernel_rfl
      rw [e]
      rfl
    case hT => exact fun ns h1 _ => ⟨_, K15.law_run (by decide) ns (by omega)⟩
    case F =>
      intro w mg h Y G
      obtain ⟨K, KX, c⟩ := Y
      have e : (HandSHeadRun.topDef (OpenLaw.row PySem.Challenge.rw_tolddown_k15_parities_of_pages).prog 50).name = ("law" : PySem.Str) := by kernel_rfl
      obtain ⟨fd, F⟩ := K15.has c (d := K15.dd "law" K15.s_law) (by simp [K15.fnL])
      refine ⟨K, KX, K15.facts _ _ c KX G, _, fd, PtHd.at_plain F ?_ rfl (fun _ _ _ _ _ _ us hl => match us, hl with | [_], _ => rfl) rfl K15.sc_law rfl rfl (by decide) K15.m_law, fun s v => L2.FunD.bindsA (ps := ["script"]) F (fun _ _ _ _ _ _ us hl => match us, hl with | [_], _ => rfl) s [v] rfl⟩
      rw [e]
      exact K15.hglo c KX G (by decide)

