import PyProof.Rows.All
import Wide.All
import OpenK.AllK
import Wide.FinOn
import KE.KStateDown
import HandS.ForMost
import HandS.ForExc
import HandS.CallSlots
import HandS.TryMany
import HandS.ExcCtx
import HandS.HotCalls
import HandS.ExcIs
import HandS.FStr
import HandS.Deep
import HandS.TupAny
import HandS.TupMul
import HandS.Small
import HandS.Rev
import HandS.Zip
import HandS.DictTup
import HandS.EndBits
import HandS.EndTab
import HandS.Defaults
import HandS.HeadHook1
import HandS.HeadHook2
import HandS.HeadHook3
import HandS.HeadHook4
import HandS.HeadEnd
import HandS.Head0
import HandS.Head1
import HandS.Head2
import HandS.Lambda
import HandS.Wide
import HandS.Flow
import HandS.SortInts
import HandS.Strs
import HandS.Style
import KE.GoesEnum
import KE.DataMinMax
import HandS.Star
import KE.DatumOrd
import KE.SortData
import HandS.Set
import HandS.SetFor
import KE.KTupSum
import PySem.Challenge.RW_mealward_k47_prices_of_days_judged
set_option Elab.async false
set_option linter.all false
set_option maxRecDepth 100000
set_option maxHeartbeats 2000000
namespace Mw
open PySem PySem.Spec L2
open PyProof.Rows hiding St

/-! ### plain data -/
inductive D where
  | non | bl (b : Bool) | int (i : Int) | str (s : Str)
  | tup (xs : List D) | lst (xs : List D) | dic (kvs : List (D × D)) | ref (a : Addr)
  /-- a list that is only read: the script -/
  | scr (xs : List D)

abbrev Fp := List Addr
def IsM : Option HO → Prop
  | some (.lst _) => True
  | some (.dK _) => True
  | some (.dT _) => True
  | _ => False
def kD : D → Option Key
  | .int i => some (.inl i)
  | .str s => some (.inr s)
  | _ => none
def kDs : List D → Option (List Key)
  | [] => some []
  | d :: r => match kD d, kDs r with
    | some k, some ks => some (k :: ks)
    | _, _ => none
def kT : D → Option (List Key)
  | .tup ds => kDs ds
  | _ => none

/-- a list that is only read: the script, or one of the module -/
def Stat (K : PySem.W.Frag) (H : Hp) (a : Addr) (vs : List V) : Prop :=
  (∃ o, H a = some (.frz o (.lst vs))) ∨
    ∃ (o : Obj) (its : Array Value) (n : Nat), K.lookup a = some o ∧ o.cls = .type "list" ∧ o.dict = none ∧ o.data = .seq its n ∧ its.size ≤ sizeLine ∧ Vals vs its.toList

section
variable (K : PySem.W.Frag) (H : Hp)
mutual
/-- d stands at v; G: the changeable objects in it -/
def Rep : D → V → Fp → Prop
  | .non, v, G => v = .non ∧ G = []
  | .bl b, v, G => v = .bl b ∧ G = []
  | .int i, v, G => v = .int i ∧ G = []
  | .str s, v, G => v = .str s ∧ G = []
  | .ref a, v, G => v = .ref a ∧ G = []
  | .tup ds, v, G => ∃ a vs, v = .ref a ∧ SqT K H a vs ∧ RepL ds vs G
  | .lst ds, v, G => ∃ a vs G', v = .ref a ∧ G = a :: G' ∧ H a = some (.lst vs) ∧ RepL ds vs G'
  | .scr ds, v, G => ∃ a vs, v = .ref a ∧ Stat K H a vs ∧ RepL ds vs G
  | .dic kvs, v, G => ∃ a G', v = .ref a ∧ G = a :: G' ∧ ((∃ kv, H a = some (.dK kv) ∧ RepK kvs kv G') ∨ (∃ kv, H a = some (.dT kv) ∧ RepT kvs kv G'))
def RepL : List D → List V → Fp → Prop
  | [], vs, G => vs = [] ∧ G = []
  | d :: ds, vs, G => ∃ v r G1 G2, vs = v :: r ∧ G = G1 ++ G2 ∧ Rep d v G1 ∧ RepL ds r G2
def RepK : List (D × D) → List (Key × V) → Fp → Prop
  | [], kv, G => kv = [] ∧ G = []
  | (k, d) :: ds, kv, G => ∃ q v r G1 G2, kv = (q, v) :: r ∧ G = G1 ++ G2 ∧ kD k = some q ∧ Rep d v G1 ∧ RepK ds r G2
def RepT : List (D × D) → List (List Key × V) → Fp → Prop
  | [], kv, G => kv = [] ∧ G = []
  | (k, d) :: ds, kv, G => ∃ q v r G1 G2, kv = (q, v) :: r ∧ G = G1 ++ G2 ∧ kT k = some q ∧ Rep d v G1 ∧ RepT ds r G2
end
end

section
variable {K : PySem.W.Frag} {H H' : Hp}
/-- what Rep leans on stays -/
structure Keeps (H H' : Hp) (G : Fp) : Prop where
  at_ : ∀ a ∈ G, ∀ o, H a = some o → H' a = some o
  tup : ∀ a xs, H a = some (.tup xs) → H' a = some (.tup xs)
  frz : ∀ a o u, H a = some (.frz o u) → H' a = some (.frz o u)
theorem Keeps.l {G1 G2 : Fp} (k : Keeps H H' (G1 ++ G2)) : Keeps H H' G1 := ⟨fun a h => k.at_ a (List.mem_append_left _ h), k.tup, k.frz⟩
theorem Keeps.r {G1 G2 : Fp} (k : Keeps H H' (G1 ++ G2)) : Keeps H H' G2 := ⟨fun a h => k.at_ a (List.mem_append_right _ h), k.tup, k.frz⟩
theorem Keeps.t {a : Addr} {G : Fp} (k : Keeps H H' (a :: G)) : Keeps H H' G := ⟨fun b h => k.at_ b (List.mem_cons_of_mem _ h), k.tup, k.frz⟩
theorem Keeps.sqT {G : Fp} (k : Keeps H H' G) {a : Addr} {vs : List V} (h : SqT K H a vs) : SqT K H' a vs := by
  rcases h with (h | ⟨o, h⟩) | h
  · exact .inl (.inl (k.tup _ _ h))
  · exact .inl (.inr ⟨o, k.frz _ _ _ h⟩)
  · exact .inr h
theorem Keeps.stat {G : Fp} (k : Keeps H H' G) {a : Addr} {vs : List V} (h : Stat K H a vs) : Stat K H' a vs := by
  rcases h with ⟨o, h⟩ | h
  · exact .inl ⟨o, k.frz _ _ _ h⟩
  · exact .inr h
mutual
theorem Rep.keep : ∀ (d : D) (v : V) (G : Fp), Rep K H d v G → Keeps H H' G → Rep K H' d v G
  | .non, _, _, h, _ => by simpa only [Rep] using h
  | .bl b, _, _, h, _ => by simpa only [Rep] using h
  | .int i, _, _, h, _ => by simpa only [Rep] using h
  | .str s, _, _, h, _ => by simpa only [Rep] using h
  | .ref a, _, _, h, _ => by simpa only [Rep] using h
  | .tup ds, v, G, h, k => by
    simp only [Rep] at h ⊢
    obtain ⟨a, vs, e, s, r⟩ := h
    exact ⟨a, vs, e, k.sqT s, RepL.keep ds vs G r k⟩
  | .lst ds, v, G, h, k => by
    simp only [Rep] at h ⊢
    obtain ⟨a, vs, G', e, rfl, s, r⟩ := h
    exact ⟨a, vs, G', e, rfl, k.at_ a List.mem_cons_self _ s, RepL.keep ds vs G' r k.t⟩
  | .scr ds, v, G, h, k => by
    simp only [Rep] at h ⊢
    obtain ⟨a, vs, e, s, r⟩ := h
    exact ⟨a, vs, e, k.stat s, RepL.keep ds vs G r k⟩
  | .dic kvs, v, G, h, k => by
    simp only [Rep] at h ⊢
    obtain ⟨a, G', e, rfl, h⟩ := h
    refine ⟨a, G', e, rfl, ?_⟩
    rcases h with ⟨kv, s, r⟩ | ⟨kv, s, r⟩
    · exact .inl ⟨kv, k.at_ a List.mem_cons_self _ s, RepK.keep kvs kv G' r k.t⟩
    · exact .inr ⟨kv, k.at_ a List.mem_cons_self _ s, RepT.keep kvs kv G' r k.t⟩
theorem RepL.keep : ∀ (ds : List D) (vs : List V) (G : Fp), RepL K H ds vs G → Keeps H H' G → RepL K H' ds vs G
  | [], _, _, h, _ => by simpa only [RepL] using h
  | d :: ds, vs, G, h, k => by
    simp only [RepL] at h ⊢
    obtain ⟨v, r, G1, G2, e, rfl, h1, h2⟩ := h
    exact ⟨v, r, G1, G2, e, rfl, Rep.keep d v G1 h1 k.l, RepL.keep ds r G2 h2 k.r⟩
theorem RepK.keep : ∀ (ds : List (D × D)) (kv : List (Key × V)) (G : Fp), RepK K H ds kv G → Keeps H H' G → RepK K H' ds kv G
  | [], _, _, h, _ => by simpa only [RepK] using h
  | (q, d) :: ds, kv, G, h, k => by
    simp only [RepK] at h ⊢
    obtain ⟨q', v, r, G1, G2, e, rfl, e2, h1, h2⟩ := h
    exact ⟨q', v, r, G1, G2, e, rfl, e2, Rep.keep d v G1 h1 k.l, RepK.keep ds r G2 h2 k.r⟩
theorem RepT.keep : ∀ (ds : List (D × D)) (kv : List (List Key × V)) (G : Fp), RepT K H ds kv G → Keeps H H' G → RepT K H' ds kv G
  | [], _, _, h, _ => by simpa only [RepT] using h
  | (q, d) :: ds, kv, G, h, k => by
    simp only [RepT] at h ⊢
    obtain ⟨q', v, r, G1, G2, e, rfl, e2, h1, h2⟩ := h
    exact ⟨q', v, r, G1, G2, e, rfl, e2, Rep.keep d v G1 h1 k.l, RepT.keep ds r G2 h2 k.r⟩
end
mutual
theorem Rep.isM : ∀ (d : D) (v : V) (G : Fp), Rep K H d v G → ∀ a ∈ G, IsM (H a)
  | .non, _, _, h, a, ha => by simp only [Rep] at h; rw [h.2] at ha; cases ha
  | .bl b, _, _, h, a, ha => by simp only [Rep] at h; rw [h.2] at ha; cases ha
  | .int i, _, _, h, a, ha => by simp only [Rep] at h; rw [h.2] at ha; cases ha
  | .str s, _, _, h, a, ha => by simp only [Rep] at h; rw [h.2] at ha; cases ha
  | .ref b, _, _, h, a, ha => by simp only [Rep] at h; rw [h.2] at ha; cases ha
  | .tup ds, v, G, h, a, ha => by
    simp only [Rep] at h
    obtain ⟨b, vs, e, s, r⟩ := h
    exact RepL.isM ds vs G r a ha
  | .lst ds, v, G, h, a, ha => by
    simp only [Rep] at h
    obtain ⟨b, vs, G', e, rfl, s, r⟩ := h
    rcases List.mem_cons.mp ha with q | q
    · rw [q, s]; exact True.intro
    · exact RepL.isM ds vs G' r a q
  | .scr ds, v, G, h, a, ha => by
    simp only [Rep] at h
    obtain ⟨b, vs, e, s, r⟩ := h
    exact RepL.isM ds vs G r a ha
  | .dic kvs, v, G, h, a, ha => by
    simp only [Rep] at h
    obtain ⟨b, G', e, rfl, h⟩ := h
    rcases h with ⟨kv, s, r⟩ | ⟨kv, s, r⟩
    · rcases List.mem_cons.mp ha with q | q
      · rw [q, s]; exact True.intro
      · exact RepK.isM kvs kv G' r a q
    · rcases List.mem_cons.mp ha with q | q
      · rw [q, s]; exact True.intro
      · exact RepT.isM kvs kv G' r a q
theorem RepL.isM : ∀ (ds : List D) (vs : List V) (G : Fp), RepL K H ds vs G → ∀ a ∈ G, IsM (H a)
  | [], _, _, h, a, ha => by simp only [RepL] at h; rw [h.2] at ha; cases ha
  | d :: ds, vs, G, h, a, ha => by
    simp only [RepL] at h
    obtain ⟨v, r, G1, G2, e, rfl, h1, h2⟩ := h
    rcases List.mem_append.mp ha with q | q
    · exact Rep.isM d v G1 h1 a q
    · exact RepL.isM ds r G2 h2 a q
theorem RepK.isM : ∀ (ds : List (D × D)) (kv : List (Key × V)) (G : Fp), RepK K H ds kv G → ∀ a ∈ G, IsM (H a)
  | [], _, _, h, a, ha => by simp only [RepK] at h; rw [h.2] at ha; cases ha
  | (q, d) :: ds, kv, G, h, a, ha => by
    simp only [RepK] at h
    obtain ⟨q', v, r, G1, G2, e, rfl, e2, h1, h2⟩ := h
    rcases List.mem_append.mp ha with q | q
    · exact Rep.isM d v G1 h1 a q
    · exact RepK.isM ds r G2 h2 a q
theorem RepT.isM : ∀ (ds : List (D × D)) (kv : List (List Key × V)) (G : Fp), RepT K H ds kv G → ∀ a ∈ G, IsM (H a)
  | [], _, _, h, a, ha => by simp only [RepT] at h; rw [h.2] at ha; cases ha
  | (q, d) :: ds, kv, G, h, a, ha => by
    simp only [RepT] at h
    obtain ⟨q', v, r, G1, G2, e, rfl, e2, h1, h2⟩ := h
    rcases List.mem_append.mp ha with q | q
    · exact Rep.isM d v G1 h1 a q
    · exact RepT.isM ds r G2 h2 a q
end
theorem RepL.nil : RepL K H [] [] [] := by simp [RepL]
theorem RepL.cons {d : D} {v : V} {G1 G2 : Fp} {ds : List D} {vs : List V} (h : Rep K H d v G1) (r : RepL K H ds vs G2) : RepL K H (d :: ds) (v :: vs) (G1 ++ G2) := by
  simp only [RepL]; exact ⟨v, vs, G1, G2, rfl, rfl, h, r⟩
theorem RepL.length : ∀ {ds : List D} {vs : List V} {G : Fp}, RepL K H ds vs G → vs.length = ds.length
  | [], _, _, h => by simp only [RepL] at h; rw [h.1]; rfl
  | d :: ds, _, _, h => by
    simp only [RepL] at h
    obtain ⟨v, r, G1, G2, rfl, rfl, h1, h2⟩ := h
    simp [RepL.length h2]
theorem RepL.append : ∀ {ds es : List D} {vs us : List V} {G1 G2 : Fp}, RepL K H ds vs G1 → RepL K H es us G2 → RepL K H (ds ++ es) (vs ++ us) (G1 ++ G2)
  | [], _, _, _, _, _, h, h' => by simp only [RepL] at h; rw [h.1, h.2]; exact h'
  | d :: ds, _, _, _, _, _, h, h' => by
    simp only [RepL] at h
    obtain ⟨v, r, G1, G2, rfl, rfl, h1, h2⟩ := h
    rw [List.append_assoc]
    exact RepL.cons h1 (RepL.append h2 h')
theorem RepL.get : ∀ {ds : List D} {vs : List V} {G : Fp} {i : Nat} {d : D}, RepL K H ds vs G → ds[i]? = some d → ∃ v G', vs[i]? = some v ∧ Rep K H d v G' ∧ ∀ a ∈ G', a ∈ G
  | [], _, _, _, _, _, e => by simp at e
  | d :: ds, _, _, 0, d', h, e => by
    simp only [RepL] at h
    obtain ⟨v, r, G1, G2, rfl, rfl, h1, h2⟩ := h
    simp at e; subst e
    exact ⟨v, G1, rfl, h1, fun a ha => List.mem_append_left _ ha⟩
  | d :: ds, _, _, i + 1, d', h, e => by
    simp only [RepL] at h
    obtain ⟨v, r, G1, G2, rfl, rfl, h1, h2⟩ := h
    obtain ⟨w, G', e1, e2, e3⟩ := RepL.get (i := i) h2 (by simpa using e)
    exact ⟨w, G', by simpa using e1, e2, fun a ha => List.mem_append_right _ (e3 a ha)⟩
end
end Mw

namespace Mw
open PySem PySem.Spec L2
open PyProof.Rows hiding St

/-! ### runs over plain data -/
abbrev Env := List (Option D)
inductive R (α : Type) where
  | ok (a : α) (ρ : Env) | err (c : Str) (ρ : Env) | stuck
abbrev M (α : Type) := Env → R α
def M.bind {α β : Type} (x : M α) (f : α → M β) : M β := fun ρ => match x ρ with
  | .ok a ρ' => f a ρ'
  | .err c ρ' => .err c ρ'
  | .stuck => .stuck
def M.pur {α : Type} (a : α) : M α := fun ρ => .ok a ρ
def M.opt {α : Type} : Option α → M α
  | some a => fun ρ => .ok a ρ
  | none => fun _ => .stuck

inductive Mode where
  | own | brw | fix (v : V)
structure Cfg where
  T : List (Addr × Str)
  md : Nat → Mode
  W : WX
  ex : Str → Value

structure Sim (K : PySem.W.Frag) (c : Cfg) (Z : Hp) (ρ : Env) (σ : St) (H : Hp) (F : Nat → Fp) : Prop where
  zs : Same Z H
  zt : ∀ a ps, Z a ≠ some (.tbl ps)
  tab : LamX.Tabs c.T H
  len : ρ.length = σ.length
  brw : ∀ i d, c.md i = .brw → ρ[i]? = some (some d) → ∃ v G, σ[i]? = some (some v) ∧ Rep K H d v G ∧ ∀ a ∈ G, Z a ≠ none
  own : ∀ i d, c.md i ≠ .brw → ρ[i]? = some (some d) → ∃ v, σ[i]? = some (some v) ∧ Rep K H d v (F i)
  fix : ∀ i v, c.md i = .fix v → σ[i]? = some (some v)
  nd : ∀ i, (F i).Nodup
  dj : ∀ i j, i ≠ j → ∀ a ∈ F i, a ∉ F j
  fz : ∀ i, ∀ a ∈ F i, Z a = none
  mu : ∀ i, ∀ a ∈ F i, IsM (H a)

structure Step (ws : List Nat) (H : Hp) (F : Nat → Fp) (H' : Hp) (F' : Nat → Fp) : Prop where
  keep : ∀ a o, H a = some o → (∀ ps, o ≠ .tbl ps) → (∀ i ∈ ws, a ∉ F i) → H' a = some o
  dom : ∀ a, H a ≠ none → H' a ≠ none
  tb : ∀ a ps, H a = some (.tbl ps) → ∃ qs, H' a = some (.tbl qs)
  same : ∀ j, j ∉ ws → F' j = F j
  wr : ∀ j ∈ ws, ∀ a ∈ F' j, H a = none ∨ ∃ i ∈ ws, a ∈ F i

structure Own (ws rs : List Nat) (fr : Bool) (Z H : Hp) (F F' : Nat → Fp) (G : Fp) : Prop where
  fr : fr = true → G.Nodup ∧ ∀ a ∈ G, (H a = none ∨ ∃ i ∈ ws, a ∈ F i) ∧ ∀ j, a ∉ F' j
  rd : ∀ a ∈ G, ((H a = none ∨ ∃ i ∈ ws, a ∈ F i) ∧ ∀ j, a ∉ F' j) ∨ Z a ≠ none ∨ ∃ j ∈ rs, a ∈ F' j

theorem IsM.ntbl {o : HO} (h : IsM (some o)) : ∀ ps, o ≠ .tbl ps := by intro ps e; subst e; exact h
theorem IsM.ntup {o : HO} (h : IsM (some o)) : ∀ ps, o ≠ .tup ps := by intro ps e; subst e; exact h
theorem IsM.nfrz {o : HO} (h : IsM (some o)) : ∀ b u, o ≠ .frz b u := by intro ps u e; subst e; exact h
theorem IsM.some {o : Option HO} (h : IsM o) : ∃ x, o = some x := by
  cases o with
  | none => exact h.elim
  | some x => exact ⟨x, rfl⟩
theorem IsM.ne {o : Option HO} (h : IsM o) : o ≠ none := by
  intro e
  rw [e] at h
  exact h
theorem hp_some {H : Hp} {a : Addr} (h : H a ≠ none) : ∃ o, H a = some o := by
  cases q : H a with
  | none => exact (h q).elim
  | some x => exact ⟨x, rfl⟩

section
variable {K : PySem.W.Frag} {c : Cfg} {Z H H1 H2 : Hp} {F F1 F2 : Nat → Fp} {ρ ρ1 : Env} {σ σ1 : St} {w1 w2 ws rs : List Nat} {fr : Bool} {G : Fp}

theorem Step.refl : Step [] H F H F := ⟨fun _ _ h _ _ => h, fun _ h => h, fun a ps h => ⟨ps, h⟩, fun _ _ => rfl, fun _ h => nomatch h⟩
theorem Same.dom (s : Same H H1) {a : Addr} (h : H a ≠ none) : H1 a ≠ none := by
  obtain ⟨o, e⟩ := hp_some h
  rw [s a o e]
  exact fun z => nomatch z
theorem Step.of (s : Same H H1) : Step [] H F H1 F := ⟨fun a o h _ _ => s a o h, fun a h => Same.dom s h, fun a ps h => ⟨ps, s a _ h⟩, fun _ _ => rfl, fun _ h => nomatch h⟩
theorem Step.trans (a : Step w1 H F H1 F1) (b : Step w2 H1 F1 H2 F2) : Step (w1 ++ w2) H F H2 F2 where
  keep := fun x o h n q => by
    refine b.keep x o (a.keep x o h n fun i hi => q i (List.mem_append_left _ hi)) n fun i hi z => ?_
    by_cases hw : i ∈ w1
    · rcases a.wr i hw x z with e | ⟨j, hj, e⟩
      · rw [h] at e; cases e
      · exact q j (List.mem_append_left _ hj) e
    · rw [a.same i hw] at z
      exact q i (List.mem_append_right _ hi) z
  dom := fun x h => b.dom x (a.dom x h)
  tb := fun x ps h => by
    obtain ⟨qs, e⟩ := a.tb x ps h
    exact b.tb x qs e
  same := fun j hj => by
    rw [b.same j fun z => hj (List.mem_append_right _ z), a.same j fun z => hj (List.mem_append_left _ z)]
  wr := fun j hj x hx => by
    have one : ∀ i ∈ w1 ++ w2, x ∈ F1 i → H x = none ∨ ∃ i ∈ w1 ++ w2, x ∈ F i := fun i hi q => by
      by_cases hw : i ∈ w1
      · rcases a.wr i hw x q with e | ⟨k, hk, e⟩
        · exact .inl e
        · exact .inr ⟨k, List.mem_append_left _ hk, e⟩
      · rw [a.same i hw] at q
        exact .inr ⟨i, hi, q⟩
    by_cases hw : j ∈ w2
    · rcases b.wr j hw x hx with e | ⟨i, hi, e⟩
      · left
        cases q : H x with
        | none => rfl
        | some o => exact absurd e (a.dom x (by rw [q]; exact fun z => nomatch z))
      · exact one i (List.mem_append_right _ hi) e
    · rw [b.same j hw] at hx
      exact one j hj hx
theorem Step.mono (a : Step w1 H F H1 F1) (h : ∀ i ∈ w1, i ∈ ws) : Step ws H F H1 F1 where
  keep := fun x o e n q => a.keep x o e n fun i hi => q i (h i hi)
  dom := a.dom
  tb := a.tb
  same := fun j hj => a.same j fun z => hj (h j z)
  wr := fun j hj x hx => by
    by_cases hw : j ∈ w1
    · rcases a.wr j hw x hx with e | ⟨i, hi, e⟩
      · exact .inl e
      · exact .inr ⟨i, h i hi, e⟩
    · rw [a.same j hw] at hx
      exact .inr ⟨j, hj, hx⟩
theorem Step.nev (a : Step w1 H F H1 F1) {x : Addr} (e : H1 x = none) : H x = none := by
  cases q : H x with
  | none => rfl
  | some o => exact absurd e (a.dom x (by rw [q]; exact fun z => nomatch z))

theorem Sim.same (S : Sim K c Z ρ σ H F) (e : Same H H1) : Sim K c Z ρ σ H1 F := by
  have kp : ∀ G, Keeps H H1 G := fun G => ⟨fun a _ o h => e a o h, fun a xs h => e a _ h, fun a o u h => e a _ h⟩
  refine ⟨S.zs.trans e, S.zt, S.tab.ext e, S.len, fun i d m q => ?_, fun i d m q => ?_, S.fix, S.nd, S.dj, S.fz, fun i a ha => ?_⟩
  · obtain ⟨v, G, h1, h2, h3⟩ := S.brw i d m q
    exact ⟨v, G, h1, Rep.keep _ _ _ h2 (kp G), h3⟩
  · obtain ⟨v, h1, h2⟩ := S.own i d m q
    exact ⟨v, h1, Rep.keep _ _ _ h2 (kp _)⟩
  · obtain ⟨o, q⟩ := (S.mu i a ha).some
    have z := S.mu i a ha
    rw [q] at z
    rw [e a o q]; exact z

/-- what stays behind a step -/
theorem Sim.keeps (S : Sim K c Z ρ σ H F) (st : Step ws H F H1 F1) (h : ∀ a ∈ G, IsM (H a) ∧ ∀ i ∈ ws, a ∉ F i) : Keeps H H1 G := by
  refine ⟨fun a ha o e => ?_, fun a xs e => ?_, fun a o u e => ?_⟩
  · obtain ⟨m, n⟩ := h a ha
    rw [e] at m
    exact st.keep a o e m.ntbl n
  · refine st.keep a _ e (fun ps z => nomatch z) fun i _ q => ?_
    have m := S.mu i a q
    rw [e] at m
    exact m
  · refine st.keep a _ e (fun ps z => nomatch z) fun i _ q => ?_
    have m := S.mu i a q
    rw [e] at m
    exact m

theorem Own.out {F' : Nat → Fp} {H' : Hp} (O : Own w1 rs fr Z H F F1 G) (S : Sim K c Z ρ σ H1 F1) (dis : ∀ j ∈ rs, j ∉ ws) : ∀ a ∈ G, ∀ i ∈ ws, a ∉ F1 i := fun a ha i hi q => by
  rcases O.rd a ha with ⟨_, n⟩ | z | ⟨j, hj, e⟩
  · exact n i q
  · exact z (S.fz i a q)
  · have ne : i ≠ j := fun z => dis j hj (z ▸ hi)
    exact S.dj i j ne a q e
theorem Own.carry (O : Own w1 rs fr Z H F F1 G) (S : Sim K c Z ρ σ H1 F1) (m : ∀ a ∈ G, IsM (H1 a)) (st : Step ws H1 F1 H2 F2) (dis : ∀ j ∈ rs, j ∉ ws) : Own w1 rs fr Z H F F2 G := by
  have out := O.out (F' := F1) (H' := H1) S dis
  have new : ∀ a ∈ G, (∀ j, a ∉ F1 j) → ∀ j, a ∉ F2 j := fun a ha n j q => by
    by_cases hj : j ∈ ws
    · rcases st.wr j hj a q with e | ⟨i, _, e⟩
      · have z := m a ha
        rw [e] at z; exact z
      · exact n i e
    · rw [st.same j hj] at q
      exact n j q
  refine ⟨fun h => ⟨(O.fr h).1, fun a ha => ⟨((O.fr h).2 a ha).1, new a ha ((O.fr h).2 a ha).2⟩⟩, fun a ha => ?_⟩
  rcases O.rd a ha with ⟨h1, n⟩ | z | ⟨j, hj, e⟩
  · exact .inl ⟨h1, new a ha n⟩
  · exact .inr (.inl z)
  · exact .inr (.inr ⟨j, hj, by rw [st.same j (dis j hj)]; exact e⟩)
/-- told from an earlier state -/
theorem Own.shift {F' : Nat → Fp} (O : Own w2 rs fr Z H1 F1 F' G) (st : Step w1 H F H1 F1) (h1 : ∀ i ∈ w1, i ∈ ws) (h2 : ∀ i ∈ w2, i ∈ ws) : Own ws rs fr Z H F F' G := by
  have one : ∀ a, (H1 a = none ∨ ∃ i ∈ w2, a ∈ F1 i) → (H a = none ∨ ∃ i ∈ ws, a ∈ F i) := fun a h => by
    rcases h with e | ⟨i, hi, e⟩
    · exact .inl (st.nev e)
    · by_cases hw : i ∈ w1
      · rcases st.wr i hw a e with z | ⟨j, hj, z⟩
        · exact .inl z
        · exact .inr ⟨j, h1 j hj, z⟩
      · rw [st.same i hw] at e
        exact .inr ⟨i, h2 i hi, e⟩
  refine ⟨fun h => ⟨(O.fr h).1, fun a ha => ⟨one a ((O.fr h).2 a ha).1, ((O.fr h).2 a ha).2⟩⟩, fun a ha => ?_⟩
  rcases O.rd a ha with ⟨h1, n⟩ | z
  · exact .inl ⟨one a h1, n⟩
  · exact .inr z
theorem Own.nil {F' : Nat → Fp} : Own ws rs fr Z H F F' [] := ⟨fun _ => ⟨List.Pairwise.nil, fun _ h => nomatch h⟩, fun _ h => nomatch h⟩
/-- a part of it -/
theorem Own.sub {F' : Nat → Fp} {G' : Fp} (O : Own ws rs fr Z H F F' G) (h : G'.Sublist G) : Own ws rs fr Z H F F' G' :=
  ⟨fun e => ⟨(O.fr e).1.sublist h, fun a ha => (O.fr e).2 a (h.subset ha)⟩, fun a ha => O.rd a (h.subset ha)⟩
theorem Own.wk {F' : Nat → Fp} {rs' : List Nat} (O : Own ws rs fr Z H F F' G) (h : ∀ j ∈ rs, j ∈ rs') : Own ws rs' false Z H F F' G := by
  refine ⟨fun e => (nomatch e), fun a ha => ?_⟩
  rcases O.rd a ha with z | z | ⟨j, hj, e⟩
  · exact .inl z
  · exact .inr (.inl z)
  · exact .inr (.inr ⟨j, h j hj, e⟩)
theorem Own.wsm {F' : Nat → Fp} (O : Own w1 rs fr Z H F F' G) (h : ∀ j ∈ w1, j ∈ ws) : Own ws rs fr Z H F F' G := O.shift (w1 := []) Step.refl (fun _ h => nomatch h) h
end

/-! ### the readings -/
section
variable {α β : Type} (rep : Hp → α → β → Fp → Prop) (K : PySem.W.Frag) (c : Cfg)
def Post (ws rs : List Nat) (fr : Bool) (Z : Hp) (σ : St) (H : Hp) (F : Nat → Fp) (Q : β → Hp → Prop) : R α → Prop
  | .ok d ρ' => ∀ v H' F' G, Step ws H F H' F' → Sim K c Z ρ' σ H' F' → rep H' d v G → Own ws rs fr Z H F F' G → Q v H'
  | .err e ρ' => ∀ H' F', Step ws H F H' F' → Sim K c Z ρ' σ H' F' → c.W (c.ex e) none σ H'
  | .stuck => False
def tG (ws rs : List Nat) (fr : Bool) (f : M α) : St → Hp → (β → Hp → Prop) → Prop := fun σ H Q => ∃ Z ρ F, Sim K c Z ρ σ H F ∧ Post rep K c ws rs fr Z σ H F Q (f ρ)
end
def repB : Hp → Bool → Bool → Fp → Prop := fun _ b b' G => b = b' ∧ G = []
abbrev PEv (X : Cx) (c : Cfg) (e : Expr) (ws rs : List Nat) (fr : Bool) (f : M D) : Prop := PE X e (tG (Rep X.K) X.K c ws rs fr f)
abbrev PAv (X : Cx) (c : Cfg) (es : List Expr) (ws rs : List Nat) (fr : Bool) (f : M (List D)) : Prop := PA X es (tG (RepL X.K) X.K c ws rs fr f)
abbrev PTv (X : Cx) (c : Cfg) (e : Expr) (ws : List Nat) (f : M Bool) : Prop := PT X e (tG repB X.K c ws [] true f)
abbrev PWv (X : Cx) (c : Cfg) (e : Expr) (ws : List Nat) (f : M Bool) : Prop := PW X e (tG repB X.K c ws [] true f)

theorem PE.imp {X : Cx} {e : Expr} {t t' : TE} (h : PE X e t) (w : ∀ σ H Q, t' σ H Q → t σ H Q) : PE X e t' := ⟨fun pins s σ H Q I q => h.run pins s σ H Q I (w σ H Q q)⟩
theorem PT.imp {X : Cx} {e : Expr} {t t' : TT} (h : PT X e t) (w : ∀ σ H Q, t' σ H Q → t σ H Q) : PT X e t' := ⟨fun pins s σ H Q I q => h.run pins s σ H Q I (w σ H Q q)⟩
theorem PW.imp {X : Cx} {e : Expr} {t t' : TT} (h : PW X e t) (w : ∀ σ H Q, t' σ H Q → t σ H Q) : PW X e t' := ⟨fun wh pins s σ H Q I q => h.run wh pins s σ H Q I (w σ H Q q)⟩
theorem PA.imp {X : Cx} {e : List Expr} {t t' : TA} (h : PA X e t) (w : ∀ σ H Q, t' σ H Q → t σ H Q) : PA X e t' := ⟨fun pos pins s σ H Q I q => h.run pos pins s σ H Q I (w σ H Q q)⟩
theorem PS.imp {X : Cx} {e : Stmt} {t t' : TS} (h : PS X e t) (w : ∀ D σ H, t' D σ H → t D σ H) : PS X e t' := ⟨fun pins s σ H D I q => h.run pins s σ H D I (w D σ H q)⟩
theorem PSs.imp {X : Cx} {e : List Stmt} {t t' : TS} (h : PSs X e t) (w : ∀ D σ H, t' D σ H → t D σ H) : PSs X e t' := ⟨fun pins s σ H D I q => h.run pins s σ H D I (w D σ H q)⟩

section
variable {α β γ δ : Type} {rep1 : Hp → α → β → Fp → Prop} {repC : Hp → γ → δ → Fp → Prop} {K : PySem.W.Frag} {c : Cfg} {Z H H1 : Hp} {F F1 : Nat → Fp} {ρ : Env} {σ : St} {ws w1 w2 rs r1 : List Nat} {fr b1 : Bool}
theorem Post.shift {Q : δ → Hp → Prop} : ∀ {r : R γ}, Post repC K c ws rs fr Z σ H F Q r → Step w1 H F H1 F1 → (∀ i ∈ w1, i ∈ ws) → (∀ i ∈ w2, i ∈ ws) → Post repC K c w2 rs fr Z σ H1 F1 Q r
  | .ok d ρ', p, st, h1, h2 => fun v H' F' G s' S r O => p v H' F' G ((st.trans s').mono fun i hi => (List.mem_append.mp hi).elim (h1 i) (h2 i)) S r (O.shift st h1 h2)
  | .err e ρ', p, st, h1, h2 => fun H' F' s' S => p H' F' ((st.trans s').mono fun i hi => (List.mem_append.mp hi).elim (h1 i) (h2 i)) S
  | .stuck, p, _, _, _ => p
/-- first one run, then what hangs on its value -/
theorem tG_bind {Q : δ → Hp → Prop} {N : β → Hp → Prop} (S : Sim K c Z ρ σ H F) (f : M α) (k : α → M γ) (p : Post repC K c ws rs fr Z σ H F Q (M.bind f k ρ)) (h1 : ∀ i ∈ w1, i ∈ ws) (h2 : ∀ i ∈ w2, i ∈ ws)
    (h : ∀ d ρ1 v1 H1 F1 G1, Step w1 H F H1 F1 → Sim K c Z ρ1 σ H1 F1 → rep1 H1 d v1 G1 → Own w1 r1 b1 Z H F F1 G1 → Post repC K c w2 rs fr Z σ H1 F1 Q (k d ρ1) → N v1 H1) : tG rep1 K c w1 r1 b1 f σ H N := by
  refine ⟨Z, ρ, F, S, ?_⟩
  unfold M.bind at p
  cases e : f ρ with
  | ok d ρ1 =>
    rw [e] at p
    exact fun v H' F' G st S' r O => h d ρ1 v H' F' G st S' r O (Post.shift p st h1 h2)
  | err x ρ1 =>
    rw [e] at p
    exact fun H' F' st S' => p H' F' (st.mono h1) S'
  | stuck =>
    rw [e] at p
    exact p.elim
/-- the last step: what is given stands, nothing changed but new objects -/
theorem Post.fin {rep : Hp → α → β → Fp → Prop} {Q : β → Hp → Prop} {d : α} {v : β} {H' : Hp} {G : Fp} (S : Sim K c Z ρ σ H F) (p : Post rep K c ws rs fr Z σ H F Q (.ok d ρ)) (e : Same H H') (r : rep H' d v G) (n : G.Nodup) (new : ∀ a ∈ G, H a = none) : Q v H' := by
  have nF : ∀ a ∈ G, ∀ j, a ∉ F j := fun a ha j q => by
    have m := S.mu j a q
    rw [new a ha] at m; exact m
  exact p v H' F G ((Step.of e).mono fun _ h => nomatch h) (S.same e) r ⟨fun _ => ⟨n, fun a ha => ⟨.inl (new a ha), nF a ha⟩⟩, fun a ha => .inl ⟨.inl (new a ha), nF a ha⟩⟩
end
end Mw

namespace Mw
open PySem PySem.Spec L2
open PyProof.Rows hiding St

mutual
/-- nothing in it can change -/
def D.imm : D → Bool
  | .tup ds => D.imms ds
  | .lst _ => false
  | .dic _ => false
  | .scr ds => D.imms ds
  | _ => true
def D.imms : List D → Bool
  | [] => true
  | d :: r => D.imm d && D.imms r
end
section
variable {K : PySem.W.Frag} {H : Hp}
mutual
theorem Rep.imm : ∀ (d : D) (v : V) (G : Fp), Rep K H d v G → d.imm = true → G = []
  | .non, _, _, h, _ => by simp only [Rep] at h; exact h.2
  | .bl b, _, _, h, _ => by simp only [Rep] at h; exact h.2
  | .int i, _, _, h, _ => by simp only [Rep] at h; exact h.2
  | .str s, _, _, h, _ => by simp only [Rep] at h; exact h.2
  | .ref a, _, _, h, _ => by simp only [Rep] at h; exact h.2
  | .tup ds, v, G, h, e => by
    simp only [Rep] at h
    obtain ⟨a, vs, _, _, r⟩ := h
    exact RepL.imm ds vs G r (by simpa only [D.imm] using e)
  | .lst ds, _, _, _, e => by simp [D.imm] at e
  | .scr ds, v, G, h, e => by
    simp only [Rep] at h
    obtain ⟨a, vs, _, _, r⟩ := h
    exact RepL.imm ds vs G r (by simpa only [D.imm] using e)
  | .dic kvs, _, _, _, e => by simp [D.imm] at e
theorem RepL.imm : ∀ (ds : List D) (vs : List V) (G : Fp), RepL K H ds vs G → D.imms ds = true → G = []
  | [], _, _, h, _ => by simp only [RepL] at h; exact h.2
  | d :: ds, vs, G, h, e => by
    simp only [RepL] at h
    obtain ⟨v, r, G1, G2, _, rfl, h1, h2⟩ := h
    simp only [D.imms, Bool.and_eq_true] at e
    rw [Rep.imm d v G1 h1 e.1, RepL.imm ds r G2 h2 e.2]; rfl
end
end
theorem D.imms_all : ∀ {ds : List D}, D.imms ds = true ↔ ∀ d ∈ ds, d.imm = true
  | [] => by simp [D.imms]
  | d :: r => by simp [D.imms, D.imms_all (ds := r)]

/-! ### more of the plumbing -/
section
variable {α β γ δ : Type} {repA : Hp → α → β → Fp → Prop} {repC : Hp → γ → δ → Fp → Prop} {K : PySem.W.Frag} {c : Cfg} {Z H : Hp} {F F' : Nat → Fp} {ρ : Env} {σ : St} {ws wa wb w' rs ra rb rs' : List Nat} {fr ba bb fr' : Bool} {G : Fp}
theorem Own.imp (O : Own ws rs fr Z H F F' G) (hf : fr' = true → fr = true) (hr : ∀ j ∈ rs, j ∈ rs') : Own ws rs' fr' Z H F F' G := by
  refine ⟨fun e => O.fr (hf e), fun a ha => ?_⟩
  rcases O.rd a ha with z | z | ⟨j, hj, e⟩
  · exact .inl z
  · exact .inr (.inl z)
  · exact .inr (.inr ⟨j, hr j hj, e⟩)
theorem Post.imp {Q : β → Hp → Prop} : ∀ {r : R α}, Post repA K c w' rs' fr' Z σ H F Q r → (∀ i ∈ ws, i ∈ w') → (fr' = true → fr = true) → (∀ j ∈ rs, j ∈ rs') → Post repA K c ws rs fr Z σ H F Q r
  | .ok d ρ', p, hw, hf, hr => fun v H' F' G st S r O => p v H' F' G (st.mono hw) S r ((O.imp hf hr).wsm hw)
  | .err e ρ', p, hw, _, _ => fun H' F' st S => p H' F' (st.mono hw) S
  | .stuck, p, _, _, _ => p
/-- a coarser reading -/
theorem tG_wk (f : M α) {Q : β → Hp → Prop} (h : tG repA K c w' rs' fr' f σ H Q) (hw : ∀ i ∈ ws, i ∈ w') (hf : fr' = true → fr = true) (hr : ∀ j ∈ rs, j ∈ rs') : tG repA K c ws rs fr f σ H Q := by
  obtain ⟨Z, ρ, F, S, p⟩ := h
  exact ⟨Z, ρ, F, S, p.imp hw hf hr⟩
theorem tG_mono (f : M α) {Q Q' : β → Hp → Prop} (h : tG repA K c ws rs fr f σ H Q) (q : ∀ v H', Q v H' → Q' v H') : tG repA K c ws rs fr f σ H Q' := by
  obtain ⟨Z, ρ, F, S, p⟩ := h
  refine ⟨Z, ρ, F, S, ?_⟩
  cases e : f ρ with
  | ok d ρ' => rw [e] at p; exact fun v H' F' G st S r O => q _ _ (p v H' F' G st S r O)
  | err x ρ' => rw [e] at p; exact p
  | stuck => rw [e] at p; exact p
/-- two runs, one behind the other; the first one's value stays -/
theorem tG_two {N : V → δ → Hp → Prop} {Q : β → Hp → Prop} (repOk : ∀ {H H' : Hp} {d : γ} {v : δ} {G : Fp}, repC H d v G → True) {f : M D} {g : M γ} {k : D → γ → M α} (S : Sim K c Z ρ σ H F)
    (p : Post repA K c ws rs fr Z σ H F Q (M.bind f (fun x => M.bind g (k x)) ρ)) (h1 : ∀ i ∈ wa, i ∈ ws) (h2 : ∀ i ∈ wb, i ∈ ws) (dis : ∀ j ∈ ra, j ∉ wb)
    (h : ∀ d1 d2 ρ2 v1 v2 H2 F2 G1 G2, Sim K c Z ρ2 σ H2 F2 → Rep K H2 d1 v1 G1 → repC H2 d2 v2 G2 → Own ws ra ba Z H F F2 G1 → Own ws rb bb Z H F F2 G2 → (∀ a ∈ G1, IsM (H2 a)) → Step ws H F H2 F2 →
      ((ba = true ∧ bb = true) → ∀ a ∈ G1, a ∉ G2) → Post repA K c [] rs fr Z σ H2 F2 Q (k d1 d2 ρ2) → Post repA K c ws rs fr Z σ H F Q (k d1 d2 ρ2) → N v1 v2 H2) :
    tG (Rep K) K c wa ra ba f σ H (fun v1 H1 => tG repC K c wb rb bb g σ H1 (fun v2 H2 => N v1 v2 H2)) := by
  refine ⟨Z, ρ, F, S, ?_⟩
  unfold M.bind at p
  cases e1 : f ρ with
  | stuck => rw [e1] at p; exact p.elim
  | err x ρ1 => rw [e1] at p; exact fun H' F' st S' => p H' F' (st.mono h1) S'
  | ok d1 ρ1 =>
    rw [e1] at p
    intro v1 H1 F1 G1 st1 S1 r1 O1
    refine ⟨Z, ρ1, F1, S1, ?_⟩
    have all : ∀ i ∈ wa ++ wb, i ∈ ws := fun i hi => (List.mem_append.mp hi).elim (h1 i) (h2 i)
    simp only [] at p
    cases e2 : g ρ1 with
    | stuck => rw [e2] at p; exact p.elim
    | err x ρ2 => rw [e2] at p; exact fun H' F' st S' => p H' F' ((st1.trans st).mono all) S'
    | ok d2 ρ2 =>
      rw [e2] at p
      intro v2 H2 F2 G2 st2 S2 r2 O2
      have m1 := Rep.isM d1 v1 G1 r1
      have st := (st1.trans st2).mono all
      have out := O1.out (F' := F1) (H' := H1) S1 dis
      have m2 : ∀ a ∈ G1, IsM (H2 a) := fun a ha => by
        obtain ⟨o, q⟩ := (m1 a ha).some
        have z := m1 a ha
        rw [q] at z
        rw [st2.keep a o q z.ntbl (out a ha)]
        exact z
      refine h d1 d2 ρ2 v1 v2 H2 F2 G1 G2 S2 (Rep.keep _ _ _ r1 (S1.keeps st2 fun a ha => ⟨m1 a ha, out a ha⟩)) r2 ((O1.carry S1 m1 st2 dis).wsm h1) (O2.shift st1 h1 h2) m2 st (fun hb a ha hq => ?_) (Post.shift p st (fun _ h => h) (fun _ h => nomatch h)) p
      rcases ((O2.fr hb.2).2 a hq).1 with z | ⟨i, hi, z⟩
      · have q := m1 a ha
        rw [z] at q; exact q
      · exact out a ha i hi z
end

def updF (F : Nat → Fp) (i : Nat) (G : Fp) : Nat → Fp := fun j => if j = i then G else F j
theorem updF_same {F : Nat → Fp} {i : Nat} {G : Fp} : updF F i G i = G := if_pos rfl
theorem updF_ne {F : Nat → Fp} {i j : Nat} {G : Fp} (h : j ≠ i) : updF F i G j = F j := if_neg h
theorem set_get {α : Type} {l : List α} {i j : Nat} {x y : α} (h : (l.set i x)[j]? = some y) : (j = i ∧ y = x) ∨ (j ≠ i ∧ l[j]? = some y) := by
  by_cases e : i = j
  · subst e
    rw [List.getElem?_set_self'] at h
    cases q : l[i]? with
    | none => rw [q] at h; cases h
    | some z => rw [q] at h; exact .inl ⟨rfl, (Option.some.inj h).symm⟩
  · rw [List.getElem?_set_ne e] at h
    exact .inr ⟨fun z => e z.symm, h⟩

section
variable {K : PySem.W.Frag} {c : Cfg} {Z H : Hp} {F : Nat → Fp} {ρ : Env} {σ : St} {i : Nat}
/-- slot i is told no longer -/
theorem Sim.drop (S : Sim K c Z ρ σ H F) : Sim K c Z (ρ.set i none) σ H (updF F i []) := by
  have sub : ∀ j, ∀ a ∈ updF F i [] j, a ∈ F j := fun j a h => by
    by_cases e : j = i
    · rw [e, updF_same] at h; cases h
    · rw [updF_ne e] at h; exact h
  refine ⟨S.zs, S.zt, S.tab, by rw [List.length_set]; exact S.len, fun j d m q => ?_, fun j d m q => ?_, S.fix, fun j => ?_, fun j k ne a ha hb => S.dj j k ne a (sub j a ha) (sub k a hb), fun j a ha => S.fz j a (sub j a ha), fun j a ha => S.mu j a (sub j a ha)⟩
  · rcases set_get q with ⟨_, z⟩ | ⟨_, z⟩
    · cases z
    · exact S.brw j d m z
  · rcases set_get q with ⟨_, z⟩ | ⟨ne, z⟩
    · cases z
    · rw [updF_ne ne]; exact S.own j d m z
  · by_cases e : j = i
    · rw [e, updF_same]; exact List.Pairwise.nil
    · rw [updF_ne e]; exact S.nd j
theorem Step.drop (n : i ∈ ([i] : List Nat)) : Step [i] H F H (updF F i []) :=
  ⟨fun _ _ h _ _ => h, fun _ h => h, fun a ps h => ⟨ps, h⟩, fun j hj => updF_ne (fun e => hj (by rw [e]; exact n)), fun j hj a ha => by
    have e : j = i := by simpa using hj
    rw [e, updF_same] at ha; cases ha⟩
end

/-! ### names -/
def eVar (i : Nat) : M D := fun ρ => match ρ[i]? with
  | some (some d) => .ok d ρ
  | _ => .stuck
/-- the name's value is handed on: what can change is the name's no longer -/
def eTake (i : Nat) : M D := fun ρ => match ρ[i]? with
  | some (some d) => if d.imm then .ok d ρ else .ok d (ρ.set i none)
  | _ => .stuck
def eChk (f : M D) : M D := M.bind f fun d => if d.imm then M.pur d else fun _ => .stuck
section
variable {X : Cx} {c : Cfg}
theorem v_var (i : Nat) {x : Str} {pos : Pos} (hN : X.N[i]? = some x := by rfl) (hv : Vis X.env.scope x := by first | exact Or.inl rfl | exact Or.inr (Or.inl rfl) | exact Or.inr (Or.inr rfl)) (hd : (x == ("__debug__" : Str)) = false := by decide)
    (hcd : (x == ("__classdict__" : Str)) = false := by decide) : PEv X c (.Name x pos) [] [i] false (eVar i) := by
  refine PE.imp (pe_var hN hv hd hcd) fun σ H Q h => ?_
  obtain ⟨Z, ρ, F, S, p⟩ := h
  unfold eVar at p
  split at p
  · rename_i d e
    by_cases m : c.md i = .brw
    · obtain ⟨v, G, h1, h2, h3⟩ := S.brw i d m e
      exact ⟨v, h1, p v H F G Step.refl S h2 ⟨fun z => (nomatch z), fun a ha => .inr (.inl (h3 a ha))⟩⟩
    · obtain ⟨v, h1, h2⟩ := S.own i d m e
      exact ⟨v, h1, p v H F (F i) Step.refl S h2 ⟨fun z => (nomatch z), fun a ha => .inr (.inr ⟨i, by simp, ha⟩)⟩⟩
  · exact p.elim
theorem v_take (i : Nat) {x : Str} {pos : Pos} (hm : c.md i = .own := by rfl) (hN : X.N[i]? = some x := by rfl) (hv : Vis X.env.scope x := by first | exact Or.inl rfl | exact Or.inr (Or.inl rfl) | exact Or.inr (Or.inr rfl)) (hd : (x == ("__debug__" : Str)) = false := by decide)
    (hcd : (x == ("__classdict__" : Str)) = false := by decide) : PEv X c (.Name x pos) [i] [] true (eTake i) := by
  refine PE.imp (pe_var hN hv hd hcd) fun σ H Q h => ?_
  obtain ⟨Z, ρ, F, S, p⟩ := h
  unfold eTake at p
  split at p
  · rename_i d e
    obtain ⟨v, h1, h2⟩ := S.own i d (by rw [hm]; exact fun z => nomatch z) e
    by_cases im : d.imm = true
    · rw [if_pos im] at p
      have g := Rep.imm d v _ h2 im
      rw [g] at h2
      exact ⟨v, h1, p v H F [] (Step.refl.mono fun _ z => nomatch z) S h2 Own.nil⟩
    · rw [if_neg im] at p
      refine ⟨v, h1, p v H _ (F i) (Step.drop (by simp)) S.drop h2 ?_⟩
      have out : ∀ a ∈ F i, ∀ j, a ∉ updF F i [] j := fun a ha j hj => by
        by_cases e : j = i
        · rw [e, updF_same] at hj; cases hj
        · rw [updF_ne e] at hj; exact S.dj j i e a hj ha
      exact ⟨fun _ => ⟨S.nd i, fun a ha => ⟨.inr ⟨i, by simp, ha⟩, out a ha⟩⟩, fun a ha => .inl ⟨.inr ⟨i, by simp, ha⟩, out a ha⟩⟩
  · exact p.elim
theorem v_chk {e : Expr} {ws rs : List Nat} {fr : Bool} {f : M D} (h : PEv X c e ws rs fr f) : PEv X c e ws [] true (eChk f) := by
  refine PE.imp h fun σ H Q q => ?_
  obtain ⟨Z, ρ, F, S, p⟩ := q
  refine ⟨Z, ρ, F, S, ?_⟩
  unfold eChk M.bind at p
  cases e : f ρ with
  | stuck => rw [e] at p; exact p.elim
  | err x ρ1 => rw [e] at p; exact p
  | ok d ρ1 =>
    rw [e] at p
    simp only [] at p
    intro v H' F' G st S' r O
    by_cases im : d.imm = true
    · rw [if_pos im] at p
      have g := Rep.imm d v _ r im
      rw [g] at r
      exact p v H' F' [] st S' r Own.nil
    · rw [if_neg im] at p
      exact p.elim
/-- constants -/
def eC (d : D) : M D := M.pur d
theorem v_c {e : Expr} {d : D} {v : V} (h : PE X e (tC v)) (r : ∀ H, Rep X.K H d v []) : PEv X c e [] [] true (eC d) := by
  refine PE.imp h fun σ H Q q => ?_
  obtain ⟨Z, ρ, F, S, p⟩ := q
  exact p v H F [] Step.refl S (r H) Own.nil
theorem v_int {i : Int} {j pos} : PEv X c (.Constant (.int i) j pos) [] [] true (eC (.int i)) := v_c pe_int fun H => by simp [Rep]
theorem v_bl {b : Bool} {j pos} : PEv X c (.Constant (.bool b) j pos) [] [] true (eC (.bl b)) := v_c pe_bl fun H => by simp [Rep]
theorem v_non {j pos} : PEv X c (.Constant .none j pos) [] [] true (eC .non) := v_c pe_non fun H => by simp [Rep]
theorem v_str {s : Str} {j pos} : PEv X c (.Constant (.str s) j pos) [] [] true (eC (.str s)) := v_c pe_str fun H => by simp [Rep]
theorem v_gint {x : Str} {i : Int} {t : Tok} {pos : Pos} (hg : Gl X x) (hm : X.mg x = some (.int i t)) (hd : (x == ("__debug__" : Str)) = false := by decide) : PEv X c (.Name x pos) [] [] true (eC (.int i)) :=
  v_c (pe_glob hg hm (v := .int i) ⟨t, rfl⟩ hd) fun H => by simp [Rep]
theorem v_gstr {x : Str} {i : Str} {t : Tok} {pos : Pos} (hg : Gl X x) (hm : X.mg x = some (.str i t)) (hd : (x == ("__debug__" : Str)) = false := by decide) : PEv X c (.Name x pos) [] [] true (eC (.str i)) :=
  v_c (pe_glob hg hm (v := .str i) ⟨t, rfl⟩ hd) fun H => by simp [Rep]
theorem v_gref {x : Str} {a : Addr} {pos : Pos} (hg : Gl X x) (hm : X.mg x = some (.ref a)) (hd : (x == ("__debug__" : Str)) = false := by decide) : PEv X c (.Name x pos) [] [] true (eC (.ref a)) :=
  v_c (pe_glob hg hm (v := .ref a) rfl hd) fun H => by simp [Rep]
end

/-! ### operations by values -/
/-- the answer is new, or cannot change -/
def rD (K : PySem.W.Frag) (g : D → D → Option D) : R2 := fun x y H Q => ∃ d e Gx Gy r, Rep K H d x Gx ∧ Rep K H e y Gy ∧ g d e = some r ∧ ∀ v H' G, Same H H' → Rep K H' r v G → G.Nodup → (∀ a ∈ G, H a = none) → Q v H'
def uD (K : PySem.W.Frag) (g : D → Option D) : V → Hp → VK → Prop := fun x H Q => ∃ d Gx r, Rep K H d x Gx ∧ g d = some r ∧ ∀ v H' G, Same H H' → Rep K H' r v G → G.Nodup → (∀ a ∈ G, H a = none) → Q v H'
def nD (K : PySem.W.Frag) (g : List D → Option D) : List V → Hp → VK → Prop := fun xs H Q => ∃ ds Gx r, RepL K H ds xs Gx ∧ g ds = some r ∧ ∀ v H' G, Same H H' → Rep K H' r v G → G.Nodup → (∀ a ∈ G, H a = none) → Q v H'
/-- the answer is a part of what is handed over -/
def rP (K : PySem.W.Frag) (g : D → D → Option D) : R2 := fun x y H Q => ∃ d e Gx Gy r, Rep K H d x Gx ∧ Rep K H e y Gy ∧ g d e = some r ∧ ∀ v H' G, Same H H' → Rep K H' r v G → G.Sublist Gx → Q v H'
def nP (K : PySem.W.Frag) (g : List D → Option D) : List V → Hp → VK → Prop := fun xs H Q => ∃ ds Gx r, RepL K H ds xs Gx ∧ g ds = some r ∧ ∀ v H' G, Same H H' → Rep K H' r v G → G.Sublist Gx → Q v H'
def eOp (g : D → D → Option D) (f f' : M D) : M D := M.bind f fun x => M.bind f' fun y => M.opt (g x y)
def eUn (g : D → Option D) (f : M D) : M D := M.bind f fun x => M.opt (g x)
def eN (g : List D → Option D) (f : M (List D)) : M D := M.bind f fun xs => M.opt (g xs)
section
variable {X : Cx} {c : Cfg} {a b : Expr} {pos : Pos} {wa wb ra rb : List Nat} {ba bb : Bool} {f f' : M D} {g : D → D → Option D} {u : D → Option D} {n : List D → Option D}
theorem Post.opt {rep : Hp → D → V → Fp → Prop} {K : PySem.W.Frag} {Z H : Hp} {F : Nat → Fp} {ρ : Env} {σ : St} {ws rs : List Nat} {fr : Bool} {Q : VK} {o : Option D} (p : Post rep K c ws rs fr Z σ H F Q (M.opt o ρ)) : ∃ r, o = some r ∧ Post rep K c ws rs fr Z σ H F Q (.ok r ρ) := by
  cases o with
  | none => exact p.elim
  | some r => exact ⟨r, rfl, p⟩
theorem two_fin {r2 : R2} (hr : ∀ x y H Q, rD X.K g x y H Q → r2 x y H Q) (dis : ∀ j ∈ ra, j ∉ wb) {σ : St} {H : Hp} {Q : VK} (q : tG (Rep X.K) X.K c (wa ++ wb) [] true (eOp g f f') σ H Q) :
    tG (Rep X.K) X.K c wa ra ba f σ H (fun x H1 => tG (Rep X.K) X.K c wb rb bb f' σ H1 (fun y H2 => r2 x y H2 Q)) := by
  obtain ⟨Z, ρ, F, S, p⟩ := q
  refine tG_two (repC := Rep X.K) (fun _ => trivial) S p (fun i h => List.mem_append_left _ h) (fun i h => List.mem_append_right _ h) dis fun d1 d2 ρ2 v1 v2 H2 F2 G1 G2 S2 r1 r2' O1 O2 m st dj p2 p0 => ?_
  obtain ⟨r, e, p3⟩ := p2.opt
  exact hr _ _ _ _ ⟨d1, d2, G1, G2, r, r1, r2', e, fun v H' G es rr nd nw => Post.fin S2 p3 es rr nd nw⟩
theorem v_op {op : Operator} (ho : OpR X (binaryOp op) (rD X.K g)) (ha : PEv X c a wa ra ba f) (hb : PEv X c b wb rb bb f') (dis : ∀ j ∈ ra, j ∉ wb := by decide) : PEv X c (.BinOp a op b pos) (wa ++ wb) [] true (eOp g f f') :=
  PE.imp (pe_op ho ha hb) fun σ H Q q => two_fin (fun _ _ _ _ h => h) dis q
theorem v_cmp {op : CmpOp} (ho : OpR X (compareOp op) (rD X.K g)) (ha : PEv X c a wa ra ba f) (hb : PEv X c b wb rb bb f') (hm : behindInMarks op b = false := by first | exact nomark _ | rfl) (dis : ∀ j ∈ ra, j ∉ wb := by decide) : PEv X c (.Compare a [op] [b] pos) (wa ++ wb) [] true (eOp g f f') :=
  PE.imp (pe_cmpR ho ha hb hm) fun σ H Q q => two_fin (fun _ _ _ _ h => h) dis q
theorem v_un {op : UnaryOp} (ho : UnR X (unaryOp op) (uD X.K u)) (ha : PEv X c a wa ra ba f) : PEv X c (.UnaryOp op a pos) wa [] true (eUn u f) := by
  refine PE.imp (pe_un ho ha) fun σ H Q q => ?_
  obtain ⟨Z, ρ, F, S, p⟩ := q
  refine tG_bind (w2 := []) S f _ p (fun _ h => h) (fun _ h => nomatch h) fun d ρ1 v1 H1 F1 G1 st S1 r1 O1 p1 => ?_
  obtain ⟨r, e, p3⟩ := p1.opt
  exact ⟨d, G1, r, r1, e, fun v H' G es rr nd nw => Post.fin S1 p3 es rr nd nw⟩
/-- xs[i]: a part of xs -/
theorem v_ix (hr : IxR X (rP X.K g)) (ha : PEv X c a wa ra ba f) (hb : PEv X c b wb rb bb f') (hs : PlainIx b := by exact fun _ _ => rfl) (dis : ∀ j ∈ ra, j ∉ wb := by decide) : PEv X c (.Subscript a b pos) (wa ++ wb) ra ba (eOp g f f') := by
  refine PE.imp (pe_ix hr ha hb hs) fun σ H Q q => ?_
  obtain ⟨Z, ρ, F, S, p⟩ := q
  refine tG_two (repC := Rep X.K) (fun _ => trivial) S p (fun i h => List.mem_append_left _ h) (fun i h => List.mem_append_right _ h) dis fun d1 d2 ρ2 v1 v2 H2 F2 G1 G2 S2 r1 r2' O1 O2 m st dj p2 p0 => ?_
  obtain ⟨r, e, p3⟩ := p0.opt
  exact ⟨d1, d2, G1, G2, r, r1, r2', e, fun v H' G es rr sb => p3 v H' F2 G ((st.trans (Step.of es)).mono fun i hi => by simpa using hi) (S2.same es) rr (O1.sub sb)⟩

/-! ### argument lists, displays -/
def lNil : M (List D) := M.pur []
def lCons (f : M D) (g : M (List D)) : M (List D) := M.bind f fun x => M.bind g fun xs => M.pur (x :: xs)
variable {e : Expr} {es : List Expr} {fl : M (List D)}
theorem l_nil : PAv X c [] [] [] true lNil := by
  refine PA.imp pa_nil fun σ H Q q => ?_
  obtain ⟨Z, ρ, F, S, p⟩ := q
  exact p [] H F [] Step.refl S RepL.nil Own.nil
theorem l_cons (ha : PEv X c e wa ra ba f) (hb : PAv X c es wb rb bb fl) (dis : ∀ j ∈ ra, j ∉ wb := by decide) (hs : starEach (e :: es) X.env = (false, eval e X.env) :: starEach es X.env := by rfl) :
    PAv X c (e :: es) (wa ++ wb) (ra ++ rb) (ba && bb) (lCons f fl) := by
  refine PA.imp (pa_cons ha hb hs) fun σ H Q q => ?_
  obtain ⟨Z, ρ, F, S, p⟩ := q
  refine tG_two (repC := RepL X.K) (fun _ => trivial) S p (fun i h => List.mem_append_left _ h) (fun i h => List.mem_append_right _ h) dis fun d1 d2 ρ2 v1 v2 H2 F2 G1 G2 S2 r1 r2' O1 O2 m st dj p2 p0 => ?_
  refine p0 (v1 :: v2) H2 F2 (G1 ++ G2) st S2 (RepL.cons r1 r2') ⟨fun hb => ?_, fun x hx => ?_⟩
  · have hb := Bool.and_eq_true_iff.mp hb
    refine ⟨List.nodup_append.mpr ⟨(O1.fr hb.1).1, (O2.fr hb.2).1, fun x hx y hy e => dj hb x hx (e ▸ hy)⟩, fun x hx => ?_⟩
    rcases List.mem_append.mp hx with z | z
    · exact (O1.fr hb.1).2 x z
    · exact (O2.fr hb.2).2 x z
  · rcases List.mem_append.mp hx with z | z
    · rcases O1.rd x z with q | q | ⟨j, hj, q⟩
      · exact .inl q
      · exact .inr (.inl q)
      · exact .inr (.inr ⟨j, List.mem_append_left _ hj, q⟩)
    · rcases O2.rd x z with q | q | ⟨j, hj, q⟩
      · exact .inl q
      · exact .inr (.inl q)
      · exact .inr (.inr ⟨j, List.mem_append_right _ hj, q⟩)
def dTup (ds : List D) : Option D := if ds.length ≤ 16777216 then some (.tup ds) else none
def dLst (ds : List D) : Option D := if ds.length ≤ 16777216 then some (.lst ds) else none
theorem same_upd {H : Hp} {p : Addr} {o : HO} (h : H p = none) : Same H (upd H p o) := fun b x e => by
  rw [upd_ne (ne_of_none e h)]
  exact e
theorem Same.keeps {H H' : Hp} {G : Fp} (s : Same H H') : Keeps H H' G := ⟨fun a _ o h => s a o h, fun a xs h => s a _ h, fun a o u h => s a _ h⟩
/-- one run, what hangs on it told from the start -/
theorem tG_one {α β γ δ : Type} {repA : Hp → α → β → Fp → Prop} {repC : Hp → γ → δ → Fp → Prop} {K : PySem.W.Frag} {Z H : Hp} {F : Nat → Fp} {ρ : Env} {σ : St} {ws rs : List Nat} {fr : Bool} {N : δ → Hp → Prop} {Q : β → Hp → Prop} {f : M γ} {k : γ → M α}
    (S : Sim K c Z ρ σ H F) (p : Post repA K c ws rs fr Z σ H F Q (M.bind f k ρ)) (h1 : ∀ i ∈ wa, i ∈ ws)
    (h : ∀ d ρ1 v1 H1 F1 G1, Step wa H F H1 F1 → Sim K c Z ρ1 σ H1 F1 → repC H1 d v1 G1 → Own wa ra ba Z H F F1 G1 → Post repA K c ws rs fr Z σ H F Q (k d ρ1) → N v1 H1) : tG repC K c wa ra ba f σ H N := by
  refine ⟨Z, ρ, F, S, ?_⟩
  unfold M.bind at p
  cases e : f ρ with
  | stuck => rw [e] at p; exact p.elim
  | err x ρ1 => rw [e] at p; exact fun H' F' st S' => p H' F' (st.mono h1) S'
  | ok d ρ1 =>
    rw [e] at p
    exact fun v H' F' G st S' r O => h d ρ1 v H' F' G st S' r O p
theorem szl : (sizeLine : Nat) = 16777216 := sizeLine_eq
theorem v_tup {x1} (h : PAv X c es wa ra ba fl) : PEv X c (.Tuple es x1 pos) wa ra ba (eN dTup fl) := by
  refine PE.imp (pe_tup h) fun σ H Q q => ?_
  obtain ⟨Z, ρ, F, S, p⟩ := q
  refine tG_one S p (fun _ h => h) fun ds ρ1 vs H1 F1 G1 st S1 r1 O1 p1 => ?_
  obtain ⟨r, e, p2⟩ := p1.opt
  unfold dTup at e
  split at e
  · rename_i hl
    cases e
    refine ⟨by rw [r1.length, szl]; exact hl, fun a ha => ?_⟩
    have sm : Same H1 (upd H1 a (.tup vs)) := same_upd ha
    exact p2 _ _ F1 G1 ((st.trans (Step.of sm)).mono fun i hi => by simpa using hi) (S1.same sm) (by
      simp only [Rep]
      exact ⟨a, vs, rfl, SqT.of upd_same, RepL.keep _ _ _ r1 (Same.keeps sm)⟩) O1
  · cases e
theorem Own.push {Z H H1 : Hp} {F F' : Nat → Fp} {ws rs : List Nat} {fr : Bool} {G : Fp} {K : PySem.W.Frag} {ρ : Env} {σ : St} {a : Addr} (O : Own ws rs fr Z H F F' G) (S : Sim K c Z ρ σ H1 F') (st : Step ws H F H1 F') (m : ∀ x ∈ G, IsM (H1 x)) (ha : H1 a = none) : Own ws rs fr Z H F F' (a :: G) := by
  have nF : ∀ j, a ∉ F' j := fun j q => by
    have z := S.mu j a q
    rw [ha] at z; exact z
  have nG : a ∉ G := fun q => by
    have z := m a q
    rw [ha] at z; exact z
  refine ⟨fun h => ⟨List.nodup_cons.mpr ⟨nG, (O.fr h).1⟩, fun x hx => ?_⟩, fun x hx => ?_⟩
  · rcases List.mem_cons.mp hx with e | hx
    · rw [e]; exact ⟨.inl (st.nev ha), nF⟩
    · exact (O.fr h).2 x hx
  · rcases List.mem_cons.mp hx with e | hx
    · rw [e]; exact .inl ⟨.inl (st.nev ha), nF⟩
    · exact O.rd x hx
theorem v_lst (h : PAv X c es wa ra ba fl) : PEv X c (.List es pos) wa ra ba (eN dLst fl) := by
  refine PE.imp (pe_lst h) fun σ H Q q => ?_
  obtain ⟨Z, ρ, F, S, p⟩ := q
  refine tG_one S p (fun _ h => h) fun ds ρ1 vs H1 F1 G1 st S1 r1 O1 p1 => ?_
  obtain ⟨r, e, p2⟩ := p1.opt
  unfold dLst at e
  split at e
  · rename_i hl
    cases e
    refine ⟨by rw [r1.length, szl]; exact hl, fun a ha => ?_⟩
    have sm : Same H1 (upd H1 a (.lst vs)) := same_upd ha
    exact p2 _ _ F1 (a :: G1) ((st.trans (Step.of sm)).mono fun i hi => by simpa using hi) (S1.same sm) (by
      simp only [Rep]
      exact ⟨a, vs, G1, rfl, rfl, upd_same, RepL.keep _ _ _ r1 (Same.keeps sm)⟩) (O1.push S1 st (RepL.isM _ _ _ r1) ha)
  · cases e

/-! ### calls of built-ins, methods that only read -/
theorem n_fin {r : List V → Hp → VK → Prop} (hr : ∀ xs H Q, nD X.K n xs H Q → r xs H Q) {σ : St} {H : Hp} {Q : VK} (q : tG (Rep X.K) X.K c wa [] true (eN n fl) σ H Q) :
    tG (RepL X.K) X.K c wa ra ba fl σ H (fun xs H1 => r xs H1 Q) := by
  obtain ⟨Z, ρ, F, S, p⟩ := q
  refine tG_bind (w2 := []) S fl _ p (fun _ h => h) (fun _ h => nomatch h) fun d ρ1 v1 H1 F1 G1 st S1 r1 O1 p1 => ?_
  obtain ⟨r', e, p3⟩ := p1.opt
  exact hr _ _ _ ⟨d, G1, r', r1, e, fun v H' G es rr nd nw => Post.fin S1 p3 es rr nd nw⟩
theorem p_fin {r : List V → Hp → VK → Prop} (hr : ∀ xs H Q, nP X.K n xs H Q → r xs H Q) {σ : St} {H : Hp} {Q : VK} (q : tG (Rep X.K) X.K c wa ra ba (eN n fl) σ H Q) :
    tG (RepL X.K) X.K c wa ra ba fl σ H (fun xs H1 => r xs H1 Q) := by
  obtain ⟨Z, ρ, F, S, p⟩ := q
  refine tG_one S p (fun _ h => h) fun ds ρ1 vs H1 F1 G1 st S1 r1 O1 p1 => ?_
  obtain ⟨r', e, p3⟩ := p1.opt
  exact hr _ _ _ ⟨ds, G1, r', r1, e, fun v H' G es rr sb => p3 v H' F1 G ((st.trans (Step.of es)).mono fun i hi => by simpa using hi) (S1.same es) rr (O1.sub sb)⟩
variable {x : Str} {p : Pos} {id T : String}
theorem v_callB (hc : CallR X (.builtin id) (nD X.K n)) (hg : Gl X x) (hm : X.mg x = none) (hv : bootBuiltins x = some (.builtin id)) (ha : PAv X c (e :: es) wa ra ba fl) (hn : x ≠ "__name__" := by decide) (hdb : (x == ("__debug__" : Str)) = false := by decide)
    (he : starEach (e :: es) X.env = (false, eval e X.env) :: starEach es X.env := by rfl) (hpl : (backTo pos (starEach es X.env)).any (·.1) = false := by rfl) : PEv X c (.Call (.Name x p) (e :: es) [] pos) wa [] true (eN n fl) :=
  PE.imp (pe_callB hc hg hm hv ha hn hdb he hpl) fun σ H Q q => n_fin (fun _ _ _ h => h) q
theorem v_callBP (hc : CallR X (.builtin id) (nP X.K n)) (hg : Gl X x) (hm : X.mg x = none) (hv : bootBuiltins x = some (.builtin id)) (ha : PAv X c (e :: es) wa ra ba fl) (hn : x ≠ "__name__" := by decide) (hdb : (x == ("__debug__" : Str)) = false := by decide)
    (he : starEach (e :: es) X.env = (false, eval e X.env) :: starEach es X.env := by rfl) (hpl : (backTo pos (starEach es X.env)).any (·.1) = false := by rfl) : PEv X c (.Call (.Name x p) (e :: es) [] pos) wa ra ba (eN n fl) :=
  PE.imp (pe_callB hc hg hm hv ha hn hdb he hpl) fun σ H Q q => p_fin (fun _ _ _ h => h) q
theorem v_callT (hc : CallR X (.type T) (nD X.K n)) (hg : Gl X x) (hm : X.mg x = none) (hv : bootBuiltins x = some (.type T)) (ha : PAv X c (e :: es) wa ra ba fl) (hn : x ≠ "__name__" := by decide) (hdb : (x == ("__debug__" : Str)) = false := by decide)
    (he : starEach (e :: es) X.env = (false, eval e X.env) :: starEach es X.env := by rfl) (hpl : (backTo pos (starEach es X.env)).any (·.1) = false := by rfl) : PEv X c (.Call (.Name x p) (e :: es) [] pos) wa [] true (eN n fl) :=
  PE.imp (pe_callTy hc hg hm hv ha hn hdb he hpl) fun σ H Q q => n_fin (fun _ _ _ h => h) q
theorem v_callTP (hc : CallR X (.type T) (nP X.K n)) (hg : Gl X x) (hm : X.mg x = none) (hv : bootBuiltins x = some (.type T)) (ha : PAv X c (e :: es) wa ra ba fl) (hn : x ≠ "__name__" := by decide) (hdb : (x == ("__debug__" : Str)) = false := by decide)
    (he : starEach (e :: es) X.env = (false, eval e X.env) :: starEach es X.env := by rfl) (hpl : (backTo pos (starEach es X.env)).any (·.1) = false := by rfl) : PEv X c (.Call (.Name x p) (e :: es) [] pos) wa ra ba (eN n fl) :=
  PE.imp (pe_callTy hc hg hm hv ha hn hdb he hpl) fun σ H Q q => p_fin (fun _ _ _ h => h) q

/-! ### tests -/
/-- a value's truth -/
def truD : D → Option Bool
  | .non => some false
  | .bl b => some b
  | .int i => some (i != 0)
  | .str s => if s.length ≤ 16777216 then some ((s.length : Int) != 0) else none
  | .tup xs => some (!xs.isEmpty)
  | .lst xs => some (!xs.isEmpty)
  | .scr xs => some (!xs.isEmpty)
  | _ => none
theorem repL_empty {K : PySem.W.Frag} {H : Hp} {ds : List D} {vs : List V} {G : Fp} (h : RepL K H ds vs G) : vs.isEmpty = ds.isEmpty := by
  have := h.length
  cases ds <;> cases vs <;> simp_all
theorem Stat.sqL {K : PySem.W.Frag} {H : Hp} {a : Addr} {vs : List V} (h : Stat K H a vs) : SqL K H a vs := by
  rcases h with ⟨o, h⟩ | h
  · exact .inl (.inr ⟨o, h⟩)
  · exact .inr h
theorem Rep.tru {K : PySem.W.Frag} {H : Hp} {d : D} {v : V} {G : Fp} {k : Bool} (r : Rep K H d v G) (e : truD d = some k) : TruV K v H k := by
  cases d with
  | non => simp only [Rep] at r; rw [r.1]; simp only [truD] at e; exact (Option.some.inj e).symm
  | bl b => simp only [Rep] at r; rw [r.1]; simp only [truD] at e; exact (Option.some.inj e).symm
  | int i => simp only [Rep] at r; rw [r.1]; simp only [truD] at e; exact (Option.some.inj e).symm
  | str s =>
    simp only [Rep] at r; rw [r.1]
    simp only [truD] at e
    split at e
    · rename_i h
      exact ⟨by rw [szl]; exact h, (Option.some.inj e).symm⟩
    · cases e
  | tup ds =>
    simp only [Rep] at r
    obtain ⟨a, vs, rfl, s, r⟩ := r
    simp only [truD] at e
    exact .inr (.inl ⟨vs, s, by rw [repL_empty r]; exact (Option.some.inj e).symm⟩)
  | lst ds =>
    simp only [Rep] at r
    obtain ⟨a, vs, G', rfl, _, s, r⟩ := r
    simp only [truD] at e
    exact .inl ⟨vs, SqL.of s, by rw [repL_empty r]; exact (Option.some.inj e).symm⟩
  | scr ds =>
    simp only [Rep] at r
    obtain ⟨a, vs, rfl, s, r⟩ := r
    simp only [truD] at e
    exact .inl ⟨vs, s.sqL, by rw [repL_empty r]; exact (Option.some.inj e).symm⟩
  | dic kvs => simp [truD] at e
  | ref a => simp [truD] at e
/-- a test by its value's truth -/
def cTru (f : M D) : M Bool := M.bind f fun d => M.opt (truD d)
theorem tru_fin {σ : St} {H : Hp} {Q : Bool → Hp → Prop} (q : tG repB X.K c wa [] true (cTru f) σ H Q) : tG (Rep X.K) X.K c wa ra ba f σ H (fun x H' => ∃ k, TruV X.K x H' k ∧ Q k H') := by
  obtain ⟨Z, ρ, F, S, p⟩ := q
  refine tG_one S p (fun _ h => h) fun d ρ1 v H1 F1 G1 st S1 r1 O1 p1 => ?_
  cases e : truD d with
  | none => rw [e] at p1; exact p1.elim
  | some k =>
    rw [e] at p1
    exact ⟨k, r1.tru e, p1 k H1 F1 [] st S1 ⟨rfl, rfl⟩ Own.nil⟩
theorem t_tru (ha : PEv X c a wa ra ba f) (he : ∀ whole, isTrue a X.env whole = (do let v ← whole; standAt a.pos; holding [v] (truthy v)) := by exact fun _ => rfl) : PTv X c a wa (cTru f) :=
  PT.imp (pt_truth ha he) fun σ H Q q => tru_fin q
theorem bl_inv {K : PySem.W.Frag} {H : Hp} {b : Bool} {v : V} {G : Fp} (h : Rep K H (.bl b) v G) : v = .bl b ∧ G = [] := by simpa only [Rep] using h
/-- a comparison as a test -/
def gBl (g : D → D → Option Bool) : D → D → Option D := fun x y => (g x y).map D.bl
def cOp (g : D → D → Option Bool) (f f' : M D) : M Bool := M.bind f fun x => M.bind f' fun y => M.opt (g x y)
theorem t_cmp {op : CmpOp} {g : D → D → Option Bool} (ho : OpR X (compareOp op) (rD X.K (gBl g))) (ha : PEv X c a wa ra ba f) (hb : PEv X c b wb rb bb f') (hm : behindInMarks op b = false := by first | exact nomark _ | rfl) (dis : ∀ j ∈ ra, j ∉ wb := by decide) : PTv X c (.Compare a [op] [b] pos) (wa ++ wb) (cOp g f f') := by
  refine PT.imp (pt_cmpR ho ha hb hm) fun σ H Q q => ?_
  obtain ⟨Z, ρ, F, S, p⟩ := q
  refine tG_two (repC := Rep X.K) (fun _ => trivial) S p (fun i h => List.mem_append_left _ h) (fun i h => List.mem_append_right _ h) dis fun d1 d2 ρ2 v1 v2 H2 F2 G1 G2 S2 r1 r2' O1 O2 m st dj p2 p0 => ?_
  cases e : g d1 d2 with
  | none => rw [e] at p2; exact p2.elim
  | some k =>
    rw [e] at p2
    refine ⟨d1, d2, G1, G2, .bl k, r1, r2', by rw [gBl, e]; rfl, fun v H' G es rr nd nw => ?_⟩
    obtain ⟨e1, e2⟩ := bl_inv rr
    subst e1
    exact ⟨k, rfl, Post.fin S2 p2 es ⟨rfl, rfl⟩ List.Pairwise.nil (fun _ z => nomatch z)⟩
def cNot (f : M Bool) : M Bool := M.bind f fun b => M.pur (!b)
def cAnd (f g : M Bool) : M Bool := M.bind f fun b => if b then g else M.pur false
def cOr (f g : M Bool) : M Bool := M.bind f fun b => if b then M.pur true else g
variable {fb gb : M Bool} {rest : List Expr}
theorem t_not (ha : PTv X c a wa fb) : PTv X c (.UnaryOp .Not a pos) wa (cNot fb) := by
  refine PT.imp (pt_not ha) fun σ H Q q => ?_
  obtain ⟨Z, ρ, F, S, p⟩ := q
  refine tG_one S p (fun _ h => h) fun d ρ1 v H1 F1 G1 st S1 r1 O1 p1 => ?_
  obtain ⟨e, e2⟩ := r1
  subst e
  exact p1 (!d) H1 F1 [] st S1 ⟨rfl, rfl⟩ Own.nil
theorem w_one_and (ha : PTv X c a wa fb) : PWv X c (.BoolOp .And [a] pos) wa fb := pw_and1 ha
theorem w_one_or (ha : PTv X c a wa fb) : PWv X c (.BoolOp .Or [a] pos) wa fb := pw_or1 ha
theorem w_and (ha : PTv X c a wa fb) (hb : PWv X c (.BoolOp .And (b :: rest) pos) wb gb) : PWv X c (.BoolOp .And (a :: b :: rest) pos) (wa ++ wb) (cAnd fb gb) := by
  refine PW.imp (pw_and ha hb) fun σ H Q q => ?_
  obtain ⟨Z, ρ, F, S, p⟩ := q
  refine tG_bind (w2 := wb) S fb _ p (fun i h => List.mem_append_left _ h) (fun i h => List.mem_append_right _ h) fun d ρ1 v H1 F1 G1 st S1 r1 O1 p1 => ?_
  obtain ⟨e, e2⟩ := r1
  subst e
  cases d with
  | true => rw [if_pos rfl]; exact ⟨Z, ρ1, F1, S1, p1⟩
  | false =>
    rw [if_neg Bool.false_ne_true]
    exact p1 false H1 F1 [] (Step.refl.mono fun _ z => nomatch z) S1 ⟨rfl, rfl⟩ Own.nil
theorem w_or (ha : PTv X c a wa fb) (hb : PWv X c (.BoolOp .Or (b :: rest) pos) wb gb) : PWv X c (.BoolOp .Or (a :: b :: rest) pos) (wa ++ wb) (cOr fb gb) := by
  refine PW.imp (pw_or ha hb) fun σ H Q q => ?_
  obtain ⟨Z, ρ, F, S, p⟩ := q
  refine tG_bind (w2 := wb) S fb _ p (fun i h => List.mem_append_left _ h) (fun i h => List.mem_append_right _ h) fun d ρ1 v H1 F1 G1 st S1 r1 O1 p1 => ?_
  obtain ⟨e, e2⟩ := r1
  subst e
  cases d with
  | false => rw [if_neg Bool.false_ne_true]; exact ⟨Z, ρ1, F1, S1, p1⟩
  | true =>
    rw [if_pos rfl]
    exact p1 true H1 F1 [] (Step.refl.mono fun _ z => nomatch z) S1 ⟨rfl, rfl⟩ Own.nil
theorem t_pw {fb : M Bool} (h : PWv X c a wa fb) : PTv X c a wa fb := h.pt
/-- .. as values: bools alone -/
def dBl : D → Option Bool
  | .bl b => some b
  | _ => none
def eAnd (f g : M D) : M D := M.bind f fun d => M.bind (M.opt (dBl d)) fun b => if b then g else M.pur (.bl false)
def eOr (f g : M D) : M D := M.bind f fun d => M.bind (M.opt (dBl d)) fun b => if b then M.pur (.bl true) else g
def eNot (f : M Bool) : M D := M.bind f fun b => M.pur (.bl (!b))
theorem dBl_some {d : D} {b : Bool} (h : dBl d = some b) : d = .bl b := by
  cases d <;> simp [dBl] at h
  rw [h]
theorem v_one {op} (h : PEv X c a wa ra ba f) : PEv X c (.BoolOp op [a] pos) wa ra ba f := pe_one h
theorem v_and (ha : PEv X c a wa ra ba f) (hb : PEv X c (.BoolOp .And (b :: rest) pos) wb rb bb f') : PEv X c (.BoolOp .And (a :: b :: rest) pos) (wa ++ wb) rb bb (eAnd f f') := by
  refine PE.imp (pe_and ha hb) fun σ H Q q => ?_
  obtain ⟨Z, ρ, F, S, p⟩ := q
  refine tG_bind (w2 := wb) S f _ p (fun i h => List.mem_append_left _ h) (fun i h => List.mem_append_right _ h) fun d ρ1 v H1 F1 G1 st S1 r1 O1 p1 => ?_
  cases e : dBl d with
  | none => rw [e] at p1; exact p1.elim
  | some b =>
    rw [e] at p1
    rw [dBl_some e] at r1
    refine ⟨b, (bl_inv r1).1, ?_⟩
    cases b with
    | true => rw [if_pos rfl]; exact ⟨Z, ρ1, F1, S1, p1⟩
    | false =>
      rw [if_neg Bool.false_ne_true]
      exact p1 (.bl false) H1 F1 [] (Step.refl.mono fun _ z => nomatch z) S1 (by simp [Rep]) Own.nil
theorem v_or (ha : PEv X c a wa ra ba f) (hb : PEv X c (.BoolOp .Or (b :: rest) pos) wb rb bb f') : PEv X c (.BoolOp .Or (a :: b :: rest) pos) (wa ++ wb) rb bb (eOr f f') := by
  refine PE.imp (pe_or ha hb) fun σ H Q q => ?_
  obtain ⟨Z, ρ, F, S, p⟩ := q
  refine tG_bind (w2 := wb) S f _ p (fun i h => List.mem_append_left _ h) (fun i h => List.mem_append_right _ h) fun d ρ1 v H1 F1 G1 st S1 r1 O1 p1 => ?_
  cases e : dBl d with
  | none => rw [e] at p1; exact p1.elim
  | some b =>
    rw [e] at p1
    rw [dBl_some e] at r1
    refine ⟨b, (bl_inv r1).1, ?_⟩
    cases b with
    | false => rw [if_neg Bool.false_ne_true]; exact ⟨Z, ρ1, F1, S1, p1⟩
    | true =>
      rw [if_pos rfl]
      exact p1 (.bl true) H1 F1 [] (Step.refl.mono fun _ z => nomatch z) S1 (by simp [Rep]) Own.nil
theorem v_not (ha : PEv X c a wa ra ba f) : PEv X c (.UnaryOp .Not a pos) wa [] true (eNot (cTru f)) := by
  refine PE.imp (pe_notT ha) fun σ H Q q => ?_
  obtain ⟨Z, ρ, F, S, p⟩ := q
  refine tG_mono (Q := fun x H' => ∃ k, TruV X.K x H' k ∧ Q (.bl (!k)) H') f (tru_fin ?_) (fun _ _ h => h)
  exact tG_one S p (fun _ h => h) fun d ρ1 v H1 F1 G1 st S1 r1 O1 p1 => by
    obtain ⟨e, e2⟩ := r1
    subst e
    exact p1 (.bl (!d)) H1 F1 [] st S1 (by simp [Rep]) Own.nil
def eIf (t : M Bool) (f g : M D) : M D := M.bind t fun b => if b then f else g
theorem v_if {t : Expr} {wt : List Nat} {ft : M Bool} (ht : PTv X c t wt ft) (ha : PEv X c a wa ra ba f) (hb : PEv X c b wb rb bb f') : PEv X c (.IfExp t a b pos) (wt ++ (wa ++ wb)) (ra ++ rb) (ba && bb) (eIf ft f f') := by
  refine PE.imp (pe_ifExp ht ha hb) fun σ H Q q => ?_
  obtain ⟨Z, ρ, F, S, p⟩ := q
  refine tG_bind (w2 := wa ++ wb) S ft _ p (fun i h => List.mem_append_left _ h) (fun i h => List.mem_append_right _ h) fun d ρ1 v H1 F1 G1 st S1 r1 O1 p1 => ?_
  obtain ⟨e, e2⟩ := r1
  subst e
  cases d with
  | true => rw [if_pos rfl]; exact ⟨Z, ρ1, F1, S1, p1.imp (fun i h => List.mem_append_left _ h) (fun h => (Bool.and_eq_true_iff.mp h).1) (fun i h => List.mem_append_left _ h)⟩
  | false => rw [if_neg Bool.false_ne_true]; exact ⟨Z, ρ1, F1, S1, p1.imp (fun i h => List.mem_append_right _ h) (fun h => (Bool.and_eq_true_iff.mp h).2) (fun i h => List.mem_append_right _ h)⟩
end
end Mw

namespace Mw
open PySem PySem.Spec L2
open PyProof.Rows hiding St

/-! ### statements -/
inductive Fl where
  | nx | ret (d : D) | brk | ct
def PostS (K : PySem.W.Frag) (c : Cfg) (ws : List Nat) (Z : Hp) (H : Hp) (F : Nat → Fp) (N : Ends) : R Fl → Prop
  | .ok .nx ρ' => ∀ σ' H' F', Step ws H F H' F' → Sim K c Z ρ' σ' H' F' → N.nx σ' H'
  | .ok .brk ρ' => ∀ σ' H' F', Step ws H F H' F' → Sim K c Z ρ' σ' H' F' → N.bk σ' H'
  | .ok .ct ρ' => ∀ σ' H' F', Step ws H F H' F' → Sim K c Z ρ' σ' H' F' → N.ct σ' H'
  | .ok (.ret d) ρ' => ∀ v σ' H' F' G, Step ws H F H' F' → Sim K c Z ρ' σ' H' F' → Rep K H' d v G → Own ws [] true Z H F F' G → N.rt v H'
  | .err e ρ' => ∀ σ' H' F', Step ws H F H' F' → Sim K c Z ρ' σ' H' F' → c.W (c.ex e) none σ' H'
  | .stuck => False
def tS (K : PySem.W.Frag) (c : Cfg) (ws : List Nat) (f : M Fl) : TS := fun N σ H => ∃ Z ρ F, Sim K c Z ρ σ H F ∧ PostS K c ws Z H F N (f ρ)
abbrev PSv (X : Cx) (c : Cfg) (st : Stmt) (ws : List Nat) (f : M Fl) : Prop := PS X st (tS X.K c ws f)
abbrev PSsv (X : Cx) (c : Cfg) (st : List Stmt) (ws : List Nat) (f : M Fl) : Prop := PSs X st (tS X.K c ws f)

section
variable {K : PySem.W.Frag} {c : Cfg} {Z H H1 : Hp} {F F1 : Nat → Fp} {ws w1 w2 : List Nat} {N N' : Ends}
theorem PostS.shift : ∀ {r : R Fl}, PostS K c ws Z H F N r → Step w1 H F H1 F1 → (∀ i ∈ w1, i ∈ ws) → (∀ i ∈ w2, i ∈ ws) → PostS K c w2 Z H1 F1 N r
  | .ok .nx _, p, st, h1, h2 => fun σ' H' F' s' S => p σ' H' F' ((st.trans s').mono fun i hi => (List.mem_append.mp hi).elim (h1 i) (h2 i)) S
  | .ok .brk _, p, st, h1, h2 => fun σ' H' F' s' S => p σ' H' F' ((st.trans s').mono fun i hi => (List.mem_append.mp hi).elim (h1 i) (h2 i)) S
  | .ok .ct _, p, st, h1, h2 => fun σ' H' F' s' S => p σ' H' F' ((st.trans s').mono fun i hi => (List.mem_append.mp hi).elim (h1 i) (h2 i)) S
  | .ok (.ret d) _, p, st, h1, h2 => fun v σ' H' F' G s' S r O => p v σ' H' F' G ((st.trans s').mono fun i hi => (List.mem_append.mp hi).elim (h1 i) (h2 i)) S r (O.shift st h1 h2)
  | .err e _, p, st, h1, h2 => fun σ' H' F' s' S => p σ' H' F' ((st.trans s').mono fun i hi => (List.mem_append.mp hi).elim (h1 i) (h2 i)) S
  | .stuck, p, _, _, _ => p
theorem PostS.mono {r : R Fl} (p : PostS K c ws Z H F N r) (h2 : ∀ i ∈ w2, i ∈ ws) : PostS K c w2 Z H F N r := p.shift (w1 := []) Step.refl (fun _ h => nomatch h) h2
end
def sSeq (a b : M Fl) : M Fl := M.bind a fun x => match x with
  | .nx => b
  | .ret d => M.pur (.ret d)
  | .brk => M.pur .brk
  | .ct => M.pur .ct
def sNx : M Fl := M.pur .nx
section
variable {X : Cx} {c : Cfg} {st : Stmt} {rest : List Stmt} {w1 w2 ws wa wb ra rb : List Nat} {ba bb : Bool} {f g : M Fl} {fe ge : M D} {e e2 : Expr} {pos : Pos}
theorem s_nil : PSsv X c [] [] sNx := by
  refine PSs.imp pss_nil fun N σ H q => ?_
  obtain ⟨Z, ρ, F, S, p⟩ := q
  exact p σ H F Step.refl S
theorem s_one (h : PSv X c st ws f) : PSsv X c [st] ws f := pss_one h
theorem s_cons (h1 : PSv X c st w1 f) (h2 : PSsv X c rest w2 g) : PSsv X c (st :: rest) (w1 ++ w2) (sSeq f g) := by
  refine PSs.imp (pss_cons h1 h2) fun N σ H q => ?_
  obtain ⟨Z, ρ, F, S, p⟩ := q
  refine ⟨Z, ρ, F, S, ?_⟩
  unfold sSeq M.bind at p
  have l1 : ∀ i ∈ w1, i ∈ w1 ++ w2 := fun i h => List.mem_append_left _ h
  have l2 : ∀ i ∈ w2, i ∈ w1 ++ w2 := fun i h => List.mem_append_right _ h
  cases q : f ρ with
  | stuck => rw [q] at p; exact p.elim
  | err x ρ1 => rw [q] at p; exact p.mono l1
  | ok x ρ1 =>
    rw [q] at p
    cases x with
    | nx => exact fun σ' H' F' st S' => ⟨Z, ρ1, F', S', p.shift st l1 l2⟩
    | brk => exact p.mono l1
    | ct => exact p.mono l1
    | ret d => exact p.mono l1
/-- a run of an expression, then a statement's end -/
theorem tS_one {β γ : Type} {repC : Hp → γ → β → Fp → Prop} {K : PySem.W.Frag} {Z H : Hp} {F : Nat → Fp} {ρ : Env} {σ : St} {N : β → Hp → Prop} {D' : Ends} {fe : M γ} {k : γ → M Fl}
    (S : Sim K c Z ρ σ H F) (p : PostS K c ws Z H F D' (M.bind fe k ρ)) (h1 : ∀ i ∈ wa, i ∈ ws) (hW : ∀ ρ' e, fe ρ = .err e ρ' → True)
    (h : ∀ d ρ1 v1 H1 F1 G1, Step wa H F H1 F1 → Sim K c Z ρ1 σ H1 F1 → repC H1 d v1 G1 → Own wa ra ba Z H F F1 G1 → PostS K c ws Z H F D' (k d ρ1) → N v1 H1) : tG repC K c wa ra ba fe σ H N := by
  refine ⟨Z, ρ, F, S, ?_⟩
  unfold M.bind at p
  cases e : fe ρ with
  | stuck => rw [e] at p; exact p.elim
  | err x ρ1 => rw [e] at p; exact fun H' F' st S' => p σ H' F' (st.mono h1) S'
  | ok d ρ1 =>
    rw [e] at p
    exact fun v H' F' G st S' r O => h d ρ1 v H' F' G st S' r O p

/-- a slot gets a value of its own -/
theorem Sim.put {K : PySem.W.Frag} {Z H : Hp} {F : Nat → Fp} {ρ : Env} {σ : St} {i : Nat} {d : D} {v : V} {G : Fp} (S : Sim K c Z ρ σ H F) (hm : c.md i = .own) (r : Rep K H d v G) (n : G.Nodup) (out : ∀ a ∈ G, ∀ j, a ∉ F j) (z : ∀ a ∈ G, Z a = none) :
    Sim K c Z (ρ.set i (some d)) (σ.set i (some v)) H (updF F i G) := by
  have sub : ∀ j, ∀ a ∈ updF F i G j, (j = i ∧ a ∈ G) ∨ (j ≠ i ∧ a ∈ F j) := fun j a h => by
    by_cases e : j = i
    · rw [e, updF_same] at h; exact .inl ⟨e, h⟩
    · rw [updF_ne e] at h; exact .inr ⟨e, h⟩
  have slot : ∀ j x, (ρ.set i (some d))[j]? = some (some x) → (j = i ∧ x = d ∧ (σ.set i (some v))[j]? = some (some v)) ∨ (j ≠ i ∧ ρ[j]? = some (some x) ∧ (σ.set i (some v))[j]? = σ[j]?) := fun j x q0 => by
    rcases set_get q0 with ⟨e, q⟩ | ⟨e, q⟩
    · refine .inl ⟨e, Option.some.inj q, ?_⟩
      subst e
      have hl : j < ρ.length := by
        have z := (List.getElem?_eq_some_iff.mp q0).1
        rwa [List.length_set] at z
      rw [List.getElem?_set_self (by rw [← S.len]; exact hl)]
    · exact .inr ⟨e, q, List.getElem?_set_ne (Ne.symm e)⟩
  refine ⟨S.zs, S.zt, S.tab, by rw [List.length_set, List.length_set]; exact S.len, fun j x m q => ?_, fun j x m q => ?_, fun j w m => ?_, fun j => ?_, fun j k ne a ha hb => ?_, fun j a ha => ?_, fun j a ha => ?_⟩
  · rcases slot j x q with ⟨e, _, _⟩ | ⟨e, q, h⟩
    · rw [e, hm] at m; cases m
    · rw [h]; exact S.brw j x m q
  · rcases slot j x q with ⟨e, ex, h⟩ | ⟨e, q, h⟩
    · rw [h, ex, e, updF_same]; exact ⟨v, rfl, r⟩
    · rw [h, updF_ne e]; exact S.own j x m q
  · have e : j ≠ i := fun e => by rw [e, hm] at m; cases m
    rw [List.getElem?_set_ne (Ne.symm e)]
    exact S.fix j w m
  · by_cases e : j = i
    · rw [e, updF_same]; exact n
    · rw [updF_ne e]; exact S.nd j
  · rcases sub j a ha with ⟨e, ha⟩ | ⟨e, ha⟩
    · rcases sub k a hb with ⟨e', hb⟩ | ⟨e', hb⟩
      · exact ne (e.trans e'.symm)
      · exact out a ha k hb
    · rcases sub k a hb with ⟨e', hb⟩ | ⟨e', hb⟩
      · exact out a hb j ha
      · exact S.dj j k ne a ha hb
  · rcases sub j a ha with ⟨e, ha⟩ | ⟨e, ha⟩
    · exact z a ha
    · exact S.fz j a ha
  · rcases sub j a ha with ⟨e, ha⟩ | ⟨e, ha⟩
    · exact Rep.isM _ _ _ r a ha
    · exact S.mu j a ha
theorem Own.z {K : PySem.W.Frag} {Z H : Hp} {F F' : Nat → Fp} {ρ : Env} {σ : St} {G : Fp} {rs : List Nat} (O : Own ws rs true Z H F F' G) (S : Sim K c Z ρ σ H F) : ∀ a ∈ G, Z a = none := fun a ha => by
  rcases ((O.fr rfl).2 a ha).1 with e | ⟨i, _, e⟩
  · cases q : Z a with
    | none => rfl
    | some o =>
      have z := S.zs a o q
      rw [e] at z; cases z
  · exact S.fz i a e
theorem Step.put {H H1 : Hp} {F F1 : Nat → Fp} {i : Nat} {G : Fp} {Z : Hp} {rs : List Nat} (st : Step wa H F H1 F1) (O : Own wa rs true Z H F F1 G) (h1 : ∀ j ∈ wa, j ∈ ws) (hi : i ∈ ws) : Step ws H F H1 (updF F1 i G) where
  keep := (st.mono h1).keep
  dom := st.dom
  tb := st.tb
  same := fun j hj => by
    have e : j ≠ i := fun e => hj (e ▸ hi)
    rw [updF_ne e]
    exact (st.mono h1).same j hj
  wr := fun j hj a ha => by
    by_cases e : j = i
    · rw [e, updF_same] at ha
      rcases ((O.fr rfl).2 a ha).1 with z | ⟨k, hk, z⟩
      · exact .inl z
      · exact .inr ⟨k, h1 k hk, z⟩
    · rw [updF_ne e] at ha
      exact (st.mono h1).wr j hj a ha
def sSet (i : Nat) (f : M D) : M Fl := M.bind f fun d ρ => .ok .nx (ρ.set i (some d))
theorem s_set (i : Nat) {x : Str} {pos' : Pos} {bb0 : Bool} (he : PEv X c e wa ra bb0 fe) (hm : c.md i = .own := by rfl) (hN : X.N.Nodup) (hi : X.N[i]? = some x := by rfl) (hx : Loc X.env.scope x := by first | exact Or.inl rfl | exact Or.inr rfl) (hs : swapsWith e (some (.Name x pos')) pos.line X.env = pure false := by rfl) (hf : X.fn x = true ∨ X.env.scope.names.lookup x = some .local := by first | exact .inl rfl | exact .inr rfl | assumption) (hb0 : bb0 = true := by rfl) :
    PSv X c (.Assign [.Name x pos'] e pos) (wa ++ [i]) (sSet i fe) := by
  subst hb0
  refine PS.imp (ps_set hN hi hx he hs hf) fun N σ H q => ?_
  obtain ⟨Z, ρ, F, S, p⟩ := q
  refine tS_one S p (fun _ h => List.mem_append_left _ h) (fun _ _ _ => trivial) fun d ρ1 v H1 F1 G st S1 r O p1 => ?_
  exact p1 _ _ _ (st.put O (fun _ h => List.mem_append_left _ h) (List.mem_append_right _ (by simp))) (S1.put hm r (O.fr rfl).1 (fun a ha => ((O.fr rfl).2 a ha).2) (O.z S))
/-- targets -/
inductive Tg where
  | nm (i : Nat) | tp (l : List Tg)
mutual
def asg : Tg → D → Env → Option Env
  | .nm i, d, ρ => if d.imm then some (ρ.set i (some d)) else none
  | .tp ts, .tup ds, ρ => asgs ts ds ρ
  | .tp ts, .lst ds, ρ => asgs ts ds ρ
  | .tp _, _, _ => none
def asgs : List Tg → List D → Env → Option Env
  | [], [], ρ => some ρ
  | t :: ts, d :: ds, ρ => match asg t d ρ with
    | some ρ' => asgs ts ds ρ'
    | none => none
  | _, _, _ => none
end
theorem asgs_len : ∀ {ts : List Tg} {ds : List D} {ρ ρ' : Env}, asgs ts ds ρ = some ρ' → ds.length = ts.length
  | [], [], _, _, _ => rfl
  | [], _ :: _, _, _, h => by simp [asgs] at h
  | _ :: _, [], _, _, h => by simp [asgs] at h
  | t :: ts, d :: ds, ρ, ρ', h => by
    simp only [asgs] at h
    split at h
    · simp [asgs_len h]
    · cases h
mutual
def Tg.ids : Tg → List Nat
  | .nm i => [i]
  | .tp ts => Tg.idss ts
def Tg.idss : List Tg → List Nat
  | [] => []
  | t :: ts => Tg.ids t ++ Tg.idss ts
end
def Mode.isOwn : Mode → Bool
  | .own => true
  | _ => false
def Tg.owns (t : Tg) (c : Cfg) : Prop := (t.ids.all fun i => (c.md i).isOwn) = true
theorem Tg.owns_iff {t : Tg} {c : Cfg} : t.owns c ↔ ∀ i ∈ t.ids, c.md i = .own := by
  unfold Tg.owns
  rw [List.all_eq_true]
  refine ⟨fun h i hi => ?_, fun h i hi => by rw [h i hi]; rfl⟩
  have z := h i hi
  cases q : c.md i with
  | own => rfl
  | brw => rw [q] at z; cases z
  | fix v => rw [q] at z; cases z
mutual
def gOf (K : PySem.W.Frag) : Tg → TG
  | .nm i => gName i
  | .tp ts => fun v σ H Q => gTup K ts.length (gsOf K ts) v σ H Q ∨ gLst K ts.length (gsOf K ts) v σ H Q
def gsOf (K : PySem.W.Frag) : List Tg → TGs
  | [] => gNil
  | t :: ts => gCons (gOf K t) (gsOf K ts)
end
abbrev PGv (X : Cx) (e : Expr) (t : Tg) : Prop := PG X e (gOf X.K t)
abbrev PGsv (X : Cx) (e : List Expr) (t : List Tg) : Prop := PGs X e (gsOf X.K t)
theorem wipe_set {σ : St} {i : Nat} {v : Option V} : wipe (σ.set i v) [i] = wipe σ [i] := by
  simp [wipe]
theorem wipe_get {σ : St} {j : Nat} : ∀ {vs : List Nat}, (wipe σ vs)[j]? = if j ∈ vs then σ[j]?.map (fun _ => none) else σ[j]? := by
  intro vs
  induction vs with
  | nil => simp [wipe]
  | cons i r ih =>
    have e : wipe σ (i :: r) = (wipe σ r).set i none := rfl
    rw [e]
    by_cases h : i = j
    · subst h
      rw [List.getElem?_set_self', ih]
      simp only [List.mem_cons, true_or, if_true]
      split <;> (cases σ[i]? <;> rfl)
    · rw [List.getElem?_set_ne h, ih]
      simp only [List.mem_cons, show (j = i) = False from eq_false (Ne.symm h), false_or]
theorem wipe_app {σ σ' : St} {vs us : List Nat} (h : wipe σ' vs = wipe σ vs) : wipe σ' (vs ++ us) = wipe σ (vs ++ us) ∧ wipe σ' (us ++ vs) = wipe σ (us ++ vs) := by
  have key : ∀ ws : List Nat, (∀ i ∈ vs, i ∈ ws) → wipe σ' ws = wipe σ ws := fun ws hw => by
    refine List.ext_getElem? fun j => ?_
    have q := congrArg (fun l => l[j]?) h
    simp only [wipe_get] at q
    rw [wipe_get, wipe_get]
    by_cases hj : j ∈ ws
    · rw [if_pos hj, if_pos hj]
      have l : σ'.length = σ.length := by
        have z := congrArg List.length h
        rwa [wipe_length, wipe_length] at z
      by_cases hl : j < σ.length
      · rw [List.getElem?_eq_getElem hl, List.getElem?_eq_getElem (l ▸ hl)]; rfl
      · rw [List.getElem?_eq_none (by omega), List.getElem?_eq_none (by omega)]
    · rw [if_neg hj, if_neg hj]
      rw [if_neg (fun z => hj (hw j z)), if_neg (fun z => hj (hw j z))] at q
      exact q
  exact ⟨key _ fun i hi => List.mem_append_left _ hi, key _ fun i hi => List.mem_append_right _ hi⟩
mutual
/-- what a target's rule does of a value -/
theorem tg_ok {K : PySem.W.Frag} : ∀ (t : Tg) (Z : Hp) (ρ : Env) (F : Nat → Fp) (σ : L2.St) (H : Hp) (d : D) (v : V) (G : Fp) (ρ' : Env) (Q : L2.St → Hp → Prop), (∀ i ∈ t.ids, c.md i = .own) → Sim K c Z ρ σ H F → Rep K H d v G → asg t d ρ = some ρ' →
    (∀ σ' F', Step t.ids H F H F' → Sim K c Z ρ' σ' H F' → wipe σ' t.ids = wipe σ t.ids → (∀ i ∈ t.ids, F' i = []) → Q σ' H) → gOf K t v σ H Q
  | .nm i, Z, ρ, F, σ, H, d, v, G, ρ', Q, hm, S, r, e, q => by
    simp only [asg] at e
    split at e
    · rename_i im
      cases e
      have g := Rep.imm d v G r im
      rw [g] at r
      have hm : c.md i = .own := hm i (by simp [Tg.ids])
      simp only [gOf]
      refine q (σ.set i (some v)) (updF F i []) ⟨fun _ _ h _ _ => h, fun _ h => h, fun a ps h => ⟨ps, h⟩, fun j hj => updF_ne (fun e => hj (by simp [e, Tg.ids])), fun j hj a ha => ?_⟩ (S.put hm r List.Pairwise.nil (fun _ z => nomatch z) (fun _ z => nomatch z)) (by simp only [Tg.ids]; exact wipe_set) fun j hj => ?_
      · have e : j = i := by simpa [Tg.ids] using hj
        rw [e, updF_same] at ha; cases ha
      · have e : j = i := by simpa [Tg.ids] using hj
        rw [e, updF_same]
    · cases e
  | .tp ts, Z, ρ, F, σ, H, d, v, G, ρ', Q, hm, S, r, e, w => by
    simp only [gOf]
    cases d with
    | tup ds =>
      simp only [asg] at e
      simp only [Rep] at r
      obtain ⟨a, vs', rfl, s, r⟩ := r
      exact .inl ⟨a, vs', rfl, s, by rw [r.length, asgs_len e], tgs_ok ts Z ρ F σ H ds vs' G ρ' Q (by simpa [Tg.ids] using hm) S r e (by simpa [Tg.ids] using w)⟩
    | lst ds =>
      simp only [asg] at e
      simp only [Rep] at r
      obtain ⟨a, vs', G', rfl, _, s, r⟩ := r
      exact .inr ⟨a, vs', rfl, SqL.of s, by rw [r.length, asgs_len e], tgs_ok ts Z ρ F σ H ds vs' G' ρ' Q (by simpa [Tg.ids] using hm) S r e (by simpa [Tg.ids] using w)⟩
    | _ => simp [asg] at e
theorem tgs_ok {K : PySem.W.Frag} : ∀ (t : List Tg) (Z : Hp) (ρ : Env) (F : Nat → Fp) (σ : L2.St) (H : Hp) (d : List D) (v : List V) (G : Fp) (ρ' : Env) (Q : L2.St → Hp → Prop), (∀ i ∈ Tg.idss t, c.md i = .own) → Sim K c Z ρ σ H F → RepL K H d v G → asgs t d ρ = some ρ' →
    (∀ σ' F', Step (Tg.idss t) H F H F' → Sim K c Z ρ' σ' H F' → wipe σ' (Tg.idss t) = wipe σ (Tg.idss t) → (∀ i ∈ Tg.idss t, F' i = []) → Q σ' H) → gsOf K t v σ H Q
  | [], Z, ρ, F, σ, H, ds, us, G, ρ', Q, hm, S, r, e, q => by
    cases ds with
    | nil =>
      simp only [asgs] at e
      cases e
      simp only [RepL] at r
      simp only [gsOf]
      exact ⟨r.1, q σ F Step.refl S rfl fun _ z => nomatch z⟩
    | cons d ds => simp [asgs] at e
  | t :: ts, Z, ρ, F, σ, H, ds, us, G, ρ', Q, hm, S, r, e, q => by
    cases ds with
    | nil => simp [asgs] at e
    | cons d ds =>
      simp only [asgs] at e
      split at e
      · rename_i ρ1 e1
        simp only [RepL] at r
        obtain ⟨v, rr, G1, G2, rfl, rfl, r1, r2⟩ := r
        simp only [gsOf]
        refine ⟨v, rr, rfl, tg_ok t Z ρ F σ H d v G1 ρ1 _ (fun i hi => hm i (by simp [Tg.idss, hi])) S r1 e1 fun σ1 F1 st1 S1 w1 z1 => ?_⟩
        refine tgs_ok ts Z ρ1 F1 σ1 H ds rr G2 ρ' _ (fun i hi => hm i (by simp [Tg.idss, hi])) S1 r2 e fun σ2 F2 st2 S2 w2 z2 => ?_
        refine q σ2 F2 (by simpa only [Tg.idss] using st1.trans st2) S2 (by simpa only [Tg.idss] using (wipe_app w2).2.trans (wipe_app w1).1) fun i hi => ?_
        by_cases h2 : i ∈ Tg.idss ts
        · exact z2 i h2
        · rw [st2.same i h2]
          simp only [Tg.idss, List.mem_append] at hi
          exact z1 i (hi.resolve_right h2)
      · cases e
end
theorem g_name (i : Nat) {x : Str} (hN : X.N.Nodup) (hi : X.N[i]? = some x := by rfl) (hx : Loc X.env.scope x := by first | exact Or.inl rfl | exact Or.inr rfl) (hf : X.fn x = true ∨ X.env.scope.names.lookup x = some .local := by first | exact .inl rfl | exact .inr rfl | assumption) : PGv X (.Name x pos) (.nm i) := by
  show PG X _ (gOf X.K (.nm i))
  simp only [gOf]
  exact pg_name hN hi hx hf
theorem g_nil : PGsv X [] [] := by
  show PGs X _ (gsOf X.K [])
  simp only [gsOf]
  exact pgs_nil
theorem g_cons {t : Tg} {ts : List Tg} {es : List Expr} (h1 : PGv X e t) (h2 : PGsv X es ts)
    (hs : (assignEach (e :: es) X.env).map (·.2) = assign e X.env :: (assignEach es X.env).map (·.2) := by rfl) : PGsv X (e :: es) (t :: ts) := by
  show PGs X _ (gsOf X.K (t :: ts))
  simp only [gsOf]
  exact pgs_cons h1 h2 hs
theorem g_tup {ts : List Tg} {es : List Expr} {k : Nat} (hc : X.calm = true) (h : PGsv X es ts) (hl : (assignEach es X.env).length = ts.length := by rfl) (hst : (assignEach es X.env).findIdx? (·.1) = none := by rfl) : PGv X (.Tuple es k pos) (.tp ts) := by
  have A := pg_tup (pos := pos) (k := k) hc h hl hst
  have B := pg_lst (pos := pos) (k := k) hc h hl hst
  show PG X _ (gOf X.K (.tp ts))
  simp only [gOf]
  refine ⟨fun pins s σ H v u Q I r h => ?_⟩
  rcases h with h | h
  · exact A.run pins s σ H v u Q I r h
  · exact B.run pins s σ H v u Q I r h
/-- a, b = e -/
def sAsg (t : Tg) (f : M D) : M Fl := M.bind f fun d ρ => match asg t d ρ with
  | some ρ' => .ok .nx ρ'
  | none => .stuck
theorem s_asg {tg : Expr} {t : Tg} (he : PEv X c e wa ra ba fe) (hg : PGv X tg t) (hm : t.owns c := by rfl) (hs : swapsWithSole [tg] e pos.line X.env = pure false := by rfl) (hw : swappedStores [tg] e X.env = pure none := by rfl)
    (h1 : (assignEach [tg] X.env).map (·.2) = [assign tg X.env] := by rfl) : PSv X c (.Assign [tg] e pos) (wa ++ t.ids) (sAsg t fe) := by
  refine PS.imp (ps_asg he hg hs hw h1) fun N σ H w => ?_
  obtain ⟨Z, ρ, F, S, p⟩ := w
  refine tS_one S p (fun _ h => List.mem_append_left _ h) (fun _ _ _ => trivial) fun d ρ1 v H1 F1 G st S1 r O p1 => ?_
  cases e : asg t d ρ1 with
  | none => simp only [e] at p1; exact p1.elim
  | some ρ' =>
    simp only [e] at p1
    exact tg_ok t Z ρ1 F1 σ H1 d v G ρ' _ (Tg.owns_iff.mp hm) S1 r e fun σ' F' st' S' _ _ => p1 σ' H1 F' (st.trans st') S'
/-- a, b = x, y with plain local names -/
def sPar (i j : Nat) (f : M (List D)) : M Fl := M.bind f fun ds ρ => match ds with
  | [d, e] => if d.imm && e.imm then .ok .nx ((ρ.set i (some d)).set j (some e)) else .stuck
  | _ => .stuck
theorem Step.put0 {H H1 : Hp} {F F1 : Nat → Fp} {i : Nat} (st : Step wa H F H1 F1) (h1 : ∀ j ∈ wa, j ∈ ws) (hi : i ∈ ws) : Step ws H F H1 (updF F1 i []) where
  keep := (st.mono h1).keep
  dom := st.dom
  tb := st.tb
  same := fun j hj => by
    have e : j ≠ i := fun e => hj (e ▸ hi)
    rw [updF_ne e]
    exact (st.mono h1).same j hj
  wr := fun j hj a ha => by
    by_cases e : j = i
    · rw [e, updF_same] at ha; cases ha
    · rw [updF_ne e] at ha
      exact (st.mono h1).wr j hj a ha
theorem s_par (i j : Nat) {x y : Str} {a b : Expr} {fl : M (List D)} {px py pt : Pos} {kt k2 pt2} (hc : X.calm = true) (hN : X.N.Nodup) (ha : PAv X c [a, b] wa ra ba fl) (hmi : c.md i = .own := by rfl) (hmj : c.md j = .own := by rfl) (hi : X.N[i]? = some x := by rfl) (hj : X.N[j]? = some y := by rfl) (hij : i ≠ j := by decide)
    (hx : X.env.scope.names.lookup x = some .local := by rfl) (hy : X.env.scope.names.lookup y = some .local := by rfl)
    (hw : swappedStores [.Tuple [.Name x px, .Name y py] kt pt] (.Tuple [a, b] k2 pt2) X.env = pure (some [x, y]) := by rfl)
    (hs : swapsWithSole [.Tuple [.Name x px, .Name y py] kt pt] (.Tuple [a, b] k2 pt2) pos.line X.env = pure false := by rfl) :
    PSv X c (.Assign [.Tuple [.Name x px, .Name y py] kt pt] (.Tuple [a, b] k2 pt2) pos) (wa ++ [i, j]) (sPar i j fl) := by
  refine PS.imp (ps_par hc hN hi hj hij hx hy ha hw hs) fun N σ H q => ?_
  obtain ⟨Z, ρ, F, S, p⟩ := q
  refine tS_one S p (fun _ h => List.mem_append_left _ h) (fun _ _ _ => trivial) fun ds ρ1 vs H1 F1 G st S1 r O p1 => ?_
  match ds, r, p1 with
  | [], r, p1 => exact p1.elim
  | [_], r, p1 => exact p1.elim
  | _ :: _ :: _ :: _, r, p1 => exact p1.elim
  | [d, e], r, p1 =>
    simp only [RepL] at r
    obtain ⟨v, r1, G1, G2, rfl, rfl, q1, w, r2, G3, G4, rfl, rfl, q2, rfl, rfl⟩ := r
    simp only [] at p1
    split at p1
    · rename_i im
      have im := Bool.and_eq_true_iff.mp im
      have e1 := Rep.imm _ _ _ q1 im.1
      have e2 := Rep.imm _ _ _ q2 im.2
      rw [e1] at q1
      rw [e2] at q2
      have n0 : ∀ (Y : Nat → Fp), ∀ a ∈ ([] : Fp), ∀ k, a ∉ Y k := fun _ _ z => nomatch z
      have z0 : ∀ a ∈ ([] : Fp), Z a = none := fun _ z => nomatch z
      exact ⟨v, w, rfl, p1 _ H1 _ ((st.put0 (fun _ h => List.mem_append_left _ h) (List.mem_append_right _ (by simp))).put0 (fun _ h => h) (List.mem_append_right _ (by simp)))
        ((S1.put hmi q1 List.Pairwise.nil (n0 _) z0).put hmj q2 List.Pairwise.nil (n0 _) z0)⟩
    · exact p1.elim
def sRet (f : M D) : M Fl := M.bind f fun d => M.pur (.ret d)
theorem Own.fr0 {Z H : Hp} {F F' : Nat → Fp} {G : Fp} {rs : List Nat} (O : Own ws rs true Z H F F' G) (rs' : List Nat) : Own ws rs' true Z H F F' G := ⟨O.fr, fun a ha => .inl ((O.fr rfl).2 a ha)⟩
theorem s_ret {bb0 : Bool} (he : PEv X c e wa ra bb0 fe) (hb0 : bb0 = true := by rfl) : PSv X c (.Return (some e) pos) wa (sRet fe) := by
  subst hb0
  refine PS.imp (ps_ret he) fun N σ H q => ?_
  obtain ⟨Z, ρ, F, S, p⟩ := q
  refine tS_one S p (fun _ h => h) (fun _ _ _ => trivial) fun d ρ1 v H1 F1 G st S1 r O p1 => ?_
  exact p1 v σ H1 F1 G st S1 r (O.fr0 [])
def sExpr (f : M D) : M Fl := M.bind f fun _ => M.pur .nx
theorem s_expr (he : PEv X c e wa ra ba fe) (hs : swapsWith e none pos.line X.env = pure false := by rfl) : PSv X c (.Expr e pos) wa (sExpr fe) := by
  refine PS.imp (ps_expr he hs) fun N σ H q => ?_
  obtain ⟨Z, ρ, F, S, p⟩ := q
  refine tS_one S p (fun _ h => h) (fun _ _ _ => trivial) fun d ρ1 v H1 F1 G st S1 r O p1 => ?_
  exact p1 σ H1 F1 st S1
theorem s_doc {x j pos pos'} : PSv X c (.Expr (.Constant (.str x) j pos) pos') [] sNx := by
  refine PS.imp ps_doc fun N σ H q => ?_
  obtain ⟨Z, ρ, F, S, p⟩ := q
  exact p σ H F Step.refl S
theorem s_pass : PSv X c (.Pass pos) [] sNx := by
  refine PS.imp ps_pass fun N σ H q => ?_
  obtain ⟨Z, ρ, F, S, p⟩ := q
  exact p σ H F Step.refl S
theorem s_break : PSv X c (.Break pos) [] (M.pur .brk) := by
  refine PS.imp ps_break fun N σ H q => ?_
  obtain ⟨Z, ρ, F, S, p⟩ := q
  exact p σ H F Step.refl S
theorem s_cont : PSv X c (.Continue pos) [] (M.pur .ct) := by
  refine PS.imp ps_continue fun N σ H q => ?_
  obtain ⟨Z, ρ, F, S, p⟩ := q
  exact p σ H F Step.refl S
def sIf (t : M Bool) (f g : M Fl) : M Fl := M.bind t fun b => if b then f else g
theorem s_if {t : Expr} {a b : List Stmt} {wt : List Nat} {ft : M Bool} (ht : PTv X c t wt ft) (ha : PSsv X c a wa f) (hb : PSsv X c b wb g) : PSv X c (.If t a b pos) (wt ++ (wa ++ wb)) (sIf ft f g) := by
  refine PS.imp (ps_if ht ha hb) fun N σ H q => ?_
  obtain ⟨Z, ρ, F, S, p⟩ := q
  refine tS_one S p (fun _ h => List.mem_append_left _ h) (fun _ _ _ => trivial) fun d ρ1 v H1 F1 G st S1 r O p1 => ?_
  obtain ⟨e, e2⟩ := r
  subst e
  have hl : ∀ i ∈ wt, i ∈ wt ++ (wa ++ wb) := fun _ h => List.mem_append_left _ h
  cases d with
  | true => rw [if_pos rfl]; exact ⟨Z, ρ1, F1, S1, p1.shift st hl fun _ h => List.mem_append_right _ (List.mem_append_left _ h)⟩
  | false => rw [if_neg Bool.false_ne_true]; exact ⟨Z, ρ1, F1, S1, p1.shift st hl fun _ h => List.mem_append_right _ (List.mem_append_right _ h)⟩
/-- name op= e: numbers, texts -/
def sAug (i : Nat) (g : D → D → Option D) (f : M D) : M Fl := fun ρ => match ρ[i]? with
  | some (some x) => if x.imm then M.bind f (fun y => M.bind (M.opt (g x y)) fun z ρ' => if z.imm then .ok .nx (ρ'.set i (some z)) else .stuck) ρ else .stuck
  | _ => .stuck
theorem s_aug (i : Nat) {x : Str} {op : Operator} {g : D → D → Option D} {pos' : Pos} (ho : PIp X op (rD X.K g)) (he : PEv X c e wa ra ba fe) (hm : c.md i = .own := by rfl) (hN : X.N.Nodup) (hi : X.N[i]? = some x := by rfl) (hx : Loc X.env.scope x := by first | exact Or.inl rfl | exact Or.inr rfl) (hf : X.fn x = true ∨ X.env.scope.names.lookup x = some .local := by first | exact .inl rfl | exact .inr rfl | assumption) :
    PSv X c (.AugAssign (.Name x pos') op e pos) (wa ++ [i]) (sAug i g fe) := by
  refine PS.imp (ps_aug hN hi hx he ho hf) fun N σ H q => ?_
  obtain ⟨Z, ρ, F, S, p⟩ := q
  unfold sAug at p
  split at p
  · rename_i d e
    obtain ⟨v, h1, h2⟩ := S.own i d (by rw [hm]; exact fun z => nomatch z) e
    split at p
    · rename_i im
      have g0 := Rep.imm d v _ h2 im
      rw [g0] at h2
      refine ⟨v, h1, ?_⟩
      refine tS_one S p (fun _ h => List.mem_append_left _ h) (fun _ _ _ => trivial) fun y ρ1 w H1 F1 G st S1 r O p1 => ?_
      unfold M.bind at p1
      cases eg : g d y with
      | none => rw [eg] at p1; exact p1.elim
      | some z =>
        rw [eg] at p1
        simp only [M.opt] at p1
        split at p1
        · rename_i iz
          refine ⟨d, y, [], G, z, Rep.keep _ _ _ h2 (S.keeps st fun _ z => nomatch z), r, eg, fun u H' G' es rr nd nw => ?_⟩
          have g1 := Rep.imm z u _ rr iz
          rw [g1] at rr
          have S2 := S1.same es
          exact p1 _ _ _ (((st.trans (Step.of es)).mono (ws := wa ++ [i]) fun i hi => by simp at hi ⊢; exact .inl hi).put0 (fun _ h => h) (List.mem_append_right _ (by simp))) (S2.put hm rr List.Pairwise.nil (fun _ z => nomatch z) (fun _ z => nomatch z))
        · exact p1.elim
    · exact p.elim
  · exact p.elim
/-- raise X('..') -/
def sRaise (x : Str) : M Fl := fun ρ => .err x ρ
theorem s_raise {x : Str} {a : Addr} {t : L2.St → Hp → XK → Prop} (hc : X.calm = true) (tk : L2N.Takes X c.W) (hx : c.ex x = .ref a) (he : L2N.PMk X e (fun _ H Q => Q (.ref a) none H)) : PSv X c (.Raise (some e) none pos) [] (sRaise x) := by
  refine PS.imp (L2N.ps_raise hc tk he) fun N σ H q => ?_
  obtain ⟨Z, ρ, F, S, p⟩ := q
  have z := p σ H F Step.refl S
  rw [hx] at z
  exact z

/-! ### while -/
def sWhile (n : Nat) (t : M Bool) (b : M Fl) : M Fl := match n with
  | 0 => fun _ => .stuck
  | n + 1 => M.bind t fun k => if k then M.bind b (fun x => match x with
      | .nx => sWhile n t b
      | .ct => sWhile n t b
      | .brk => M.pur .nx
      | .ret d => M.pur (.ret d)) else M.pur .nx
theorem s_while (n : Nat) {t : Expr} {body : List Stmt} {wt : List Nat} {ft : M Bool} (hp : PassesOwn (model X.prog X.w) X.A X.env X.xe) (ht : PTv X c t wt ft) (hb : PSsv X c body wb f) : PSv X c (.While t body [] pos) (wt ++ wb) (sWhile n ft f) := by
  refine PS.imp (ps_while hp ht hb) fun N σ H q => ?_
  obtain ⟨Z, ρ, F, S, p⟩ := q
  have l1 : ∀ i ∈ wt, i ∈ wt ++ wb := fun _ h => List.mem_append_left _ h
  have l2 : ∀ i ∈ wb, i ∈ wt ++ wb := fun _ h => List.mem_append_right _ h
  refine ⟨fun m σ' H' => ∃ ρ' F', Sim X.K c Z ρ' σ' H' F' ∧ PostS X.K c (wt ++ wb) Z H' F' N (sWhile m ft f ρ'), ⟨n, ρ, F, S, p⟩, ?_⟩
  rintro m σ1 H1 ⟨ρ1, F1, S1, p1⟩
  cases m with
  | zero => exact p1.elim
  | succ m =>
    unfold sWhile at p1
    refine tS_one S1 p1 l1 (fun _ _ _ => trivial) fun d ρ2 v H2 F2 G st S2 r O p2 => ?_
    obtain ⟨e, e2⟩ := r
    subst e
    have p3 := p2.shift st l1 (fun _ h => h)
    cases d with
    | false =>
      rw [if_neg Bool.false_ne_true]
      exact p3 σ1 H2 F2 (Step.refl.mono fun _ h => nomatch h) S2
    | true =>
      rw [if_pos rfl]
      simp only [if_true] at p3
      refine ⟨fun σ' H' => ∃ ρ' F', Sim X.K c Z ρ' σ' H' F' ∧ PostS X.K c (wt ++ wb) Z H' F' N (sWhile m ft f ρ'), fun σ' H' w => ⟨m, Nat.lt_succ_self m, w⟩, Z, ρ2, F2, S2, ?_⟩
      unfold M.bind at p3
      cases q : f ρ2 with
      | stuck => rw [q] at p3; exact p3.elim
      | err x ρ3 => rw [q] at p3; exact p3.mono l2
      | ok x ρ3 =>
        rw [q] at p3
        cases x with
        | nx => exact fun σ' H' F' st' S' => ⟨ρ3, F', S', p3.shift st' l2 fun _ h => h⟩
        | ct => exact fun σ' H' F' st' S' => ⟨ρ3, F', S', p3.shift st' l2 fun _ h => h⟩
        | brk => exact p3.mono l2
        | ret d => exact p3.mono l2

/-! ### what is walked -/
/-- J gives the items ds, while what it leans on stands -/
structure Gives (K : PySem.W.Frag) (J : It) (ds : List D) (H0 : Hp) (GG : Fp) : Prop where
  go : ∀ i H, Keeps H0 H GG → i < ds.length → J.go i H
  stop : ∀ H, Keeps H0 H GG → J.stop ds.length H
  yld : ∀ i H x H', Keeps H0 H GG → i < ds.length → J.yld i H x H' → Same H H' ∧ ∃ d G, ds[i]? = some d ∧ Rep K H' d x G ∧ ∀ a ∈ G, a ∈ GG
def tI (K : PySem.W.Frag) (c : Cfg) (ws rs : List Nat) (f : M (List D)) : TI := fun σ H R => ∃ Z ρ F, Sim K c Z ρ σ H F ∧ match f ρ with
  | .ok ds ρ' => ∀ J H' F' GG, Step ws H F H' F' → Sim K c Z ρ' σ H' F' → Gives K J ds H' GG → (∀ a ∈ GG, IsM (H' a)) → Own ws rs false Z H F F' GG → R J H'
  | .err e ρ' => ∀ H' F', Step ws H F H' F' → Sim K c Z ρ' σ H' F' → c.W (c.ex e) none σ H'
  | .stuck => False
abbrev PIv (X : Cx) (c : Cfg) (tg iter : Expr) (ws rs : List Nat) (f : M (List D)) : Prop := PI X tg iter (tI X.K c ws rs f)
theorem PI.imp {tg iter : Expr} {t t' : TI} (h : PI X tg iter t) (w : ∀ σ H R, t' σ H R → t σ H R) : PI X tg iter t' := ⟨fun pins s σ H R I q => h.run pins s σ H R I (w σ H R q)⟩

def sFor (t : Tg) (b : M Fl) : List D → M Fl
  | [] => M.pur .nx
  | x :: r => fun ρ => match asg t x ρ with
    | none => .stuck
    | some ρ1 => match b ρ1 with
      | .ok .nx ρ2 => sFor t b r ρ2
      | .ok .ct ρ2 => sFor t b r ρ2
      | .ok .brk ρ2 => .ok .nx ρ2
      | .ok (.ret d) ρ2 => .ok (.ret d) ρ2
      | .err e ρ2 => .err e ρ2
      | .stuck => .stuck
theorem s_for {tg iter : Expr} {body : List Stmt} {wi rs : List Nat} {fi : M (List D)} {t : Tg} (hp : PassesOwn (model X.prog X.w) X.A X.env X.xe) (hc : X.calm = true) (hi : PIv X c tg iter wi rs fi) (hg : PGv X tg t) (hb : PSsv X c body wb f)
    (dis : ∀ j ∈ rs, j ∉ t.ids ++ wb := by decide) (hm : t.owns c := by rfl) (hs : ∀ x, foldedSetIterable iter X.env x = pure x := by intro _; rfl) : PSv X c (.For tg iter body [] pos) (wi ++ (t.ids ++ wb)) (M.bind fi (sFor t f)) := by
  refine PS.imp (ps_for hp hc hi hg hb hs) fun N σ H q => ?_
  obtain ⟨Z, ρ, F, S, p⟩ := q
  generalize hvs : t.ids = vs at *
  have l1 : ∀ i ∈ wi, i ∈ wi ++ (vs ++ wb) := fun _ h => List.mem_append_left _ h
  have l2 : ∀ i ∈ vs ++ wb, i ∈ wi ++ (vs ++ wb) := fun _ h => List.mem_append_right _ h
  have lv : ∀ i ∈ vs, i ∈ vs ++ wb := fun _ h => List.mem_append_left _ h
  have lb : ∀ i ∈ wb, i ∈ vs ++ wb := fun _ h => List.mem_append_right _ h
  refine ⟨Z, ρ, F, S, ?_⟩
  unfold M.bind at p
  cases e : fi ρ with
  | stuck => rw [e] at p; exact p.elim
  | err x ρ1 => rw [e] at p; exact fun H' F' st S' => p σ H' F' (st.mono l1) S'
  | ok ds ρ1 =>
    rw [e] at p
    simp only [] at p
    intro J H1 F1 GG st1 S1 gv im O
    have p1 := p.shift st1 l1 l2
    have out := O.out (F' := F1) (H' := H1) S1 dis
    refine ⟨fun i m σ' H' => m = ds.length - i ∧ i ≤ ds.length ∧ ∃ ρ' F', Sim X.K c Z ρ' σ' H' F' ∧ Step (vs ++ wb) H1 F1 H' F' ∧ PostS X.K c (vs ++ wb) Z H' F' N (sFor t f (ds.drop i) ρ'), ⟨ds.length, rfl, Nat.zero_le _, ρ1, F1, S1, Step.refl.mono (fun _ h => nomatch h), by simpa using p1⟩, ?_⟩
    rintro i m σ2 H2 ⟨rfl, hle, ρ2, F2, S2, st2, p2⟩
    have kp : Keeps H1 H2 GG := S1.keeps st2 fun a ha => ⟨im a ha, out a ha⟩
    by_cases hlt : i < ds.length
    · refine .inr ⟨gv.go i H2 kp hlt, fun σ' H' => ∃ ρ' F', Sim X.K c Z ρ' σ' H' F' ∧ Step (vs ++ wb) H1 F1 H' F' ∧ PostS X.K c (vs ++ wb) Z H' F' N (sFor t f (ds.drop (i + 1)) ρ'), fun σ' H' w => ⟨ds.length - (i + 1), by omega, rfl, hlt, w⟩, fun x H3 y => ?_⟩
      obtain ⟨sm, d, G, ed, rd, sub⟩ := gv.yld i H2 x H3 kp hlt y
      have ed' : ds.drop i = d :: ds.drop (i + 1) := by
        rw [List.drop_eq_getElem_cons hlt]
        rw [List.getElem?_eq_getElem hlt] at ed
        rw [Option.some.inj ed]
      rw [ed'] at p2
      unfold sFor at p2
      have S3 := S2.same sm
      have st3 : Step (vs ++ wb) H1 F1 H3 F2 := (st2.trans (Step.of sm)).mono fun j hj => by simpa using hj
      cases ea : asg t d ρ2 with
      | none => simp only [ea] at p2; exact p2.elim
      | some ρ3 =>
        simp only [ea] at p2
        have p3 := p2.shift (w1 := []) (Step.of sm) (fun _ h => nomatch h) (fun _ h => h)
        refine tg_ok t Z ρ2 F2 σ2 H3 d x G ρ3 _ (Tg.owns_iff.mp hm) S3 rd ea fun σ3 F3 st4 S4 _ _ => ⟨Z, ρ3, F3, S4, ?_⟩
        rw [hvs] at st4
        have p4 := p3.shift st4 lv (fun _ h => h)
        cases q : f ρ3 with
        | stuck => simp only [q] at p4; exact p4.elim
        | err x ρ4 => simp only [q] at p4; exact p4.mono lb
        | ok x ρ4 =>
          simp only [q] at p4
          cases x with
          | nx => exact fun σ' H' F' st' S' => ⟨ρ4, F', S', ((st3.trans st4).trans st').mono (fun j hj => (List.mem_append.mp hj).elim (fun h => (List.mem_append.mp h).elim (fun h => h) (lv j)) (lb j)), p4.shift st' lb fun _ h => h⟩
          | ct => exact fun σ' H' F' st' S' => ⟨ρ4, F', S', ((st3.trans st4).trans st').mono (fun j hj => (List.mem_append.mp hj).elim (fun h => (List.mem_append.mp h).elim (fun h => h) (lv j)) (lb j)), p4.shift st' lb fun _ h => h⟩
          | brk => exact p4.mono lb
          | ret d => exact p4.mono lb
    · have e : i = ds.length := by omega
      subst e
      rw [List.drop_length] at p2
      exact .inl ⟨gv.stop H2 kp, p2 σ2 H2 F2 (Step.refl.mono fun _ h => nomatch h) S2⟩
end
end Mw

namespace Mw
open PySem PySem.Spec L2
open PyProof.Rows hiding St

/-! ### comprehensions -/
def wipeE (ρ : Env) : List Nat → Env
  | [] => ρ
  | v :: vs => (wipeE ρ vs).set v none
theorem wipeE_len (ρ : Env) : ∀ vs : List Nat, (wipeE ρ vs).length = ρ.length
  | [] => rfl
  | v :: vs => by unfold wipeE; rw [List.length_set, wipeE_len ρ vs]
theorem wipeE_get {ρ : Env} {j : Nat} : ∀ {vs : List Nat}, (wipeE ρ vs)[j]? = if j ∈ vs then ρ[j]?.map (fun _ => none) else ρ[j]? := by
  intro vs
  induction vs with
  | nil => simp [wipeE]
  | cons i r ih =>
    have e : wipeE ρ (i :: r) = (wipeE ρ r).set i none := rfl
    rw [e]
    by_cases h : i = j
    · subst h
      rw [List.getElem?_set_self', ih]
      simp only [List.mem_cons, true_or, if_true]
      split <;> (cases ρ[i]? <;> rfl)
    · rw [List.getElem?_set_ne h, ih]
      simp only [List.mem_cons, show (j = i) = False from eq_false (Ne.symm h), false_or]
/-- the block's own names get back what they had outside -/
def unwipe (ρ0 : Env) (ρ : Env) : List Nat → Env
  | [] => ρ
  | v :: vs => (unwipe ρ0 ρ vs).set v ((ρ0[v]?).getD none)
theorem unwipe_len (ρ0 ρ : Env) : ∀ vs : List Nat, (unwipe ρ0 ρ vs).length = ρ.length
  | [] => rfl
  | v :: vs => by unfold unwipe; rw [List.length_set, unwipe_len ρ0 ρ vs]
theorem unwipe_get {ρ0 ρ : Env} {j : Nat} {d : D} : ∀ {vs : List Nat}, (unwipe ρ0 ρ vs)[j]? = some (some d) → (j ∈ vs ∧ ρ0[j]? = some (some d)) ∨ (j ∉ vs ∧ ρ[j]? = some (some d)) := by
  intro vs
  induction vs with
  | nil => intro h; exact .inr ⟨by simp, h⟩
  | cons i r ih =>
    intro h
    have e : unwipe ρ0 ρ (i :: r) = (unwipe ρ0 ρ r).set i ((ρ0[i]?).getD none) := rfl
    rw [e] at h
    rcases set_get h with ⟨e1, e2⟩ | ⟨e1, e2⟩
    · refine .inl ⟨by simp [e1], ?_⟩
      rw [e1]
      cases q : ρ0[i]? with
      | none => rw [q] at e2; simp at e2
      | some x => rw [q] at e2; simp at e2; rw [← e2]
    · rcases ih e2 with ⟨a, b⟩ | ⟨a, b⟩
      · exact .inl ⟨List.mem_cons_of_mem _ a, b⟩
      · exact .inr ⟨by simp [e1, a], b⟩
/-- the block's own names hold nothing that can change -/
def clean (ρ : Env) (vs : List Nat) : Bool := vs.all fun i => match ρ[i]? with
  | some (some d) => d.imm
  | _ => true
def comp (t : Tg) (tt : M Bool) (te : M D) : List D → M (List D)
  | [] => M.pur []
  | x :: r => fun ρ => match asg t x (wipeE ρ t.ids) with
    | none => .stuck
    | some ρ1 => match tt ρ1 with
      | .ok false ρ2 => comp t tt te r ρ2
      | .ok true ρ2 => match te ρ2 with
        | .ok d ρ3 => match comp t tt te r ρ3 with
          | .ok ds ρ4 => .ok (d :: ds) ρ4
          | _ => .stuck
        | _ => .stuck
      | _ => .stuck
def eLc (t : Tg) (fi : M (List D)) (tt : M Bool) (te : M D) : M D := M.bind fi fun xs ρ1 =>
  if clean ρ1 t.ids && decide (xs.length ≤ 16777216) then match comp t tt te xs ρ1 with
    | .ok ds ρ2 => .ok (.lst ds) (unwipe ρ1 ρ2 t.ids)
    | _ => .stuck
  else .stuck
theorem comp_len {t : Tg} {tt : M Bool} {te : M D} : ∀ {xs : List D} {ρ ρ' : Env} {ds : List D}, comp t tt te xs ρ = .ok ds ρ' → ds.length ≤ xs.length
  | [], _, _, _, h => by
    simp only [comp, M.pur] at h
    cases h
    exact Nat.le_refl _
  | x :: r, ρ, ρ', ds, h => by
    simp only [comp] at h
    split at h
    · cases h
    · split at h
      · exact Nat.le_succ_of_le (comp_len h)
      · split at h
        · split at h
          · rename_i e
            cases h
            exact Nat.succ_le_succ (comp_len e)
          · cases h
        · cases h
      · cases h
abbrev Cfg.q (c : Cfg) : Cfg := { c with W := fun _ _ _ _ => False }
section
variable {K : PySem.W.Frag} {c : Cfg} {Z H : Hp} {F : Nat → Fp} {ρ ρ0 : Env} {σ : L2.St} {vs : List Nat}
theorem Sim.q (S : Sim K c Z ρ σ H F) : Sim K c.q Z ρ σ H F := ⟨S.zs, S.zt, S.tab, S.len, S.brw, S.own, S.fix, S.nd, S.dj, S.fz, S.mu⟩
theorem Sim.unq (S : Sim K c.q Z ρ σ H F) : Sim K c Z ρ σ H F := ⟨S.zs, S.zt, S.tab, S.len, S.brw, S.own, S.fix, S.nd, S.dj, S.fz, S.mu⟩
theorem Sim.wiped (S : Sim K c Z ρ σ H F) (hm : ∀ i ∈ vs, c.md i = .own) : Sim K c Z (wipeE ρ vs) (wipe σ vs) H F := by
  have get : ∀ i d, (wipeE ρ vs)[i]? = some (some d) → i ∉ vs ∧ ρ[i]? = some (some d) := fun i d h => by
    rw [wipeE_get] at h
    by_cases hi : i ∈ vs
    · rw [if_pos hi] at h
      cases q : ρ[i]? <;> rw [q] at h <;> cases h
    · rw [if_neg hi] at h; exact ⟨hi, h⟩
  have sg : ∀ i, i ∉ vs → (L2.wipe σ vs)[i]? = σ[i]? := fun i hi => by rw [wipe_get, if_neg hi]
  refine ⟨S.zs, S.zt, S.tab, by rw [wipeE_len, wipe_length]; exact S.len, fun i d m q => ?_, fun i d m q => ?_, fun i v m => ?_, S.nd, S.dj, S.fz, S.mu⟩
  · obtain ⟨hi, q⟩ := get i d q
    rw [sg i hi]; exact S.brw i d m q
  · obtain ⟨hi, q⟩ := get i d q
    rw [sg i hi]; exact S.own i d m q
  · have hi : i ∉ vs := fun z => by rw [hm i z] at m; cases m
    rw [sg i hi]; exact S.fix i v m
/-- behind the block -/
theorem Sim.unwiped {H1 : Hp} {F1 : Nat → Fp} (S : Sim K c Z (wipeE ρ vs) (L2.wipe σ vs) H F) (S0 : Sim K c Z ρ0 σ H1 F1) (hc : clean ρ0 vs = true) (hm : ∀ i ∈ vs, c.md i = .own) (kp : Keeps H1 H []) :
    Sim K c Z (Mw.unwipe ρ0 ρ vs) σ H (fun i => if i ∈ vs then [] else F i) := by
  have sub : ∀ i, ∀ a ∈ (if i ∈ vs then [] else F i), a ∈ F i := fun i a h => by
    by_cases hi : i ∈ vs
    · rw [if_pos hi] at h; cases h
    · rw [if_neg hi] at h; exact h
  have sg : ∀ i, i ∉ vs → (L2.wipe σ vs)[i]? = σ[i]? := fun i hi => by rw [wipe_get, if_neg hi]
  have eg : ∀ i, i ∉ vs → (wipeE ρ vs)[i]? = ρ[i]? := fun i hi => by rw [wipeE_get, if_neg hi]
  have hl : ρ.length = σ.length := by
    have z := S.len
    rwa [wipeE_len, wipe_length] at z
  refine ⟨S.zs, S.zt, S.tab, by rw [unwipe_len, hl], fun i d m q => ?_, fun i d m q => ?_, S0.fix, fun i => ?_, fun i j ne a ha hb => S.dj i j ne a (sub i a ha) (sub j a hb), fun i a ha => S.fz i a (sub i a ha), fun i a ha => S.mu i a (sub i a ha)⟩
  · rcases unwipe_get q with ⟨hi, _⟩ | ⟨hi, q⟩
    · rw [hm i hi] at m; cases m
    · rw [← sg i hi]; rw [← eg i hi] at q; exact S.brw i d m q
  · rcases unwipe_get q with ⟨hi, q⟩ | ⟨hi, q⟩
    · obtain ⟨v, h1, h2⟩ := S0.own i d m q
      have im : d.imm = true := by
        have z := (List.all_eq_true.mp hc) i hi
        rw [q] at z; exact z
      have g := Rep.imm d v _ h2 im
      rw [g] at h2
      exact ⟨v, h1, by rw [if_pos hi]; exact Rep.keep _ _ _ h2 kp⟩
    · rw [← sg i hi, if_neg hi]; rw [← eg i hi] at q; exact S.own i d m q
  · by_cases hi : i ∈ vs
    · rw [if_pos hi]; exact List.Pairwise.nil
    · rw [if_neg hi]; exact S.nd i
theorem wipe_wipe : L2.wipe (L2.wipe σ vs) vs = L2.wipe σ vs := by
  refine List.ext_getElem? fun j => ?_
  rw [wipe_get, wipe_get]
  by_cases h : j ∈ vs
  · rw [if_pos h, if_pos h]; cases σ[j]? <;> rfl
  · rw [if_neg h, if_neg h]
theorem Keeps.upd {D : Addr} {o : HO} {G : Fp} (hD : IsM (H D)) (n : ∀ a ∈ G, a ≠ D) : Keeps H (L2.upd H D o) G := by
  refine ⟨fun a ha u e => by rw [upd_ne (n a ha)]; exact e, fun a xs e => ?_, fun a b u e => ?_⟩
  · rw [upd_ne (fun z => by rw [← z, e] at hD; exact hD)]; exact e
  · rw [upd_ne (fun z => by rw [← z, e] at hD; exact hD)]; exact e
/-- an object that is no name's is written -/
theorem Sim.temp {D : Addr} {o : HO} (S : Sim K c Z ρ σ H F) (hD : IsM (H D)) (nF : ∀ j, D ∉ F j) (hz : Z D = none) (ho : ∀ ps, o ≠ .tbl ps) : Sim K c Z ρ σ (upd H D o) F := by
  have kp : ∀ G : Fp, D ∉ G → Keeps H (L2.upd H D o) G := fun G n => Keeps.upd hD fun a ha z => n (by rw [← z]; exact ha)
  refine ⟨fun a u e => ?_, S.zt, fun p hp => ?_, S.len, fun i d m q => ?_, fun i d m q => ?_, S.fix, S.nd, S.dj, S.fz, fun i a ha => ?_⟩
  · rw [upd_ne (fun z => by rw [z, hz] at e; cases e)]; exact S.zs a u e
  · obtain ⟨ps, h1, h2, h3⟩ := S.tab p hp
    have n1 : p.1 ≠ D := fun z => by rw [z] at h1; rw [h1] at hD; exact hD
    refine ⟨ps, by rw [upd_ne n1]; exact h1, h2, fun pos cv hc => ?_⟩
    obtain ⟨a, e1, e2⟩ := h3 pos cv hc
    refine ⟨a, e1, ?_⟩
    rw [upd_ne]; exact e2
    intro z
    rw [z] at e2
    unfold LamX.CodeO at e2
    rw [e2] at hD; exact hD
  · obtain ⟨v, G, h1, h2, h3⟩ := S.brw i d m q
    exact ⟨v, G, h1, Rep.keep _ _ _ h2 (kp G fun z => h3 D z hz), h3⟩
  · obtain ⟨v, h1, h2⟩ := S.own i d m q
    exact ⟨v, h1, Rep.keep _ _ _ h2 (kp _ (nF i))⟩
  · rw [upd_ne (show a ≠ D from fun z => nF i (by rw [← z]; exact ha))]; exact S.mu i a ha
end
theorem Step.nin {ws : List Nat} {H H' : Hp} {F F' : Nat → Fp} {a : Addr} (st : Step ws H F H' F') (h : H a ≠ none) (n : ∀ j, a ∉ F j) : ∀ j, a ∉ F' j := fun j q => by
  by_cases hj : j ∈ ws
  · rcases st.wr j hj a q with e | ⟨i, _, e⟩
    · exact h e
    · exact n i e
  · rw [st.same j hj] at q
    exact n j q
theorem Step.upd {ws : List Nat} {H H1 : Hp} {F F' : Nat → Fp} {D : Addr} {o : HO} (st : Step ws H F H1 F') (h : H D = none) : Step ws H F (L2.upd H1 D o) F' where
  keep := fun a u e n q => by rw [upd_ne (show a ≠ D from fun z => by rw [z, h] at e; cases e)]; exact st.keep a u e n q
  dom := fun a e => by
    by_cases z : a = D
    · rw [z, upd_same]; exact fun z => nomatch z
    · rw [upd_ne z]; exact st.dom a e
  tb := fun a ps e => by rw [upd_ne (show a ≠ D from fun z => by rw [z, h] at e; cases e)]; exact st.tb a ps e
  same := st.same
  wr := st.wr
structure PTsv (X : Cx) (c : Cfg) (ifs : List Expr) (ws : List Nat) (f : M Bool) : Prop where
  h : PTs X ifs (tG repB X.K c ws [] true f)
theorem ts_nil {X : Cx} {c : Cfg} : PTsv X c [] [] (M.pur true) := by
  refine ⟨⟨fun pins s σ H Q I q => ?_⟩⟩
  obtain ⟨Z, ρ, F, S, p⟩ := q
  exact pts_nil.run pins s σ H Q I (p true H F [] Step.refl S ⟨rfl, rfl⟩ Own.nil)
theorem ts_one {X : Cx} {c : Cfg} {e : Expr} {ws : List Nat} {f : M Bool} (h : PTv X c e ws f) : PTsv X c [e] ws f := ⟨pts_one h⟩

/-- the comprehension's turns -/
theorem lc_run {K : PySem.W.Frag} {c : Cfg} {t : Tg} {wt we rs : List Nat} {ft : M Bool} {fe : M D} {J : It} {Z H1 : Hp} {F1 : Nat → Fp} {ρ1 : Env} {σ : L2.St} {ds : List D} {GG : Fp} {Q : VK} (hm : ∀ i ∈ t.ids, c.md i = .own)
    (S1 : Sim K c Z ρ1 σ H1 F1) (gv : Gives K J ds H1 GG) (im : ∀ a ∈ GG, IsM (H1 a)) (out : ∀ a ∈ GG, ∀ i ∈ t.ids ++ (wt ++ we), a ∉ F1 i) (hz : ds.length ≤ 16777216) {rd : List D} {ρ2 : Env} (e : comp t ft fe ds ρ1 = .ok rd ρ2)
    (fin : ∀ D H' F' G, Step (t.ids ++ (wt ++ we)) H1 F1 H' F' → Sim K c.q Z (wipeE ρ2 t.ids) (wipe σ t.ids) H' F' → Rep K H' (.lst rd) (.ref D) G → (∀ a ∈ G, IsM (H' a)) → (G.Nodup ∧ ∀ a ∈ G, (H1 a = none ∨ ∃ i ∈ t.ids ++ (wt ++ we), a ∈ F1 i) ∧ ∀ j, a ∉ F' j) → Q (.ref D) H') :
    ∀ D, H1 D = none → ∃ W : Nat → Nat → Hp → Prop, (∃ m, W 0 m (upd H1 D (.lst []))) ∧ ∀ i m H, W i m H →
      (J.stop i H ∧ Q (.ref D) H) ∨ (J.go i H ∧ ∃ Nx : Hp → Prop, (∀ H', Nx H' → ∃ m', m' < m ∧ W (i + 1) m' H') ∧ ∀ x H', J.yld i H x H' → gOf K t x (wipe σ t.ids) H' fun σ2 H2 => wipe σ2 t.ids = wipe σ t.ids ∧ tG repB K c.q wt [] true ft σ2 H2 fun b H3 =>
        if b = true then tG (Rep K) K c.q we [] true fe σ2 H3 fun y H4 => ∃ acc, H4 D = some (.lst acc) ∧ acc.length < sizeLine ∧ Nx (upd H4 D (.lst (acc ++ [y]))) else Nx H3) := by
  intro D hD
  generalize hvs : t.ids = vs at *
  have lv : ∀ i ∈ vs, i ∈ vs ++ (wt ++ we) := fun _ h => List.mem_append_left _ h
  have lt : ∀ i ∈ wt, i ∈ vs ++ (wt ++ we) := fun _ h => List.mem_append_right _ (List.mem_append_left _ h)
  have le : ∀ i ∈ we, i ∈ vs ++ (wt ++ we) := fun _ h => List.mem_append_right _ (List.mem_append_right _ h)
  -- the state at the i-th turn: acc is made, the rest will be
  let ST : Nat → Hp → Prop := fun i H => ∃ (acc : List V) (ad : List Mw.D) (Ga : Fp) (ρ : Env) (F : Nat → Fp) (rr : List Mw.D), Sim K c.q Z (wipeE ρ vs) (wipe σ vs) H F ∧ Step (vs ++ (wt ++ we)) H1 F1 H F ∧ H D = some (.lst acc) ∧ (∀ j, D ∉ F j) ∧ RepL K H ad acc Ga ∧ ad.length ≤ i ∧
    comp t ft fe (ds.drop i) ρ = .ok rr ρ2 ∧ rd = ad ++ rr ∧ (Ga.Nodup ∧ ∀ a ∈ Ga, a ≠ D ∧ (H1 a = none ∨ ∃ i ∈ vs ++ (wt ++ we), a ∈ F1 i) ∧ ∀ j, a ∉ F j)
  have zD : Z D = none := by
    cases q : Z D with
    | none => rfl
    | some o => have z := S1.zs D o q; rw [hD] at z; cases z
  have nF1 : ∀ j, D ∉ F1 j := fun j q => by have z := S1.mu j D q; rw [hD] at z; exact z
  have sm0 : Same H1 (upd H1 D (.lst [])) := same_upd hD
  refine ⟨fun i m H => m = ds.length - i ∧ i ≤ ds.length ∧ ST i H, ⟨ds.length, rfl, Nat.zero_le _, ⟨[], [], [], ρ1, F1, rd, (S1.q.wiped (vs := vs) hm).same sm0, (Step.of sm0).mono (fun _ h => nomatch h), upd_same, nF1, RepL.nil, Nat.le_refl _, by rw [List.drop_zero]; exact e, rfl, List.Pairwise.nil, fun _ h => nomatch h⟩⟩, ?_⟩
  rintro i m H ⟨rfl, hle, ⟨acc, ad, Ga, ρ, F, rr, S, st, hH, nD, rl, al, ec, erd, hga⟩⟩
  have kp : Keeps H1 H GG := S1.keeps st fun a ha => ⟨im a ha, out a ha⟩
  by_cases hlt : i < ds.length
  · refine .inr ⟨gv.go i H kp hlt, fun H' => ST (i + 1) H', fun H' w => ⟨ds.length - (i + 1), by omega, rfl, hlt, w⟩, fun x H3 y => ?_⟩
    obtain ⟨sm, d, G, ed, rdd, sub⟩ := gv.yld i H x H3 kp hlt y
    have ed' : ds.drop i = d :: ds.drop (i + 1) := by
      rw [List.drop_eq_getElem_cons hlt]
      rw [List.getElem?_eq_getElem hlt] at ed
      rw [Option.some.inj ed]
    rw [ed'] at ec
    simp only [comp, hvs] at ec
    cases ea : asg t d (wipeE ρ vs) with
    | none => simp only [ea] at ec; cases ec
    | some ρ3 =>
    simp only [ea] at ec
    have S3 := S.same sm
    have st3 : Step (vs ++ (wt ++ we)) H1 F1 H3 F := (st.trans (Step.of sm)).mono fun j hj => by simpa using hj
    have D3 : H3 D = some (.lst acc) := sm D _ hH
    refine tg_ok t Z (wipeE ρ vs) F (L2.wipe σ vs) H3 d x G ρ3 _ (by rw [hvs]; exact hm) S3 rdd ea fun σ4 F4 st4 S4 w4 z4 => ?_
    rw [hvs] at st4 w4
    rw [wipe_wipe] at w4
    refine ⟨w4, Z, ρ3, F4, S4, ?_⟩
    have n4 := st4.nin (by rw [D3]; exact fun z => nomatch z) nD
    have st4' : Step (vs ++ (wt ++ we)) H1 F1 H3 F4 := (st3.trans st4).mono fun j hj => (List.mem_append.mp hj).elim (fun h => h) (lv j)
    -- what is made so far stays through a step from here
    have stay : ∀ {w : List Nat} {Ha Hb : Hp} {Fa Fb : Nat → Fp} {ρa : Env} {σa : L2.St}, Sim K c.q Z ρa σa Ha Fa → Step w Ha Fa Hb Fb → Ha D = some (.lst acc) → (∀ j, D ∉ Fa j) → RepL K Ha ad acc Ga → (∀ a ∈ Ga, ∀ j, a ∉ Fa j) →
        Hb D = some (.lst acc) ∧ (∀ j, D ∉ Fb j) ∧ RepL K Hb ad acc Ga ∧ ∀ a ∈ Ga, ∀ j, a ∉ Fb j := fun Sa s hd nd rl ng => by
      have m := RepL.isM _ _ _ rl
      refine ⟨s.keep D _ hd (fun ps z => nomatch z) fun i _ => nd i, s.nin (by rw [hd]; exact fun z => nomatch z) nd, RepL.keep _ _ _ rl (Sa.keeps s fun a ha => ⟨m a ha, fun i _ => ng a ha i⟩), fun a ha => s.nin (m a ha).ne (ng a ha)⟩
    have rl3 : RepL K H3 ad acc Ga := RepL.keep _ _ _ rl (Same.keeps sm)
    have ng4 : ∀ a ∈ Ga, ∀ j, a ∉ F4 j := fun a ha => st4.nin (RepL.isM _ _ _ rl3 a ha).ne fun j => (hga.2 a ha).2.2 j
    cases et : ft ρ3 with
    | stuck => simp only [et] at ec; cases ec
    | err x ρ4 => simp only [et] at ec; cases ec
    | ok b ρ4 =>
    intro v H5 F5 G5 st5 S5 r5 O5
    obtain ⟨ev, _⟩ := r5
    subst ev
    obtain ⟨D5, n5, rl5, ng5⟩ := stay S4 st5 D3 n4 rl3 ng4
    have st5' : Step (vs ++ (wt ++ we)) H1 F1 H5 F5 := (st4'.trans st5).mono fun j hj => (List.mem_append.mp hj).elim (fun h => h) (lt j)
    cases b with
    | false =>
      simp only [et] at ec
      rw [if_neg Bool.false_ne_true]
      have S6 := S5.wiped (vs := vs) hm
      rw [w4] at S6
      exact ⟨acc, ad, Ga, ρ4, F5, rr, S6, st5', D5, n5, rl5, Nat.le_succ_of_le al, ec, erd, hga.1, fun a ha => ⟨(hga.2 a ha).1, (hga.2 a ha).2.1, ng5 a ha⟩⟩
    | true =>
      simp only [et] at ec
      rw [if_pos rfl]
      refine ⟨Z, ρ4, F5, S5, ?_⟩
      cases ee : fe ρ4 with
      | stuck => simp only [ee] at ec; cases ec
      | err x ρ5 => simp only [ee] at ec; cases ec
      | ok dd ρ5 =>
      simp only [ee] at ec
      cases er : comp t ft fe (ds.drop (i + 1)) ρ5 with
      | stuck => simp only [er] at ec; cases ec
      | err x ρ6 => simp only [er] at ec; cases ec
      | ok rr' ρ6 =>
      simp only [er] at ec
      cases ec
      intro y H6 F6 G6 st6 S6 r6 O6
      obtain ⟨D6, n6, rl6, ng6⟩ := stay S5 st6 D5 n5 rl5 ng5
      have st6' : Step (vs ++ (wt ++ we)) H1 F1 H6 F6 := (st5'.trans st6).mono fun j hj => (List.mem_append.mp hj).elim (fun h => h) (le j)
      have hlen : acc.length < sizeLine := by rw [rl.length, szl]; omega
      refine ⟨acc, D6, hlen, ?_⟩
      have fr := O6.fr rfl
      have mG : ∀ a ∈ G6, IsM (H6 a) := Rep.isM _ _ _ r6
      have old : ∀ a ∈ G6, ∀ b, H5 b ≠ none → (∀ j, b ∉ F5 j) → a ≠ b := fun a ha b hb nb z => by
        rcases (fr.2 a ha).1 with q | ⟨i, _, q⟩
        · rw [z] at q; exact hb q
        · rw [z] at q; exact nb i q
      have gD : ∀ a ∈ G6, a ≠ D := fun a ha => old a ha D (by rw [D5]; exact fun z => nomatch z) n5
      have gG : ∀ a ∈ Ga, a ∉ G6 := fun a ha q => old a q a (RepL.isM _ _ _ rl5 a ha).ne (ng5 a ha) rfl
      have S7 := (S6.wiped (vs := vs) hm)
      rw [w4] at S7
      have S8 := S7.temp (D := D) (o := .lst (acc ++ [y])) (by rw [D6]; exact True.intro) n6 zD (fun ps z => nomatch z)
      have kpt : ∀ G : Fp, (∀ a ∈ G, a ≠ D) → Keeps H6 (L2.upd H6 D (.lst (acc ++ [y]))) G := fun G n => Keeps.upd (by rw [D6]; exact True.intro) n
      have O7 := O6.shift (ws := vs ++ (wt ++ we)) st5' (fun _ h => h) le
      refine ⟨acc ++ [y], ad ++ [dd], Ga ++ G6, ρ5, F6, rr', S8, st6'.upd hD, upd_same, n6, ?_, ?_, er, ?_, ?_, fun a ha => ?_⟩
      · have one : RepL K H6 [dd] [y] G6 := by
          have z := RepL.cons r6 RepL.nil
          rwa [List.append_nil] at z
        exact RepL.append (RepL.keep _ _ _ rl6 (kpt _ fun a ha => (hga.2 a ha).1)) (RepL.keep _ _ _ one (kpt _ gD))
      · rw [List.length_append, List.length_singleton]; omega
      · rw [erd, List.append_assoc]; rfl
      · exact List.nodup_append.mpr ⟨hga.1, fr.1, fun a ha b hb e => gG a ha (e ▸ hb)⟩
      · rcases List.mem_append.mp ha with q | q
        · exact ⟨(hga.2 a q).1, (hga.2 a q).2.1, ng6 a q⟩
        · exact ⟨gD a q, ((O7.fr rfl).2 a q).1, (fr.2 a q).2⟩
  · have e : i = ds.length := by omega
    subst e
    rw [List.drop_length] at ec
    simp only [comp, M.pur] at ec
    cases ec
    rw [List.append_nil] at erd
    subst erd
    refine .inl ⟨gv.stop H kp, fin D H F (D :: Ga) st S (by simp only [Rep]; exact ⟨D, acc, Ga, rfl, rfl, hH, rl⟩) (fun a ha => ?_) ⟨?_, fun a ha => ?_⟩⟩
    · rcases List.mem_cons.mp ha with z | z
      · rw [z, hH]; exact True.intro
      · exact RepL.isM _ _ _ rl a z
    · exact List.nodup_cons.mpr ⟨fun z => (hga.2 D z).1 rfl, hga.1⟩
    · rcases List.mem_cons.mp ha with z | z
      · rw [z]; exact ⟨.inl hD, nD⟩
      · exact (hga.2 a z).2
section
variable {X : Cx} {c : Cfg}
/-- the run of a comprehension, for both of its rules -/
theorem lc_fin {t : Tg} {wi rs wt we : List Nat} {fi : M (List D)} {ft : M Bool} {fe : M D} (hm : t.owns c) (dis : ∀ j ∈ rs, j ∉ t.ids ++ (wt ++ we)) {Z H : Hp} {F : Nat → Fp} {ρ : Env} {σ : L2.St} {Q : VK} (S : Sim X.K c Z ρ σ H F)
    (p : ∀ d ρ', eLc t fi ft fe ρ = .ok d ρ' → ∀ v H' F' G, Step (wi ++ (t.ids ++ (wt ++ we))) H F H' F' → Sim X.K c Z ρ' σ H' F' → Rep X.K H' d v G → Own (wi ++ (t.ids ++ (wt ++ we))) [] true Z H F F' G → Q v H')
    (perr : ∀ e ρ', eLc t fi ft fe ρ = .err e ρ' → ∀ H' F', Step (wi ++ (t.ids ++ (wt ++ we))) H F H' F' → Sim X.K c Z ρ' σ H' F' → c.W (c.ex e) none σ H') (pst : eLc t fi ft fe ρ ≠ .stuck) :
    tLc (tI X.K c wi rs fi) (gOf X.K t) (tG repB X.K c.q wt [] true ft) (tG (Rep X.K) X.K c.q we [] true fe) t.ids σ H Q := by
  have hm' := Tg.owns_iff.mp hm
  refine ⟨Z, ρ, F, S, ?_⟩
  unfold eLc M.bind at p perr pst
  have l1 : ∀ i ∈ wi, i ∈ wi ++ (t.ids ++ (wt ++ we)) := fun _ h => List.mem_append_left _ h
  cases e : fi ρ with
  | stuck => rw [e] at pst; exact pst rfl
  | err x ρ1 => rw [e] at perr; exact fun H' F' st S' => perr x ρ1 rfl H' F' (st.mono l1) S'
  | ok ds ρ1 =>
    rw [e] at p pst
    simp only [] at p pst
    intro J H1 F1 GG st1 S1 gv im O
    cases hcl : (clean ρ1 t.ids && decide (ds.length ≤ 16777216)) with
    | false => rw [hcl] at pst; exact absurd rfl pst
    | true =>
      rw [hcl] at p pst
      simp only [if_true] at p pst
      obtain ⟨h1, h2⟩ := Bool.and_eq_true_iff.mp hcl
      have h2 := of_decide_eq_true h2
      cases ec : comp t ft fe ds ρ1 with
      | stuck => rw [ec] at pst; exact absurd rfl pst
      | err x ρ2 => rw [ec] at pst; exact absurd rfl pst
      | ok rd ρ2 =>
        rw [ec] at p
        simp only [] at p
        refine lc_run (rs := rs) hm' S1 gv im (O.out (F' := F1) (H' := H1) S1 dis) h2 ec fun D H' F' G st S' r mG fr => ?_
        have U := S'.unq.unwiped S1 h1 hm' (S1.keeps (G := []) st fun _ z => nomatch z)
        have st' : Step (t.ids ++ (wt ++ we)) H1 F1 H' (fun i => if i ∈ t.ids then [] else F' i) := by
          refine ⟨st.keep, st.dom, st.tb, fun j hj => ?_, fun j hj a ha => ?_⟩
          · rw [if_neg (fun z => hj (List.mem_append_left _ z))]; exact st.same j hj
          · by_cases z : j ∈ t.ids
            · rw [if_pos z] at ha; cases ha
            · rw [if_neg z] at ha; exact st.wr j hj a ha
        have O' : Own (t.ids ++ (wt ++ we)) [] true Z H1 F1 (fun i => if i ∈ t.ids then [] else F' i) G := by
          have key : ∀ a ∈ G, (H1 a = none ∨ ∃ i ∈ t.ids ++ (wt ++ we), a ∈ F1 i) ∧ ∀ j, a ∉ (if j ∈ t.ids then [] else F' j) := fun a ha => ⟨(fr.2 a ha).1, fun j q => by
            by_cases z : j ∈ t.ids
            · rw [if_pos z] at q; cases q
            · rw [if_neg z] at q; exact (fr.2 a ha).2 j q⟩
          exact ⟨fun _ => ⟨fr.1, key⟩, fun a ha => .inl (key a ha)⟩
        exact p _ _ rfl _ H' _ G (st1.trans st') U r (O'.shift st1 l1 fun _ h => List.mem_append_right _ h)
theorem v_lc {re0 : List Nat} {bb0 : Bool} {elt tg iter : Expr} {ifs : List Expr} {scope : Scope} {own : List (Str × Nat)} {pos : Pos} {t : Tg} {wi rs wt we : List Nat} {fi : M (List D)} {ft : M Bool} {fe : M D} (hc : X.calm = true) (hN : X.N.Nodup) (hi : PIv X c tg iter wi rs fi) (ok : BlkOk X.N X.env.scope scope own) (ho : own.map (·.2) = t.ids)
    (hg : ∀ (s : Shared) (H : Hp) (C : Addr) (cl : List (Str × Addr)) (fp : List Addr), PGv (X.blk s H scope (compEnvC scope cl C X.env) fp) tg t) (ht : ∀ (s : Shared) (H : Hp) (C : Addr) (cl : List (Str × Addr)) (fp : List Addr), PTsv (X.blk s H scope (compEnvC scope cl C X.env) fp) c.q ifs wt ft)
    (he : ∀ (s : Shared) (H : Hp) (C : Addr) (cl : List (Str × Addr)) (fp : List Addr), PEv (X.blk s H scope (compEnvC scope cl C X.env) fp) c.q elt we re0 bb0 fe) (hm : t.owns c := by rfl) (dis : ∀ j ∈ rs, j ∉ t.ids ++ (wt ++ we) := by decide) (hs : ∀ x, foldedSetIterable iter X.env x = pure x := by intro _; rfl) (hb0 : bb0 = true := by rfl) (hr0 : re0 = [] := by rfl) :
    PEv X c (.ListComp elt [⟨tg, iter, ifs, 0⟩] scope pos) (wi ++ (t.ids ++ (wt ++ we))) [] true (eLc t fi ft fe) := by
  subst hb0 hr0
  refine PE.imp (pe_lc (g := gOf X.K t) (tt := tG repB X.K c.q wt [] true ft) (te := tG (Rep X.K) X.K c.q we [] true fe) hc hN hi ok hg (fun s H C cl fp => (ht s H C cl fp).h) he hs) fun σ H Q q => ?_
  obtain ⟨Z, ρ, F, S, p⟩ := q
  rw [ho]
  refine lc_fin hm dis S (fun d ρ' e => ?_) (fun x ρ' e => ?_) fun e => ?_
  · rw [e] at p; exact p
  · rw [e] at p; exact p
  · rw [e] at p; exact p.elim
theorem s_setLc {re0 : List Nat} {bb0 : Bool} (i : Nat) {y : Str} {py spos : Pos} {elt tg iter : Expr} {ifs : List Expr} {scope : Scope} {own : List (Str × Nat)} {pos : Pos} {t : Tg} {wi rs wt we : List Nat} {fi : M (List D)} {ft : M Bool} {fe : M D} (hc : X.calm = true) (hN : X.N.Nodup) (hi : PIv X c tg iter wi rs fi) (ok : BlkOk X.N X.env.scope scope own) (ho : own.map (·.2) = t.ids)
    (hg : ∀ (s : Shared) (H : Hp) (C : Addr) (cl : List (Str × Addr)) (fp : List Addr), PGv (X.blk s H scope (compEnvC scope cl C X.env) fp) tg t) (ht : ∀ (s : Shared) (H : Hp) (C : Addr) (cl : List (Str × Addr)) (fp : List Addr), PTsv (X.blk s H scope (compEnvC scope cl C X.env) fp) c.q ifs wt ft)
    (he : ∀ (s : Shared) (H : Hp) (C : Addr) (cl : List (Str × Addr)) (fp : List Addr), PEv (X.blk s H scope (compEnvC scope cl C X.env) fp) c.q elt we re0 bb0 fe)
    (hsw : swapsWith (.ListComp elt [⟨tg, iter, ifs, 0⟩] scope pos) (some (.Name y py)) spos.line X.env = pure true) (hmi : c.md i = .own := by rfl) (hy : X.N[i]? = some y := by rfl) (hyl : X.env.scope.names.lookup y = some .local := by rfl) (hm : t.owns c := by rfl) (dis : ∀ j ∈ rs, j ∉ t.ids ++ (wt ++ we) := by decide) (hs : ∀ x, foldedSetIterable iter X.env x = pure x := by intro _; rfl) (hb0 : bb0 = true := by rfl) (hr0 : re0 = [] := by rfl) :
    PSv X c (.Assign [.Name y py] (.ListComp elt [⟨tg, iter, ifs, 0⟩] scope pos) spos) ((wi ++ (t.ids ++ (wt ++ we))) ++ [i]) (sSet i (eLc t fi ft fe)) := by
  subst hb0 hr0
  refine PS.imp (ps_setLc (g := gOf X.K t) (tt := tG repB X.K c.q wt [] true ft) (te := tG (Rep X.K) X.K c.q we [] true fe) hc hN hy hyl hsw hi ok hg (fun s H C cl fp => (ht s H C cl fp).h) he hs) fun N σ H q => ?_
  obtain ⟨Z, ρ, F, S, p⟩ := q
  rw [ho]
  unfold sSet M.bind at p
  refine lc_fin hm dis S (fun d ρ1 e => ?_) (fun x ρ' e => ?_) fun e => ?_
  · rw [e] at p
    intro v H1 F1 G st S1 r O
    exact p _ _ _ (st.put O (fun _ h => List.mem_append_left _ h) (List.mem_append_right _ (by simp))) (S1.put hmi r (O.fr rfl).1 (fun a ha => ((O.fr rfl).2 a ha).2) (O.z S))
  · rw [e] at p
    exact fun H' F' st S' => p σ H' F' (st.mono fun _ h => List.mem_append_left _ h) S'
  · rw [e] at p; exact p.elim
end
end Mw

namespace Mw
open PySem PySem.Spec L2
open PyProof.Rows hiding St

/-! ### data as the library's -/
mutual
def toPy : D → Option PyData
  | .non => some .none
  | .bl b => some (.bool b)
  | .int i => some (.int i)
  | .str s => some (.str s)
  | .tup ds => (toPys ds).map .tuple
  | .lst ds => (toPys ds).map .list
  | .scr ds => (toPys ds).map .list
  | .dic _ => none
  | .ref _ => none
def toPys : List D → Option (List PyData)
  | [] => some []
  | d :: r => match toPy d, toPys r with
    | some p, some q => some (p :: q)
    | _, _ => none
end
section
variable {K : PySem.W.Frag} {H : Hp}
mutual
theorem Rep.dp : ∀ (d : D) (v : V) (G : Fp) (p : PyData), Rep K H d v G → toPy d = some p → Dp K H v p
  | .non, v, G, p, h, e => by simp only [Rep] at h; simp only [toPy] at e; cases e; rw [h.1]; exact .non
  | .bl b, v, G, p, h, e => by simp only [Rep] at h; simp only [toPy] at e; cases e; rw [h.1]; exact .bl b
  | .int b, v, G, p, h, e => by simp only [Rep] at h; simp only [toPy] at e; cases e; rw [h.1]; exact .int b
  | .str b, v, G, p, h, e => by simp only [Rep] at h; simp only [toPy] at e; cases e; rw [h.1]; exact .str b
  | .ref a, v, G, p, h, e => by simp [toPy] at e
  | .dic a, v, G, p, h, e => by simp [toPy] at e
  | .tup ds, v, G, p, h, e => by
    simp only [Rep] at h
    obtain ⟨a, vs, rfl, s, r⟩ := h
    simp only [toPy] at e
    cases q : toPys ds with
    | none => rw [q] at e; cases e
    | some ps => rw [q] at e; cases e; exact .tup s (RepL.dp ds vs G ps r q)
  | .lst ds, v, G, p, h, e => by
    simp only [Rep] at h
    obtain ⟨a, vs, G', rfl, rfl, s, r⟩ := h
    simp only [toPy] at e
    cases q : toPys ds with
    | none => rw [q] at e; cases e
    | some ps => rw [q] at e; cases e; exact .lst (SqL.of s) (RepL.dp ds vs G' ps r q)
  | .scr ds, v, G, p, h, e => by
    simp only [Rep] at h
    obtain ⟨a, vs, rfl, s, r⟩ := h
    simp only [toPy] at e
    cases q : toPys ds with
    | none => rw [q] at e; cases e
    | some ps => rw [q] at e; cases e; exact .lst s.sqL (RepL.dp ds vs G ps r q)
theorem RepL.dp : ∀ (ds : List D) (vs : List V) (G : Fp) (ps : List PyData), RepL K H ds vs G → toPys ds = some ps → DpAll K H vs ps
  | [], vs, G, ps, h, e => by simp only [RepL] at h; simp only [toPys] at e; cases e; rw [h.1]; exact .nil
  | d :: ds, vs, G, ps, h, e => by
    simp only [RepL] at h
    obtain ⟨v, r, G1, G2, rfl, rfl, h1, h2⟩ := h
    simp only [toPys] at e
    cases q : toPy d with
    | none => rw [q] at e; cases e
    | some p =>
      cases q2 : toPys ds with
      | none => rw [q, q2] at e; cases e
      | some ps' => rw [q, q2] at e; cases e; exact .cons (Rep.dp d v G1 p h1 q) (RepL.dp ds r G2 ps' h2 q2)
end
end

/-! ### operations -/
def addD : D → D → Option D
  | .int i, .int j => some (.int (i + j))
  | .str a, .str b => if a.length + b.length ≤ 16777216 then some (.str (a ++ b)) else none
  | .tup a, .tup b => if (D.imms a && D.imms b) = true ∧ a.length + b.length ≤ 16777216 then some (.tup (a ++ b)) else none
  | .lst a, .lst b => if (D.imms a && D.imms b) = true ∧ a.length + b.length ≤ 16777216 then some (.lst (a ++ b)) else none
  | _, _ => none
def subD : D → D → Option D
  | .int i, .int j => some (.int (i - j))
  | _, _ => none
def mulD : D → D → Option D
  | .int i, .int j => if i.natAbs.log2 + j.natAbs.log2 < 1000000 then some (.int (i * j)) else none
  | .lst a, .int k => if D.imms a = true ∧ 0 ≤ k ∧ k.toNat < 16777217 ∧ a.length * k.toNat ≤ 16777216 then some (.lst (List.replicate k.toNat a).flatten) else none
  | .tup a, .int k => if D.imms a = true ∧ a ≠ [] ∧ 2 ≤ k ∧ k ≤ 1000 ∧ a.length ≤ 1000 then some (.tup (List.replicate k.toNat a).flatten) else none
  | _, _ => none
def fdivD : D → D → Option D
  | .int i, .int j => if j ≠ 0 ∧ j.natAbs.log2 < 9000 then some (.int (Int.fdiv i j)) else none
  | _, _ => none
def modD : D → D → Option D
  | .int i, .int j => if j ≠ 0 then some (.int (Int.fmod i j)) else none
  | _, _ => none
def powD : D → D → Option D
  | .int i, .int j => if 0 ≤ j ∧ j ≤ 1000000 ∧ i.natAbs < 2 ^ 64 then some (.int (i ^ j.toNat)) else none
  | _, _ => none
section
variable {X : Cx} {f : Value → Value → Sem Value} {g : D → D → Option D} {K : PySem.W.Frag} {H : Hp}
theorem OpR.of {r : R2} (h : OpR X f r) (w : ∀ x y H Q, rD X.K g x y H Q → r x y H Q) : OpR X f (rD X.K g) := fun pins s σ H x y v u Q I rx ry q => h pins s σ H x y v u Q I rx ry (w x y H Q q)
theorem rep_int {i : Int} : Rep K H (.int i) (.int i) [] := by simp [Rep]
theorem rep_bl {i : Bool} : Rep K H (.bl i) (.bl i) [] := by simp [Rep]
theorem rep_str {i : Str} : Rep K H (.str i) (.str i) [] := by simp [Rep]
theorem rep_non : Rep K H .non .non [] := by simp [Rep]
theorem int_inv {i : Int} {v : V} {G : Fp} (h : Rep K H (.int i) v G) : v = .int i ∧ G = [] := by simpa only [Rep] using h
theorem str_inv {i : Str} {v : V} {G : Fp} (h : Rep K H (.str i) v G) : v = .str i ∧ G = [] := by simpa only [Rep] using h
theorem non_inv {v : V} {G : Fp} (h : Rep K H .non v G) : v = .non ∧ G = [] := by simpa only [Rep] using h
theorem tup_inv {ds : List D} {v : V} {G : Fp} (h : Rep K H (.tup ds) v G) : ∃ a vs, v = .ref a ∧ SqT K H a vs ∧ RepL K H ds vs G := by simpa only [Rep] using h
theorem lst_inv {ds : List D} {v : V} {G : Fp} (h : Rep K H (.lst ds) v G) : ∃ a vs G', v = .ref a ∧ G = a :: G' ∧ H a = some (.lst vs) ∧ RepL K H ds vs G' := by simpa only [Rep] using h
theorem scr_inv {ds : List D} {v : V} {G : Fp} (h : Rep K H (.scr ds) v G) : ∃ a vs, v = .ref a ∧ Stat K H a vs ∧ RepL K H ds vs G := by simpa only [Rep] using h
theorem rep_tup {ds : List D} {a : Addr} {vs : List V} {G : Fp} (s : SqT K H a vs) (r : RepL K H ds vs G) : Rep K H (.tup ds) (.ref a) G := by simp only [Rep]; exact ⟨a, vs, rfl, s, r⟩
theorem rep_lst {ds : List D} {a : Addr} {vs : List V} {G : Fp} (s : H a = some (.lst vs)) (r : RepL K H ds vs G) : Rep K H (.lst ds) (.ref a) (a :: G) := by simp only [Rep]; exact ⟨a, vs, G, rfl, rfl, s, r⟩
theorem nd0 : ([] : Fp).Nodup := List.Pairwise.nil
theorem nd1 {a : Addr} : ([a] : Fp).Nodup := by simp
theorem new0 {H : Hp} : ∀ a ∈ ([] : Fp), H a = none := fun _ z => nomatch z
theorem new1 {H : Hp} {p : Addr} (h : H p = none) : ∀ a ∈ ([p] : Fp), H a = none := fun a z => by
  have e : a = p := by simpa using z
  rw [e]; exact h
/-- ints in, a value without parts out -/
theorem rD_int {C : Int → Int → Prop} {gi : Int → Int → V} {gd : Int → Int → D} (hg : ∀ d e r, g d e = some r → ∃ i j, d = .int i ∧ e = .int j ∧ C i j ∧ r = gd i j) (hr : ∀ K H i j, Rep K H (gd i j) (gi i j) []) :
    ∀ x y H Q, rD X.K g x y H Q → rI C gi x y H Q := fun x y H Q h => by
  obtain ⟨d, e, Gx, Gy, r, r1, r2, eg, q⟩ := h
  obtain ⟨i, j, rfl, rfl, c, rfl⟩ := hg d e r eg
  exact ⟨i, j, (int_inv r1).1, (int_inv r2).1, c, q _ _ [] (Same.refl H) (hr _ _ i j) nd0 new0⟩
theorem rI_0 {gi : Int → Int → V} {x y : V} {H : Hp} {Q : VK} (h : rI (fun _ _ => True) gi x y H Q) : rI0 gi x y H Q := by
  obtain ⟨i, j, e1, e2, _, q⟩ := h
  exact ⟨i, j, e1, e2, q⟩
theorem d_add : OpR X (binaryOp .Add) (rD X.K addD) := by
  refine OpR.of (op_add.or (op_add_str.or (op_catA.or op_cat))) fun x y H Q h => ?_
  obtain ⟨d, e, Gx, Gy, r, r1, r2, eg, q⟩ := h
  unfold addD at eg
  split at eg
  · cases eg
    exact .inl ⟨_, _, (int_inv r1).1, (int_inv r2).1, q _ _ [] (Same.refl H) rep_int nd0 new0⟩
  · split at eg
    · rename_i hl
      cases eg
      exact .inr (.inl ⟨_, _, (str_inv r1).1, (str_inv r2).1, by rw [szl]; exact hl, q _ _ [] (Same.refl H) rep_str nd0 new0⟩)
    · cases eg
  · split at eg
    · rename_i hl
      cases eg
      have him := Bool.and_eq_true_iff.mp hl.1
      obtain ⟨a, us, rfl, s1, l1⟩ := tup_inv r1
      obtain ⟨b, ws, rfl, s2, l2⟩ := tup_inv r2
      have e1 := RepL.imm _ _ _ l1 him.1
      have e2 := RepL.imm _ _ _ l2 him.2
      rw [e1] at l1
      rw [e2] at l2
      have ll : RepL X.K H _ (us ++ ws) ([] ++ []) := RepL.append l1 l2
      refine .inr (.inr (.inl ⟨a, b, us, ws, rfl, rfl, s1, s2, by rw [l1.length, l2.length, szl]; exact hl.2, fun z => ?_, fun _ z => ?_, fun _ _ p hp => ?_⟩))
      · rw [z] at ll
        exact q _ _ [] (Same.refl H) (rep_tup s2 (by simpa using ll)) nd0 new0
      · rw [z] at ll
        exact q _ _ [] (Same.refl H) (rep_tup s1 (by simpa using ll)) nd0 new0
      · have sm : Same H (upd H p (.tup (us ++ ws))) := same_upd hp
        exact q _ _ [] sm (rep_tup (SqT.of upd_same) (RepL.keep _ _ _ (by simpa using ll) (Same.keeps sm))) nd0 new0
    · cases eg
  · split at eg
    · rename_i hl
      cases eg
      have him := Bool.and_eq_true_iff.mp hl.1
      obtain ⟨a, us, G1, rfl, _, s1, l1⟩ := lst_inv r1
      obtain ⟨b, ws, G2, rfl, _, s2, l2⟩ := lst_inv r2
      have e1 := RepL.imm _ _ _ l1 him.1
      have e2 := RepL.imm _ _ _ l2 him.2
      rw [e1] at l1
      rw [e2] at l2
      have ll : RepL X.K H _ (us ++ ws) ([] ++ []) := RepL.append l1 l2
      refine .inr (.inr (.inr ⟨a, b, us, ws, rfl, rfl, s1, s2, by rw [l1.length, l2.length, szl]; exact hl.2, fun p hp => ?_⟩))
      have sm : Same H (upd H p (.lst (us ++ ws))) := same_upd hp
      exact q _ _ [p] sm (rep_lst upd_same (RepL.keep _ _ _ (by simpa using ll) (Same.keeps sm))) nd1 (new1 hp)
    · cases eg
  · cases eg
theorem d_sub : OpR X (binaryOp .Sub) (rD X.K subD) := OpR.of op_sub fun x y H Q h => rI_0 (rD_int (C := fun _ _ => True) (gd := fun i j => .int (i - j)) (fun d e r eg => by
  unfold subD at eg
  split at eg
  · cases eg; exact ⟨_, _, rfl, rfl, trivial, rfl⟩
  · cases eg) (fun _ _ _ _ => rep_int) x y H Q h)
theorem d_mod : OpR X (binaryOp .Mod) (rD X.K modD) := OpR.of op_modN fun x y H Q h => rD_int (gd := fun i j => .int (i.fmod j)) (fun d e r eg => by
  unfold modD at eg
  split at eg
  · split at eg
    · rename_i hj; cases eg; exact ⟨_, _, rfl, rfl, hj, rfl⟩
    · cases eg
  · cases eg) (fun _ _ _ _ => rep_int) x y H Q h
theorem d_pow : OpR X (binaryOp .Pow) (rD X.K powD) := OpR.of op_pow fun x y H Q h => rD_int (gd := fun i j => .int (i ^ j.toNat)) (fun d e r eg => by
  unfold powD at eg
  split at eg
  · split at eg
    · rename_i hj; cases eg; exact ⟨_, _, rfl, rfl, hj, rfl⟩
    · cases eg
  · cases eg) (fun _ _ _ _ => rep_int) x y H Q h
theorem op_fdivZ : OpR X (binaryOp .FloorDiv) (rI (fun _ j => j ≠ 0 ∧ j.natAbs.log2 < 9000) fun i j => .int (i.fdiv j)) := opI fun _ _ _ _ _ _ _ hc q => floordiv_int hc.1 q (.inl (PyProof.noPylong_of_log2 hc.2))
theorem d_fdiv : OpR X (binaryOp .FloorDiv) (rD X.K fdivD) := OpR.of op_fdivZ fun x y H Q h => rD_int (gd := fun i j => .int (i.fdiv j)) (fun d e r eg => by
  unfold fdivD at eg
  split at eg
  · split at eg
    · rename_i hj; cases eg; exact ⟨_, _, rfl, rfl, hj, rfl⟩
    · cases eg
  · cases eg) (fun _ _ _ _ => rep_int) x y H Q h
theorem RepL.rep0 {ds : List D} {vs : List V} (l : RepL K H ds vs []) : ∀ n : Nat, RepL K H (List.replicate n ds).flatten (List.replicate n vs).flatten []
  | 0 => by simpa using RepL.nil
  | n + 1 => by
    have z := RepL.append l (RepL.rep0 l n)
    simpa [List.replicate_succ] using z
theorem d_mul : OpR X (binaryOp .Mult) (rD X.K mulD) := by
  refine OpR.of (op_mulW.or (op_rep.or op_repT)) fun x y H Q h => ?_
  obtain ⟨d, e, Gx, Gy, r, r1, r2, eg, q⟩ := h
  unfold mulD at eg
  split at eg
  · split at eg
    · rename_i hl
      cases eg
      exact .inl ⟨_, _, (int_inv r1).1, (int_inv r2).1, hl, q _ _ [] (Same.refl H) rep_int nd0 new0⟩
    · cases eg
  · split at eg
    · rename_i k hl
      cases eg
      obtain ⟨a, us, G1, rfl, _, s1, l1⟩ := lst_inv r1
      have e1 := RepL.imm _ _ _ l1 hl.1
      rw [e1] at l1
      refine .inr (.inl ⟨a, k, us, rfl, (int_inv r2).1, s1, by omega, by omega, by rw [l1.length, szl]; exact hl.2.2.2, fun p hp => ?_⟩)
      have sm : Same H (upd H p (.lst (List.replicate k.toNat us).flatten)) := same_upd hp
      exact q _ _ [p] sm (rep_lst upd_same (RepL.keep _ _ _ (l1.rep0 k.toNat) (Same.keeps sm))) nd1 (new1 hp)
    · cases eg
  · split at eg
    · rename_i ds k hl
      cases eg
      obtain ⟨a, us, rfl, s1, l1⟩ := tup_inv r1
      have e1 := RepL.imm _ _ _ l1 hl.1
      rw [e1] at l1
      have hn : us ≠ [] := fun z => hl.2.1 (by
        have := l1.length
        rw [z] at this
        exact List.length_eq_zero_iff.mp this.symm)
      refine .inr (.inr ⟨a, k, us, rfl, (int_inv r2).1, s1, hn, hl.2.2.1, hl.2.2.2.1, by rw [l1.length]; exact hl.2.2.2.2, fun p hp => ?_⟩)
      have sm : Same H (upd H p (.tup (List.replicate k.toNat us).flatten)) := same_upd hp
      exact q _ _ [] sm (rep_tup (SqT.of upd_same) (RepL.keep _ _ _ (l1.rep0 k.toNat) (Same.keeps sm))) nd0 new0
    · cases eg
  · cases eg
def negD : D → Option D
  | .int i => some (.int (-i))
  | _ => none
theorem d_neg : UnR X (unaryOp .USub) (uD X.K negD) := fun pins s σ H x v Q I rx h => by
  obtain ⟨d, Gx, r, r1, eg, q⟩ := h
  unfold negD at eg
  split at eg
  · cases eg
    exact un_neg pins s σ H x v Q I rx ⟨_, (int_inv r1).1, q _ _ [] (Same.refl H) rep_int nd0 new0⟩
  · cases eg

/-! ### comparisons -/
def strLt (a b : Str) : Bool := decide (a.cps.toList < b.cps.toList)
def ltB : D → D → Option Bool
  | .int i, .int j => some (decide (i < j))
  | .str a, .str b => some (strLt a b)
  | _, _ => none
def leB : D → D → Option Bool
  | .int i, .int j => some (decide (i ≤ j))
  | .str a, .str b => some (!strLt b a)
  | _, _ => none
def gtB : D → D → Option Bool
  | .int i, .int j => some (decide (j < i))
  | .str a, .str b => some (strLt b a)
  | _, _ => none
def geB : D → D → Option Bool
  | .int i, .int j => some (decide (j ≤ i))
  | .str a, .str b => some (!strLt a b)
  | _, _ => none
theorem gBl_some {g : D → D → Option Bool} {d e r : D} (h : gBl g d e = some r) : ∃ b, g d e = some b ∧ r = .bl b := by
  unfold gBl at h
  cases q : g d e with
  | none => rw [q] at h; cases h
  | some b => rw [q] at h; cases h; exact ⟨b, rfl, rfl⟩
theorem d_lt : OpR X (compareOp .Lt) (rD X.K (gBl ltB)) := by
  refine OpR.of (op_lt.or op_lt_str) fun x y H Q h => ?_
  obtain ⟨d, e, Gx, Gy, r, r1, r2, eg, q⟩ := h
  obtain ⟨b, eb, rfl⟩ := gBl_some eg
  unfold ltB at eb
  split at eb
  · cases eb; exact .inl ⟨_, _, (int_inv r1).1, (int_inv r2).1, q _ _ [] (Same.refl H) rep_bl nd0 new0⟩
  · cases eb; exact .inr ⟨_, _, (str_inv r1).1, (str_inv r2).1, q _ _ [] (Same.refl H) rep_bl nd0 new0⟩
  · cases eb
theorem d_le : OpR X (compareOp .LtE) (rD X.K (gBl leB)) := by
  refine OpR.of (op_le.or op_le_str) fun x y H Q h => ?_
  obtain ⟨d, e, Gx, Gy, r, r1, r2, eg, q⟩ := h
  obtain ⟨b, eb, rfl⟩ := gBl_some eg
  unfold leB at eb
  split at eb
  · cases eb; exact .inl ⟨_, _, (int_inv r1).1, (int_inv r2).1, q _ _ [] (Same.refl H) rep_bl nd0 new0⟩
  · cases eb; exact .inr ⟨_, _, (str_inv r1).1, (str_inv r2).1, q _ _ [] (Same.refl H) rep_bl nd0 new0⟩
  · cases eb
theorem d_gt : OpR X (compareOp .Gt) (rD X.K (gBl gtB)) := by
  refine OpR.of (op_gt.or op_gt_str) fun x y H Q h => ?_
  obtain ⟨d, e, Gx, Gy, r, r1, r2, eg, q⟩ := h
  obtain ⟨b, eb, rfl⟩ := gBl_some eg
  unfold gtB at eb
  split at eb
  · cases eb; exact .inl ⟨_, _, (int_inv r1).1, (int_inv r2).1, q _ _ [] (Same.refl H) rep_bl nd0 new0⟩
  · cases eb; exact .inr ⟨_, _, (str_inv r1).1, (str_inv r2).1, q _ _ [] (Same.refl H) rep_bl nd0 new0⟩
  · cases eb
theorem d_ge : OpR X (compareOp .GtE) (rD X.K (gBl geB)) := by
  refine OpR.of (op_ge.or op_ge_str) fun x y H Q h => ?_
  obtain ⟨d, e, Gx, Gy, r, r1, r2, eg, q⟩ := h
  obtain ⟨b, eb, rfl⟩ := gBl_some eg
  unfold geB at eb
  split at eb
  · cases eb; exact .inl ⟨_, _, (int_inv r1).1, (int_inv r2).1, q _ _ [] (Same.refl H) rep_bl nd0 new0⟩
  · cases eb; exact .inr ⟨_, _, (str_inv r1).1, (str_inv r2).1, q _ _ [] (Same.refl H) rep_bl nd0 new0⟩
  · cases eb
/-- ==, of data at any depth -/
def eqP (d e : D) : Option Bool := match toPy d, toPy e with
  | some p, some q => if SeqAt.shaped p && SeqAt.shaped q then some (PyData.eqv p q) else none
  | _, _ => none
def eqB : D → D → Option Bool
  | .str a, .str b => some (decide (a = b))
  | d, e => eqP d e
def neB (d e : D) : Option Bool := (eqB d e).map (!·)
theorem eqP_some {d e : D} {b : Bool} (h : eqP d e = some b) : ∃ p q, toPy d = some p ∧ toPy e = some q ∧ SeqAt.shaped p = true ∧ SeqAt.shaped q = true ∧ b = PyData.eqv p q := by
  unfold eqP at h
  split at h
  · rename_i p q e1 e2
    split at h
    · rename_i hs
      have hs := Bool.and_eq_true_iff.mp hs
      cases h
      exact ⟨p, q, e1, e2, hs.1, hs.2, rfl⟩
    · cases h
  · cases h
theorem eqB_some {d e : D} {b : Bool} (h : eqB d e = some b) : (∃ a c, d = .str a ∧ e = .str c ∧ b = decide (a = c)) ∨ ∃ p q, toPy d = some p ∧ toPy e = some q ∧ SeqAt.shaped p = true ∧ SeqAt.shaped q = true ∧ b = PyData.eqv p q := by
  unfold eqB at h
  split at h
  · cases h; exact .inl ⟨_, _, rfl, rfl, rfl⟩
  · exact .inr (eqP_some h)
theorem dec_strV {a c : Str} : decide (V.str a = V.str c) = decide (a = c) := by
  by_cases h : a = c
  · subst h; simp
  · rw [decide_eq_false h, decide_eq_false fun z => h (V.str.inj z)]
theorem d_eq (hu : X.A.units + 64 < cLine) : OpR X (compareOp .Eq) (rD X.K (gBl eqB)) := fun pins s σ H x y v u Q I rx ry h => by
  obtain ⟨d, e, Gx, Gy, r, r1, r2, eg, q⟩ := h
  obtain ⟨b, eb, rfl⟩ := gBl_some eg
  have q := q (.bl b) H [] (Same.refl H) rep_bl nd0 new0
  rcases eqB_some eb with ⟨a, c, rfl, rfl, rfl⟩ | ⟨p, p', e1, e2, h1, h2, rfl⟩
  · have x1 := (str_inv r1).1
    have x2 := (str_inv r2).1
    subst x1 x2
    exact op_eq pins s σ H _ _ v u Q I rx ry ⟨rfl, by rw [dec_strV]; exact q⟩
  · exact op_eqD hu pins s σ H x y v u Q I rx ry ⟨p, p', Rep.dp _ _ _ _ r1 e1, Rep.dp _ _ _ _ r2 e2, h1, h2, q⟩
theorem d_ne (hu : X.A.units + 64 < cLine) : OpR X (compareOp .NotEq) (rD X.K (gBl neB)) := fun pins s σ H x y v u Q I rx ry h => by
  obtain ⟨d, e, Gx, Gy, r, r1, r2, eg, q⟩ := h
  obtain ⟨b', eb, rfl⟩ := gBl_some eg
  unfold neB at eb
  cases ez : eqB d e with
  | none => rw [ez] at eb; cases eb
  | some b =>
    rw [ez] at eb
    cases eb
    have q := q (.bl (!b)) H [] (Same.refl H) rep_bl nd0 new0
    rcases eqB_some ez with ⟨a, c, rfl, rfl, rfl⟩ | ⟨p, p', e1, e2, h1, h2, rfl⟩
    · have x1 := (str_inv r1).1
      have x2 := (str_inv r2).1
      subst x1 x2
      exact op_ne pins s σ H _ _ v u Q I rx ry ⟨rfl, by rw [dec_strV]; exact q⟩
    · exact op_neD hu pins s σ H x y v u Q I rx ry ⟨p, p', Rep.dp _ _ _ _ r1 e1, Rep.dp _ _ _ _ r2 e2, h1, h2, q⟩
/-- is None -/
def isB : D → D → Option Bool
  | .non, .non => some true
  | _, .non => some false
  | _, _ => none
def isntB (d e : D) : Option Bool := (isB d e).map (!·)

/-! ### parts -/
def ixD : D → D → Option D
  | .tup ds, .int i => atI ds i
  | .lst ds, .int i => atI ds i
  | .scr ds, .int i => atI ds i
  | .str s, .int i => if s.length ≤ 16777216 then (atI s.cps.toList i).map fun c => .str ⟨#[c]⟩ else none
  | _, _ => none
theorem RepL.getS : ∀ {ds : List D} {vs : List V} {G : Fp} {i : Nat} {d : D}, RepL K H ds vs G → ds[i]? = some d → ∃ v G', vs[i]? = some v ∧ Rep K H d v G' ∧ G'.Sublist G
  | [], _, _, _, _, _, e => by simp at e
  | d :: ds, _, _, 0, d', h, e => by
    simp only [RepL] at h
    obtain ⟨v, r, G1, G2, rfl, rfl, h1, h2⟩ := h
    simp at e; subst e
    exact ⟨v, G1, rfl, h1, List.sublist_append_left _ _⟩
  | d :: ds, _, _, i + 1, d', h, e => by
    simp only [RepL] at h
    obtain ⟨v, r, G1, G2, rfl, rfl, h1, h2⟩ := h
    obtain ⟨w, G', e1, e2, e3⟩ := RepL.getS (i := i) h2 (by simpa using e)
    exact ⟨w, G', by simpa using e1, e2, e3.trans (List.sublist_append_right _ _)⟩
theorem RepL.atI {ds : List D} {vs : List V} {G : Fp} {i : Int} {d : D} (l : RepL K H ds vs G) (h : L2.atI ds i = some d) : ∃ v G', L2.atI vs i = some v ∧ Rep K H d v G' ∧ G'.Sublist G := by
  unfold L2.atI at h ⊢
  rw [l.length]
  cases e : ixN ds.length i with
  | none => rw [e] at h; cases h
  | some j =>
    rw [e] at h
    exact l.getS h
theorem d_ix : IxR X (rP X.K ixD) := fun value slice pins s σ H x y v u Q I rx ry h hs => by
  refine ix_seq value slice pins s σ H x y v u Q I rx ry ?_ hs
  obtain ⟨d, e, Gx, Gy, r, r1, r2, eg, q⟩ := h
  unfold ixD at eg
  split at eg
  · obtain ⟨a, us, rfl, s1, l1⟩ := tup_inv r1
    obtain ⟨w, G', e1, e2, e3⟩ := l1.atI eg
    exact .inr (.inl ⟨a, us, _, w, rfl, (int_inv r2).1, s1, e1, q w H G' (Same.refl H) e2 e3⟩)
  · obtain ⟨a, us, G1, rfl, rfl, s1, l1⟩ := lst_inv r1
    obtain ⟨w, G', e1, e2, e3⟩ := l1.atI eg
    exact .inl ⟨a, us, _, w, rfl, (int_inv r2).1, SqL.of s1, e1, q w H G' (Same.refl H) e2 (e3.trans (List.sublist_cons_self _ _))⟩
  · obtain ⟨a, us, rfl, s1, l1⟩ := scr_inv r1
    obtain ⟨w, G', e1, e2, e3⟩ := l1.atI eg
    exact .inl ⟨a, us, _, w, rfl, (int_inv r2).1, s1.sqL, e1, q w H G' (Same.refl H) e2 e3⟩
  · split at eg
    · rename_i hl
      rename_i z i
      cases ec : L2.atI z.cps.toList i with
      | none => rw [ec] at eg; cases eg
      | some k =>
        rw [ec] at eg
        cases eg
        exact .inr (.inr ⟨z, i, k, (str_inv r1).1, (int_inv r2).1, by rw [szl]; exact hl, ec, q _ H [] (Same.refl H) rep_str (List.nil_sublist _)⟩)
    · cases eg
  · cases eg

/-! ### calls of built-ins -/
theorem RepL.one_inv {ds : List D} {v : V} {G : Fp} (h : RepL K H ds [v] G) : ∃ d, ds = [d] ∧ Rep K H d v G := by
  cases ds with
  | nil => simp only [RepL] at h; cases h.1
  | cons d r =>
    simp only [RepL] at h
    obtain ⟨w, us, G1, G2, e, rfl, h1, h2⟩ := h
    cases e
    cases r with
    | nil => simp only [RepL] at h2; rw [h2.2, List.append_nil]; exact ⟨d, rfl, h1⟩
    | cons d' r' =>
      simp only [RepL] at h2
      obtain ⟨w, us, G1, G2, e, _⟩ := h2
      cases e
/-- one argument -/
def un1 (u : D → Option D) : List D → Option D
  | [d] => u d
  | _ => none
theorem un1_rep {u : D → Option D} {ds : List D} {xs : List V} {G : Fp} {r : D} (l : RepL K H ds xs G) (e : un1 u ds = some r) : ∃ d v, xs = [v] ∧ Rep K H d v G ∧ u d = some r := by
  unfold un1 at e
  split at e
  · rename_i d
    simp only [RepL] at l
    obtain ⟨v, r', G1, G2, rfl, rfl, h1, rfl, rfl⟩ := l
    exact ⟨d, v, rfl, by rw [List.append_nil]; exact h1, e⟩
  · cases e
theorem CallR.of {fv : Value} {n : List D → Option D} {r : List V → Hp → VK → Prop} (h : CallR X fv r) (w : ∀ xs H Q, nD X.K n xs H Q → r xs H Q) : CallR X fv (nD X.K n) := fun pins s σ H xs us Q I r q => h pins s σ H xs us Q I r (w xs H Q q)
theorem CallR.ofP {fv : Value} {n : List D → Option D} {r : List V → Hp → VK → Prop} (h : CallR X fv r) (w : ∀ xs H Q, nP X.K n xs H Q → r xs H Q) : CallR X fv (nP X.K n) := fun pins s σ H xs us Q I r q => h pins s σ H xs us Q I r (w xs H Q q)
def absD : D → Option D
  | .int i => some (.int (if i < 0 then -i else i))
  | _ => none
theorem d_abs : CallR X (.builtin "abs") (nD X.K (un1 absD)) := CallR.of call_abs fun xs H Q h => by
  obtain ⟨ds, Gx, r, l, eg, q⟩ := h
  obtain ⟨d, v, rfl, r1, eu⟩ := un1_rep l eg
  unfold absD at eu
  split at eu
  · cases eu; exact ⟨_, by rw [(int_inv r1).1], q _ _ [] (Same.refl H) rep_int nd0 new0⟩
  · cases eu
def intD : D → Option D
  | .int i => some (.int i)
  | .bl k => some (.int (if k then 1 else 0))
  | _ => none
theorem d_int : CallR X (.type "int") (nD X.K (un1 intD)) := CallR.of call_int1 fun xs H Q h => by
  obtain ⟨ds, Gx, r, l, eg, q⟩ := h
  obtain ⟨d, v, rfl, r1, eu⟩ := un1_rep l eg
  unfold intD at eu
  split at eu
  · cases eu; exact .inl ⟨_, by rw [(int_inv r1).1], q _ _ [] (Same.refl H) rep_int nd0 new0⟩
  · cases eu; exact .inr ⟨_, by rw [(bl_inv r1).1], q _ _ [] (Same.refl H) rep_int nd0 new0⟩
  · cases eu
def strD : D → Option D
  | .int i => if i.natAbs.log2 < 1920 then some (.str (toString i)) else none
  | _ => none
theorem d_str : CallR X (.type "str") (nD X.K (un1 strD)) := CallR.of call_str_int fun xs H Q h => by
  obtain ⟨ds, Gx, r, l, eg, q⟩ := h
  obtain ⟨d, v, rfl, r1, eu⟩ := un1_rep l eg
  unfold strD at eu
  split at eu
  · split at eu
    · rename_i hl; cases eu; exact ⟨_, by rw [(int_inv r1).1], hl, q _ _ [] (Same.refl H) rep_str nd0 new0⟩
    · cases eu
  · cases eu
def lenD : D → Option D
  | .tup ds => some (.int ds.length)
  | .lst ds => some (.int ds.length)
  | .scr ds => some (.int ds.length)
  | .str s => if s.length ≤ 16777216 then some (.int s.length) else none
  | _ => none
theorem d_len : CallR X (.builtin "len") (nD X.K (un1 lenD)) := CallR.of call_len fun xs H Q h => by
  obtain ⟨ds, Gx, r, l, eg, q⟩ := h
  obtain ⟨d, v, rfl, r1, eu⟩ := un1_rep l eg
  unfold lenD at eu
  split at eu
  · cases eu
    obtain ⟨a, us, rfl, s1, l1⟩ := tup_inv r1
    exact ⟨_, _, rfl, .inr ⟨us, s1, rfl⟩, q _ _ [] (Same.refl H) (by rw [l1.length]; exact rep_int) nd0 new0⟩
  · cases eu
    obtain ⟨a, us, G1, rfl, _, s1, l1⟩ := lst_inv r1
    exact ⟨_, _, rfl, .inl ⟨us, SqL.of s1, rfl⟩, q _ _ [] (Same.refl H) (by rw [l1.length]; exact rep_int) nd0 new0⟩
  · cases eu
    obtain ⟨a, us, rfl, s1, l1⟩ := scr_inv r1
    exact ⟨_, _, rfl, .inl ⟨us, s1.sqL, rfl⟩, q _ _ [] (Same.refl H) (by rw [l1.length]; exact rep_int) nd0 new0⟩
  · split at eu
    · rename_i hl; cases eu
      obtain ⟨e1, _⟩ := str_inv r1
      subst e1
      exact ⟨.str _, _, rfl, ⟨by rw [szl]; exact hl, rfl⟩, q _ _ [] (Same.refl H) rep_int nd0 new0⟩
    · cases eu
  · cases eu
/-- repr -/
def reprD (d : D) : Option D := match d with
  | .lst ds => match toPys ds with
    | some ps => if (PyData.list ps).showable && decide ((PyData.list ps).shown.length ≤ 16777216) && decide ((PyData.list ps).depth ≤ 60) && !(PyData.list ps).hasDict then some (.str (PyData.list ps).shown) else none
    | none => none
  | _ => none
theorem d_repr (hg : X.A.guards = some []) (hu : X.A.units + 64 < cLine) : CallR X (.builtin "repr") (nD X.K (un1 reprD)) := fun pins s σ H xs us Q I rv h => by
  obtain ⟨ds, Gx, r, l, eg, q⟩ := h
  obtain ⟨d, v, rfl, r1, eu⟩ := un1_rep l eg
  unfold reprD at eu
  split at eu
  · rename_i es
    split at eu
    · rename_i ps ep
      split at eu
      · rename_i hc
        cases eu
        simp only [Bool.and_eq_true, decide_eq_true_eq, Bool.not_eq_true'] at hc
        obtain ⟨⟨⟨h1, h2⟩, h3⟩, h4⟩ := hc
        obtain ⟨u, rfl, ru⟩ := vals1 rv
        have hd := Rep.dp _ _ _ (.list ps) r1 (by simp [toPy, ep])
        obtain ⟨a, vs, G1, rfl, _, s1, l1⟩ := lst_inv r1
        cases ru
        obtain ⟨as, hr⟩ := Dp.reads I (.list ps) _ _ hd rfl
        refine repr_of_reads' hr h1 (PyData.noDict_hsm h4) hg (by omega) (fun _ _ e => e) (fun h' u tk hk => ?_) (by rw [szl]; exact h2)
        exact ⟨.str _, H, I.kept hk, ⟨_, rfl⟩, q _ _ [] (Same.refl H) rep_str nd0 new0⟩
      · cases eu
    · cases eu
  · cases eu
end
end Mw

namespace Mw
open PySem PySem.Spec L2
open PyProof.Rows hiding St

/-! ### defs -/
/-- a parameter: read; changed in place; set anew (it holds nothing that can change) -/
inductive Pk where
  | r | m | o
inductive FR where
  | ok (d : D) (ms : List D) | err (c : Str) (ms : List D) | stuck
def pmd (pk : List Pk) (vs : List V) : Nat → Mode := fun i => match pk[i]? with
  | some .r => .brw
  | some .m => (match vs[i]? with
    | some v => .fix v
    | none => .own)
  | some .o => .own
  | none => .own
/-- what stands in the parameters at the start -/
def AStart (K : PySem.W.Frag) (H Z : Hp) (F : Nat → Fp) : List Pk → List D → List V → Nat → Prop
  | [], [], [], _ => True
  | .r :: pk, d :: ds, v :: vs, i => (∃ G, Rep K H d v G ∧ ∀ a ∈ G, Z a ≠ none) ∧ AStart K H Z F pk ds vs (i + 1)
  | .o :: pk, d :: ds, v :: vs, i => (∃ G, Rep K H d v G ∧ ∀ a ∈ G, Z a ≠ none) ∧ AStart K H Z F pk ds vs (i + 1)
  | .m :: pk, d :: ds, v :: vs, i => Rep K H d v (F i) ∧ AStart K H Z F pk ds vs (i + 1)
  | _, _, _, _ => False
/-- what stands in the changed ones at the end -/
def AEnd (K : PySem.W.Frag) (H : Hp) (F : Nat → Fp) : List Pk → List D → List V → Nat → Prop
  | [], [], [], _ => True
  | .r :: pk, ms, _ :: vs, i => AEnd K H F pk ms vs (i + 1)
  | .o :: pk, ms, _ :: vs, i => AEnd K H F pk ms vs (i + 1)
  | .m :: pk, d :: ms, v :: vs, i => Rep K H d v (F i) ∧ AEnd K H F pk ms vs (i + 1)
  | _, _, _, _ => False
def mIx : List Pk → Nat → List Nat
  | [], _ => []
  | .m :: pk, i => i :: mIx pk (i + 1)
  | _ :: pk, i => mIx pk (i + 1)
def getMs : List Pk → Env → Option (List D)
  | [], _ => some []
  | .m :: pk, some d :: ρ => (getMs pk ρ).map (d :: ·)
  | .m :: _, _ => none
  | _ :: pk, _ :: ρ => getMs pk ρ
  | _ :: _, [] => none
def okO : List Pk → List D → Bool
  | .o :: pk, d :: ds => d.imm && okO pk ds
  | _ :: pk, _ :: ds => okO pk ds
  | _, _ => true
/-- a def's run. It stands behind a choice: nothing unfolds a call by itself -/
theorem runFnE : ∃ f : Nat → List Pk → M Fl → List D → FR, ∀ n pk b ds, f n pk b ds =
 
  if okO pk ds then match b (ds.map some ++ List.replicate (n - ds.length) none) with
    | .ok (.ret d) ρ => (match getMs pk ρ with
      | some ms => .ok d ms
      | none => .stuck)
    | .ok .nx ρ => (match getMs pk ρ with
      | some ms => .ok .non ms
      | none => .stuck)
    | .err c ρ => (match getMs pk ρ with
      | some ms => .err c ms
      | none => .stuck)
    | _ => .stuck
  else .stuck
  := ⟨fun n pk b ds =>
  
  if okO pk ds then match b (ds.map some ++ List.replicate (n - ds.length) none) with
    | .ok (.ret d) ρ => (match getMs pk ρ with
      | some ms => .ok d ms
      | none => .stuck)
    | .ok .nx ρ => (match getMs pk ρ with
      | some ms => .ok .non ms
      | none => .stuck)
    | .err c ρ => (match getMs pk ρ with
      | some ms => .err c ms
      | none => .stuck)
    | _ => .stuck
  else .stuck, fun _ _ _ _ => rfl⟩
noncomputable def runFn : Nat → List Pk → M Fl → List D → FR := runFnE.choose
theorem runFn_eq (n : Nat) (pk : List Pk) (b : M Fl) (ds : List D) : runFn n pk b ds =
 
  if okO pk ds then match b (ds.map some ++ List.replicate (n - ds.length) none) with
    | .ok (.ret d) ρ => (match getMs pk ρ with
      | some ms => .ok d ms
      | none => .stuck)
    | .ok .nx ρ => (match getMs pk ρ with
      | some ms => .ok .non ms
      | none => .stuck)
    | .err c ρ => (match getMs pk ρ with
      | some ms => .err c ms
      | none => .stuck)
    | _ => .stuck
  else .stuck := runFnE.choose_spec n pk b ds
/-- the footprints of the parameters -/
structure FSt (K : PySem.W.Frag) (T : List (Addr × Str)) (Z H : Hp) (F : Nat → Fp) : Prop where
  zs : Same Z H
  zt : ∀ a ps, Z a ≠ some (.tbl ps)
  tab : LamX.Tabs T H
  nd : ∀ i, (F i).Nodup
  dj : ∀ i j, i ≠ j → ∀ a ∈ F i, a ∉ F j
  fz : ∀ i, ∀ a ∈ F i, Z a = none
  mu : ∀ i, ∀ a ∈ F i, IsM (H a)
def FPost (K : PySem.W.Frag) (T : List (Addr × Str)) (ex : Str → Value) (pk : List Pk) (vs : List V) (Z H : Hp) (F : Nat → Fp) (Q : VK) (E : XK) : FR → Prop
  | .ok d ms => ∀ v H' F' G, Step (mIx pk 0) H F H' F' → FSt K T Z H' F' → AEnd K H' F' pk ms vs 0 → Rep K H' d v G → Own (mIx pk 0) [] true Z H F F' G → Q v H'
  | .err e ms => ∀ H' F', Step (mIx pk 0) H F H' F' → FSt K T Z H' F' → AEnd K H' F' pk ms vs 0 → E (ex e) none H'
  | .stuck => False
def spF (K : PySem.W.Frag) (T : List (Addr × Str)) (ex : Str → Value) (pk : List Pk) (g : List D → FR) : Sp := fun vs H Q E =>
  ∃ ds Z F, vs.length = pk.length ∧ AStart K H Z F pk ds vs 0 ∧ FSt K T Z H F ∧ (∀ i, i ∉ mIx pk 0 → F i = []) ∧ FPost K T ex pk vs Z H F Q E (g ds)
/-- a def keeps its promise (where no repr is under way) -/
structure FnG (P : Program) (w : World) (K : PySem.W.Frag) (mg : Str → Option Value) (base : Heap) (k : Nat) (f : Addr) (fd : FuncData) (ps : List Str) (sp : Sp) : Prop where
  len : ∀ vs H Q E, sp vs H Q E → vs.length = ps.length
  run : ∀ (A : Around) (outer : List PySem.Env) (s : Shared) (H : Hp) (args : Args) (us : List Value) (vs : List V) (Q : VK) (E : XK), A.guards = some [] → Room k A → Env0 P w K mg base A outer s H → BindsTo s fd args (ps.zip us) → Vals vs us → sp vs H Q E →
    codeAny (model P w) A (.call (.ref f) args) (CR (L2N.CX P w) outer P w H s Q E) s
section
variable {P : Program} {w : World} {K : PySem.W.Frag} {mg : Str → Option Value} {base : Heap} {T : List (Addr × Str)} {ex : Str → Value}
theorem astart_len {H Z : Hp} {F : Nat → Fp} : ∀ {pk : List Pk} {ds : List D} {vs : List V} {i : Nat}, AStart K H Z F pk ds vs i → ds.length = pk.length
  | [], [], [], _, _ => rfl
  | .r :: pk, d :: ds, v :: vs, i, h => by simp only [AStart] at h; simp [astart_len h.2]
  | .o :: pk, d :: ds, v :: vs, i, h => by simp only [AStart] at h; simp [astart_len h.2]
  | .m :: pk, d :: ds, v :: vs, i, h => by simp only [AStart] at h; simp [astart_len h.2]
  | [], _ :: _, _, _, h => by simp [AStart] at h
  | [], [], _ :: _, _, h => by simp [AStart] at h
  | .r :: _, [], _, _, h => by simp [AStart] at h
  | .o :: _, [], _, _, h => by simp [AStart] at h
  | .m :: _, [], _, _, h => by simp [AStart] at h
  | .r :: _, _ :: _, [], _, h => by simp [AStart] at h
  | .o :: _, _ :: _, [], _, h => by simp [AStart] at h
  | .m :: _, _ :: _, [], _, h => by simp [AStart] at h
/-- the j-th parameter at the start -/
theorem astart_at {H Z : Hp} {F : Nat → Fp} : ∀ {pk : List Pk} {ds : List D} {vs : List V} {i j : Nat} {d : D}, AStart K H Z F pk ds vs i → okO pk ds = true → ds[j]? = some d → ∃ v, vs[j]? = some v ∧ ∃ p, pk[j]? = some p ∧
    (p = .r → ∃ G, Rep K H d v G ∧ ∀ a ∈ G, Z a ≠ none) ∧ (p = .o → Rep K H d v []) ∧ (p = .m → Rep K H d v (F (i + j)))
  | [], [], [], _, _, _, _, _, e => by simp at e
  | .r :: pk, d :: ds, v :: vs, i, j, d', h, ho, e => by
    simp only [AStart] at h
    cases j with
    | zero =>
      simp at e; subst e
      exact ⟨v, rfl, .r, rfl, fun _ => h.1, fun z => (nomatch z), fun z => nomatch z⟩
    | succ j =>
      obtain ⟨w', h1, p, h2, h3, h4, h5⟩ := astart_at (j := j) h.2 (by simpa [okO] using ho) (by simpa using e)
      exact ⟨w', by simpa using h1, p, by simpa using h2, h3, h4, fun z => by rw [show i + (j + 1) = i + 1 + j by omega]; exact h5 z⟩
  | .o :: pk, d :: ds, v :: vs, i, j, d', h, ho, e => by
    simp only [AStart] at h
    have ho' : d.imm = true ∧ okO pk ds = true := by simpa [okO] using ho
    cases j with
    | zero =>
      simp at e; subst e
      obtain ⟨G, g1, g2⟩ := h.1
      have g := Rep.imm _ _ _ g1 ho'.1
      rw [g] at g1
      exact ⟨v, rfl, .o, rfl, fun z => (nomatch z), fun _ => g1, fun z => nomatch z⟩
    | succ j =>
      obtain ⟨w', h1, p, h2, h3, h4, h5⟩ := astart_at (j := j) h.2 ho'.2 (by simpa using e)
      exact ⟨w', by simpa using h1, p, by simpa using h2, h3, h4, fun z => by rw [show i + (j + 1) = i + 1 + j by omega]; exact h5 z⟩
  | .m :: pk, d :: ds, v :: vs, i, j, d', h, ho, e => by
    simp only [AStart] at h
    cases j with
    | zero =>
      simp at e; subst e
      exact ⟨v, rfl, .m, rfl, fun z => (nomatch z), fun z => (nomatch z), fun _ => h.1⟩
    | succ j =>
      obtain ⟨w', h1, p, h2, h3, h4, h5⟩ := astart_at (j := j) h.2 (by simpa [okO] using ho) (by simpa using e)
      exact ⟨w', by simpa using h1, p, by simpa using h2, h3, h4, fun z => by rw [show i + (j + 1) = i + 1 + j by omega]; exact h5 z⟩
  | [], _ :: _, _, _, _, _, h, _, _ => by simp [AStart] at h
  | [], [], _ :: _, _, _, _, h, _, _ => by simp [AStart] at h
  | .r :: _, [], _, _, _, _, h, _, _ => by simp [AStart] at h
  | .o :: _, [], _, _, _, _, h, _, _ => by simp [AStart] at h
  | .m :: _, [], _, _, _, _, h, _, _ => by simp [AStart] at h
  | .r :: _, _ :: _, [], _, _, _, h, _, _ => by simp [AStart] at h
  | .o :: _, _ :: _, [], _, _, _, h, _, _ => by simp [AStart] at h
  | .m :: _, _ :: _, [], _, _, _, h, _, _ => by simp [AStart] at h
theorem mIx_mem : ∀ {pk : List Pk} {i j : Nat}, j ∈ mIx pk i ↔ i ≤ j ∧ pk[j - i]? = some .m
  | [], i, j => by simp [mIx]
  | p :: pk, i, j => by
    have ih := mIx_mem (pk := pk) (i := i + 1) (j := j)
    have key : (i + 1 ≤ j ∧ pk[j - (i + 1)]? = some .m) ↔ (i < j ∧ (p :: pk)[j - i]? = some .m) := by
      constructor
      · rintro ⟨h1, h2⟩
        refine ⟨h1, ?_⟩
        rw [show j - i = (j - (i + 1)) + 1 by omega]; simpa using h2
      · rintro ⟨h1, h2⟩
        refine ⟨h1, ?_⟩
        rw [show j - i = (j - (i + 1)) + 1 by omega] at h2; simpa using h2
    cases p with
    | m =>
      simp only [mIx, List.mem_cons, ih, key]
      constructor
      · rintro (e | ⟨h1, h2⟩)
        · subst e; exact ⟨Nat.le_refl _, by simp⟩
        · exact ⟨Nat.le_of_lt h1, h2⟩
      · rintro ⟨h1, h2⟩
        rcases Nat.eq_or_lt_of_le h1 with e | e
        · exact .inl e.symm
        · exact .inr ⟨e, h2⟩
    | r =>
      simp only [mIx, ih, key]
      constructor
      · rintro ⟨h1, h2⟩; exact ⟨Nat.le_of_lt h1, h2⟩
      · rintro ⟨h1, h2⟩
        rcases Nat.eq_or_lt_of_le h1 with e | e
        · subst e; simp at h2
        · exact ⟨e, h2⟩
    | o =>
      simp only [mIx, ih, key]
      constructor
      · rintro ⟨h1, h2⟩; exact ⟨Nat.le_of_lt h1, h2⟩
      · rintro ⟨h1, h2⟩
        rcases Nat.eq_or_lt_of_le h1 with e | e
        · subst e; simp at h2
        · exact ⟨e, h2⟩
theorem pmd_m {pk : List Pk} {vs : List V} {j : Nat} {v : V} (h : pk[j]? = some .m) (hv : vs[j]? = some v) : pmd pk vs j = .fix v := by
  unfold pmd; rw [h, hv]
/-- the changed ones at the end, out of the slots -/
theorem aend_of {H' : Hp} {F'' : Nat → Fp} : ∀ {pk : List Pk} {vs : List V} {ρ : Env} {ms : List D} {i : Nat}, getMs pk ρ = some ms → vs.length = pk.length →
    (∀ j d v, pk[j]? = some .m → ρ[j]? = some (some d) → vs[j]? = some v → Rep K H' d v (F'' (i + j))) → AEnd K H' F'' pk ms vs i
  | [], vs, _, ms, i, e, l, h => by
    simp only [getMs] at e; cases e
    cases vs with
    | nil => simp [AEnd]
    | cons _ _ => simp at l
  | .m :: pk, v :: vs, some d :: ρ, ms, i, e, l, h => by
    simp only [getMs] at e
    cases q : getMs pk ρ with
    | none => rw [q] at e; cases e
    | some ms' =>
      rw [q] at e; cases e
      simp only [AEnd]
      exact ⟨h 0 d v rfl rfl rfl, aend_of q (by simpa using l) fun j d v h1 h2 h3 => by
        have z := h (j + 1) d v (by simpa using h1) (by simpa using h2) (by simpa using h3)
        rwa [show i + (j + 1) = i + 1 + j by omega] at z⟩
  | .m :: pk, v :: vs, none :: ρ, ms, i, e, l, h => by simp [getMs] at e
  | .m :: pk, v :: vs, [], ms, i, e, l, h => by simp [getMs] at e
  | .r :: pk, v :: vs, x :: ρ, ms, i, e, l, h => by
    simp only [getMs] at e
    simp only [AEnd]
    exact aend_of e (by simpa using l) fun j d v h1 h2 h3 => by
      have z := h (j + 1) d v (by simpa using h1) (by simpa using h2) (by simpa using h3)
      rwa [show i + (j + 1) = i + 1 + j by omega] at z
  | .o :: pk, v :: vs, x :: ρ, ms, i, e, l, h => by
    simp only [getMs] at e
    simp only [AEnd]
    exact aend_of e (by simpa using l) fun j d v h1 h2 h3 => by
      have z := h (j + 1) d v (by simpa using h1) (by simpa using h2) (by simpa using h3)
      rwa [show i + (j + 1) = i + 1 + j by omega] at z
  | .r :: pk, v :: vs, [], ms, i, e, l, h => by simp [getMs] at e
  | .o :: pk, v :: vs, [], ms, i, e, l, h => by simp [getMs] at e
  | .m :: _, [], _, _, _, _, l, _ => by simp at l
  | .r :: _, [], _, _, _, _, l, _ => by simp at l
  | .o :: _, [], _, _, _, _, l, _ => by simp at l
abbrev cfgF (T : List (Addr × Str)) (ex : Str → Value) (pk : List Pk) (vs : List V) (E : XK) : Cfg := ⟨T, pmd pk vs, fun cls d _ H => E cls d H, ex⟩
/-- THE RULE for a def: its body's run is its promise -/
theorem fnG {x qual : Str} {params : Arguments} {body : List Stmt} {scope : Scope} {dvs : List V} {kws : List (Str × V)} {f : Addr} {fd : FuncData} {N ps : List Str} {k : Nat} {pk : List Pk} {b : M Fl} (Fu : FunD K x qual params body scope dvs kws f fd) (S : FnScope N ps scope) (hpk : pk.length = ps.length)
    (hbody : ∀ (cdv : Value) (A : Around) (outer : List PySem.Env) (s : Shared) (H : Hp) (vs : List V) (E : XK), A.guards = some [] → Room k (A.deeper (envOfC qual scope s.heap.objs.size f cdv)) → fd.code = cdv → PySem.W.codeIn K cdv qual = true → (∃ oc od osl, K.lookup f = some ⟨oc, od, .func fd, osl⟩) →
      ∃ ws, PSsv (cxOf (L2N.CX P w) P w K mg base N qual scope f cdv A outer s H E) (cfgF T ex pk vs E) body ws b) : FnG P w K mg base (k + 1) f fd ps (spF K T ex pk (runFn N.length pk b)) := by
  refine ⟨fun vs H Q E h => ?_, fun A outer s H args us vs Q E hgd hr e0 hb r h => ?_⟩
  · obtain ⟨_, _, _, hl, _⟩ := h
    rw [hl, hpk]
  · obtain ⟨oc, od, dV, kV, doc, pm, an, cdv, ct, osl, rfl, lk, hcd, _, _⟩ := Fu.ex
    obtain ⟨ds, Z, F, hl, hA, hF, hnil, hq⟩ := h
    refine LamX.run_ofS lk hcd S hr e0 hb r (by rw [hl, hpk]) fun hr' => ?_
    obtain ⟨ws, hps⟩ := hbody cdv A outer s H vs E hgd hr' rfl hcd ⟨oc, od, osl, lk⟩
    refine ⟨_, hps, ?_⟩
    have hdl := astart_len hA
    have hps : ps.length ≤ N.length := by
      have := congrArg List.length S.pre
      rw [List.length_take] at this; omega
    rw [runFn_eq] at hq
    cases ho : okO pk ds with
    | false => rw [ho] at hq; simp only [Bool.false_eq_true, if_false] at hq; exact hq.elim
    | true =>
    rw [ho] at hq
    simp only [if_true] at hq
    generalize hρ : ds.map some ++ List.replicate (N.length - ds.length) none = ρ at hq
    have slot : ∀ j d, ρ[j]? = some (some d) → ds[j]? = some d := fun j d e => by
      rw [← hρ] at e
      by_cases hj : j < ds.length
      · rw [List.getElem?_append_left (by simpa using hj), List.getElem?_map] at e
        cases q : ds[j]? with
        | none => rw [q] at e; cases e
        | some z => rw [q] at e; cases e; rfl
      · rw [List.getElem?_append_right (by simpa using hj), List.getElem?_replicate] at e
        split at e <;> cases e
    have st0 : ∀ j v, vs[j]? = some v → (L2.start N vs)[j]? = some (some v) := fun j v e => by
      unfold L2.start
      have hj := (List.getElem?_eq_some_iff.mp e).1
      rw [List.getElem?_append_left (by simpa using hj), List.getElem?_map, e]; rfl
    have S0 : Sim K (cfgF T ex pk vs E) Z ρ (L2.start N vs) H F := by
      refine ⟨hF.zs, hF.zt, hF.tab, ?_, fun i d m q => ?_, fun i d m q => ?_, fun i v m => ?_, hF.nd, hF.dj, hF.fz, hF.mu⟩
      · rw [← hρ]
        simp [L2.start, hdl, hl]
      · obtain ⟨v, e1, p, e2, h1, h2, h3⟩ := astart_at hA ho (slot i d q)
        have m : pmd pk vs i = .brw := m
        cases p with
        | r =>
          obtain ⟨G, g1, g2⟩ := h1 rfl
          exact ⟨v, G, st0 i v e1, g1, g2⟩
        | m => unfold pmd at m; rw [e2, e1] at m; cases m
        | o => unfold pmd at m; rw [e2] at m; cases m
      · obtain ⟨v, e1, p, e2, h1, h2, h3⟩ := astart_at hA ho (slot i d q)
        have m : pmd pk vs i ≠ .brw := m
        refine ⟨v, st0 i v e1, ?_⟩
        cases p with
        | r => exact absurd (by unfold pmd; rw [e2]) m
        | m => have z := h3 rfl; rwa [Nat.zero_add] at z
        | o =>
          have z : F i = [] := hnil i fun q => by
            have := (mIx_mem.mp q).2
            rw [Nat.sub_zero, e2] at this; cases this
          rw [z]; exact h2 rfl
      · have m : pmd pk vs i = .fix v := m
        unfold pmd at m
        split at m
        · cases m
        · split at m
          · rename_i e; cases m; exact st0 i _ e
          · cases m
        · cases m
        · cases m
    refine ⟨Z, ρ, F, S0, ?_⟩
    -- what the end gives
    have fin : ∀ {ρ' : Env} {σ' : L2.St} {H' : Hp} {F' : Nat → Fp} {ms : List D}, Step ws H F H' F' → Sim K (cfgF T ex pk vs E) Z ρ' σ' H' F' → getMs pk ρ' = some ms →
        Step (mIx pk 0) H F H' (fun i => if i ∈ mIx pk 0 then F' i else []) ∧ FSt K T Z H' (fun i => if i ∈ mIx pk 0 then F' i else []) ∧ AEnd K H' (fun i => if i ∈ mIx pk 0 then F' i else []) pk ms vs 0 := fun {ρ' σ' H' F' ms} st S' em => by
      have sub : ∀ i, ∀ a ∈ (if i ∈ mIx pk 0 then F' i else []), i ∈ mIx pk 0 ∧ a ∈ F' i := fun i a ha => by
        by_cases z : i ∈ mIx pk 0
        · rw [if_pos z] at ha; exact ⟨z, ha⟩
        · rw [if_neg z] at ha; cases ha
      have oldF : ∀ i, ∀ a ∈ F i, i ∈ mIx pk 0 := fun i a ha => by
        rcases Classical.em (i ∈ mIx pk 0) with z | z
        · exact z
        · rw [hnil i z] at ha; cases ha
      refine ⟨⟨fun a o e n q => ?_, st.dom, st.tb, fun j hj => ?_, fun j hj a ha => ?_⟩, ⟨S'.zs, S'.zt, S'.tab, fun i => ?_, fun i j ne a ha hb => S'.dj i j ne a (sub i a ha).2 (sub j a hb).2, fun i a ha => S'.fz i a (sub i a ha).2, fun i a ha => S'.mu i a (sub i a ha).2⟩, ?_⟩
      · exact st.keep a o e n fun i _ z => q i (oldF i a z) z
      · rw [if_neg hj, hnil j hj]
      · obtain ⟨_, ha⟩ := sub j a ha
        by_cases hw : j ∈ ws
        · rcases st.wr j hw a ha with z | ⟨i, _, z⟩
          · exact .inl z
          · exact .inr ⟨i, oldF i a z, z⟩
        · rw [st.same j hw] at ha; exact .inr ⟨j, hj, ha⟩
      · by_cases z : i ∈ mIx pk 0
        · rw [if_pos z]; exact S'.nd i
        · rw [if_neg z]; exact List.Pairwise.nil
      · refine aend_of em hl fun j d v h1 h2 h3 => ?_
        have hm : j ∈ mIx pk 0 := mIx_mem.mpr ⟨Nat.zero_le _, by rw [Nat.sub_zero]; exact h1⟩
        have md : pmd pk vs j = .fix v := pmd_m h1 h3
        have f1 := S'.fix j v md
        obtain ⟨v', g1, g2⟩ := S'.own j d (by show pmd pk vs j ≠ .brw; rw [md]; exact fun z => nomatch z) h2
        rw [f1] at g1
        cases g1
        rw [Nat.zero_add, if_pos hm]; exact g2
    have own : ∀ {F' : Nat → Fp} {G : Fp}, Own ws [] true Z H F F' G → Own (mIx pk 0) [] true Z H F (fun i => if i ∈ mIx pk 0 then F' i else []) G := fun {F' G} O => by
      have key : ∀ a ∈ G, (H a = none ∨ ∃ i ∈ mIx pk 0, a ∈ F i) ∧ ∀ j, a ∉ (if j ∈ mIx pk 0 then F' j else []) := fun a ha => by
        refine ⟨?_, fun j q => ?_⟩
        · rcases ((O.fr rfl).2 a ha).1 with z | ⟨i, _, z⟩
          · exact .inl z
          · refine .inr ⟨i, ?_, z⟩
            rcases Classical.em (i ∈ mIx pk 0) with y | y
            · exact y
            · rw [hnil i y] at z; cases z
        · by_cases z : j ∈ mIx pk 0
          · rw [if_pos z] at q; exact ((O.fr rfl).2 a ha).2 j q
          · rw [if_neg z] at q; cases q
      exact ⟨fun _ => ⟨(O.fr rfl).1, key⟩, fun a ha => .inl (key a ha)⟩
    cases eb : b ρ with
    | stuck => rw [eb] at hq; exact hq.elim
    | err c ρ' =>
      rw [eb] at hq
      simp only [] at hq
      cases em : getMs pk ρ' with
      | none => rw [em] at hq; exact hq.elim
      | some ms =>
        rw [em] at hq
        intro σ' H' F' st S'
        obtain ⟨h1, h2, h3⟩ := fin st S' em
        exact hq H' _ h1 h2 h3
    | ok fl ρ' =>
      rw [eb] at hq
      cases fl with
      | brk => exact hq.elim
      | ct => exact hq.elim
      | nx =>
        simp only [] at hq
        cases em : getMs pk ρ' with
        | none => rw [em] at hq; exact hq.elim
        | some ms =>
          rw [em] at hq
          intro σ' H' F' st S'
          obtain ⟨h1, h2, h3⟩ := fin st S' em
          exact hq .non H' _ [] h1 h2 h3 rep_non Own.nil
      | ret d =>
        simp only [] at hq
        cases em : getMs pk ρ' with
        | none => rw [em] at hq; exact hq.elim
        | some ms =>
          rw [em] at hq
          intro v σ' H' F' G st S' r O
          obtain ⟨h1, h2, h3⟩ := fin st S' em
          exact hq v H' _ G h1 h2 h3 r (own O)
end
end Mw

namespace Mw
open PySem PySem.Spec L2
open PyProof.Rows hiding St

/-! ### calls of defs -/
def ArgL (K : PySem.W.Frag) (σ : L2.St) (H : Hp) : List (Option Nat) → List D → List V → Fp → Prop
  | [], ds, vs, G => ds = [] ∧ vs = [] ∧ G = []
  | none :: sl, ds, vs, G => ∃ d ds' v vs' G1 G2, ds = d :: ds' ∧ vs = v :: vs' ∧ G = G1 ++ G2 ∧ Rep K H d v G1 ∧ ArgL K σ H sl ds' vs' G2
  | some j :: sl, ds, vs, G => ∃ v vs', vs = v :: vs' ∧ σ[j]? = some (some v) ∧ ArgL K σ H sl ds vs' G
abbrev PAm (X : Cx) (c : Cfg) (es : List Expr) (sl : List (Option Nat)) (ws rs : List Nat) (fr : Bool) (f : M (List D)) : Prop :=
  PA X es (fun σ H Q => tG (fun H => ArgL X.K σ H sl) X.K c ws rs fr f σ H Q)
def lSlot (j : Nat) (f : M (List D)) : M (List D) := fun ρ => match ρ[j]? with
  | some (some _) => f ρ
  | _ => .stuck
def js : List (Option Nat) → List Nat
  | [] => []
  | none :: r => js r
  | some j :: r => j :: js r
def asm : List (Option Nat) → List D → Env → Option (List D)
  | [], [], _ => some []
  | none :: sl, d :: ds, ρ => (asm sl ds ρ).map (d :: ·)
  | some j :: sl, ds, ρ => match ρ[j]? with
    | some (some d) => (asm sl ds ρ).map (d :: ·)
    | _ => none
  | _, _, _ => none
def setMs : List (Option Nat) → List D → Env → Env
  | [], _, ρ => ρ
  | none :: sl, ms, ρ => setMs sl ms ρ
  | some j :: sl, m :: ms, ρ => setMs sl ms (ρ.set j (some m))
  | some _ :: _, [], ρ => ρ
def matchP : List Pk → List (Option Nat) → Bool
  | [], [] => true
  | .m :: pk, some _ :: sl => matchP pk sl
  | .r :: pk, none :: sl => matchP pk sl
  | .o :: pk, none :: sl => matchP pk sl
  | _, _ => false
def okS : List (Option Nat) → Bool
  | [] => true
  | none :: r => okS r
  | some j :: r => !(js r).contains j && okS r
def Mode.isW : Mode → Bool
  | .brw => false
  | _ => true
def eCall (sl : List (Option Nat)) (g : List D → FR) (fl : M (List D)) : M D := M.bind fl fun ds ρ => match asm sl ds ρ with
  | none => .stuck
  | some full => match g full with
    | .ok d ms => .ok d (setMs sl ms ρ)
    | .err e ms => .err e (setMs sl ms ρ)
    | .stuck => .stuck
theorem ArgL.isM {K : PySem.W.Frag} {σ : L2.St} {H : Hp} : ∀ {sl : List (Option Nat)} {ds : List D} {vs : List V} {G : Fp}, ArgL K σ H sl ds vs G → ∀ a ∈ G, IsM (H a)
  | [], _, _, _, h, a, ha => by simp only [ArgL] at h; rw [h.2.2] at ha; cases ha
  | none :: sl, _, _, _, h, a, ha => by
    simp only [ArgL] at h
    obtain ⟨d, ds', v, vs', G1, G2, rfl, rfl, rfl, h1, h2⟩ := h
    rcases List.mem_append.mp ha with q | q
    · exact Rep.isM _ _ _ h1 a q
    · exact ArgL.isM h2 a q
  | some j :: sl, _, _, _, h, a, ha => by
    simp only [ArgL] at h
    obtain ⟨v, vs', rfl, _, h2⟩ := h
    exact ArgL.isM h2 a ha
theorem js_mem : ∀ {sl : List (Option Nat)} {j : Nat}, j ∈ js sl ↔ ∃ i : Nat, sl[i]? = some (some j)
  | [], j => by simp [js]
  | none :: r, j => by
    rw [js, js_mem]
    constructor
    · rintro ⟨i, h⟩; exact ⟨i + 1, by simpa using h⟩
    · rintro ⟨i, h⟩
      cases i with
      | zero => simp at h
      | succ i => exact ⟨i, by simpa using h⟩
  | some k :: r, j => by
    rw [js, List.mem_cons, js_mem]
    constructor
    · rintro (e | ⟨i, h⟩)
      · exact ⟨0, by simp [e]⟩
      · exact ⟨i + 1, by simpa using h⟩
    · rintro ⟨i, h⟩
      cases i with
      | zero => simp at h; exact .inl h.symm
      | succ i => exact .inr ⟨i, by simpa using h⟩
theorem okS_inj : ∀ {sl : List (Option Nat)} {i i' j : Nat}, okS sl = true → sl[i]? = some (some j) → sl[i']? = some (some j) → i = i'
  | [], _, _, _, _, h, _ => by simp at h
  | none :: r, 0, _, _, _, h, _ => by simp at h
  | none :: r, _ + 1, 0, _, _, _, h => by simp at h
  | none :: r, i + 1, i' + 1, j, ho, h, h' => by
    have z : i = i' := okS_inj (sl := r) (by simpa [okS] using ho) (by simpa using h) (by simpa using h')
    rw [z]
  | some k :: r, 0, 0, _, _, _, _ => rfl
  | some k :: r, 0, i' + 1, j, ho, h, h' => by
    simp at h; subst h
    simp only [okS, Bool.and_eq_true, Bool.not_eq_true'] at ho
    have : k ∈ js r := js_mem.mpr ⟨i', by simpa using h'⟩
    have z := ho.1
    rw [List.contains_iff_mem.mpr this] at z; cases z
  | some k :: r, i + 1, 0, j, ho, h, h' => by
    simp at h'; subst h'
    simp only [okS, Bool.and_eq_true, Bool.not_eq_true'] at ho
    have : k ∈ js r := js_mem.mpr ⟨i, by simpa using h⟩
    have z := ho.1
    rw [List.contains_iff_mem.mpr this] at z; cases z
  | some k :: r, i + 1, i' + 1, j, ho, h, h' => by
    simp only [okS, Bool.and_eq_true] at ho
    have z : i = i' := okS_inj (sl := r) ho.2 (by simpa using h) (by simpa using h')
    rw [z]
theorem matchP_at : ∀ {pk : List Pk} {sl : List (Option Nat)} {i : Nat}, matchP pk sl = true → (pk[i]? = some .m ↔ ∃ j, sl[i]? = some (some j))
  | [], [], i, _ => by simp
  | .m :: pk, some k :: sl, 0, _ => by simp
  | .m :: pk, some k :: sl, i + 1, h => by simpa using matchP_at (pk := pk) (sl := sl) (i := i) (by simpa [matchP] using h)
  | .r :: pk, none :: sl, 0, _ => by simp
  | .r :: pk, none :: sl, i + 1, h => by simpa using matchP_at (pk := pk) (sl := sl) (i := i) (by simpa [matchP] using h)
  | .o :: pk, none :: sl, 0, _ => by simp
  | .o :: pk, none :: sl, i + 1, h => by simpa using matchP_at (pk := pk) (sl := sl) (i := i) (by simpa [matchP] using h)
  | [], _ :: _, _, h => by simp [matchP] at h
  | .m :: _, [], _, h => by simp [matchP] at h
  | .r :: _, [], _, h => by simp [matchP] at h
  | .o :: _, [], _, h => by simp [matchP] at h
  | .m :: _, none :: _, _, h => by simp [matchP] at h
  | .r :: _, some _ :: _, _, h => by simp [matchP] at h
  | .o :: _, some _ :: _, _, h => by simp [matchP] at h
theorem mIx_iff {pk : List Pk} {sl : List (Option Nat)} {i : Nat} (h : matchP pk sl = true) : i ∈ mIx pk 0 ↔ ∃ j, sl[i]? = some (some j) := by
  rw [mIx_mem, ← matchP_at h, Nat.sub_zero]
  exact ⟨fun h => h.2, fun h => ⟨Nat.zero_le _, h⟩⟩
/-- the callee's parameters, out of the caller's state -/
theorem astart_of {K : PySem.W.Frag} {σ : L2.St} {H Z' : Hp} {F Fa : Nat → Fp} {ρ : Env} : ∀ {pk : List Pk} {sl : List (Option Nat)} {ds full : List D} {vs : List V} {G : Fp} {i : Nat}, matchP pk sl = true → ArgL K σ H sl ds vs G → asm sl ds ρ = some full → (∀ a ∈ G, Z' a ≠ none) →
    (∀ k j, sl[k]? = some (some j) → Fa (i + k) = F j) → (∀ j d, j ∈ js sl → ρ[j]? = some (some d) → ∃ v, σ[j]? = some (some v) ∧ Rep K H d v (F j)) → AStart K H Z' Fa pk full vs i ∧ vs.length = pk.length
  | [], [], ds, full, vs, G, i, _, h, e, _, _, _ => by
    simp only [ArgL] at h
    obtain ⟨rfl, rfl, rfl⟩ := h
    simp only [asm] at e; cases e
    exact ⟨by simp [AStart], rfl⟩
  | .m :: pk, some j :: sl, ds, full, vs, G, i, hm, h, e, hz, hF, hr => by
    simp only [ArgL] at h
    obtain ⟨v, vs', rfl, hσ, h⟩ := h
    simp only [asm] at e
    split at e
    · rename_i d ed
      cases q : asm sl ds ρ with
      | none => rw [q] at e; cases e
      | some fr =>
        rw [q] at e; cases e
        obtain ⟨v', e1, e2⟩ := hr j d (by simp [js]) ed
        rw [hσ] at e1; cases e1
        have z := hF 0 j rfl
        obtain ⟨i1, i2⟩ := astart_of (Fa := Fa) (i := i + 1) (by simpa [matchP] using hm) h q hz (fun k j' hk => by rw [show i + 1 + k = i + (k + 1) by omega]; exact hF (k + 1) j' (by simpa using hk)) (fun j' d' hj => hr j' d' (by simp [js, hj]))
        refine ⟨?_, by simp [i2]⟩
        simp only [AStart]
        exact ⟨by rw [show Fa i = F j from z]; exact e2, i1⟩
    · cases e
  | .r :: pk, none :: sl, ds, full, vs, G, i, hm, h, e, hz, hF, hr => by
    simp only [ArgL] at h
    obtain ⟨d, ds', v, vs', G1, G2, rfl, rfl, rfl, h1, h2⟩ := h
    simp only [asm] at e
    cases q : asm sl ds' ρ with
    | none => rw [q] at e; cases e
    | some fr =>
      rw [q] at e; cases e
      obtain ⟨i1, i2⟩ := astart_of (Fa := Fa) (i := i + 1) (by simpa [matchP] using hm) h2 q (fun a ha => hz a (List.mem_append_right _ ha)) (fun k j' hk => by rw [show i + 1 + k = i + (k + 1) by omega]; exact hF (k + 1) j' (by simpa using hk)) (fun j' d' hj => hr j' d' (by simpa [js] using hj))
      refine ⟨?_, by simp [i2]⟩
      simp only [AStart]
      exact ⟨⟨G1, h1, fun a ha => hz a (List.mem_append_left _ ha)⟩, i1⟩
  | .o :: pk, none :: sl, ds, full, vs, G, i, hm, h, e, hz, hF, hr => by
    simp only [ArgL] at h
    obtain ⟨d, ds', v, vs', G1, G2, rfl, rfl, rfl, h1, h2⟩ := h
    simp only [asm] at e
    cases q : asm sl ds' ρ with
    | none => rw [q] at e; cases e
    | some fr =>
      rw [q] at e; cases e
      obtain ⟨i1, i2⟩ := astart_of (Fa := Fa) (i := i + 1) (by simpa [matchP] using hm) h2 q (fun a ha => hz a (List.mem_append_right _ ha)) (fun k j' hk => by rw [show i + 1 + k = i + (k + 1) by omega]; exact hF (k + 1) j' (by simpa using hk)) (fun j' d' hj => hr j' d' (by simpa [js] using hj))
      refine ⟨?_, by simp [i2]⟩
      simp only [AStart]
      exact ⟨⟨G1, h1, fun a ha => hz a (List.mem_append_left _ ha)⟩, i1⟩
  | [], _ :: _, _, _, _, _, _, h, _, _, _, _, _ => by simp [matchP] at h
  | .m :: _, [], _, _, _, _, _, h, _, _, _, _, _ => by simp [matchP] at h
  | .r :: _, [], _, _, _, _, _, h, _, _, _, _, _ => by simp [matchP] at h
  | .o :: _, [], _, _, _, _, _, h, _, _, _, _, _ => by simp [matchP] at h
  | .m :: _, none :: _, _, _, _, _, _, h, _, _, _, _, _ => by simp [matchP] at h
  | .r :: _, some _ :: _, _, _, _, _, _, h, _, _, _, _, _ => by simp [matchP] at h
  | .o :: _, some _ :: _, _, _, _, _, _, h, _, _, _, _, _ => by simp [matchP] at h
theorem setMs_len : ∀ {sl : List (Option Nat)} {ms : List D} {ρ : Env}, (setMs sl ms ρ).length = ρ.length
  | [], _, _ => rfl
  | none :: sl, ms, ρ => by rw [setMs, setMs_len]
  | some j :: sl, m :: ms, ρ => by rw [setMs, setMs_len, List.length_set]
  | some _ :: _, [], _ => rfl
theorem setMs_out : ∀ {sl : List (Option Nat)} {ms : List D} {ρ : Env} {k : Nat}, k ∉ js sl → (setMs sl ms ρ)[k]? = ρ[k]?
  | [], _, _, _, _ => rfl
  | none :: sl, ms, ρ, k, h => by rw [setMs, setMs_out (by simpa [js] using h)]
  | some j :: sl, m :: ms, ρ, k, h => by
    rw [setMs, setMs_out (fun z => h (by simp [js, z])), List.getElem?_set_ne]
    intro e; exact h (by simp [js, e])
  | some _ :: _, [], _, _, _ => rfl
/-- the changed ones, back in the caller's slots -/
theorem aend_at {K : PySem.W.Frag} {σ : L2.St} {H H1 : Hp} {F2 : Nat → Fp} : ∀ {pk : List Pk} {sl : List (Option Nat)} {ds ms : List D} {vs : List V} {G : Fp} {i : Nat} {ρ : Env} {j : Nat} {d : D}, matchP pk sl = true → okS sl = true → ArgL K σ H1 sl ds vs G → AEnd K H F2 pk ms vs i → j ∈ js sl →
    (setMs sl ms ρ)[j]? = some (some d) → ∃ k v, sl[k]? = some (some j) ∧ σ[j]? = some (some v) ∧ Rep K H d v (F2 (i + k))
  | [], [], _, _, _, _, _, _, _, _, _, _, _, _, hj, _ => by simp [js] at hj
  | .m :: pk, some k :: sl, ds, ms, vs, G, i, ρ, j, d, hm, ho, h, ha, hj, e => by
    simp only [ArgL] at h
    obtain ⟨v, vs', rfl, hσ, h⟩ := h
    cases ms with
    | nil => simp [AEnd] at ha
    | cons m ms =>
      simp only [AEnd] at ha
      simp only [okS, Bool.and_eq_true, Bool.not_eq_true'] at ho
      have nk : k ∉ js sl := fun z => by
        have y := ho.1
        rw [List.contains_iff_mem.mpr z] at y; cases y
      rw [setMs] at e
      by_cases q : j = k
      · subst q
        rw [setMs_out nk] at e
        rcases set_get e with ⟨_, z⟩ | ⟨z, _⟩
        · cases z
          exact ⟨0, v, rfl, hσ, ha.1⟩
        · exact (z rfl).elim
      · have hj' : j ∈ js sl := by simpa [js, q] using hj
        obtain ⟨k', v', h1, h2, h3⟩ := aend_at (i := i + 1) (by simpa [matchP] using hm) ho.2 h ha.2 hj' e
        exact ⟨k' + 1, v', by simpa using h1, h2, by rw [show i + (k' + 1) = i + 1 + k' by omega]; exact h3⟩
  | .r :: pk, none :: sl, ds, ms, vs, G, i, ρ, j, d, hm, ho, h, ha, hj, e => by
    simp only [ArgL] at h
    obtain ⟨x, ds', v, vs', G1, G2, rfl, rfl, rfl, h1, h2⟩ := h
    simp only [AEnd] at ha
    rw [setMs] at e
    obtain ⟨k', v', h1, h2, h3⟩ := aend_at (i := i + 1) (by simpa [matchP] using hm) (by simpa [okS] using ho) h2 ha (by simpa [js] using hj) e
    exact ⟨k' + 1, v', by simpa using h1, h2, by rw [show i + (k' + 1) = i + 1 + k' by omega]; exact h3⟩
  | .o :: pk, none :: sl, ds, ms, vs, G, i, ρ, j, d, hm, ho, h, ha, hj, e => by
    simp only [ArgL] at h
    obtain ⟨x, ds', v, vs', G1, G2, rfl, rfl, rfl, h1, h2⟩ := h
    simp only [AEnd] at ha
    rw [setMs] at e
    obtain ⟨k', v', h1, h2, h3⟩ := aend_at (i := i + 1) (by simpa [matchP] using hm) (by simpa [okS] using ho) h2 ha (by simpa [js] using hj) e
    exact ⟨k' + 1, v', by simpa using h1, h2, by rw [show i + (k' + 1) = i + 1 + k' by omega]; exact h3⟩
  | [], _ :: _, _, _, _, _, _, _, _, _, h, _, _, _, _, _ => by simp [matchP] at h
  | .m :: _, [], _, _, _, _, _, _, _, _, h, _, _, _, _, _ => by simp [matchP] at h
  | .r :: _, [], _, _, _, _, _, _, _, _, h, _, _, _, _, _ => by simp [matchP] at h
  | .o :: _, [], _, _, _, _, _, _, _, _, h, _, _, _, _, _ => by simp [matchP] at h
  | .m :: _, none :: _, _, _, _, _, _, _, _, _, h, _, _, _, _, _ => by simp [matchP] at h
  | .r :: _, some _ :: _, _, _, _, _, _, _, _, _, h, _, _, _, _, _ => by simp [matchP] at h
  | .o :: _, some _ :: _, _, _, _, _, _, _, _, _, h, _, _, _, _, _ => by simp [matchP] at h
section
variable {X : Cx} {c : Cfg} {e : Expr} {es : List Expr} {wa wb ra rb : List Nat} {ba bb : Bool} {f : M D} {fl : M (List D)} {sl : List (Option Nat)}
theorem a_nil : PAm X c [] [] [] [] true lNil := by
  refine PA.imp pa_nil fun σ H Q q => ?_
  obtain ⟨Z, ρ, F, S, p⟩ := q
  exact p [] H F [] Step.refl S (by simp [ArgL]) Own.nil
theorem a_cons (ha : PEv X c e wa ra ba f) (hb : PAm X c es sl wb rb bb fl) (dis : ∀ j ∈ ra, j ∉ wb := by decide) (hs : starEach (e :: es) X.env = (false, eval e X.env) :: starEach es X.env := by rfl) :
    PAm X c (e :: es) (none :: sl) (wa ++ wb) (ra ++ rb) (ba && bb) (lCons f fl) := by
  refine PA.imp (pa_cons ha hb hs) fun σ H Q q => ?_
  obtain ⟨Z, ρ, F, S, p⟩ := q
  refine tG_two (repC := fun H => ArgL X.K σ H sl) (fun _ => trivial) S p (fun i h => List.mem_append_left _ h) (fun i h => List.mem_append_right _ h) dis fun d1 d2 ρ2 v1 v2 H2 F2 G1 G2 S2 r1 r2' O1 O2 m st dj p2 p0 => ?_
  refine p0 (v1 :: v2) H2 F2 (G1 ++ G2) st S2 (by simp only [ArgL]; exact ⟨d1, d2, v1, v2, G1, G2, rfl, rfl, rfl, r1, r2'⟩) ⟨fun hb => ?_, fun x hx => ?_⟩
  · have hb := Bool.and_eq_true_iff.mp hb
    refine ⟨List.nodup_append.mpr ⟨(O1.fr hb.1).1, (O2.fr hb.2).1, fun x hx y hy e => dj hb x hx (e ▸ hy)⟩, fun x hx => ?_⟩
    rcases List.mem_append.mp hx with z | z
    · exact (O1.fr hb.1).2 x z
    · exact (O2.fr hb.2).2 x z
  · rcases List.mem_append.mp hx with z | z
    · rcases O1.rd x z with q | q | ⟨j, hj, q⟩
      · exact .inl q
      · exact .inr (.inl q)
      · exact .inr (.inr ⟨j, List.mem_append_left _ hj, q⟩)
    · rcases O2.rd x z with q | q | ⟨j, hj, q⟩
      · exact .inl q
      · exact .inr (.inl q)
      · exact .inr (.inr ⟨j, List.mem_append_right _ hj, q⟩)
theorem a_slot (j : Nat) {x : Str} {pos : Pos} (hb : PAm X c es sl wb rb bb fl) (hN : X.N[j]? = some x := by rfl) (hv : Vis X.env.scope x := by first | exact Or.inl rfl | exact Or.inr (Or.inl rfl) | exact Or.inr (Or.inr rfl)) (hd : (x == ("__debug__" : Str)) = false := by decide)
    (hcd : (x == ("__classdict__" : Str)) = false := by decide) (hs : starEach (.Name x pos :: es) X.env = (false, eval (.Name x pos) X.env) :: starEach es X.env := by rfl) : PAm X c (.Name x pos :: es) (some j :: sl) wb rb bb (lSlot j fl) := by
  refine PA.imp (pa_cons (pe_var hN hv hd hcd) hb hs) fun σ H Q q => ?_
  obtain ⟨Z, ρ, F, S, p⟩ := q
  unfold lSlot at p
  split at p
  · rename_i d e
    have hv : ∃ v, σ[j]? = some (some v) := by
      by_cases m : c.md j = .brw
      · obtain ⟨v, _, h, _⟩ := S.brw j d m e; exact ⟨v, h⟩
      · obtain ⟨v, h, _⟩ := S.own j d m e; exact ⟨v, h⟩
    obtain ⟨v, hv⟩ := hv
    refine ⟨v, hv, Z, ρ, F, S, ?_⟩
    cases q : fl ρ with
    | stuck => rw [q] at p; exact p
    | err y ρ' => rw [q] at p; exact p
    | ok ds ρ' =>
      rw [q] at p
      exact fun us H' F' G st S' r O => p (v :: us) H' F' G st S' (by simp only [ArgL]; exact ⟨v, us, rfl, hv, r⟩) O
  · exact p.elim
variable {k : Nat} {fa : Addr} {fd : FuncData} {ps : List Str} {pk : List Pk} {g : List D → FR} {x : Str} {p pos : Pos}
theorem v_call (Fg : FnG X.prog X.w X.K X.mg X.base k fa fd ps (spF X.K c.T c.ex pk g)) (hgd : X.A.guards = some []) (hr : Room k X.A) (hg : Gl X x) (hm : X.mg x = some (.ref fa)) (hk : PySem.W.keepIn X.K (.ref fa) = true) (hb : Binds X.K fd ps []) (tk : L2N.Takes X c.W)
    (ha : PAm X c (e :: es) sl wa ra ba fl) (hmp : matchP pk sl = true := by rfl) (hok : okS sl = true := by rfl) (hmd : ((js sl).all fun j => (c.md j).isW) = true := by rfl) (dis : ∀ j ∈ ra, j ∉ js sl := by decide)
    (hdb : (x == ("__debug__" : Str)) = false := by decide) (he : starEach (e :: es) X.env = (false, eval e X.env) :: starEach es X.env := by rfl) (hpl : (backTo pos (starEach es X.env)).any (·.1) = false := by rfl) :
    PEv X c (.Call (.Name x p) (e :: es) [] pos) (wa ++ js sl) [] true (eCall sl g fl) := by
  refine ⟨fun pins s σ H Q I q => ?_⟩
  obtain ⟨Z, ρ, F, S, pp⟩ := q
  refine wpAny_Call_Name_kw (ld_glob I hg hm ?_ hdb)
  have key : tG (fun H => ArgL X.K σ H sl) X.K c wa ra ba fl σ H (fun vs H1 => spF X.K c.T c.ex pk g vs H1 Q (WE c.W σ)) := by
    refine tG_one S pp (fun _ h => List.mem_append_left _ h) fun ds ρ1 vs H1 F1 G st S1 al O p1 => ?_
    cases ea : asm sl ds ρ1 with
    | none => simp only [ea] at p1; exact p1.elim
    | some full =>
    simp only [ea] at p1
    have p2 := Post.shift p1 st (fun _ h => List.mem_append_left _ h) (fun _ h => List.mem_append_right _ h)
    have out := O.out (F' := F1) (H' := H1) S1 dis
    have mG := ArgL.isM al
    have jm : ∀ j ∈ js sl, c.md j ≠ .brw := fun j hj z => by
      have y := List.all_eq_true.mp hmd j hj
      rw [z] at y; cases y
    classical
    let Z' : Hp := fun a => match H1 a with
      | some (.tbl _) => none
      | some o => if ∃ j ∈ js sl, a ∈ F1 j then none else some o
      | none => none
    have zs : Same Z' H1 := fun a o e => by
      simp only [Z'] at e
      split at e
      · cases e
      · rename_i o' _ h
        split at e
        · cases e
        · cases e; exact h
      · cases e
    have zin : ∀ a o, H1 a = some o → (∀ ps, o ≠ .tbl ps) → (∀ j ∈ js sl, a ∉ F1 j) → Z' a = some o := fun a o e n q => by
      simp only [Z']
      rw [e]
      cases o with
      | tbl ps => exact (n ps rfl).elim
      | _ => exact if_neg (fun ⟨j, hj, h⟩ => q j hj h)
    have zno : ∀ a j, j ∈ js sl → a ∈ F1 j → Z' a = none := fun a j hj h => by
      simp only [Z']
      split
      · rfl
      · exact if_pos ⟨j, hj, h⟩
      · rfl
    let Fa : Nat → Fp := fun i => match sl[i]? with
      | some (some j) => F1 j
      | _ => []
    have fa_at : ∀ i j, sl[i]? = some (some j) → Fa i = F1 j := fun i j h => by simp only [Fa, h]
    have fa_in : ∀ i a, a ∈ Fa i → ∃ j, sl[i]? = some (some j) ∧ a ∈ F1 j := fun i a h => by
      simp only [Fa] at h
      split at h
      · rename_i j e; exact ⟨j, e, h⟩
      · cases h
    obtain ⟨hA, hl⟩ := astart_of (Fa := Fa) (F := F1) (Z' := Z') (i := 0) hmp al ea (fun a ha => by
        obtain ⟨o, q⟩ := (mG a ha).some
        have z := mG a ha
        rw [q] at z
        rw [zin a o q z.ntbl (fun j hj => out a ha j hj)]
        exact fun z => nomatch z) (fun k j hkj => by rw [Nat.zero_add]; exact fa_at k j hkj) (fun j d hj e => S1.own j d (jm j hj) e)
    have hF : FSt X.K c.T Z' H1 Fa := by
      refine ⟨zs, fun a ps z => ?_, S1.tab, fun i => ?_, fun i i' ne a ha hb' => ?_, fun i a ha => ?_, fun i a ha => ?_⟩
      · have y := zs a _ z
        simp only [Z', y] at z; cases z
      · simp only [Fa]
        split
        · exact S1.nd _
        · exact List.Pairwise.nil
      · obtain ⟨j, e1, h1⟩ := fa_in i a ha
        obtain ⟨j', e2, h2⟩ := fa_in i' a hb'
        by_cases q : j = j'
        · subst q; exact ne (okS_inj hok e1 e2)
        · exact S1.dj j j' q a h1 h2
      · obtain ⟨j, e1, h1⟩ := fa_in i a ha
        exact zno a j (js_mem.mpr ⟨i, e1⟩) h1
      · obtain ⟨j, e1, h1⟩ := fa_in i a ha
        exact S1.mu j a h1
    refine ⟨full, Z', Fa, hl, hA, hF, fun i hi => ?_, ?_⟩
    · simp only [Fa]
      split
      · rename_i j e; exact (hi ((mIx_iff hmp).mpr ⟨j, e⟩)).elim
      · rfl
    -- back in the caller
    have back : ∀ {H2 : Hp} {F2 : Nat → Fp} {ms : List D}, Step (mIx pk 0) H1 Fa H2 F2 → FSt X.K c.T Z' H2 F2 → AEnd X.K H2 F2 pk ms vs 0 →
        ∃ F', Step (js sl) H1 F1 H2 F' ∧ Sim X.K c Z (setMs sl ms ρ1) σ H2 F' ∧ ∀ a j, a ∈ F' j → (∃ i, a ∈ F2 i) ∨ (j ∉ js sl ∧ a ∈ F1 j) := fun {H2 F2 ms} s2 f2 ae => by
      let F' : Nat → Fp := fun j => if h : ∃ i, sl[i]? = some (some j) then F2 (Classical.choose h) else F1 j
      have at_ : ∀ i j, sl[i]? = some (some j) → F' j = F2 i := fun i j h => by
        have hh : ∃ i, sl[i]? = some (some j) := ⟨i, h⟩
        simp only [F', dif_pos hh]
        rw [okS_inj hok (Classical.choose_spec hh) h]
      have nat_ : ∀ j, j ∉ js sl → F' j = F1 j := fun j h => by
        have hh : ¬ ∃ i, sl[i]? = some (some j) := fun z => h (js_mem.mpr z)
        simp only [F', dif_neg hh]
      have cas : ∀ j, (∃ i, sl[i]? = some (some j) ∧ F' j = F2 i) ∨ (j ∉ js sl ∧ F' j = F1 j) := fun j => by
        by_cases h : j ∈ js sl
        · obtain ⟨i, e⟩ := js_mem.mp h
          exact .inl ⟨i, e, at_ i j e⟩
        · exact .inr ⟨h, nat_ j h⟩
      have sp : Step (js sl) H1 F1 H2 F' := by
        refine ⟨fun a o e n q => s2.keep a o e n fun i _ z => ?_, s2.dom, s2.tb, nat_, fun j hj a ha => ?_⟩
        · obtain ⟨j, e1, h1⟩ := fa_in i a z
          exact q j (js_mem.mpr ⟨i, e1⟩) h1
        · obtain ⟨i, e⟩ := js_mem.mp hj
          rw [at_ i j e] at ha
          rcases s2.wr i ((mIx_iff hmp).mpr ⟨j, e⟩) a ha with z | ⟨i', _, z⟩
          · exact .inl z
          · obtain ⟨j', e1, h1⟩ := fa_in i' a z
            exact .inr ⟨j', js_mem.mpr ⟨i', e1⟩, h1⟩
      have cross : ∀ i k a, k ∉ js sl → a ∈ F2 i → a ∈ F1 k → False := fun i k a hk h1 h2 => by
        have z := f2.fz i a h1
        obtain ⟨o, q⟩ := (S1.mu k a h2).some
        have m := S1.mu k a h2
        rw [q] at m
        rw [zin a o q m.ntbl fun j hj h => S1.dj k j (fun y => hk (y ▸ hj)) a h2 h] at z
        cases z
      refine ⟨F', sp, ⟨fun a o z => ?_, S1.zt, f2.tab, by rw [setMs_len]; exact S1.len, fun i d m q => ?_, fun i d m q => ?_, S1.fix, fun i => ?_, fun i j ne a ha hb' => ?_, fun i a ha => ?_, fun i a ha => ?_⟩, fun a j ha => ?_⟩
      · exact sp.keep a o (S1.zs a o z) (fun ps y => S1.zt a ps (y ▸ z)) fun j hj h => by rw [S1.fz j a h] at z; cases z
      · have hi : i ∉ js sl := fun z => jm i z m
        rw [setMs_out hi] at q
        obtain ⟨v, G', h1, h2, h3⟩ := S1.brw i d m q
        refine ⟨v, G', h1, Rep.keep _ _ _ h2 (S1.keeps sp fun a ha => ⟨Rep.isM _ _ _ h2 a ha, fun j hj h => h3 a ha (S1.fz j a h)⟩), h3⟩
      · by_cases hi : i ∈ js sl
        · obtain ⟨k', v', h1, h2, h3⟩ := aend_at (i := 0) hmp hok al ae hi q
          rw [Nat.zero_add] at h3
          exact ⟨v', h2, by rw [at_ k' i h1]; exact h3⟩
        · rw [setMs_out hi] at q
          obtain ⟨v, h1, h2⟩ := S1.own i d m q
          refine ⟨v, h1, ?_⟩
          rw [nat_ i hi]
          exact Rep.keep _ _ _ h2 (S1.keeps sp fun a ha => ⟨Rep.isM _ _ _ h2 a ha, fun j hj h => S1.dj i j (fun y => hi (y ▸ hj)) a ha h⟩)
      · rcases cas i with ⟨k', _, e⟩ | ⟨_, e⟩
        · rw [e]; exact f2.nd _
        · rw [e]; exact S1.nd _
      · rcases cas i with ⟨k1, y1, e⟩ | ⟨y1, e⟩ <;> rw [e] at ha
        · rcases cas j with ⟨k2, y2, e'⟩ | ⟨y2, e'⟩ <;> rw [e'] at hb'
          · refine f2.dj k1 k2 (fun z => ne ?_) a ha hb'
            subst z
            rw [y1] at y2
            cases y2; rfl
          · exact cross k1 j a y2 ha hb'
        · rcases cas j with ⟨k2, y2, e'⟩ | ⟨y2, e'⟩ <;> rw [e'] at hb'
          · exact cross k2 i a y1 hb' ha
          · exact S1.dj i j ne a ha hb'
      · rcases cas i with ⟨k1, y1, e⟩ | ⟨y1, e⟩ <;> rw [e] at ha
        · cases z : Z a with
          | none => rfl
          | some o =>
            have y := f2.fz k1 a ha
            rw [zin a o (S1.zs a o z) (fun ps w => S1.zt a ps (w ▸ z)) fun j hj h => by rw [S1.fz j a h] at z; cases z] at y
            cases y
        · exact S1.fz i a ha
      · rcases cas i with ⟨k1, y1, e⟩ | ⟨y1, e⟩ <;> rw [e] at ha
        · exact f2.mu k1 a ha
        · obtain ⟨o, q⟩ := (S1.mu i a ha).some
          have m := S1.mu i a ha
          rw [q] at m
          rw [sp.keep a o q m.ntbl fun j hj h => S1.dj i j (fun y => y1 (y ▸ hj)) a ha h]
          exact m
      · rcases cas j with ⟨k1, y1, e⟩ | ⟨y1, e⟩ <;> rw [e] at ha
        · exact .inl ⟨k1, ha⟩
        · exact .inr ⟨y1, ha⟩
    cases eg : g full with
    | stuck => simp only [eg] at p2; exact p2.elim
    | err y ms =>
      simp only [eg] at p2
      intro H2 F2 s2 f2 ae
      obtain ⟨F', sp, S2, _⟩ := back s2 f2 ae
      exact p2 H2 F' sp S2
    | ok d ms =>
      simp only [eg] at p2
      intro v H2 F2 G2 s2 f2 ae r2 O2
      obtain ⟨F', sp, S2, hs⟩ := back s2 f2 ae
      have key : ∀ a ∈ G2, (H1 a = none ∨ ∃ i ∈ js sl, a ∈ F1 i) ∧ ∀ j, a ∉ F' j := fun a ha => by
        have y := (O2.fr rfl).2 a ha
        have y1 : H1 a = none ∨ ∃ i ∈ js sl, a ∈ F1 i := by
          rcases y.1 with z | ⟨i, _, z⟩
          · exact .inl z
          · obtain ⟨j, e1, h1⟩ := fa_in i a z
            exact .inr ⟨j, js_mem.mpr ⟨i, e1⟩, h1⟩
        refine ⟨y1, fun j hj => ?_⟩
        rcases hs a j hj with ⟨i, z⟩ | ⟨nj, z⟩
        · exact y.2 i z
        · rcases y1 with q | ⟨i, hi, q⟩
          · have m := S1.mu j a z
            rw [q] at m; exact m
          · exact S1.dj j i (fun w => nj (w ▸ hi)) a z q
      exact p2 v H2 F' G2 sp S2 r2 ⟨fun _ => ⟨(O2.fr rfl).1, key⟩, fun a ha => .inl (key a ha)⟩
  refine PySem.W.callWith_K (h₀ := X.base) I.ok.mod.kin hk (thn (ha.run pos pins s σ H _ I key) fun us s1 hh => ?_) he hpl
  obtain ⟨vs, H1, I1, r, q⟩ := hh
  refine ⟨I1.kIn, ?_⟩
  have hl : us.length = ps.length := by rw [← r.length]; exact Fg.len _ _ _ _ q
  have b := hb s1 us I1.kIn (by rw [List.append_nil]; exact hl)
  rw [List.append_nil] at b
  refine wpAny_call (codeAny_mono (Fg.run X.A X.stack s1 H1 ⟨us, []⟩ us vs Q (WE c.W σ) hgd hr I1.env0 b r q) fun rr s' hq => ?_)
  cases rr with
  | error ee => exact L2N.passAt tk σ pins H1 s1 ee s' I1 hq
  | ok fl =>
    cases fl with
    | ret u => exact I1.after hq
    | next => exact False.elim hq
    | brk => exact False.elim hq
    | cont => exact False.elim hq
end
end Mw

namespace Mw
open PySem PySem.Spec L2
open PyProof.Rows hiding St

/-! ### what loops walk -/
def strDs (s : Str) : List D := s.cps.toList.map fun k => .str ⟨#[k]⟩
def seqD : D → Option (List D)
  | .tup ds => some ds
  | .lst ds => some ds
  | .scr ds => some ds
  | .str s => some (strDs s)
  | _ => none
def iSeq (f : M D) : M (List D) := M.bind f fun d => M.opt (seqD d)
section
variable {K : PySem.W.Frag} {H0 : Hp}
theorem gives_lst {a : Addr} {vs : List V} {ds : List D} {G : Fp} (h : H0 a = some (.lst vs)) (r : RepL K H0 ds vs G) : Gives K (Itl K a) ds H0 (a :: G) := by
  have get : ∀ H, Keeps H0 H (a :: G) → H a = some (.lst vs) := fun H k => k.at_ a List.mem_cons_self _ h
  refine ⟨fun i H k hi => ?_, fun H k => ⟨vs, SqL.of (get H k), by rw [r.length]; exact Nat.le_refl _⟩, fun i H x H' k hi y => ?_⟩
  · have l : i < vs.length := by rw [r.length]; exact hi
    exact ⟨vs, vs[i], SqL.of (get H k), List.getElem?_eq_getElem l⟩
  · obtain ⟨e, q⟩ := y
    subst e
    have ed : ds[i]? = some ds[i] := List.getElem?_eq_getElem hi
    obtain ⟨v, G', e1, r1, s1⟩ := r.getS ed
    have e2 := q vs (SqL.of (get _ k))
    rw [e1] at e2; cases e2
    exact ⟨Same.refl _, ds[i], G', ed, Rep.keep _ _ _ r1 ⟨fun b hb => k.at_ b (List.mem_cons_of_mem _ (s1.subset hb)), k.tup, k.frz⟩, fun b hb => List.mem_cons_of_mem _ (s1.subset hb)⟩
theorem gives_scr {a : Addr} {vs : List V} {ds : List D} {G : Fp} (h : Stat K H0 a vs) (r : RepL K H0 ds vs G) : Gives K (Itl K a) ds H0 G := by
  have get : ∀ H, Keeps H0 H G → SqL K H a vs := fun H k => (k.stat h).sqL
  refine ⟨fun i H k hi => ?_, fun H k => ⟨vs, get H k, by rw [r.length]; exact Nat.le_refl _⟩, fun i H x H' k hi y => ?_⟩
  · have l : i < vs.length := by rw [r.length]; exact hi
    exact ⟨vs, vs[i], get H k, List.getElem?_eq_getElem l⟩
  · obtain ⟨e, q⟩ := y
    subst e
    have ed : ds[i]? = some ds[i] := List.getElem?_eq_getElem hi
    obtain ⟨v, G', e1, r1, s1⟩ := r.getS ed
    have e2 := q vs (get _ k)
    rw [e1] at e2; cases e2
    exact ⟨Same.refl _, ds[i], G', ed, Rep.keep _ _ _ r1 ⟨fun b hb => k.at_ b (s1.subset hb), k.tup, k.frz⟩, fun b hb => s1.subset hb⟩
theorem gives_tup {a : Addr} {vs : List V} {ds : List D} {G : Fp} (h : SqT K H0 a vs) (r : RepL K H0 ds vs G) : Gives K (Itt K a) ds H0 G := by
  have get : ∀ H, Keeps H0 H G → SqT K H a vs := fun H k => k.sqT h
  refine ⟨fun i H k hi => ?_, fun H k => ⟨vs, get H k, by rw [r.length]; exact Nat.le_refl _⟩, fun i H x H' k hi y => ?_⟩
  · have l : i < vs.length := by rw [r.length]; exact hi
    exact ⟨vs, vs[i], get H k, List.getElem?_eq_getElem l⟩
  · obtain ⟨e, q⟩ := y
    subst e
    have ed : ds[i]? = some ds[i] := List.getElem?_eq_getElem hi
    obtain ⟨v, G', e1, r1, s1⟩ := r.getS ed
    have e2 := q vs (get _ k)
    rw [e1] at e2; cases e2
    exact ⟨Same.refl _, ds[i], G', ed, Rep.keep _ _ _ r1 ⟨fun b hb => k.at_ b (s1.subset hb), k.tup, k.frz⟩, fun b hb => s1.subset hb⟩
theorem gives_str {x : Str} : Gives K (Its x) (strDs x) H0 [] := by
  have len : (strDs x).length = x.cps.size := by simp [strDs]
  refine ⟨fun i H k hi => by show i < x.cps.size; omega, fun H k => by show x.cps.size ≤ _; omega, fun i H y H' k hi q => ?_⟩
  obtain ⟨e, k', e1, e2⟩ := q
  subst e e2
  refine ⟨Same.refl _, .str ⟨#[k']⟩, [], ?_, rep_str, fun b hb => hb⟩
  simp only [strDs, List.getElem?_map, Array.getElem?_toList, e1, Option.map_some]
def rngD (lo k : Int) (n : Nat) : List D := (List.range n).map fun i => .int (lo + (i : Nat) * k)
theorem rngD_len {lo k : Int} {n : Nat} : (rngD lo k n).length = n := by simp [rngD]
theorem rngD_get {lo k : Int} {n i : Nat} (h : i < n) : (rngD lo k n)[i]? = some (.int (lo + (i : Nat) * k)) := by
  simp [rngD, List.getElem?_map, List.getElem?_range h]
theorem gives_rng {lo : Int} {n : Nat} : Gives K (Itr lo n) (rngD lo 1 n) H0 [] := by
  refine ⟨fun i H k hi => by rw [rngD_len] at hi; exact hi, fun H k => by rw [rngD_len]; exact Nat.le_refl n, fun i H y H' k hi q => ?_⟩
  obtain ⟨e, e2⟩ := q
  subst e e2
  rw [rngD_len] at hi
  exact ⟨Same.refl _, _, [], rngD_get hi, by rw [Int.mul_one]; exact rep_int, fun b hb => hb⟩
theorem gives_rngC {lo k : Int} {n : Nat} : Gives K (Itc lo k n) (rngD lo k n) H0 [] := by
  refine ⟨fun i H _ hi => by rw [rngD_len] at hi; exact hi, fun H _ => by rw [rngD_len]; exact Nat.le_refl n, fun i H y H' _ hi q => ?_⟩
  obtain ⟨e, e2⟩ := q
  subst e e2
  rw [rngD_len] at hi
  exact ⟨Same.refl _, _, [], rngD_get hi, rep_int, fun b hb => hb⟩
theorem rev_get {α : Type} {l : List α} {i : Nat} (h : i < l.length) : l.reverse[i]? = l[l.length - 1 - i]? := List.getElem?_reverse h
theorem gives_rev {a : Addr} {vs : List V} {ds : List D} {G : Fp} {GG : Fp} (get : ∀ H, Keeps H0 H GG → SqL K H a vs) (sub : ∀ b ∈ G, b ∈ GG) (r : RepL K H0 ds vs G) : Gives K (Itv K a vs.length) ds.reverse H0 GG := by
  have hl := r.length
  refine ⟨fun i H k hi => ?_, fun H k => by rw [List.length_reverse, hl]; exact Nat.le_refl ds.length, fun i H x H' k hi y => ?_⟩
  · rw [List.length_reverse] at hi
    have l : i < vs.length := by omega
    have l2 : vs.length - 1 - i < vs.length := by omega
    exact ⟨l, vs, vs[vs.length - 1 - i], get H k, List.getElem?_eq_getElem l2⟩
  · obtain ⟨e, q⟩ := y
    subst e
    rw [List.length_reverse] at hi
    have l2 : ds.length - 1 - i < ds.length := by omega
    have ed : ds[ds.length - 1 - i]? = some ds[ds.length - 1 - i] := List.getElem?_eq_getElem l2
    obtain ⟨v, G', e1, r1, s1⟩ := r.getS ed
    have e2 := q vs (get _ k)
    rw [hl, e1] at e2; cases e2
    exact ⟨Same.refl _, _, G', by rw [rev_get hi]; exact ed, Rep.keep _ _ _ r1 ⟨fun b hb => k.at_ b (sub b (s1.subset hb)), k.tup, k.frz⟩, fun b hb => sub b (s1.subset hb)⟩
theorem gives_revT {a : Addr} {vs : List V} {ds : List D} {G : Fp} (h : SqT K H0 a vs) (r : RepL K H0 ds vs G) : Gives K (RT.ItvT K a vs.length) ds.reverse H0 G := by
  have hl := r.length
  have get : ∀ H, Keeps H0 H G → SqT K H a vs := fun H k => k.sqT h
  refine ⟨fun i H k hi => ?_, fun H k => by rw [List.length_reverse, hl]; exact Nat.le_refl ds.length, fun i H x H' k hi y => ?_⟩
  · rw [List.length_reverse] at hi
    have l : i < vs.length := by omega
    have l2 : vs.length - 1 - i < vs.length := by omega
    exact ⟨l, vs, vs[vs.length - 1 - i], get H k, List.getElem?_eq_getElem l2⟩
  · obtain ⟨e, q⟩ := y
    subst e
    rw [List.length_reverse] at hi
    have l2 : ds.length - 1 - i < ds.length := by omega
    have ed : ds[ds.length - 1 - i]? = some ds[ds.length - 1 - i] := List.getElem?_eq_getElem l2
    obtain ⟨v, G', e1, r1, s1⟩ := r.getS ed
    have e2 := q vs (get _ k)
    rw [hl, e1] at e2; cases e2
    exact ⟨Same.refl _, _, G', by rw [rev_get hi]; exact ed, Rep.keep _ _ _ r1 ⟨fun b hb => k.at_ b (s1.subset hb), k.tup, k.frz⟩, fun b hb => s1.subset hb⟩
end
section
variable {X : Cx} {c : Cfg} {tg e : Expr} {ws rs : List Nat} {fr : Bool} {f : M D} {fl : M (List D)}
theorem own_gg {Z H : Hp} {F F' : Nat → Fp} {G GG : Fp} (O : Own ws rs fr Z H F F' G) (h : ∀ b ∈ GG, b ∈ G) : Own ws rs false Z H F F' GG := ⟨fun z => (nomatch z), fun a ha => O.rd a (h a ha)⟩
theorem i_seq (he : PEv X c e ws rs fr f) : PIv X c tg e ws rs (iSeq f) := by
  refine ⟨fun pins s σ H R I q => ?_⟩
  obtain ⟨Z, ρ, F, S, p⟩ := q
  unfold iSeq M.bind at p
  cases ef : f ρ with
  | stuck => rw [ef] at p; exact p.elim
  | err x ρ1 =>
    rw [ef] at p
    exact (pi_list he).run pins s σ H R I ⟨Z, ρ, F, S, by rw [ef]; exact p⟩
  | ok d ρ1 =>
    rw [ef] at p
    cases d with
    | tup ds =>
      refine (pi_tup he).run pins s σ H R I ⟨Z, ρ, F, S, ?_⟩
      rw [ef]
      intro v H1 F1 G st S1 r O
      obtain ⟨a, us, rfl, s1, l1⟩ := tup_inv r
      exact ⟨a, rfl, ⟨us, s1⟩, p _ H1 F1 G st S1 (gives_tup s1 l1) (RepL.isM _ _ _ l1) (own_gg O fun _ h => h)⟩
    | lst ds =>
      refine (pi_list he).run pins s σ H R I ⟨Z, ρ, F, S, ?_⟩
      rw [ef]
      intro v H1 F1 G st S1 r O
      have mG := Rep.isM _ _ _ r
      obtain ⟨a, us, G', rfl, rfl, s1, l1⟩ := lst_inv r
      exact ⟨a, rfl, ⟨us, SqL.of s1⟩, p _ H1 F1 _ st S1 (gives_lst s1 l1) mG (own_gg O fun _ h => h)⟩
    | scr ds =>
      refine (pi_list he).run pins s σ H R I ⟨Z, ρ, F, S, ?_⟩
      rw [ef]
      intro v H1 F1 G st S1 r O
      obtain ⟨a, us, rfl, s1, l1⟩ := scr_inv r
      exact ⟨a, rfl, ⟨us, s1.sqL⟩, p _ H1 F1 G st S1 (gives_scr s1 l1) (RepL.isM _ _ _ l1) (own_gg O fun _ h => h)⟩
    | str x =>
      refine (pi_str he).run pins s σ H R I ⟨Z, ρ, F, S, ?_⟩
      rw [ef]
      intro v H1 F1 G st S1 r O
      obtain ⟨e1, e2⟩ := str_inv r
      exact ⟨x, e1, p _ H1 F1 [] st S1 gives_str (fun _ z => nomatch z) (own_gg O fun _ z => nomatch z)⟩
    | non => exact p.elim
    | bl _ => exact p.elim
    | int _ => exact p.elim
    | dic _ => exact p.elim
    | ref _ => exact p.elim
def revOf : D → Option (List D)
  | .tup ds => some ds.reverse
  | .lst ds => some ds.reverse
  | .scr ds => some ds.reverse
  | _ => none
def iRevs (f : M D) : M (List D) := M.bind f fun d => M.opt (revOf d)
theorem i_rev {p pos : Pos} (hg : Gl X "reversed") (hm : X.mg "reversed" = none) (he : PEv X c e ws rs fr f) (hs : starEach [e] X.env = (false, eval e X.env) :: starEach [] X.env := by rfl) : PIv X c tg (.Call (.Name "reversed" p) [e] [] pos) ws rs (iRevs f) := by
  refine PI.imp (RT.pi_revA hg hm he hs) fun σ H R q => ?_
  obtain ⟨Z, ρ, F, S, p⟩ := q
  refine ⟨Z, ρ, F, S, ?_⟩
  unfold iRevs M.bind at p
  cases ef : f ρ with
  | stuck => rw [ef] at p; exact p.elim
  | err x ρ1 => rw [ef] at p; exact p
  | ok d ρ1 =>
    rw [ef] at p
    intro v H1 F1 G st S1 r O
    cases d with
    | tup ds =>
      obtain ⟨a, us, rfl, s1, l1⟩ := tup_inv r
      exact ⟨a, us, rfl, .inr ⟨s1, p _ H1 F1 G st S1 (gives_revT s1 l1) (RepL.isM _ _ _ l1) (own_gg O fun _ h => h)⟩⟩
    | lst ds =>
      have mG := Rep.isM _ _ _ r
      obtain ⟨a, us, G', rfl, rfl, s1, l1⟩ := lst_inv r
      exact ⟨a, us, rfl, .inl ⟨SqL.of s1, p _ H1 F1 _ st S1 (gives_rev (GG := a :: G') (fun H k => SqL.of (k.at_ a List.mem_cons_self _ s1)) (fun _ h => List.mem_cons_of_mem _ h) l1) mG (own_gg O fun _ h => h)⟩⟩
    | scr ds =>
      obtain ⟨a, us, rfl, s1, l1⟩ := scr_inv r
      exact ⟨a, us, rfl, .inl ⟨s1.sqL, p _ H1 F1 G st S1 (gives_rev (GG := G) (fun H k => (k.stat s1).sqL) (fun _ h => h) l1) (RepL.isM _ _ _ l1) (own_gg O fun _ h => h)⟩⟩
    | str _ => exact p.elim
    | non => exact p.elim
    | bl _ => exact p.elim
    | int _ => exact p.elim
    | dic _ => exact p.elim
    | ref _ => exact p.elim
/-- so said that the kernel does not count it down -/
def fit (i : Int) : Bool := Nat.blt i.natAbs 4611686018427387904
theorem fit_iff {i : Int} : fit i = true ↔ -(2 ^ 62) < i ∧ i < 2 ^ 62 := by
  unfold fit
  rw [Nat.blt_eq]
  omega
theorem fit_of' {i : Int} (h : fit i = true) : -(2 ^ 62) ≤ i ∧ i < 2 ^ 62 := by
  have := fit_iff.mp h; omega
def rng1 : List D → Option (List D)
  | [.int j] => if fit j then some (rngD 0 1 j.toNat) else none
  | _ => none
def rng2 : List D → Option (List D)
  | [.int i, .int j] => if fit i && fit j then some (rngD i 1 (j - i).toNat) else none
  | _ => none
/-- down by one -/
def rng3 : List D → Option (List D)
  | [.int i, .int j, .int k] => if fit i && fit j then (if k = -1 then some (rngD i (-1) (i - j).toNat) else if k = 2 ∧ 0 ≤ i ∧ i ≤ j then some (rngD i 2 ((j - i + 1) / 2).toNat) else none) else none
  | _ => none
def iRng (g : List D → Option (List D)) (f : M (List D)) : M (List D) := M.bind f fun d => M.opt (g d)
theorem rangeSize_two (a b : Int) : Builtin.Range.rangeSize a b 2 = if a < b then (b - a - 1) / 2 + 1 else 0 := by
  unfold Builtin.Range.rangeSize
  rw [if_pos (by decide)]
theorem RepL.ints_inv1 {K : PySem.W.Frag} {H : Hp} {i : Int} {vs : List V} {G : Fp} (h : RepL K H [.int i] vs G) : vs = [.int i] := by
  simp only [RepL] at h
  obtain ⟨v, r, G1, G2, rfl, rfl, q1, rfl, _⟩ := h
  rw [(int_inv q1).1]
theorem RepL.ints_inv2 {K : PySem.W.Frag} {H : Hp} {i j : Int} {vs : List V} {G : Fp} (h : RepL K H [.int i, .int j] vs G) : vs = [.int i, .int j] := by
  simp only [RepL] at h
  obtain ⟨v, r, G1, G2, rfl, rfl, q1, w, r2, G3, G4, rfl, rfl, q2, rfl, _⟩ := h
  rw [(int_inv q1).1, (int_inv q2).1]
theorem RepL.ints_inv3 {K : PySem.W.Frag} {H : Hp} {i j k : Int} {vs : List V} {G : Fp} (h : RepL K H [.int i, .int j, .int k] vs G) : vs = [.int i, .int j, .int k] := by
  simp only [RepL] at h
  obtain ⟨v, r, G1, G2, rfl, rfl, q1, w, r2, G3, G4, rfl, rfl, q2, u, r3, G5, G6, rfl, rfl, q3, rfl, _⟩ := h
  rw [(int_inv q1).1, (int_inv q2).1, (int_inv q3).1]
theorem rng1_imp {K : PySem.W.Frag} {σ : L2.St} {H : Hp} {R : It → Hp → Prop} (q : tI K c ws [] (iRng rng1 fl) σ H R) : iRng1 (tG (RepL K) K c ws rs fr fl) σ H R := by
  obtain ⟨Z, ρ, F, S, p⟩ := q
  refine ⟨Z, ρ, F, S, ?_⟩
  unfold iRng M.bind at p
  cases ef : fl ρ with
  | stuck => rw [ef] at p; exact p.elim
  | err x ρ1 => rw [ef] at p; exact p
  | ok ds ρ1 =>
    rw [ef] at p
    simp only [] at p
    intro vs H1 F1 G st S1 r O
    cases eg : rng1 ds with
    | none => rw [eg] at p; exact p.elim
    | some dd =>
      rw [eg] at p
      unfold rng1 at eg
      split at eg
      · split at eg
        · rename_i j hf
          cases eg
          obtain ⟨f1, f2⟩ := fit_of' hf
          exact ⟨j, RepL.ints_inv1 r, f1, f2, p _ H1 F1 [] st S1 gives_rng (fun _ z => nomatch z) Own.nil⟩
        · cases eg
      · cases eg
theorem i_range1 {a : Expr} {p pos : Pos} (hg : Gl X "range") (hm : X.mg "range" = none) (ha : PAv X c [a] ws rs fr fl) (hs : starEach [a] X.env = [(false, eval a X.env)] := by rfl) : PIv X c tg (.Call (.Name "range" p) [a] [] pos) ws [] (iRng rng1 fl) :=
  PI.imp (pi_range1 hg hm ha hs) fun σ H R q => rng1_imp q
theorem i_range2 {a b : Expr} {p pos : Pos} (hg : Gl X "range") (hm : X.mg "range" = none) (ha : PAv X c [a, b] ws rs fr fl) (hs : starEach [a, b] X.env = [(false, eval a X.env), (false, eval b X.env)] := by rfl) (hs2 : starEach [b] X.env = [(false, eval b X.env)] := by rfl) :
    PIv X c tg (.Call (.Name "range" p) [a, b] [] pos) ws [] (iRng rng2 fl) := by
  refine PI.imp (pi_range2 hg hm ha hs hs2) fun σ H R q => ?_
  obtain ⟨Z, ρ, F, S, p⟩ := q
  refine ⟨Z, ρ, F, S, ?_⟩
  unfold iRng M.bind at p
  cases ef : fl ρ with
  | stuck => rw [ef] at p; exact p.elim
  | err x ρ1 => rw [ef] at p; exact p
  | ok ds ρ1 =>
    rw [ef] at p
    simp only [] at p
    intro vs H1 F1 G st S1 r O
    cases eg : rng2 ds with
    | none => rw [eg] at p; exact p.elim
    | some dd =>
      rw [eg] at p
      unfold rng2 at eg
      split at eg
      · split at eg
        · rename_i i j hf
          cases eg
          obtain ⟨hf1, hf2⟩ := Bool.and_eq_true_iff.mp hf
          obtain ⟨f1, f2⟩ := fit_of' hf1
          obtain ⟨f3, f4⟩ := fit_of' hf2
          exact ⟨i, j, RepL.ints_inv2 r, ⟨f1, f2, f3, f4⟩, p _ H1 F1 [] st S1 gives_rng (fun _ z => nomatch z) Own.nil⟩
        · cases eg
      · cases eg
theorem i_range3 {a b d : Expr} {p pos : Pos} (hg : Gl X "range") (hm : X.mg "range" = none) (ha : PAv X c [a, b, d] ws rs fr fl)
    (hs : starEach [a, b, d] X.env = (false, eval a X.env) :: starEach [b, d] X.env := by rfl) (hpl : (backTo pos (starEach [b, d] X.env)).any (·.1) = false := by rfl) :
    PIv X c tg (.Call (.Name "range" p) [a, b, d] [] pos) ws [] (iRng rng3 fl) := by
  refine PI.imp (pi_range3 hg hm ha hs hpl) fun σ H R q => ?_
  obtain ⟨Z, ρ, F, S, p⟩ := q
  refine ⟨Z, ρ, F, S, ?_⟩
  unfold iRng M.bind at p
  cases ef : fl ρ with
  | stuck => rw [ef] at p; exact p.elim
  | err x ρ1 => rw [ef] at p; exact p
  | ok ds ρ1 =>
    rw [ef] at p
    simp only [] at p
    intro vs H1 F1 G st S1 r O
    cases eg : rng3 ds with
    | none => rw [eg] at p; exact p.elim
    | some dd =>
      rw [eg] at p
      unfold rng3 at eg
      split at eg
      · split at eg
        · rename_i i j k hf
          obtain ⟨hf1, hf2⟩ := Bool.and_eq_true_iff.mp hf
          obtain ⟨f1, f2⟩ := fit_of' hf1
          obtain ⟨f3, f4⟩ := fit_of' hf2
          split at eg
          · rename_i hk
            subst hk
            cases eg
            exact ⟨i, j, -1, _, RepL.ints_inv3 r, RgC.neg f1 f2 f3 f4, p _ H1 F1 [] st S1 gives_rngC (fun _ z => nomatch z) Own.nil⟩
          · split at eg
            · rename_i _ hk
              obtain ⟨rfl, h0, hij⟩ := hk
              cases eg
              refine ⟨i, j, 2, _, RepL.ints_inv3 r, ⟨by decide, by decide, ?_, ?_⟩, p _ H1 F1 [] st S1 gives_rngC (fun _ z => nomatch z) Own.nil⟩
              · unfold Builtin.Range.small
                rw [rangeSize_two]
                simp only [Builtin.Range.rangeFitsLong, Bool.and_eq_true, Bool.or_eq_true, decide_eq_true_eq, beq_iff_eq, show (2 : Int) > 0 by decide, if_true]
                split <;> omega
              · rw [rangeSize_two]
                split <;> omega
            · cases eg
        · cases eg
      · cases eg
end
end Mw

namespace Mw
open PySem PySem.Spec L2
open PyProof.Rows hiding St

/-! ### an object of a name is changed -/
section
variable {K : PySem.W.Frag} {c : Cfg} {Z H H1 : Hp} {F F1 : Nat → Fp} {ρ : Env} {σ : St} {a : Addr} {o : HO} {i : Nat} {d' : D} {v : V} {G' : Fp} {wa ws : List Nat}
theorem Sim.mut (S : Sim K c Z ρ σ H F) (hm : c.md i ≠ .brw) (hv : σ[i]? = some (some v)) (ha : a ∈ F i) (ho : IsM (some o)) (r : Rep K (upd H a o) d' v G') (n : G'.Nodup) (out : ∀ b ∈ G', b ∈ F i ∨ (∀ j, b ∉ F j) ∧ Z b = none) :
    Sim K c Z (ρ.set i (some d')) σ (upd H a o) (updF F i G') := by
  have hD : IsM (H a) := S.mu i a ha
  have hz : Z a = none := S.fz i a ha
  have kp : ∀ G : Fp, a ∉ G → Keeps H (L2.upd H a o) G := fun G n => Keeps.upd hD fun b hb z => n (by rw [← z]; exact hb)
  have sub : ∀ j, ∀ b ∈ updF F i G' j, (j = i ∧ b ∈ G') ∨ (j ≠ i ∧ b ∈ F j) := fun j b h => by
    by_cases e : j = i
    · rw [e, updF_same] at h; exact .inl ⟨e, h⟩
    · rw [updF_ne e] at h; exact .inr ⟨e, h⟩
  refine ⟨fun b u e => ?_, S.zt, fun p hp => ?_, by rw [List.length_set]; exact S.len, fun j d m q => ?_, fun j d m q => ?_, S.fix, fun j => ?_, fun j k ne b hb hc => ?_, fun j b hb => ?_, fun j b hb => ?_⟩
  · rw [upd_ne (fun z => by rw [z, hz] at e; cases e)]; exact S.zs b u e
  · obtain ⟨ps, h1, h2, h3⟩ := S.tab p hp
    have n1 : p.1 ≠ a := fun z => by rw [z] at h1; rw [h1] at hD; exact hD
    refine ⟨ps, by rw [upd_ne n1]; exact h1, h2, fun pos cv hc => ?_⟩
    obtain ⟨b, e1, e2⟩ := h3 pos cv hc
    refine ⟨b, e1, ?_⟩
    rw [upd_ne]; exact e2
    intro z
    rw [z] at e2
    unfold LamX.CodeO at e2
    rw [e2] at hD; exact hD
  · rcases set_get q with ⟨e, _⟩ | ⟨e, q⟩
    · rw [e] at m; exact (hm m).elim
    · obtain ⟨w, G, h1, h2, h3⟩ := S.brw j d m q
      exact ⟨w, G, h1, Rep.keep _ _ _ h2 (kp G fun z => h3 a z hz), h3⟩
  · rcases set_get q with ⟨e, q⟩ | ⟨e, q⟩
    · cases q
      rw [e, updF_same]
      exact ⟨v, hv, r⟩
    · obtain ⟨w, h1, h2⟩ := S.own j d m q
      rw [updF_ne e]
      exact ⟨w, h1, Rep.keep _ _ _ h2 (kp _ (S.dj i j (Ne.symm e) a ha))⟩
  · by_cases e : j = i
    · rw [e, updF_same]; exact n
    · rw [updF_ne e]; exact S.nd j
  · rcases sub j b hb with ⟨e, hb⟩ | ⟨e, hb⟩
    · rcases sub k b hc with ⟨e', hc⟩ | ⟨e', hc⟩
      · exact ne (e.trans e'.symm)
      · rcases out b hb with q | q
        · exact S.dj i k (Ne.symm e') b q hc
        · exact q.1 k hc
    · rcases sub k b hc with ⟨e', hc⟩ | ⟨e', hc⟩
      · rcases out b hc with q | q
        · exact S.dj i j (Ne.symm e) b q hb
        · exact q.1 j hb
      · exact S.dj j k ne b hb hc
  · rcases sub j b hb with ⟨e, hb⟩ | ⟨e, hb⟩
    · rcases out b hb with q | q
      · exact S.fz i b q
      · exact q.2
    · exact S.fz j b hb
  · rcases sub j b hb with ⟨e, hb⟩ | ⟨e, hb⟩
    · exact Rep.isM _ _ _ r b hb
    · rw [upd_ne (show b ≠ a from fun z => S.dj i j (Ne.symm e) a ha (by rw [← z]; exact hb))]
      exact S.mu j b hb
theorem Step.mut (st : Step wa H F H1 F1) (S1 : Sim K c Z ρ σ H1 F1) (ha : a ∈ F1 i) (new : ∀ b ∈ G', b ∈ F1 i ∨ (H b = none ∨ ∃ k ∈ wa, b ∈ F k)) (h1 : ∀ j ∈ wa, j ∈ ws) (hi : i ∈ ws) : Step ws H F (L2.upd H1 a o) (updF F1 i G') := by
  have stm := st.mono h1
  have back : ∀ b, b ∈ F1 i → H b = none ∨ ∃ k ∈ ws, b ∈ F k := fun b hb => stm.wr i hi b hb
  refine ⟨fun b u e n q => ?_, fun b e => ?_, fun b ps e => ?_, fun j hj => ?_, fun j hj b hb => ?_⟩
  · have ne : b ≠ a := fun z => by
      rcases back a ha with y | ⟨k, hk, y⟩
      · rw [z, y] at e; cases e
      · exact q k hk (by rw [z]; exact y)
    rw [upd_ne ne]
    exact stm.keep b u e n q
  · by_cases z : b = a
    · rw [z, upd_same]; exact fun z => nomatch z
    · rw [upd_ne z]; exact st.dom b e
  · obtain ⟨qs, y⟩ := st.tb b ps e
    have ne : b ≠ a := fun z => by
      have m := S1.mu i a ha
      rw [← z, y] at m; exact m
    exact ⟨qs, by rw [upd_ne ne]; exact y⟩
  · rw [updF_ne (fun e => hj (by rw [e]; exact hi))]
    exact stm.same j hj
  · by_cases z : j = i
    · rw [z, updF_same] at hb
      rcases new b hb with y | y | ⟨k, hk, y⟩
      · exact back b y
      · exact .inl y
      · exact .inr ⟨k, h1 k hk, y⟩
    · rw [updF_ne z] at hb
      exact stm.wr j hj b hb
end
/-- a slot's list, before and after its argument -/
def gLst (i : Nat) (ρ : Env) : Option (List D) := match ρ[i]? with
  | some (some (.lst ds)) => some ds
  | _ => none
theorem gLst_some {i : Nat} {ρ : Env} {ds : List D} (h : gLst i ρ = some ds) : ρ[i]? = some (some (.lst ds)) := by
  unfold gLst at h
  split at h
  · rename_i e; cases h; exact e
  · cases h
def Mode.notBrw : Mode → Bool
  | .brw => false
  | _ => true
theorem notBrw_ne {m : Mode} (h : m.notBrw = true) : m ≠ .brw := by intro e; rw [e] at h; cases h
section
variable {X : Cx} {c : Cfg} {e : Expr} {wa ra : List Nat} {ba : Bool} {f : M D} {pos apos cpos p : Pos} {x : Str}
theorem slot_lst {K : PySem.W.Frag} {Z H : Hp} {F : Nat → Fp} {ρ : Env} {σ : St} {i : Nat} {ds : List D} (S : Sim K c Z ρ σ H F) (hm : c.md i ≠ .brw) (h : gLst i ρ = some ds) :
    ∃ a vs G, σ[i]? = some (some (.ref a)) ∧ F i = a :: G ∧ H a = some (.lst vs) ∧ RepL K H ds vs G := by
  obtain ⟨v, h1, h2⟩ := S.own i _ hm (gLst_some h)
  obtain ⟨a, vs, G, rfl, e, h3, h4⟩ := lst_inv h2
  exact ⟨a, vs, G, h1, e, h3, h4⟩
/-- the run of an argument, the list at hand before -/
def sMeth (i : Nat) (f : M D) (g : List D → D → Option (List D)) : M Fl := fun ρ => match gLst i ρ with
  | none => .stuck
  | some _ => M.bind f (fun d ρ1 => match gLst i ρ1 with
    | none => .stuck
    | some ds => match g ds d with
      | none => .stuck
      | some ds' => .ok .nx (ρ1.set i (some (.lst ds')))) ρ
def appD (ds : List D) (d : D) : Option (List D) := if ds.length < 16777216 then some (ds ++ [d]) else none
theorem keepsL_upd {K : PySem.W.Frag} {H : Hp} {a : Addr} {o : HO} {ds : List D} {vs : List V} {G : Fp} (hD : IsM (H a)) (n : a ∉ G) (r : RepL K H ds vs G) : RepL K (upd H a o) ds vs G :=
  RepL.keep _ _ _ r (Keeps.upd hD fun b hb z => n (by rw [← z]; exact hb))
theorem keeps_upd {K : PySem.W.Frag} {H : Hp} {a : Addr} {o : HO} {ds : D} {vs : V} {G : Fp} (hD : IsM (H a)) (n : a ∉ G) (r : Rep K H ds vs G) : Rep K (upd H a o) ds vs G :=
  Rep.keep _ _ _ r (Keeps.upd hD fun b hb z => n (by rw [← z]; exact hb))
theorem s_append (i : Nat) {bb0 : Bool} (he : PEv X c e wa ra bb0 f) (hm : (c.md i).notBrw = true := by rfl) (hN : X.N[i]? = some x := by rfl) (hv : Vis X.env.scope x := by first | exact Or.inl rfl | exact Or.inr (Or.inl rfl) | exact Or.inr (Or.inr rfl)) (hd : (x == ("__debug__" : Str)) = false := by decide)
    (hcd : (x == ("__classdict__" : Str)) = false := by decide)
    (hfew : ((backTo cpos (starEach [e] X.env)).all (fun x => !x.1) && (backToKw cpos (keywordEach [] X.env)).all (fun x => x.1.isSome)
      && decide (([e] : List Expr).length + ([] : List Keyword).length + (if ([] : List Keyword).isEmpty then 0 else 1) < 30)) = true := by rfl)
    (hline : (apos.endLine == cpos.line) = true := by rfl) (hs : starEach [e] X.env = (false, eval e X.env) :: starEach [] X.env := by rfl)
    (hsw : swapsWith (.Call (.Attribute (.Name x p) "append" apos) [e] [] cpos) none pos.line X.env = pure false := by rfl) (hb0 : bb0 = true := by rfl) :
    PSv X c (.Expr (.Call (.Attribute (.Name x p) "append" apos) [e] [] cpos) pos) (wa ++ [i]) (sMeth i f appD) := by
  subst hb0
  refine PS.imp (ps_expr (pe_bm PySem.F.plainAttrs_list PySem.F.slot_list_append PySem.F.type_list_append mt_append (pe_var hN hv hd hcd) (pa_cons he pa_nil hs) rfl hfew hline hs rfl) hsw) fun N σ H q => ?_
  obtain ⟨Z, ρ, F, S, p0⟩ := q
  have hm := notBrw_ne hm
  unfold sMeth at p0
  cases eg : gLst i ρ with
  | none => rw [eg] at p0; exact p0.elim
  | some ds0 =>
  rw [eg] at p0
  obtain ⟨a, vs0, G0, hσ, eF, hH, rl0⟩ := slot_lst S hm eg
  refine ⟨.ref a, hσ, .inl ⟨rfl, _, SqL.of hH⟩, ?_⟩
  refine tS_one S p0 (fun _ h => List.mem_append_left _ h) (fun _ _ _ => trivial) fun d ρ1 v H1 F1 G st S1 r O p1 => ?_
  cases eg1 : gLst i ρ1 with
  | none => rw [eg1] at p1; exact p1.elim
  | some ds =>
  rw [eg1] at p1
  obtain ⟨a1, vs, G1, hσ1, eF1, hH1, rl⟩ := slot_lst S1 hm eg1
  rw [hσ] at hσ1; cases hσ1
  simp only [appD] at p1
  split at p1
  · exact p1.elim
  · rename_i ds' ed
    split at ed
    · rename_i hl
      cases ed
      have aF : a ∈ F1 i := by rw [eF1]; exact List.mem_cons_self
      have fr := O.fr rfl
      have mD : IsM (H1 a) := S1.mu i a aF
      have naG : a ∉ G := fun z => (fr.2 a z).2 i aF
      have nd := S1.nd i
      rw [eF1] at nd
      obtain ⟨n1, n2⟩ := List.nodup_cons.mp nd
      have r' : Rep X.K (upd H1 a (.lst (vs ++ [v]))) (.lst (ds ++ [d])) (.ref a) (a :: (G1 ++ G)) := by
        refine rep_lst upd_same (RepL.append (keepsL_upd mD n1 rl) ?_)
        have one : RepL X.K H1 [d] [v] G := by
          have z := RepL.cons r RepL.nil
          rwa [List.append_nil] at z
        exact keepsL_upd mD naG one
      have nG : ∀ b ∈ G, b ∉ F1 i := fun b hb => (fr.2 b hb).2 i
      refine ⟨a, vs, v, rfl, rfl, hH1, by rw [rl.length, szl]; exact hl, p1 σ _ _ (st.mut (G' := a :: (G1 ++ G)) S1 aF (fun b hb => ?_) (fun _ h => List.mem_append_left _ h) (List.mem_append_right _ (by simp))) (S1.mut hm hσ aF trivial r' ?_ fun b hb => ?_)⟩
      · rcases List.mem_cons.mp hb with z | z
        · exact .inl (by rw [z]; exact aF)
        · rcases List.mem_append.mp z with z | z
          · exact .inl (by rw [eF1]; exact List.mem_cons_of_mem _ z)
          · exact .inr (fr.2 b z).1
      · refine List.nodup_cons.mpr ⟨fun z => (List.mem_append.mp z).elim n1 naG, List.nodup_append.mpr ⟨n2, fr.1, fun b hb b' hb' e => ?_⟩⟩
        subst e
        exact nG b hb' (by rw [eF1]; exact List.mem_cons_of_mem _ hb)
      · rcases List.mem_cons.mp hb with z | z
        · exact .inl (by rw [z]; exact aF)
        · rcases List.mem_append.mp z with z | z
          · exact .inl (by rw [eF1]; exact List.mem_cons_of_mem _ z)
          · exact .inr ⟨(fr.2 b z).2, O.z S b z⟩
    · cases ed
/-! ### x[i] = v of a list -/
theorem RepL.setAt {K : PySem.W.Frag} {H : Hp} {d : D} {v : V} {Gv : Fp} (r : Rep K H d v Gv) : ∀ {ds : List D} {vs : List V} {G : Fp} {j : Nat}, RepL K H ds vs G → j < ds.length → ∃ Gp Gs Go, G = Gp ++ (Go ++ Gs) ∧ RepL K H (ds.set j d) (vs.set j v) (Gp ++ (Gv ++ Gs))
  | [], _, _, _, _, h => nomatch h
  | d0 :: ds, vs, G, 0, h, hj => by
    simp only [RepL] at h
    obtain ⟨v0, r0, G1, G2, rfl, rfl, h1, h2⟩ := h
    refine ⟨[], G2, G1, rfl, ?_⟩
    rw [List.nil_append]
    exact RepL.cons r h2
  | d0 :: ds, vs, G, j + 1, h, hj => by
    simp only [RepL] at h
    obtain ⟨v0, r0, G1, G2, rfl, rfl, h1, h2⟩ := h
    obtain ⟨Gp, Gs, Go, e, h3⟩ := RepL.setAt (j := j) r h2 (by simpa using hj)
    refine ⟨G1 ++ Gp, Gs, Go, by rw [e, List.append_assoc], ?_⟩
    rw [List.append_assoc]
    exact RepL.cons h1 h3
def setLD (ds : List D) (k v : D) : Option (List D) := match k with
  | .int k => match ixN ds.length k with
    | some j => some (ds.set j v)
    | none => none
  | _ => none
/-- x[fi] = f -/
def sSetL (i : Nat) (f fi : M D) : M Fl := M.bind f fun v => fun ρ => match gLst i ρ with
  | none => .stuck
  | some _ => M.bind fi (fun k ρ1 => match gLst i ρ1 with
    | none => .stuck
    | some ds => match setLD ds k v with
      | none => .stuck
      | some ds' => .ok .nx (ρ1.set i (some (.lst ds')))) ρ
variable {e2 : Expr} {wb rb : List Nat} {bb : Bool} {g : M D}
/-- a second run of an expression: told from the start -/
theorem tS_go {β γ : Type} {repC : Hp → γ → β → Fp → Prop} {K : PySem.W.Frag} {Z H H1 : Hp} {F F1 : Nat → Fp} {ρ1 : Env} {σ : L2.St} {N : β → Hp → Prop} {D' : Ends} {fe : M γ} {k : γ → M Fl} {w1 w2 ws r2 : List Nat} {b2 : Bool}
    (S1 : Sim K c Z ρ1 σ H1 F1) (st : Step w1 H F H1 F1) (p : PostS K c ws Z H F D' (M.bind fe k ρ1)) (h1 : ∀ i ∈ w1, i ∈ ws) (h2 : ∀ i ∈ w2, i ∈ ws)
    (h : ∀ d ρ2 v2 H2 F2 G2, Step w2 H1 F1 H2 F2 → Sim K c Z ρ2 σ H2 F2 → repC H2 d v2 G2 → Own w2 r2 b2 Z H1 F1 F2 G2 → PostS K c ws Z H F D' (k d ρ2) → N v2 H2) : tG repC K c w2 r2 b2 fe σ H1 N := by
  refine ⟨Z, ρ1, F1, S1, ?_⟩
  unfold M.bind at p
  cases e : fe ρ1 with
  | stuck => rw [e] at p; exact p.elim
  | err x ρ2 => rw [e] at p; exact fun H' F' st' S' => p σ H' F' ((st.trans st').mono fun i hi => (List.mem_append.mp hi).elim (h1 i) (h2 i)) S'
  | ok d ρ2 =>
    rw [e] at p
    exact fun v H' F' G st' S' r O => h d ρ2 v H' F' G st' S' r O p
theorem s_setL (i : Nat) {spos : Pos} {bb0 : Bool} (he : PEv X c e wa ra bb0 f) (hi : PEv X c e2 wb rb bb g) (hm : (c.md i).notBrw = true := by rfl) (hN : X.N[i]? = some x := by rfl) (hv : Vis X.env.scope x := by first | exact Or.inl rfl | exact Or.inr (Or.inl rfl) | exact Or.inr (Or.inr rfl)) (hd : (x == ("__debug__" : Str)) = false := by decide)
    (hcd : (x == ("__classdict__" : Str)) = false := by decide)
    (ha : ∀ v, assign (.Subscript (.Name x p) e2 spos) X.env v = (do
      let ov ← holding [v] (eval (.Name x p) X.env)
      let iv ← holding [v, ov] (eval e2 X.env)
      standAt spos
      holding [v, ov, iv] (setItem ov iv v)
      release [v, ov, iv] []) := by intro _; rfl)
    (hs : swapsWithSole [.Subscript (.Name x p) e2 spos] e pos.line X.env = pure false := by rfl) (hw : swappedStores [.Subscript (.Name x p) e2 spos] e X.env = pure none := by rfl)
    (h1 : (assignEach [.Subscript (.Name x p) e2 spos] X.env).map (·.2) = [assign (.Subscript (.Name x p) e2 spos) X.env] := by rfl) (hb0 : bb0 = true := by rfl) :
    PSv X c (.Assign [.Subscript (.Name x p) e2 spos] e pos) (wa ++ (wb ++ [i])) (sSetL i f g) := by
  subst hb0
  refine PS.imp (ps_asg he (pg_sub (pe_var hN hv hd hcd) hi set_list ha) hs hw h1) fun N σ H q => ?_
  obtain ⟨Z, ρ, F, S, p0⟩ := q
  have hm := notBrw_ne hm
  have l1 : ∀ j ∈ wa, j ∈ wa ++ (wb ++ [i]) := fun _ h => List.mem_append_left _ h
  have l2 : ∀ j ∈ wb, j ∈ wa ++ (wb ++ [i]) := fun _ h => List.mem_append_right _ (List.mem_append_left _ h)
  refine tS_one S p0 l1 (fun _ _ _ => trivial) fun d ρ1 v H1 F1 G st S1 r O p1 => ?_
  cases eg : gLst i ρ1 with
  | none => rw [eg] at p1; exact p1.elim
  | some ds0 =>
  rw [eg] at p1
  obtain ⟨a, vs0, G0, hσ, eF, hH, rl0⟩ := slot_lst S1 hm eg
  refine ⟨.ref a, hσ, ?_⟩
  refine tS_go S1 st p1 l1 l2 fun k ρ2 kv H2 F2 Gk st2 S2 rk Ok p2 => ?_
  cases eg2 : gLst i ρ2 with
  | none => rw [eg2] at p2; exact p2.elim
  | some ds =>
  rw [eg2] at p2
  obtain ⟨a2, vs, G2, hσ2, eF2, hH2, rl⟩ := slot_lst S2 hm eg2
  rw [hσ] at hσ2; cases hσ2
  simp only [setLD] at p2
  split at p2
  · exact p2.elim
  · rename_i ds' ed
    split at ed
    · rename_i kk
      split at ed
      · rename_i j ej
        cases ed
        have mG := Rep.isM _ _ _ r
        have O' := (O.fr0 []).carry S1 mG st2 (fun _ z => nomatch z)
        have fr := O'.fr rfl
        have r2 : Rep X.K H2 d v G := Rep.keep _ _ _ r (S1.keeps st2 fun b hb => ⟨mG b hb, fun j _ => ((O.fr rfl).2 b hb).2 j⟩)
        have aF : a ∈ F2 i := by rw [eF2]; exact List.mem_cons_self
        have mD : IsM (H2 a) := S2.mu i a aF
        have naG : a ∉ G := fun z => (fr.2 a z).2 i aF
        have nd := S2.nd i
        rw [eF2] at nd
        obtain ⟨n1, n2⟩ := List.nodup_cons.mp nd
        have hjl : j < ds.length := (ixN_seq ej).2.1
        obtain ⟨Gp, Gs, Go, eG, rs⟩ := RepL.setAt r2 rl hjl
        subst eG
        have nG : ∀ b ∈ G, b ∉ F2 i := fun b hb => (fr.2 b hb).2 i
        have inF : ∀ b, b ∈ Gp ++ Gs → b ∈ F2 i := fun b hb => by
          rw [eF2]
          refine List.mem_cons_of_mem _ ?_
          rcases List.mem_append.mp hb with z | z
          · exact List.mem_append_left _ z
          · exact List.mem_append_right _ (List.mem_append_right _ z)
        have n3 : a ∉ Gp ++ (G ++ Gs) := fun z => by
          rcases List.mem_append.mp z with z | z
          · exact n1 (List.mem_append_left _ z)
          · rcases List.mem_append.mp z with z | z
            · exact naG z
            · exact n1 (List.mem_append_right _ (List.mem_append_right _ z))
        have r' : Rep X.K (upd H2 a (.lst (vs.set j v))) (.lst (ds.set j d)) (.ref a) (a :: (Gp ++ (G ++ Gs))) := rep_lst upd_same (keepsL_upd mD n3 rs)
        have cas : ∀ b ∈ a :: (Gp ++ (G ++ Gs)), b ∈ F2 i ∨ b ∈ G := fun b hb => by
          rcases List.mem_cons.mp hb with z | z
          · exact .inl (by rw [z]; exact aF)
          · rcases List.mem_append.mp z with z | z
            · exact .inl (inF b (List.mem_append_left _ z))
            · rcases List.mem_append.mp z with z | z
              · exact .inr z
              · exact .inl (inF b (List.mem_append_right _ z))
        have st12 := (st.trans st2).mono (ws := wa ++ wb) fun _ h => h
        refine ⟨a, vs, kk, j, rfl, (int_inv rk).1, hH2, by rw [rl.length]; exact ej, p2 σ _ _ ?_ (S2.mut hm hσ aF trivial r' ?_ fun b hb => ?_)⟩
        · refine Step.mut (wa := wa ++ wb) st12 S2 aF (fun b hb => ?_) (fun j hj => (List.mem_append.mp hj).elim (l1 j) (l2 j)) (List.mem_append_right _ (List.mem_append_right _ (by simp)))
          rcases cas b hb with z | z
          · exact .inl z
          · refine .inr ?_
            rcases ((O.fr rfl).2 b z).1 with y | ⟨k', hk, y⟩
            · exact .inl y
            · exact .inr ⟨k', List.mem_append_left _ hk, y⟩
        · obtain ⟨m1, m2, m3⟩ := List.nodup_append.mp n2
          obtain ⟨m4, m5, m6⟩ := List.nodup_append.mp m2
          refine List.nodup_cons.mpr ⟨n3, List.nodup_append.mpr ⟨m1, List.nodup_append.mpr ⟨fr.1, m5, fun b hb b' hb' e => ?_⟩, fun b hb b' hb' e => ?_⟩⟩
          · subst e
            exact nG b hb (inF b (List.mem_append_right _ hb'))
          · subst e
            rcases List.mem_append.mp hb' with z | z
            · exact nG b z (inF b (List.mem_append_left _ hb))
            · exact m3 b hb b (List.mem_append_right _ z) rfl
        · rcases cas b hb with z | z
          · exact .inl z
          · exact .inr ⟨(fr.2 b z).2, O.z S b z⟩
      · cases ed
    · cases ed
end
end Mw

set_option maxHeartbeats 1000000
namespace Mw
open PySem PySem.Spec L2 L2H HotX
open PyProof.Rows hiding St

/-! ### a comprehension over range(..) while an exception is handled -/
section
variable {X : Cx}
theorem lc_hot0 {pins : List (Addr × Obj)} {s : Shared} {σ : L2.St} {H : Hp} {Q : VK} {use : Option (Value → Sem Unit)} {Qf : Value → Shared → Prop} {pos' : Pos} {p : Addr × Obj} (hot : Hot1 X.A p) (hpn : p ∈ X.pn) {elt tg arg : Expr} {ifs : List Expr} {scope : Scope} {own : List (Str × Nat)} {pr rpos pos : Pos} {ta : TA} {g : TG} {tt : TT} {te : TE} (hN : X.N.Nodup) (I : Inv X pins σ H s) (hgl : Gl X "range") (hmg : X.mg "range" = none) (ha : PA X [arg] ta)
    (ok : BlkOk X.N X.env.scope scope own)
    (hg : ∀ (s : Shared) (H : Hp) (C : Addr) (cl : List (Str × Addr)) (fp : List Addr), PG (X.blk s H scope (compEnvC scope cl C X.env) fp) tg g)
    (ht : ∀ (s : Shared) (H : Hp) (C : Addr) (cl : List (Str × Addr)) (fp : List Addr), PTs (X.blk s H scope (compEnvC scope cl C X.env) fp) ifs tt)
    (he : ∀ (s : Shared) (H : Hp) (C : Addr) (cl : List (Str × Addr)) (fp : List Addr), PE (X.blk s H scope (compEnvC scope cl C X.env) fp) elt te)
    (hs : ∀ x, foldedSetIterable (.Call (.Name "range" pr) [arg] [] rpos) X.env x = pure x) (hst : starEach [arg] X.env = [(false, eval arg X.env)]) (h : tLc (iRng1 ta) g tt te (own.map (·.2)) σ H Q)
    (fin0 : ∀ D C s' m H', Inv X pins σ H' s' → Q (.ref D) H' → s'.heap.Ns C m → FpOk X pins H' C → compPost (model X.prog X.w) X.A X.xe use Qf (.ref D) C (.ok .next) s') :
    wpAny (model X.prog X.w) X.A (comprehension (.ListComp elt [⟨tg, .Call (.Name "range" pr) [arg] [] rpos, ifs, 0⟩] scope pos) scope X.env pos' (newList []) false (eval (.Call (.Name "range" pr) [arg] [] rpos) X.env) use) Qf X.xe s := by
  have free_in : ∀ y ∈ scope.names, y.2 = .free → ∃ cc, X.env.cells.lookup y.1 = some cc := fun y hy e => by
    rcases ok.free y hy e with k | k
    · exact I.ok.has _ (.inl k)
    · exact I.ok.has _ (.inr k)
  have start := (pi_range1H (tg := tg) (p := pr) (pos := rpos) hgl hmg ha hst).run pins s σ H _ I h
  refine wpAny_comprehension_free (use := use) rfl hs (closure_ok free_in) ok.kind (fun y hy e => by rw [ok.uniq y hy, e]) (thn start fun w1 s1 hx => thn hx fun itv s2 h2 => ?_)
  obtain ⟨it, fp, tn, J, H2, rfl, I2, T, stT, fpk, q⟩ := h2
  refine wpAny_newObj_type (newEnv_comp ?_) (by show 0 ≤ sizeLine; decide)
  obtain ⟨D, hD⟩ : ∃ D, D = s2.heap.objs.size := ⟨_, rfl⟩
  obtain ⟨W, ⟨m0, w0⟩, turn⟩ := q D (I2.hok.fresh (Nat.le_of_eq hD.symm))
  obtain ⟨s3, hs3⟩ : ∃ s3 : Shared, s3 = { s2 with heap := s2.heap.push { cls := .type "list", data := .seq ([] : List Value).toArray } } := ⟨_, rfl⟩
  rw [← hD, ← hs3]
  have heap3 : s3.heap = s2.heap.push { cls := .type "list", data := .seq ([] : List Value).toArray } := congrArg (·.heap) hs3
  have up3 : ∀ b o, s2.heap.get? b = some o → s3.heap.get? b = some o := fun b o e => by rw [heap3]; exact Heap.get?_push_of_some _ e
  have I3 : Inv X pins σ (upd H2 D (.lst [])) s3 := by
    rw [hs3]
    exact I2.laid (t' := s2.toks) (fun b o e => Heap.get?_push_of_some _ e) (Nat.le_of_eq hD.symm) ⟨Nat.zero_le _, [], 0, .nil, by rw [hD]; exact Heap.get?_push_size _ rfl⟩
  have young : ∀ b ∈ fp, b < D := fun b hb => by
    obtain ⟨o, e, _⟩ := T.obj _ _ stT b hb
    rw [hD]; exact Heap.lt_size e
  have fp3 : ∀ b ∈ fp, FpOk X pins (upd H2 D (.lst [])) b ∧ b < s3.heap.objs.size := fun b hb => by
    refine ⟨⟨?_, (fpk b hb).2⟩, by rw [heap3, Heap.size_push, ← hD]; exact Nat.lt_succ_of_lt (young b hb)⟩
    rw [upd_ne (Nat.ne_of_lt (young b hb))]
    exact (fpk b hb).1
  have I4 := block_start I3 ok hN fp3
  obtain ⟨cl, hcl⟩ : ∃ cl, cl = cellsFrom (s3.heap.objs.size + 1) scope.names (cloFrom X.env.cells scope.names []) := ⟨_, rfl⟩
  rw [← hcl] at I4
  have Pg := hg s3 (upd H2 D (.lst [])) s3.heap.objs.size cl fp
  have Pt := ht s3 (upd H2 D (.lst [])) s3.heap.objs.size cl fp
  have Pe := he s3 (upd H2 D (.lst [])) s3.heap.objs.size cl fp
  have none3 : ∀ b ∈ fp, (upd H2 D (.lst [])) b = none := fun b hb => (fp3 b hb).1.1
  -- the handled exception, where the loop starts
  have hp0 := I3.pin p (List.mem_append_left _ hpn)
  show codeAny _ _ (.compStart (.ListComp elt [⟨tg, .Call (.Name "range" pr) [arg] [] rpos, ifs, 0⟩] scope pos) 0 (.ref it) (.ref D) (compEnvC scope (cellsFrom (s3.heap.objs.size + 1) scope.names (cloFrom X.env.cells scope.names [])) s3.heap.objs.size X.env)) (compPost (model X.prog X.w) X.A X.xe use Qf (.ref D) s3.heap.objs.size)
    { s3 with heap := pushCells (s3.heap.push { cls := .type "dict", data := .dict #[] }) scope.names }
  rw [← hcl]
  obtain ⟨ce, hce⟩ : ∃ ce, ce = compEnvC scope cl s3.heap.objs.size X.env := ⟨_, rfl⟩
  have ceL : ce.locals = s3.heap.objs.size := by rw [hce]; rfl
  rw [← hce] at I4 Pg Pt Pe ⊢
  obtain ⟨H3, hH3⟩ : ∃ H3 : Hp, H3 = upd H2 D (.lst []) := ⟨_, rfl⟩
  rw [← hH3] at I3 I4 Pg Pt Pe w0 none3 fp3 hp0
  have st4 : tn 0 (pushCells (s3.heap.push { cls := .type "dict", data := .dict #[] }) scope.names) := T.keep _ _ _ stT fun b _ o e => pushCells_keeps _ _ _ _ (Heap.get?_push_of_some _ (up3 b o e))
  have statp : ∀ {σ' : L2.St} {H' : Hp} {s' : Shared}, Inv (X.blk s3 H3 scope ce fp) [] σ' H' s' → (∀ b ∈ fp, H' b = none) → ∀ b ∈ fp, FpOk (X.blk s3 H3 scope ce fp) [] H' b := fun {σ' H' s'} I' nn b hb =>
    ⟨nn b hb, (I'.ok.exf b hb).1, I'.ok.exfs b hb, .inl hb, fun x cc e => (I'.ok.exf b hb).2 x cc e, fun q' hq => absurd (show q' ∈ ([] : List (Addr × Obj)) ++ [] from hq) (by simp)⟩
  -- the exception stands at each turn
  obtain ⟨Xh, hXh⟩ : ∃ Xh : Cx, Xh = { X.blk s3 H3 scope ce fp with pn := [p] } := ⟨_, rfl⟩
  have hotC : HotC Xh := ⟨p, by rw [hXh]; exact hot, by rw [hXh]; exact List.mem_cons_self⟩
  have toH : ∀ {σ' : L2.St} {H' : Hp} {s' : Shared}, Inv (X.blk s3 H3 scope ce fp) [] σ' H' s' → Inv Xh [] σ' H' s' := fun {σ' H' s'} I' => by
    have nst : p.1 ∉ frs X.stack := fun z => (List.mem_cons.mp (I3.stkSub _ z)).elim (fun e => hp0.2.2.1 e) hp0.2.2.2.1
    have nfp : p.1 ∉ fp := fun z => (fp3 _ z).1.2.2.2.2.2 p (List.mem_append_left _ hpn) rfl
    have g1 : s'.heap.get? p.1 = some p.2 := I'.base.keep p.1 p.2 hp0.1 hp0.2.1 nst nfp
    have g2 : H' p.1 = none := I'.base.free p.1 p.2 hp0.1 hp0.2.1 nfp
    have ne : p.1 ≠ ce.locals := fun z => by
      have l := Heap.lt_size hp0.1
      rw [z, ceL] at l
      exact Nat.lt_irrefl _ l
    have ok' := I'.ok
    rw [hXh]
    refine ⟨⟨ok'.mod, ok'.kind, ok'.glob, ok'.blt, ok'.above, ok'.inj, ok'.has, ok'.cab, ok'.hd, ok'.frames, ok'.stk, ok'.exf, ok'.bs, ok'.bsz, ok'.noex, ok'.exfs, ok'.funs, ok'.frf⟩, I'.os, I'.bare, I'.base, I'.loc, I'.cell, I'.free, I'.freeC, fun q' hq => ?_, I'.hok, I'.len⟩
    have e : q' = p := by simpa using hq
    rw [e]
    exact ⟨g1, g2, ne, nst, hp0.2.2.2.2⟩
  have ofH : ∀ {σ' : L2.St} {H' : Hp} {s' : Shared}, Inv Xh [] σ' H' s' → Inv (X.blk s3 H3 scope ce fp) [] σ' H' s' := fun {σ' H' s'} I' => by
    rw [hXh] at I'
    have ok' := I'.ok
    exact ⟨⟨ok'.mod, ok'.kind, ok'.glob, ok'.blt, ok'.above, ok'.inj, ok'.has, ok'.cab, ok'.hd, ok'.frames, ok'.stk, ok'.exf, ok'.bs, ok'.bsz, ok'.noex, ok'.exfs, ok'.funs, ok'.frf⟩, I'.os, I'.bare, I'.base, I'.loc, I'.cell, I'.free, I'.freeC, fun q' hq => absurd (show q' ∈ ([] : List (Addr × Obj)) ++ [] from hq) (by simp), I'.hok, I'.len⟩
  have stH : ∀ {σ' : L2.St} {H' : Hp} {s' : Shared}, Inv (X.blk s3 H3 scope ce fp) [] σ' H' s' → (∀ b ∈ fp, H' b = none) → ∀ b ∈ fp, FpOk Xh [] H' b := fun {σ' H' s'} I' nn b hb => by
    rw [hXh]
    refine ⟨nn b hb, (I'.ok.exf b hb).1, I'.ok.exfs b hb, .inl hb, fun x cc e => (I'.ok.exf b hb).2 x cc e, fun q' hq => ?_⟩
    have e : q' = p := by simpa using hq
    rw [e]
    exact (fp3 b hb).1.2.2.2.2.2 p (List.mem_append_left _ hpn)
  have P1 : Xh.prog = X.prog := by rw [hXh]
  have P2 : Xh.w = X.w := by rw [hXh]
  have P3 : Xh.K = X.K := by rw [hXh]
  have P4 : Xh.A = X.A := by rw [hXh]
  have loop : codeAny (model X.prog X.w) X.A (.compLoop (.ListComp elt [⟨tg, .Call (.Name "range" pr) [arg] [] rpos, ifs, 0⟩] scope pos) 0 (.ref it) (.ref D) ce) (compPost (model X.prog X.w) X.A X.xe use Qf (.ref D) s3.heap.objs.size)
      { s3 with heap := pushCells (s3.heap.push { cls := .type "dict", data := .dict #[] }) scope.names } := by
    refine compLoop_any (fun n s' => ∃ i H', Inv (X.blk s3 H3 scope ce fp) [] (wipe σ (own.map (·.2))) H' s' ∧ tn i s'.heap ∧ (∀ b ∈ fp, H' b = none) ∧ W i n H') ?_ m0 ⟨0, H3, I4, st4, none3, w0⟩
    rintro n s5 ⟨i, H5, I5, st5, n5, w5⟩
    rcases turn i n H5 w5 with ⟨stop, done⟩ | ⟨go, Nx, hNx, step⟩
    · have td := T.done Xh P1 P2 P3 hotC i [] s5 _ H5 (fun _ _ => False) (toH I5) (stH I5 n5) st5 stop
      rw [P4] at td
      refine thnF td fun r s6 ⟨hr, I6'⟩ => ?_
      subst hr
      have I6 := ofH I6'
      have I7 : Inv X pins σ H5 s6 := I3.call' (ch := fp) I6.os I6.base I6.hok I6.bare fun b hb => ⟨(fp3 b hb).1.2.2.2.1, (fp3 b hb).1.2.1, (fp3 b hb).1.2.2.2.2.1, (fp3 b hb).1.2.2.2.2.2⟩
      have freeC : H5 s3.heap.objs.size = none := by
        have z : H5 ce.locals = none := I6.free
        rwa [ceL] at z
      obtain ⟨m, hm, _⟩ := I6.loc
      have hm : s6.heap.Ns ce.locals m := hm
      rw [ceL] at hm
      exact fin0 D s3.heap.objs.size s6 m H5 I7 done hm (I3.fpOk (Nat.le_refl _) freeC)
    · have ti := T.item Xh P1 P2 P3 hotC i [] s5 _ H5 (fun _ _ => False) (toH I5) (stH I5 n5) st5 go
      rw [P4] at ti
      refine thnF ti fun r s6 ⟨u, hr, h6⟩ => ?_
      subst hr
      refine thnF h6 fun _ s7 ⟨x, H7, I7', r7, y7, st7, n7⟩ => ?_
      have I7 := ofH I7'
      have I7p := I7.pinned (statp I7 n7) (T.obj _ _ st7)
      refine thnF (Pg.run _ s7 _ H7 x u _ I7p r7 (step x H7 y7)) fun _ s8 ⟨σ8, H8, I8, hw8, q8⟩ => ?_
      refine thnF (Pt.run _ s8 σ8 H8 _ I8 q8) fun b s9 ⟨H9, I9, q9⟩ => ?_
      have fin : ∀ {s' : Shared} {H' : Hp}, Inv (X.blk s3 H3 scope ce fp) ([] ++ pinsAt fp s7.heap) σ8 H' s' → Nx H' → ∃ m, m < n ∧ ∃ i H', Inv (X.blk s3 H3 scope ce fp) [] (wipe σ (own.map (·.2))) H' s' ∧ tn i s'.heap ∧ (∀ b ∈ fp, H' b = none) ∧ W i m H' := fun {s' H'} I' nx => by
        obtain ⟨m', hm, w'⟩ := hNx H' nx
        have held : ∀ b ∈ fp, ∀ o, s7.heap.get? b = some o → s'.heap.get? b = some o ∧ H' b = none := fun b hb o e => by
          have z := I'.pin (b, o) (List.mem_append_right _ (List.mem_append_right _ (mem_pinsAt hb e)))
          exact ⟨z.1, z.2.1⟩
        have lens : (wipe σ (own.map (·.2))).length = σ8.length := by rw [← hw8, wipe_length]
        refine ⟨m', hm, i + 1, H', (I'.unpinned (pins := [])).weak lens (fun j v e => ?_), T.keep _ _ _ st7 fun b hb o e => (held b hb o e).1, fun b hb => ?_, w'⟩
        · rw [← hw8] at e
          exact (wipe_some e).1
        · obtain ⟨o, e, _⟩ := T.obj _ _ st7 b hb
          exact (held b hb o e).2
      cases b with
      | false =>
        simp only [Bool.false_eq_true, if_false] at q9 ⊢
        exact fin I9 q9
      | true =>
        simp only [if_true] at q9 ⊢
        refine thnF (Pe.run _ s9 σ8 H9 _ I9 q9) fun z s10 ⟨yv, H10, I10, r10, acc, hD10, hz10, nx⟩ => ?_
        exact app_ok (X := X.blk s3 H3 scope ce fp) I10 hD10 hz10 r10 fun s11 I11 => fin I11 nx
  exact codeAny_compStart_list loop (T.self X.A 0 _ _ _ st4 loop)
theorem lc_hot {p : Addr × Obj} (hot : Hot1 X.A p) (hpn : p ∈ X.pn) {elt tg arg : Expr} {ifs : List Expr} {scope : Scope} {own : List (Str × Nat)} {pr rpos pos : Pos} {ta : TA} {g : TG} {tt : TT} {te : TE} (hN : X.N.Nodup) (hgl : Gl X "range") (hmg : X.mg "range" = none) (ha : PA X [arg] ta)
    (ok : BlkOk X.N X.env.scope scope own)
    (hg : ∀ (s : Shared) (H : Hp) (C : Addr) (cl : List (Str × Addr)) (fp : List Addr), PG (X.blk s H scope (compEnvC scope cl C X.env) fp) tg g)
    (ht : ∀ (s : Shared) (H : Hp) (C : Addr) (cl : List (Str × Addr)) (fp : List Addr), PTs (X.blk s H scope (compEnvC scope cl C X.env) fp) ifs tt)
    (he : ∀ (s : Shared) (H : Hp) (C : Addr) (cl : List (Str × Addr)) (fp : List Addr), PE (X.blk s H scope (compEnvC scope cl C X.env) fp) elt te)
    (hs : ∀ x, foldedSetIterable (.Call (.Name "range" pr) [arg] [] rpos) X.env x = pure x := by intro _; rfl) (hst : starEach [arg] X.env = [(false, eval arg X.env)] := by rfl) :
    PE X (.ListComp elt [⟨tg, .Call (.Name "range" pr) [arg] [] rpos, ifs, 0⟩] scope pos) (tLc (iRng1 ta) g tt te (own.map (·.2))) := by
  refine ⟨fun pins s σ H Q I h => ?_⟩
  rw [eval_ListComp]
  refine lc_hot0 hot hpn hN I hgl hmg ha ok hg ht he hs hst h fun D C s' m H' I' q hn f => ⟨m, hn, fun h'' sb => ?_⟩
  obtain ⟨f0, f1, f2, f3, f4, f5⟩ := f
  exact ⟨.ref D, H', I'.turned (t' := s'.toks) (fun b o hb e => (sb.2 b hb).trans e) f0 f1 f3 f4 f5, rfl, q⟩
/-- name = [..] there -/
theorem ps_setHot {i : Nat} {y : Str} {py spos : Pos} {p : Addr × Obj} (hot : Hot1 X.A p) (hpn : p ∈ X.pn) {elt tg arg : Expr} {ifs : List Expr} {scope : Scope} {own : List (Str × Nat)} {pr rpos pos : Pos} {ta : TA} {g : TG} {tt : TT} {te : TE} (hN : X.N.Nodup)
    (hy : X.N[i]? = some y) (hyl : X.env.scope.names.lookup y = some .local) (hsw : swapsWith (.ListComp elt [⟨tg, .Call (.Name "range" pr) [arg] [] rpos, ifs, 0⟩] scope pos) (some (.Name y py)) spos.line X.env = pure true)
    (hgl : Gl X "range") (hmg : X.mg "range" = none) (ha : PA X [arg] ta) (ok : BlkOk X.N X.env.scope scope own)
    (hg : ∀ (s : Shared) (H : Hp) (C : Addr) (cl : List (Str × Addr)) (fp : List Addr), PG (X.blk s H scope (compEnvC scope cl C X.env) fp) tg g)
    (ht : ∀ (s : Shared) (H : Hp) (C : Addr) (cl : List (Str × Addr)) (fp : List Addr), PTs (X.blk s H scope (compEnvC scope cl C X.env) fp) ifs tt)
    (he : ∀ (s : Shared) (H : Hp) (C : Addr) (cl : List (Str × Addr)) (fp : List Addr), PE (X.blk s H scope (compEnvC scope cl C X.env) fp) elt te)
    (hs : ∀ x, foldedSetIterable (.Call (.Name "range" pr) [arg] [] rpos) X.env x = pure x := by intro _; rfl) (hst : starEach [arg] X.env = [(false, eval arg X.env)] := by rfl) :
    PS X (.Assign [.Name y py] (.ListComp elt [⟨tg, .Call (.Name "range" pr) [arg] [] rpos, ifs, 0⟩] scope pos) spos) (tAsg (tLc (iRng1 ta) g tt te (own.map (·.2))) (gName i)) := by
  refine ⟨fun pins s σ H D I h => ?_⟩
  rw [exec_Assign_Name_used _ _ _ _ hsw]
  refine wpAny_bind (wpAny_standAt (wpAny_bind ?_))
  have h' : tLc (iRng1 ta) g tt te (own.map (·.2)) σ H (fun x H1 => gName i x σ H1 D.nx) := h
  refine wpAny_bind (thn (lc_hot0 (Qf := fun _ s' => SP X pins D .next s') hot hpn hN I hgl hmg ha ok hg ht he hs hst h' fun L C s' m H' I' q hn f => ?_) fun _ s' hq => wpAny_pure (wpAny_pure hq))
  show wpAny _ _ (assign (.Name y py) X.env (.ref L)) _ _ _
  refine wpAny_assign_Name (store_ok2 (v := V.ref L) I' hN hy (.inl hyl) rfl (fun s2 I2 ⟨a, sb, ha⟩ => ?_) (.inr hyl))
  obtain ⟨f0, f1, f2, f3, f4, f5⟩ := f
  have ne : C ≠ a := by
    rcases ha with z | z
    · rw [z]; exact f1
    · exact fun e => f4 y a z e.symm
  exact ⟨m, hn.sameBut sb ne, fun h3 sb3 => ⟨_, H', I2.turned (t' := s2.toks) (fun b o hb e => (sb3.2 b hb).trans e) f0 f1 f3 f4 f5, q⟩⟩
end
end Mw

set_option maxHeartbeats 1000000
namespace Mw
open PySem PySem.Spec L2 L2H HotX
open PyProof.Rows hiding St

/-! ### tables of code objects grow -/
structure Grow (H H' : Hp) : Prop where
  keep : ∀ a o, H a = some o → (∀ ps, o ≠ .tbl ps) → H' a = some o
  dom : ∀ a, H a ≠ none → H' a ≠ none
  tb : ∀ a ps, H a = some (.tbl ps) → ∃ qs, H' a = some (.tbl qs)
section
variable {K : PySem.W.Frag} {c : Cfg} {Z H H' : Hp} {F : Nat → Fp} {ρ : Env} {σ : L2.St} {G : Fp}
theorem Grow.keeps (g : Grow H H') (m : ∀ a ∈ G, IsM (H a)) : Keeps H H' G := by
  refine ⟨fun a ha o e => ?_, fun a xs e => g.keep a _ e fun ps z => (nomatch z), fun a o u e => g.keep a _ e fun ps z => nomatch z⟩
  have z := m a ha
  rw [e] at z
  exact g.keep a o e z.ntbl
theorem Grow.step (g : Grow H H') : Step [] H F H' F := ⟨fun a o e n _ => g.keep a o e n, g.dom, g.tb, fun _ _ => rfl, fun _ h => nomatch h⟩
theorem Sim.grow (S : Sim K c Z ρ σ H F) (g : Grow H H') (t : LamX.Tabs c.T H') : Sim K c Z ρ σ H' F := by
  refine ⟨fun a o e => g.keep a o (S.zs a o e) fun ps z => S.zt a ps (by rw [← z]; exact e), S.zt, t, S.len, fun i d m q => ?_, fun i d m q => ?_, S.fix, S.nd, S.dj, S.fz, fun i a ha => ?_⟩
  · obtain ⟨v, G', h1, h2, h3⟩ := S.brw i d m q
    exact ⟨v, G', h1, Rep.keep _ _ _ h2 (g.keeps (Rep.isM _ _ _ h2)), h3⟩
  · obtain ⟨v, h1, h2⟩ := S.own i d m q
    exact ⟨v, h1, Rep.keep _ _ _ h2 (g.keeps (Rep.isM _ _ _ h2))⟩
  · have z := S.mu i a ha
    obtain ⟨o, e⟩ := z.some
    rw [e] at z
    rw [g.keep a o e z.ntbl]; exact z
end
def Cfg.w (c : Cfg) (W : WX) : Cfg := { c with W := W }
theorem Sim.w {K : PySem.W.Frag} {c : Cfg} {Z H : Hp} {F : Nat → Fp} {ρ : Env} {σ : L2.St} (S : Sim K c Z ρ σ H F) (W : WX) : Sim K (c.w W) Z ρ σ H F := ⟨S.zs, S.zt, S.tab, S.len, S.brw, S.own, S.fix, S.nd, S.dj, S.fz, S.mu⟩
theorem Sim.unw {K : PySem.W.Frag} {c : Cfg} {Z H : Hp} {F : Nat → Fp} {ρ : Env} {σ : L2.St} {W : WX} (S : Sim K (c.w W) Z ρ σ H F) : Sim K c Z ρ σ H F := ⟨S.zs, S.zt, S.tab, S.len, S.brw, S.own, S.fix, S.nd, S.dj, S.fz, S.mu⟩

/-! ### a lambda is made -/
section
variable {X : Cx} {pins : List (Addr × Obj)} {σ : L2.St} {H HZ : Hp} {s s1 : Shared}
open LamX in
theorem lam_mk {T : List (Addr × Str)} {cc P : Addr} {params : Arguments} {body : Expr} {scope : Scope} {pos : Pos} {E : Value → Shared → Prop} {Q : Value → Shared → Prop} (I : Inv X pins σ H s) (TB : TabB X.base X.mg cc P) (hcode : X.env.code = .ref cc)
    (hm : (P, X.env.qual ++ "<lambda>") ∈ T) (hu : ∀ p ∈ T, p.1 = P → p.2 = X.env.qual ++ "<lambda>") (hT : Tabs T H) (hdef : defaultsOf params X.env = ([], [])) (hfree : ∀ y ∈ scope.names, y.2 = .free → ∃ cl, X.env.cells.lookup y.1 = some cl)
    (go : ∀ (f c' : Addr) (pm ctv : Value) (H1 : Hp) (s' : Shared), Inv X pins σ H1 s' → Grow H H1 → Tabs T H1 →
      s'.heap.get? f = some (PySem.W.kla_obj "<lambda>" (X.env.qual ++ "<lambda>") params body scope (cloFrom X.env.cells scope.names []) pm c' ctv) → H1 f = none → f ∉ frs X.stack → H1 c' = some (CodeO c' (X.env.qual ++ "<lambda>")) → Q (.ref f) s') :
    wpAny (model X.prog X.w) X.A (eval (.Lambda params body scope pos) X.env) Q E s := by
  obtain ⟨ps, hP, htr, hal⟩ := hT _ hm
  have bmP : s.heap.BuiltinsAt X.mg P := TB.bm.keeps I.bk
  have tabP : s.heap.get? P = some { cls := .none, data := .fields ps } := I.hok P _ hP
  have off : ∀ f, s.heap.objs.size ≤ f → f ∉ frs X.stack := fun f hf z => by
    rcases List.mem_cons.mp (I.stkSub _ z) with e | e
    · have l := I.lt
      rw [← e] at l
      exact Nat.lt_irrefl _ (Nat.lt_of_lt_of_le l hf)
    · exact I.nofs hf e
  refine PySem.W.kla_eval hdef ?_
  cases hca : codeAmong pos ps.toList with
  | some cv =>
    obtain ⟨c', rfl, hco⟩ := hal pos cv hca
    refine PySem.W.kla_makeFunctionHit (mg := X.mg) (c := cc) (P := P) (ps := ps) (closure_ok hfree) I.ok.glob (I.mod.glob.keeps I.bk) hcode (TB.code.keeps I.bk) tabP htr hca bmP fun ctv h' tk ext grow => ?_
    exact go h'.objs.size c' ((X.mg "__name__").getD .none) ctv H _ (I.kept (t' := tk) fun b o e => Heap.get?_push_of_some _ (ext b o e)) ⟨fun _ _ e _ => e, fun _ e => e, fun _ ps e => ⟨ps, e⟩⟩ hT (Heap.get?_push_size _ rfl) (I.hok.fresh grow) (off _ grow) hco
  | none =>
    refine PySem.W.kla_makeFunction (mg := X.mg) (c := cc) (P := P) (ps := ps) (closure_ok hfree) I.ok.glob (I.mod.glob.keeps I.bk) hcode (TB.code.keeps I.bk) tabP htr hca TB.gP bmP fun c' ctv h' tk ext ge lt rec tbl => ?_
    obtain ⟨c2, oc, vs, t, e2, hoc, hd, hv⟩ := rec
    cases e2
    have sz : s.heap.objs.size ≤ h'.objs.size := Nat.le_trans ge (Nat.le_of_lt lt)
    have nC : H c' = none := I.hok.fresh ge
    have PnC : P ≠ c' := ne_of_none hP nC
    have I1 := inv_table (t' := tk) (more := #[rawInt pos.line, rawInt pos.col, .ref c']) (h' := h'.push (PySem.W.kla_obj "<lambda>" (X.env.qual ++ "<lambda>") params body scope (cloFrom X.env.cells scope.names []) ((X.mg "__name__").getD .none) c' ctv)) I hP
      (fun b o hb e => Heap.get?_push_of_some _ (ext b o hb e)) (Heap.get?_push_of_some _ tbl) ge ⟨oc, vs, t, Heap.get?_push_of_some _ hoc, hd, hv⟩
    obtain ⟨more, hmore⟩ : ∃ more : Array Value, more = #[rawInt pos.line, rawInt pos.col, .ref c'] := ⟨_, rfl⟩
    rw [← hmore] at I1
    have atP : upd (upd H P (.tbl (ps ++ more))) c' (CodeO c' (X.env.qual ++ "<lambda>")) P = some (.tbl (ps ++ more)) := by rw [upd_ne PnC, upd_same]
    have atO : ∀ b, b ≠ P → b ≠ c' → upd (upd H P (.tbl (ps ++ more))) c' (CodeO c' (X.env.qual ++ "<lambda>")) b = H b := fun b h1 h2 => by rw [upd_ne h2, upd_ne h1]
    have gr : Grow H (upd (upd H P (.tbl (ps ++ more))) c' (CodeO c' (X.env.qual ++ "<lambda>"))) := by
      refine ⟨fun b o e n => ?_, fun b e => ?_, fun b qs e => ?_⟩
      · rw [atO b (fun z => n ps (Option.some.inj (e.symm.trans (by rw [z]; exact hP)))) (ne_of_none e nC)]; exact e
      · by_cases h1 : b = c'
        · rw [h1, upd_same]; exact fun z => nomatch z
        · by_cases h2 : b = P
          · rw [h2, atP]; exact fun z => nomatch z
          · rw [atO b h2 h1]; exact e
      · by_cases h2 : b = P
        · rw [h2, atP]; exact ⟨_, rfl⟩
        · rw [atO b h2 (ne_of_none e nC)]; exact ⟨qs, e⟩
    have lst : (ps ++ more).toList = ps.toList ++ [rawInt pos.line, rawInt pos.col, .ref c'] := by rw [hmore]; simp
    refine go h'.objs.size c' ((X.mg "__name__").getD .none) ctv _ _ I1 gr (fun p hp => ?_) (Heap.get?_push_size _ rfl) ?_ (off _ sz) upd_same
    · by_cases hb : p.1 = P
      · rw [hu p hp hb, hb]
        refine ⟨_, atP, by rw [lst]; exact PySem.TriplesOk_snoc _ _ _ _ htr, fun p' cv hcv => ?_⟩
        rw [lst] at hcv
        rcases among_app _ htr hcv with z | z
        · obtain ⟨c0, e1, e3⟩ := hal p' cv z
          exact ⟨c0, e1, gr.keep _ _ e3 codeO_ne⟩
        · exact ⟨c', z, upd_same⟩
      · obtain ⟨ps', a1, a2, a3⟩ := hT p hp
        refine ⟨ps', by rw [atO p.1 hb (ne_of_none a1 nC)]; exact a1, a2, fun p' cv hcv => ?_⟩
        obtain ⟨c0, e1, e3⟩ := a3 p' cv hcv
        exact ⟨c0, e1, gr.keep _ _ e3 codeO_ne⟩
    · rw [atO _ (Nat.ne_of_gt (Nat.lt_of_lt_of_le (Heap.lt_size tabP) sz)) (Nat.ne_of_gt lt)]
      exact I.hok.fresh sz
/-- the lambda's context, its exceptions with no context of their own -/
def lamN (X : Cx) (A : Around) (outer : List PySem.Env) (s : Shared) (H : Hp) (E : XK) (scope : Scope) (f c' : Addr) : Cx :=
  (LamX.lamCx X A outer s H E scope f c').wish fun e s' => wpAny (model X.prog X.w) (A.deeper (LamX.lamEnv X scope s.heap.objs.size f c')) (leaving (LamX.lamEnv X scope s.heap.objs.size f c') e) (fun _ s'' => L2N.CX X.prog X.w outer H s E e s'') (fun e' s'' => L2N.CX X.prog X.w outer H s E e' s'') s'
theorem lamN_takes {A : Around} {outer : List PySem.Env} {E : XK} {scope : Scope} {f c' : Addr} : L2N.Takes (lamN X A outer s H E scope f c') (fun cls d _ H => E cls d H) :=
  L2N.takes_of rfl rfl rfl rfl
open LamX in
/-- call(), in the def that got the lambda -/
theorem act_N {CXg : CXT} {Eg : XK} {Ng : List Str} {qg : Str} {sg : Scope} {g f c' : Addr} {cdg pm ctv : Value} {params : Arguments} {body : Expr} {scope : Scope} {k i : Nat} {a : Str} {pn : List (Addr × Obj)} {xe : Value → Shared → Prop} {W : WX} {E : XK} {tb : TE} {p1 p2 : Pos}
    (I : Inv X pins σ H s) (L : LamS X.env.scope scope) (hf : s.heap.get? f = some (PySem.W.kla_obj "<lambda>" (X.env.qual ++ "<lambda>") params body scope (cloFrom X.env.cells scope.names []) pm c' ctv)) (hfn : H f = none) (hfr : f ∉ frs X.stack)
    (hbind : bindArgs (PySem.W.kla_fn "<lambda>" (X.env.qual ++ "<lambda>") params body scope (cloFrom X.env.cells scope.names []) pm (.ref c') ctv) ⟨[], []⟩ = pure [])
    (tk : L2N.Takes ((cxOf CXg X.prog X.w X.K X.mg X.base Ng qg sg g cdg X.A X.stack s H Eg).tr pn xe) W) (hW : ∀ cls d σ' H', E cls d H' → W cls d σ' H') (hr : Room (k + 1) (X.A.deeper (envOfC qg sg s.heap.objs.size g cdg)))
    (hbody : ∀ (A : Around) (outer : List PySem.Env) (s : Shared) (H : Hp), A.guards = X.A.guards → Room k (A.deeper (lamEnv X scope s.heap.objs.size f c')) → PE (lamN X A outer s H E scope f c') body tb)
    (hN : Ng[i]? = some a) (hv : Vis sg a) (hd : (a == ("__debug__" : Str)) = false := by decide) (hcd : (a == ("__classdict__" : Str)) = false := by decide) :
    PE ((cxOf CXg X.prog X.w X.K X.mg X.base Ng qg sg g cdg X.A X.stack s H Eg).tr pn xe) (.Call (.Name a p1) [] [] p2)
      (fun σZ HZ Q => σZ[i]? = some (some (.ref f)) ∧ HZ c' = some (CodeO c' (X.env.qual ++ "<lambda>")) ∧ tb σ HZ Q) := by
  refine ⟨fun pinsZ sZ σZ HZ Q IZ ⟨hs, hc, ht⟩ => ?_⟩
  refine wpAny_Call_Name_kw (thn ((pe_var (pos := p1) (i := i) hN hv hd hcd).run pinsZ sZ σZ HZ (fun v H1 => v = .ref f ∧ H1 = HZ) IZ ⟨.ref f, hs, rfl, rfl⟩) fun u s1 ⟨v, H1, I1, r1, ev, eH⟩ => ?_)
  subst ev
  subst eH
  obtain rfl : u = Value.ref f := r1
  have fAt : s1.heap.get? f = some (PySem.W.kla_obj "<lambda>" (X.env.qual ++ "<lambda>") params body scope (cloFrom X.env.cells scope.names []) pm c' ctv) := I1.base.keep f _ hf hfn hfr (fun z => nomatch (show f ∈ ([] : List Addr) from z))
  have un : Un (frs X.stack) [] H H1 s.heap s1.heap := I1.base
  obtain ⟨⟨oc, vs, t, hoc, hdc, hvc⟩, _, _⟩ := I1.hok c' _ hc
  refine PySem.W.callWith_F0 ⟨_, _, _, _, fAt⟩ ?_
  have runs : codeAny (model X.prog X.w) (X.A.deeper (envOfC qg sg s.heap.objs.size g cdg)) (.call (.ref f) ⟨[], []⟩) (CR (L2N.CX X.prog X.w) (envOfC qg sg s.heap.objs.size g cdg :: X.stack) X.prog X.w H1 s1 Q E) s1 := by
    refine PySem.W.kla_callFunE hr.depth fAt rfl L.co L.gen rfl ⟨c', oc, vs, t, rfl, hoc, hdc, hvc⟩ ?_
    rw [hbind]
    refine wpAny_pure (wpAny_newFunctionEnv (fun y hy => (L.own y hy).2) (fun y hy => absurd hy (by simp)) (fun h₁ hns hsb => ⟨I1.nolimit.fresh _ hsb, ?_⟩) L.kind)
    show codeAny _ _ (.expr body (lamEnv X scope s1.heap.objs.size f c')) _ _
    have kp : ∀ b o, s1.heap.get? b = some o → h₁.get? b = some o := fun b o e => hsb.extBut b o (Nat.ne_of_lt (Heap.lt_size e)) (Heap.get?_push_of_some _ e)
    have J0 : Inv (lamCx X (X.A.deeper (envOfC qg sg s.heap.objs.size g cdg)) (envOfC qg sg s.heap.objs.size g cdg :: X.stack) s1 H1 E scope f c') [] σ H1 { s1 with heap := h₁, toks := s1.toks + ([] : List (Str × Value)).length } :=
      lam_start2 I L I1.env0 hr.hd un hns kp
    have J : Inv (lamN X (X.A.deeper (envOfC qg sg s.heap.objs.size g cdg)) (envOfC qg sg s.heap.objs.size g cdg :: X.stack) s1 H1 E scope f c') [] σ H1 { s1 with heap := h₁, toks := s1.toks + ([] : List (Str × Value)).length } := J0.wish _
    refine PySem.W.kla_codeExpr (wpAny_mono ((hbody (X.A.deeper (envOfC qg sg s.heap.objs.size g cdg)) (envOfC qg sg s.heap.objs.size g cdg :: X.stack) s1 H1 rfl (hr.deeper _)).run [] _ _ H1 Q J ht) (fun v s' hq => ?_) fun e s' hq => hq)
    obtain ⟨w', H', J', rv, q⟩ := hq
    exact ⟨w', H', J'.os, J'.bare, J'.base, J'.hok, rv, q⟩
  have hx : Passes (L2N.CX X.prog X.w) ((cxOf CXg X.prog X.w X.K X.mg X.base Ng qg sg g cdg X.A X.stack s H Eg).tr pn xe) E := L2N.passes_call tk hW
  refine wpAny_call (codeAny_mono runs fun r s' hq => ?_)
  cases r with
  | error e => exact hx pinsZ σZ H1 s1 e s' I1 hq
  | ok fl =>
    cases fl with
    | ret u => exact I1.after hq
    | next => exact False.elim hq
    | brk => exact False.elim hq
    | cont => exact False.elim hq
end
end Mw

set_option maxHeartbeats 1000000
namespace Mw
open PySem PySem.Spec L2 L2H HotX
open PyProof.Rows hiding St

/-! ### the def that tries what it is handed -/
def toldE (K : PySem.W.Frag) (T : List (Addr × Str)) (nm : Addr → Str → Prop) (Q : VK) : XK := fun cls d H => d = none ∧ ∃ D n, cls = .ref D ∧ nm D n ∧ LamX.Tabs T H ∧ ∀ v H', Grow H H' → LamX.Tabs T H' → Rep K H' (.tup [.str n]) v [] → Q v H'
def toldT (K : PySem.W.Frag) (T : List (Addr × Str)) (nm : Addr → Str → Prop) : (XK → Hp → VK → Prop) → Hp → VK → Prop := fun tl H Q => tl (toldE K T nm Q) H fun v H' => ([.str "told", v] : List V).length ≤ sizeLine ∧ ∀ q, H' q = none → Q (.ref q) (upd H' q (.tup [.str "told", v]))
def GivesN (X : Cx) (Ng : List Str) (x : Str) (sg : Scope) (g : Addr) (cdg : Value) (bg : List Stmt) (a : Str) (q : Str) (TT : (XK → Hp → VK → Prop) → Hp → VK → Prop) : Prop :=
  ∀ (f c' : Addr) (s : Shared) (H : Hp) (Q : VK) (tl : XK → Hp → VK → Prop), (X.A.deeper (envOfC x sg s.heap.objs.size g cdg)).units + 64 < cLine →
    (∀ (W : WX) (pn : List (Addr × Obj)) (xe : Value → Shared → Prop) (E : XK) (p1 p2 : Pos), L2N.Takes ((cxOf C8.CX0 X.prog X.w X.K X.mg X.base Ng x sg g cdg X.A X.stack s H C8.E0).tr pn xe) W → (∀ cls d σ' H', E cls d H' → W cls d σ' H') →
      PE ((cxOf C8.CX0 X.prog X.w X.K X.mg X.base Ng x sg g cdg X.A X.stack s H C8.E0).tr pn xe) (.Call (.Name a p1) [] [] p2) (fun σZ HZ Q => σZ[0]? = some (some (.ref f)) ∧ HZ c' = some (LamX.CodeO c' q) ∧ tl E HZ Q)) →
    H c' = some (LamX.CodeO c' q) → TT tl H Q →
    ∃ t, PSs (cxOf C8.CX0 X.prog X.w X.K X.mg X.base Ng x sg g cdg X.A X.stack s H C8.E0).nox bg t ∧ t { nx := fun _ H' => Q .non H', rt := Q } (L2.start Ng [.ref f]) H
theorem takesN {X : Cx} : L2N.Takes X (fun _ _ _ _ => False) := fun _ _ x => by
  obtain ⟨_, _, _, _, _, _, _, _, _, _, _, _, _, _, _, _, z⟩ := x
  exact z.elim
/-- the suite's own plain state -/
abbrev cfgS (T : List (Addr × Str)) (ex : Str → Value) : Cfg := ⟨T, fun _ => .own, fun _ _ _ _ => False, ex⟩
theorem PSsv.told {X : Cx} {T : List (Addr × Str)} {ex : Str → Value} {ws : List Nat} {f : M Fl} {ρ ρ' : Env} {n : Str} {Q : VK} {N : Ends} {σ : L2.St} {H : Hp} {a : Addr} (hf : f ρ = .ok (.ret (.tup [.str n])) ρ') (hl : ρ.length = σ.length) (hs : σ[1]? = some (some (.ref a)))
    (hρ : ∀ i d, ρ[i]? = some (some d) → i = 1 ∧ d = .ref a) (t : LamX.Tabs T H) (q : ∀ v H', Grow H H' → LamX.Tabs T H' → Rep X.K H' (.tup [.str n]) v [] → Q v H') (hr : N.rt = Q) : tS X.K (cfgS T ex) ws f N σ H := by
  classical
  let Z : Hp := fun b => match H b with
    | some (.tbl _) => none
    | x => x
  have zs : Same Z H := fun b o e => by
    simp only [Z] at e
    split at e
    · cases e
    · exact e
  have zt : ∀ b ps, Z b ≠ some (.tbl ps) := fun b ps e => by
    have y := zs b _ e
    simp only [Z, y] at e
    cases e
  refine ⟨Z, ρ, fun _ => [], ⟨zs, zt, t, hl, fun i d m => (nomatch (show Mode.own = Mode.brw from m)), fun i d _ e => ?_, fun i v m => (nomatch (show Mode.own = Mode.fix v from m)), fun i => List.Pairwise.nil, fun i j _ b hb => (nomatch (show b ∈ ([] : Fp) from hb)), fun i b hb => (nomatch (show b ∈ ([] : Fp) from hb)), fun i b hb => (nomatch (show b ∈ ([] : Fp) from hb))⟩, ?_⟩
  · obtain ⟨e1, e2⟩ := hρ i d e
    subst e1 e2
    exact ⟨.ref a, hs, by simp [Rep]⟩
  · rw [hf]
    intro v σ' H' F' G st S' r O
    rw [hr]
    have g0 : G = [] := Rep.imm _ _ _ r rfl
    rw [g0] at r
    exact q v H' ⟨fun b o e n => st.keep b o e n fun i _ z => (nomatch z), st.dom, st.tb⟩ S'.tab r
theorem told_gives {X : Cx} {Ng : List Str} {x a e xm q : Str} {sg : Scope} {g : Addr} {cdg cm : Value} {T : List (Addr × Str)} {ex : Str → Value} {nm : Addr → Str → Prop} {b₀ : Stmt} {suite : List Stmt} {p1 p2 p3 p4 p5 p6 p7 p8 : Pos} {j k : Nat} (hNd : Ng.Nodup) (hi : Ng[1]? = some e) (he : sg.names.lookup e = some .local)
    (h0 : ∀ f : Addr, (L2.start Ng [V.ref f])[0]? = some (some (V.ref f))) (hge : sg.names.lookup xm = some .globalImplicit) (hme : X.mg xm = some cm) (hde : (xm == ("__debug__" : Str)) = false) (hl : Ng.length = 5) (hc : ∀ D n, nm D n → PySem.W.exmOne X.K (.ref D) cm = some true)
    (hsu : ∀ (s : Shared) (H : Hp) (a' : Addr) (oe : Obj) (D : Addr) (n : Str) (pn : List (Addr × Obj)), (X.A.deeper (envOfC x sg s.heap.objs.size g cdg)).units + 64 < cLine → nm D n → Zc (.ref D) none oe → (∃ vs : Array Value, oe.data = .fields vs) → Hot1 ((cxOf C8.CX0 X.prog X.w X.K X.mg X.base Ng x sg g cdg X.A X.stack s H C8.E0).nox.suite a' ((a', oe) :: pn)).A (a', oe) →
      ∃ ws fS ρ', PSsv ((cxOf C8.CX0 X.prog X.w X.K X.mg X.base Ng x sg g cdg X.A X.stack s H C8.E0).nox.suite a' ((a', oe) :: pn)) (cfgS T ex) (b₀ :: suite) ws fS ∧ fS [none, some (.ref a'), none, none, none] = .ok (.ret (.tup [.str n])) ρ') :
    GivesN X Ng x sg g cdg [.Try [.Return (some (.Tuple [.Constant (.str "told") j p1, .Call (.Name a p2) [] [] p3] k p4)) p5] [.ExceptHandler (some (.Name xm p6)) (some e) (b₀ :: suite) p7] [] [] p8] a q (toldT X.K T nm) := by
  intro f c' s H Q tl hun act hco h
  refine ⟨_, pss_one (L2N.ps_try_as (X := (cxOf C8.CX0 X.prog X.w X.K X.mg X.base Ng x sg g cdg X.A X.stack s H C8.E0).nox) (c := cm) (i := 1)
    (tb := fun W D σ H => ∃ Ech : XK, (∀ cls d σ' H', Ech cls d H' → W cls d σ' H') ∧ σ[0]? = some (some (.ref f)) ∧ H c' = some (LamX.CodeO c' q) ∧ tl Ech H fun v H' => ([.str "told", v] : List V).length ≤ sizeLine ∧ ∀ q, H' q = none → D.rt (.ref q) (upd H' q (.tup [.str "told", v])))
    (ts := fun a' cls d N σ H => σ.length = Ng.length → ∃ D n, cls = .ref D ∧ d = none ∧ nm D n ∧ LamX.Tabs T H ∧ σ[1]? = some (some (.ref a')) ∧ ∀ v H', Grow H H' → LamX.Tabs T H' → Rep X.K H' (.tup [.str n]) v [] → N.rt v H')
    rfl rfl hNd hi he ⟨hge, hde, .inl hme⟩ takesN (fun W pn xe tk _ => ?_) (fun a' oe cls d pn hz hd => ?_)), ?_⟩
  · refine ⟨fun pins s' σ H' D I ⟨Ech, hW, h1, h2, h3⟩ => ?_⟩
    refine (pss_one (ps_ret (pe_tup (pa_cons pe_str (pa_cons (act W pn xe Ech p2 p3 tk hW) pa_nil))))).run pins s' σ H' D I ?_
    exact ⟨h1, h2, h3⟩
  · refine ⟨fun pins s' σ H' N I hh => ?_⟩
    obtain ⟨D, n, rfl, rfl, hn, t, hs1, w⟩ := hh I.len
    obtain ⟨vs, hvs⟩ := hd
    obtain ⟨ws, fS, ρ', hp, hf⟩ := hsu s H a' oe D n pn hun hn hz.zc ⟨vs, hvs⟩ ⟨rfl, vs, hvs, hz.2.2 vs hvs⟩
    refine hp.run pins s' σ H' N I (PSsv.told (Q := N.rt) (a := a') hf ?_ hs1 (fun i d e => ?_) t w rfl)
    · rw [I.len]
      show _ = Ng.length
      rw [hl]; rfl
    · match i, e with
      | 0, e => cases e
      | 1, e => cases e; exact ⟨rfl, rfl⟩
      | 2, e => cases e
      | 3, e => cases e
      | 4, e => cases e
      | _ + 5, e => simp at e
  · refine ⟨toldE X.K T nm Q, fun cls d σ' H' hE => ?_, h0 f, hco, h⟩
    obtain ⟨rfl, D, n, rfl, hn, t, w⟩ := hE
    refine ⟨true, hc D n hn, fun _ a' na hlen => ?_, fun z => by cases z⟩
    refine ⟨D, n, rfl, rfl, hn, t, ?_, fun v H'' gr tt r => w v H'' gr tt r⟩
    rw [List.getElem?_set_self]
    rw [List.length_set] at hlen
    rw [hlen, hl]; decide
/-! ### told(lambda: ..) -/
def eTold (nc : Str → Option Str) (f : M D) : M D := fun ρ => match f ρ with
  | .ok d ρ' => .ok (.tup [.str "told", d]) ρ'
  | .err e ρ' => match nc e with
    | some n => .ok (.tup [.str n]) ρ'
    | none => .stuck
  | .stuck => .stuck
abbrev cfgL (c : Cfg) (E : XK) : Cfg := c.w fun cls d _ H => E cls d H
open LamX in
theorem v_told {X : Cx} {c : Cfg} {nc : Str → Option Str} {nm : Addr → Str → Prop} {x a : Str} {g cc P : Addr} {k : Nat} {pg : Arguments} {bg : List Stmt} {sg : Scope} {dV kV doc pm cdv ct oc : Value} {an od : Option Addr} {osl : Array (Option Value)} {Ng : List Str}
    {params : Arguments} {body : Expr} {scope : Scope} {ws rs : List Nat} {fr : Bool} {f : M D} {p lpos pos : Pos} (hg : Gl X x) (hm : X.mg x = some (.ref g)) (hk : PySem.W.keepIn X.K (.ref g) = true)
    (lk : X.K.lookup g = some ⟨oc, od, .func (PySem.W.fnOf x x pg bg sg dV kV doc pm an cdv ct), osl⟩) (hcg : PySem.W.codeIn X.K cdv x = true) (hb : L2.Binds X.K (PySem.W.fnOf x x pg bg sg dV kV doc pm an cdv ct) [a] []) (Sg : FnScope Ng [a] sg) (hNg : Ng[0]? = some a) (hva : Vis sg a)
    (hG : GivesN X Ng x sg g cdv bg a (X.env.qual ++ "<lambda>") (toldT X.K c.T nm)) (hnm : ∀ e n, nc e = some n → ∃ D, c.ex e = .ref D ∧ nm D n)
    (TB : TabB X.base X.mg cc P) (hcode : X.env.code = .ref cc) (hmT : (P, X.env.qual ++ "<lambda>") ∈ c.T) (hu : ∀ p ∈ c.T, p.1 = P → p.2 = X.env.qual ++ "<lambda>") (hr : Room (k + 2) X.A) (L : LamS X.env.scope scope) (hdef : defaultsOf params X.env = ([], []))
    (hbind : ∀ (q : Str) (cl : List (Str × Addr)) (pm cv ctv : Value), bindArgs (PySem.W.kla_fn "<lambda>" q params body scope cl pm cv ctv) ⟨[], []⟩ = pure [])
    (hbody : ∀ (A : Around) (outer : List PySem.Env) (s : Shared) (H : Hp) (E : XK) (f' c' : Addr), A.guards = X.A.guards → Room k (A.deeper (lamEnv X scope s.heap.objs.size f' c')) → PEv (lamN X A outer s H E scope f' c') (cfgL c E) body ws rs fr f)
    (hdb : (x == ("__debug__" : Str)) = false := by decide) (hd : (a == ("__debug__" : Str)) = false := by decide) (hcd : (a == ("__classdict__" : Str)) = false := by decide) :
    PEv X c (.Call (.Name x p) [.Lambda params body scope lpos] [] pos) ws rs fr (eTold nc f) := by
  refine ⟨fun pins s σ H Q I ⟨Z, ρ, F, S, hp⟩ => ?_⟩
  refine wpAny_Call_Name_kw (ld_glob I hg hm ?_ hdb)
  refine PySem.W.callWith_K (h₀ := X.base) I.ok.mod.kin hk ?_ (by rfl) (by rfl)
  show wpAny _ _ (spliced ((false, eval (.Lambda params body scope lpos) X.env) :: backTo pos (starEach [] X.env))) _ _ s
  refine Calls.spliced_cons (lam_mk I TB hcode hmT hu S.tab hdef (L.has I.ok) fun f' c' pm' ctv H1 s' I1 gr T1 hf hfn hfr hco => ?_)
  refine Calls.spliced_nil ⟨I1.kIn, ?_⟩
  have S1 := S.grow gr T1
  -- the lambda's run, and what is made of it
  have key : toldT X.K c.T nm (fun E H' Q' => tG (Rep X.K) X.K (cfgL c E) ws rs fr f σ H' Q') H1 Q := by
    refine ⟨Z, ρ, F, S1.w _, ?_⟩
    unfold eTold at hp
    cases ef : f ρ with
    | stuck => rw [ef] at hp; exact hp.elim
    | ok d ρ1 =>
      rw [ef] at hp
      intro v H2 F2 G st S2 r O
      refine ⟨by show 2 ≤ sizeLine; rw [szl]; decide, fun q hq => ?_⟩
      have sm : Same H2 (upd H2 q (.tup [.str "told", v])) := same_upd hq
      refine hp _ _ F2 G (((gr.step (F := F)).trans (st.trans (Step.of sm))).mono fun i hi => by simpa using hi) (S2.unw.same sm) ?_ (O.shift (w1 := []) (gr.step (F := F)) (fun _ z => nomatch z) fun _ z => z)
      refine rep_tup (SqT.of upd_same) ?_
      have z := RepL.cons (rep_str (i := "told")) (RepL.cons (Rep.keep _ _ _ r (Same.keeps sm)) RepL.nil)
      simpa using z
    | err e ρ1 =>
      rw [ef] at hp
      simp only [] at hp
      intro H2 F2 st S2
      cases en : nc e with
      | none => rw [en] at hp; exact hp.elim
      | some n =>
        rw [en] at hp
        obtain ⟨D, e1, e2⟩ := hnm e n en
        refine ⟨rfl, D, n, e1, e2, S2.tab, fun v H3 g3 t3 r3 => ?_⟩
        exact hp v H3 F2 [] (((gr.step (F := F)).trans (st.trans (g3.step (F := F2)))).mono fun i hi => by simpa using hi) (S2.unw.grow g3 t3) r3 Own.nil
  have runs : codeAny (model X.prog X.w) X.A (.call (.ref g) ⟨[.ref f'], []⟩) (CR C8.CX0 X.stack X.prog X.w H1 s' Q C8.E0) s' := by
    refine run_ofS (N := Ng) (ps := [a]) (us := [.ref f']) (vs := [.ref f']) lk hcg Sg hr I1.env0 (hb s' [.ref f'] I1.kIn rfl) (.cons rfl .nil) rfl fun hr' => ?_
    obtain ⟨t', ht', hq'⟩ := hG f' c' s' H1 Q (fun E H' Q' => tG (Rep X.K) X.K (cfgL c E) ws rs fr f σ H' Q') hr'.units (fun W pn xe E p1 p2 tk hW => act_N (i := 0) I1 L hf hfn hfr (hbind _ _ _ _ _) tk hW hr' (fun A outer s H hgd hr2 => hbody A outer s H E f' c' hgd hr2) hNg hva hd hcd) hco key
    exact ⟨t', ht'.nox, hq'⟩
  refine wpAny_call (codeAny_mono runs fun r s2 hq => ?_)
  cases r with
  | error e => exact (show False from hq).elim
  | ok fl =>
    cases fl with
    | ret u => exact I1.after hq
    | next => exact False.elim hq
    | brk => exact False.elim hq
    | cont => exact False.elim hq
/-! ### isinstance of the caught one -/
def isE (κ : Addr → Option Bool) (a : Addr) : List D → Option D
  | [.ref x, .ref C] => if x = a then (κ C).map .bl else none
  | _ => none
theorem v_isE {X : Cx} {K0 : PySem.W.Frag} {c : Cfg} {a D : Addr} {oe : Obj} {pn : List (Addr × Obj)} {e : Expr} {es : List Expr} {fl : M (List Mw.D)} {wa ra : List Nat} {ba : Bool} {p pos : Pos} (C : ExcC K0 D) (hz : Zc (.ref D) none oe) (hf : ∃ vs, oe.data = .fields vs)
    (hg : Gl (X.suite a ((a, oe) :: pn)) "isinstance") (hm : (X.suite a ((a, oe) :: pn)).mg "isinstance" = none) (hv : bootBuiltins "isinstance" = some (.builtin "isinstance")) (ha : PAv (X.suite a ((a, oe) :: pn)) c (e :: es) wa ra ba fl)
    (he : starEach (e :: es) (X.suite a ((a, oe) :: pn)).env = (false, eval e (X.suite a ((a, oe) :: pn)).env) :: starEach es (X.suite a ((a, oe) :: pn)).env := by rfl) (hpl : (backTo pos (starEach es (X.suite a ((a, oe) :: pn)).env)).any (·.1) = false := by rfl) (hK : X.K = K0 := by rfl) :
    PEv (X.suite a ((a, oe) :: pn)) c (.Call (.Name "isinstance" p) (e :: es) [] pos) wa [] true (eN (isE (fun C => PySem.W.kitOne K0 (.ref D) (.ref C)) a) fl) := by
  subst hK
  refine v_callB (X := X.suite a ((a, oe) :: pn)) (fun pins s σ H xs us Q I r h => call_isE C hz hf pins s σ H xs us Q I r ?_) hg hm hv ha (by decide) (by decide) he hpl
  obtain ⟨ds, Gx, r', l, eg, q⟩ := h
  unfold isE at eg
  split at eg
  · rename_i x' C'
    split at eg
    · rename_i hx
      subst hx
      dsimp only at eg
      cases ek : PySem.W.kitOne X.K (.ref D) (.ref C') with
      | none => rw [ek] at eg; cases eg
      | some b =>
        rw [ek] at eg
        cases eg
        simp only [RepL] at l
        obtain ⟨v, r1, G1, G2, rfl, rfl, q1, w, r2, G3, G4, rfl, rfl, q2, rfl, _⟩ := l
        simp only [Rep] at q1 q2
        obtain ⟨rfl, rfl⟩ := q1
        obtain ⟨rfl, rfl⟩ := q2
        exact ⟨.ref C', .ref C', b, rfl, fun u ru => ru, ek, q _ _ [] (Same.refl H) rep_bl nd0 new0⟩
    · cases eg
  · cases eg
/-! ### name = [.. over range(..)] in a suite -/
theorem s_setHot {X : Cx} {c : Cfg} {re0 : List Nat} {bb0 : Bool} (i : Nat) {y : Str} {py spos : Pos} {p : Addr × Obj} {elt tg arg : Expr} {ifs : List Expr} {scope : Scope} {own : List (Str × Nat)} {pr rpos pos : Pos} {t : Tg} {wi rs' wt we : List Nat} {ba : Bool} {fl : M (List D)} {ft : M Bool} {fe : M D} (hot : Hot1 X.A p) (hpn : p ∈ X.pn) (hN : X.N.Nodup)
    (hgl : Gl X "range") (hmg : X.mg "range" = none) (ha : PAv X c [arg] wi rs' ba fl) (ok : BlkOk X.N X.env.scope scope own) (ho : own.map (·.2) = t.ids)
    (hg : ∀ (s : Shared) (H : Hp) (C : Addr) (cl : List (Str × Addr)) (fp : List Addr), PGv (X.blk s H scope (compEnvC scope cl C X.env) fp) tg t) (ht : ∀ (s : Shared) (H : Hp) (C : Addr) (cl : List (Str × Addr)) (fp : List Addr), PTsv (X.blk s H scope (compEnvC scope cl C X.env) fp) c.q ifs wt ft)
    (he : ∀ (s : Shared) (H : Hp) (C : Addr) (cl : List (Str × Addr)) (fp : List Addr), PEv (X.blk s H scope (compEnvC scope cl C X.env) fp) c.q elt we re0 bb0 fe)
    (hsw : swapsWith (.ListComp elt [⟨tg, .Call (.Name "range" pr) [arg] [] rpos, ifs, 0⟩] scope pos) (some (.Name y py)) spos.line X.env = pure true) (hmi : c.md i = .own := by rfl) (hy : X.N[i]? = some y := by rfl) (hyl : X.env.scope.names.lookup y = some .local := by rfl) (hm : t.owns c := by rfl)
    (hs : ∀ x, foldedSetIterable (.Call (.Name "range" pr) [arg] [] rpos) X.env x = pure x := by intro _; rfl) (hst : starEach [arg] X.env = [(false, eval arg X.env)] := by rfl) (hb0 : bb0 = true := by rfl) (hr0 : re0 = [] := by rfl) :
    PSv X c (.Assign [.Name y py] (.ListComp elt [⟨tg, .Call (.Name "range" pr) [arg] [] rpos, ifs, 0⟩] scope pos) spos) ((wi ++ (t.ids ++ (wt ++ we))) ++ [i]) (sSet i (eLc t (iRng rng1 fl) ft fe)) := by
  subst hb0 hr0
  refine PS.imp (ps_setHot (g := gOf X.K t) (tt := tG repB X.K c.q wt [] true ft) (te := tG (Rep X.K) X.K c.q we [] true fe) hot hpn hN hy hyl hsw hgl hmg ha ok hg (fun s H C cl fp => (ht s H C cl fp).h) he hs hst) fun N σ H q => ?_
  obtain ⟨Z, ρ, F, S, p⟩ := q
  rw [ho]
  unfold sSet M.bind at p
  have main : tLc (tI X.K c wi [] (iRng rng1 fl)) (gOf X.K t) (tG repB X.K c.q wt [] true ft) (tG (Rep X.K) X.K c.q we [] true fe) t.ids σ H (fun x H1 => gName i x σ H1 N.nx) := by
    refine lc_fin (rs := []) hm (fun _ z => nomatch z) S (fun d ρ1 e => ?_) (fun x ρ' e => ?_) fun e => ?_
    · rw [e] at p
      intro v H1 F1 G st S1 r O
      exact p _ _ _ (st.put O (fun _ h => List.mem_append_left _ h) (List.mem_append_right _ (by simp))) (S1.put hmi r (O.fr rfl).1 (fun a ha => ((O.fr rfl).2 a ha).2) (O.z S))
    · rw [e] at p
      exact fun H' F' st S' => p σ H' F' (st.mono fun _ h => List.mem_append_left _ h) S'
    · rw [e] at p; exact p.elim
  exact rng1_imp main
end Mw

set_option maxHeartbeats 1000000
namespace Mw
open PySem PySem.Spec L2
open PyProof.Rows hiding St

/-! ### slices -/
def repO : Hp → Option Int → Option Int → Fp → Prop := fun _ a b G => a = b ∧ G = []
abbrev POv (X : Cx) (c : Cfg) (e : Option Expr) (ws : List Nat) (f : M (Option Int)) : Prop := PO X e (tG repO X.K c ws [] true f)
theorem PO.imp {X : Cx} {e : Option Expr} {t t' : TO} (h : PO X e t) (w : ∀ σ H Q, t' σ H Q → t σ H Q) : PO X e t' := ⟨fun pins s σ H Q I q => h.run pins s σ H Q I (w σ H Q q)⟩
def intO : D → Option (Option Int)
  | .int i => some (some i)
  | _ => none
def oPart (f : M D) : M (Option Int) := M.bind f fun d => M.opt (intO d)
def slD : D → Option Int → Option Int → Option D
  | .tup ds, lo, hi => if D.imms ds then some (.tup (cutV' ds lo hi)) else none
  | .lst ds, lo, hi => if D.imms ds then some (.lst (cutV' ds lo hi)) else none
  | .scr ds, lo, hi => if D.imms ds then some (.lst (cutV' ds lo hi)) else none
  | .str s, lo, hi => if s.length ≤ 16777216 then some (.str (cutS s lo hi)) else none
  | _, _, _ => none
where cutV' (ds : List D) (lo hi : Option Int) : List D := (ds.drop (HT.sIx ds.length 0 lo)).take (HT.sIx ds.length ds.length hi - HT.sIx ds.length 0 lo)
def eSl (f : M D) (fl fh : M (Option Int)) : M D := M.bind f fun x => M.bind fl fun l => M.bind fh fun h => M.opt (slD x l h)
section
variable {X : Cx} {c : Cfg} {e : Expr} {wa wl wh ra rb : List Nat} {ba : Bool} {f : M D} {fl fh : M (Option Int)} {lo hi : Option Expr} {pos p2 : Pos}
theorem p_none : POv X c none [] (M.pur none) := by
  refine PO.imp po_none fun σ H Q q => ?_
  obtain ⟨Z, ρ, F, S, p⟩ := q
  exact p none H F [] Step.refl S ⟨rfl, rfl⟩ Own.nil
theorem p_some (h : PEv X c e wa ra ba f) : POv X c (some e) wa (oPart f) := by
  refine PO.imp (po_some h) fun σ H Q q => ?_
  obtain ⟨Z, ρ, F, S, p⟩ := q
  refine tG_one S p (fun _ h => h) fun d ρ1 v H1 F1 G st S1 r O p1 => ?_
  cases d with
  | int i =>
    obtain ⟨e1, e2⟩ := int_inv r
    exact ⟨i, e1, p1 (some i) H1 F1 [] st S1 ⟨rfl, rfl⟩ Own.nil⟩
  | _ => exact p1.elim
theorem cut_rep {K : PySem.W.Frag} {H : Hp} {ds : List D} {vs : List V} (r : RepL K H ds vs []) (lo hi : Option Int) : RepL K H (slD.cutV' ds lo hi) (cutV vs lo hi) [] := by
  have dr : ∀ (n : Nat) {ds : List D} {vs : List V}, RepL K H ds vs [] → RepL K H (ds.drop n) (vs.drop n) [] := by
    intro n
    induction n with
    | zero => intro ds vs h; exact h
    | succ n ih =>
      intro ds vs h
      cases ds with
      | nil => simp only [RepL] at h; rw [h.1]; exact RepL.nil
      | cons d ds =>
        simp only [RepL] at h
        obtain ⟨v, r0, G1, G2, rfl, e, h1, h2⟩ := h
        obtain ⟨e1, e2⟩ := List.append_eq_nil_iff.mp e.symm
        subst e1 e2
        exact ih h2
  have tk : ∀ (n : Nat) {ds : List D} {vs : List V}, RepL K H ds vs [] → RepL K H (ds.take n) (vs.take n) [] := by
    intro n
    induction n with
    | zero => intro ds vs h; exact RepL.nil
    | succ n ih =>
      intro ds vs h
      cases ds with
      | nil => simp only [RepL] at h; rw [h.1]; exact RepL.nil
      | cons d ds =>
        simp only [RepL] at h
        obtain ⟨v, r0, G1, G2, rfl, e, h1, h2⟩ := h
        obtain ⟨e1, e2⟩ := List.append_eq_nil_iff.mp e.symm
        subst e1 e2
        exact RepL.cons h1 (ih h2)
  unfold cutV slD.cutV'
  rw [r.length]
  exact tk _ (dr _ r)
theorem imms_of {K : PySem.W.Frag} {H : Hp} {ds : List D} {vs : List V} {G : Fp} (r : RepL K H ds vs G) (h : D.imms ds = true) : RepL K H ds vs [] := by
  have g := RepL.imm _ _ _ r h
  rwa [g] at r
theorem v_sl (he : PEv X c e wa ra ba f) (hl : POv X c lo wl fl) (hu : POv X c hi wh fh) (dis : ∀ j ∈ ra, j ∉ wl ++ wh := by decide) : PEv X c (.Subscript e (.Slice lo hi none p2) pos) (wa ++ (wl ++ wh)) [] true (eSl f fl fh) := by
  have go : ∀ σ H Q, tG (Rep X.K) X.K c (wa ++ (wl ++ wh)) [] true (eSl f fl fh) σ H Q → tSl (fun x l h H Q => rSlL X.K x l h H Q ∨ (rSlA X.K x l h H Q ∨ rSlS x l h H Q)) (tG (Rep X.K) X.K c wa ra ba f) (tG repO X.K c wl [] true fl) (tG repO X.K c wh [] true fh) σ H Q := fun σ H Q q => by
    obtain ⟨Z, ρ, F, S, p⟩ := q
    have l1 : ∀ i ∈ wa, i ∈ wa ++ (wl ++ wh) := fun _ h => List.mem_append_left _ h
    have l2 : ∀ i ∈ wl, i ∈ wa ++ (wl ++ wh) := fun _ h => List.mem_append_right _ (List.mem_append_left _ h)
    have l3 : ∀ i ∈ wh, i ∈ wa ++ (wl ++ wh) := fun _ h => List.mem_append_right _ (List.mem_append_right _ h)
    refine tG_bind (w2 := wa ++ (wl ++ wh)) S f _ p l1 (fun _ h => h) fun d ρ1 v H1 F1 G st S1 r O p1 => ?_
    refine tG_bind (w2 := wa ++ (wl ++ wh)) (r1 := []) (b1 := true) S1 fl _ p1 l2 (fun _ h => h) fun l ρ2 l' H2 F2 G2 st2 S2 r2 O2 p2 => ?_
    refine tG_bind (w2 := wa ++ (wl ++ wh)) (r1 := []) (b1 := true) S2 fh _ p2 l3 (fun _ h => h) fun h ρ3 h' H3 F3 G3 st3 S3 r3 O3 p3 => ?_
    obtain ⟨rfl, _⟩ := r2
    obtain ⟨rfl, _⟩ := r3
    obtain ⟨d', ed, p4⟩ := p3.opt
    have mG := Rep.isM _ _ _ r
    have st23 := (st2.trans st3)
    have out := O.out (F' := F1) (H' := H1) S1 dis
    have rr : Rep X.K H3 d v G := Rep.keep _ _ _ r (S1.keeps st23 fun a ha => ⟨mG a ha, out a ha⟩)
    cases d with
    | lst ds =>
      simp only [slD] at ed
      split at ed
      · rename_i im
        cases ed
        obtain ⟨a, us, G', rfl, _, s1, lr⟩ := lst_inv rr
        refine .inl ⟨a, us, rfl, SqL.of s1, fun q hq => ?_⟩
        have sm := same_upd (o := .lst (cutV us l h)) hq
        exact Post.fin S3 p4 sm (rep_lst upd_same (RepL.keep _ _ _ (cut_rep (imms_of lr im) l h) (Same.keeps sm))) nd1 (new1 hq)
      · cases ed
    | scr ds =>
      simp only [slD] at ed
      split at ed
      · rename_i im
        cases ed
        obtain ⟨a, us, rfl, s1, lr⟩ := scr_inv rr
        refine .inl ⟨a, us, rfl, s1.sqL, fun q hq => ?_⟩
        have sm := same_upd (o := .lst (cutV us l h)) hq
        exact Post.fin S3 p4 sm (rep_lst upd_same (RepL.keep _ _ _ (cut_rep (imms_of lr im) l h) (Same.keeps sm))) nd1 (new1 hq)
      · cases ed
    | tup ds =>
      simp only [slD] at ed
      split at ed
      · rename_i im
        cases ed
        obtain ⟨a, us, rfl, s1, lr⟩ := tup_inv rr
        have lr := imms_of lr im
        have ll := lr.length
        refine .inr (.inl ⟨a, us, rfl, s1, fun w => ?_, fun _ q hq => ?_⟩)
        · refine Post.fin S3 p4 (Same.refl _) ?_ nd0 new0
          have e1 : slD.cutV' ds l h = ds := by
            unfold slD.cutV'
            rw [ll] at w
            rw [w.1, w.2]; simp
          rw [e1]
          exact rep_tup s1 lr
        · have sm := same_upd (o := .tup (cutV us l h)) hq
          exact Post.fin S3 p4 sm (rep_tup (SqT.of upd_same) (RepL.keep _ _ _ (cut_rep lr l h) (Same.keeps sm))) nd0 new0
      · cases ed
    | str z =>
      simp only [slD] at ed
      split at ed
      · rename_i hl
        cases ed
        exact .inr (.inr ⟨z, (str_inv rr).1, by rw [szl]; exact hl, Post.fin S3 p4 (Same.refl _) rep_str nd0 new0⟩)
      · cases ed
    | _ => simp [slD] at ed
  exact PE.imp (pe_slice (SlR.or sl_list (SlR.or sl_tupA sl_str)) he hl hu) go
/-! ### f-strings -/
def fmtD : D → Option Str
  | .str s => if s.length ≤ 16777216 then some s else none
  | .int i => if i.natAbs.log2 < 1920 then some (toString i) else none
  | _ => none
def eFmt (f : M D) : M D := M.bind f fun d => M.opt ((fmtD d).map .str)
theorem v_fmt (he : PEv X c e wa ra ba f) : PEv X c (.FormattedValue e (-1) none pos) wa [] true (eFmt f) := by
  refine PE.imp (pe_fmt he) fun σ H Q q => ?_
  obtain ⟨Z, ρ, F, S, p⟩ := q
  refine tG_bind (w2 := wa) S f _ p (fun _ h => h) (fun _ h => h) fun d ρ1 v H1 F1 G st S1 r O p1 => ?_
  obtain ⟨d', ed, p2⟩ := p1.opt
  cases d with
  | str z =>
    simp only [fmtD] at ed
    split at ed
    · rename_i hl
      cases ed
      exact .inl ⟨z, (str_inv r).1, by rw [szl]; exact hl, Post.fin S1 p2 (Same.refl _) rep_str nd0 new0⟩
    · cases ed
  | int i =>
    simp only [fmtD] at ed
    split at ed
    · rename_i hl
      cases ed
      exact .inr ⟨i, (int_inv r).1, hl, Post.fin S1 p2 (Same.refl _) rep_str nd0 new0⟩
    · cases ed
  | _ => simp [fmtD] at ed
/-- the parts of an f-string -/
structure PJv (X : Cx) (c : Cfg) (es : List Expr) (ws : List Nat) (f : Str → M D) : Prop where
  h : ∃ ts, PJ X es ts ∧ ∀ (acc : Str) σ H Q, tG (Rep X.K) X.K c ws [] true (f acc) σ H Q → tJs ts acc σ H fun out H1 => Q (.str out) H1
def jNil : Str → M D := fun acc => M.pur (.str acc)
def jCons (f : M D) (g : Str → M D) : Str → M D := fun acc => M.bind f fun d => match d with
  | .str y => if (acc ++ y).length ≤ 16777216 then g (acc ++ y) else fun _ => .stuck
  | _ => fun _ => .stuck
theorem j_nil : PJv X c [] [] jNil := ⟨[], .nil, fun acc σ H Q ⟨Z, ρ, F, S, p⟩ => p (.str acc) H F [] Step.refl S rep_str Own.nil⟩
theorem j_cons {es : List Expr} {wb : List Nat} {g : Str → M D} (he : PEv X c e wa ra ba f) (hr : PJv X c es wb g) : PJv X c (e :: es) (wa ++ wb) (jCons f g) := by
  obtain ⟨ts, h1, h2⟩ := hr
  refine ⟨_ :: ts, .cons he h1, fun acc σ H Q ⟨Z, ρ, F, S, p⟩ => ?_⟩
  refine tG_bind (w2 := wb) S f _ p (fun _ h => List.mem_append_left _ h) (fun _ h => List.mem_append_right _ h) fun d ρ1 v H1 F1 G st S1 r O p1 => ?_
  cases d with
  | str y =>
    simp only [] at p1
    split at p1
    · rename_i hl
      exact ⟨y, (str_inv r).1, by rw [szl]; exact hl, h2 _ σ H1 Q ⟨Z, ρ1, F1, S1, p1⟩⟩
    · exact p1.elim
  | _ => exact p1.elim
theorem v_fstr {v1 v2 : Expr} {rest : List Expr} {g : Str → M D} (h : PJv X c (v1 :: v2 :: rest) wa g) : PEv X c (.JoinedStr (v1 :: v2 :: rest) pos) wa [] true (g Str.empty) := by
  obtain ⟨ts, h1, h2⟩ := h
  exact PE.imp (pe_joined h1) fun σ H Q q => h2 Str.empty σ H Q q
theorem v_fstr1 (h : PEv X c e wa ra ba f) : PEv X c (.JoinedStr [e] pos) wa ra ba f := pe_joined1 h
/-! ### is None -/
def isNB : D → D → Option Bool
  | .non, .non => some true
  | .ref _, .non => none
  | _, .non => some false
  | _, _ => none
def notNB (d e : D) : Option Bool := (isNB d e).map (!·)
theorem isNB_some {K : PySem.W.Frag} {H : Hp} {d e : D} {x y : V} {Gx Gy : Fp} {b : Bool} (r : Rep K H d x Gx) (r' : Rep K H e y Gy) (h : isNB d e = some b) : y = .non ∧ b = decide (x = .non) := by
  cases e with
  | non =>
    refine ⟨(non_inv r').1, ?_⟩
    cases d with
    | non => cases h; rw [(non_inv r).1]; rfl
    | bl k => cases h; rw [(bl_inv r).1]; rfl
    | int k => cases h; rw [(int_inv r).1]; rfl
    | str k => cases h; rw [(str_inv r).1]; rfl
    | tup k => cases h; obtain ⟨a, _, rfl, _⟩ := tup_inv r; rfl
    | lst k => cases h; obtain ⟨a, _, _, rfl, _⟩ := lst_inv r; rfl
    | scr k => cases h; obtain ⟨a, _, rfl, _⟩ := scr_inv r; rfl
    | dic k => cases h; simp only [Rep] at r; obtain ⟨a, _, rfl, _⟩ := r; rfl
    | ref k => cases h
  | _ => cases d <;> cases h
theorem d_is : OpR X (compareOp .Is) (rD X.K (gBl isNB)) := OpR.of op_isN fun x y H Q h => by
  obtain ⟨d, e, Gx, Gy, r, r1, r2, eg, q⟩ := h
  obtain ⟨b, eb, rfl⟩ := gBl_some eg
  obtain ⟨h1, h2⟩ := isNB_some r1 r2 eb
  exact ⟨h1, by rw [← h2]; exact q _ H [] (Same.refl H) rep_bl nd0 new0⟩
theorem d_isnt : OpR X (compareOp .IsNot) (rD X.K (gBl notNB)) := OpR.of op_notN fun x y H Q h => by
  obtain ⟨d, e, Gx, Gy, r, r1, r2, eg, q⟩ := h
  obtain ⟨b, eb, rfl⟩ := gBl_some eg
  unfold notNB at eb
  cases ei : isNB d e with
  | none => rw [ei] at eb; cases eb
  | some k =>
    rw [ei] at eb; cases eb
    obtain ⟨h1, h2⟩ := isNB_some r1 r2 ei
    exact ⟨h1, by rw [← h2]; exact q _ H [] (Same.refl H) rep_bl nd0 new0⟩
/-! ### in -/
def eqAny (d : D) (ds : List D) : Option Bool := match toPy d, toPys ds with
  | some p, some ps => if SeqAt.shaped p && SeqAt.shaped (.list ps) then some (ps.any fun z => PyData.eqv z p) else none
  | _, _ => none
def inB : D → D → Option Bool
  | d, .lst ds => eqAny d ds
  | d, .scr ds => eqAny d ds
  | d, .tup ds => eqAny d ds
  | .str s, .str z => match s.cps.toList with
    | [k] => some (decide (k ∈ z.cps.toList))
    | _ => none
  | _, _ => none
def notInB (d e : D) : Option Bool := (inB d e).map (!·)
theorem eqAny_some {d : D} {ds : List D} {b : Bool} (h : eqAny d ds = some b) : ∃ p ps, toPy d = some p ∧ toPys ds = some ps ∧ SeqAt.shaped p = true ∧ SeqAt.shaped (.list ps) = true ∧ b = ps.any fun z => PyData.eqv z p := by
  unfold eqAny at h
  split at h
  · rename_i p ps e1 e2
    split at h
    · rename_i hs
      have hs := Bool.and_eq_true_iff.mp hs
      cases h
      exact ⟨p, ps, e1, e2, hs.1, hs.2, rfl⟩
    · cases h
  · cases h
/-- what is asked of a container, by values -/
def rInT (K : PySem.W.Frag) (neg : Bool) : R2 := fun x y H Q => ∃ p ps, Dp K H x p ∧ Dp K H y (.tuple ps) ∧ SeqAt.shaped p = true ∧ SeqAt.shaped (.list ps) = true ∧ Q (.bl (if neg then !(ps.any fun z => PyData.eqv z p) else ps.any fun z => PyData.eqv z p)) H
theorem op_inT (hu : X.A.units + 65 < cLine) : OpR X (compareOp .In) (rInT X.K false) := by
  intro pins s σ H x y v u Q I rx ry h
  obtain ⟨d, ds, hd, he, sd, se, q⟩ := h
  obtain ⟨as, r1⟩ := Dp.reads I d x v hd rx
  obtain ⟨bs, r2⟩ := Dp.reads I (.tuple ds) y u he ry
  exact SeqAt.in_tuple_reads r2 r1 (SeqAt.canLay_of_shaped se) (SeqAt.canLay_of_shaped sd) (room_in_shaped sd hu) ⟨.bl _, H, I, rfl, q⟩
theorem op_notInT (hu : X.A.units + 65 < cLine) : OpR X (compareOp .NotIn) (rInT X.K true) := by
  intro pins s σ H x y v u Q I rx ry h
  obtain ⟨d, ds, hd, he, sd, se, q⟩ := h
  obtain ⟨as, r1⟩ := Dp.reads I d x v hd rx
  obtain ⟨bs, r2⟩ := Dp.reads I (.tuple ds) y u he ry
  exact SeqAt.notIn_tuple_reads r2 r1 (SeqAt.canLay_of_shaped se) (SeqAt.canLay_of_shaped sd) (room_in_shaped sd hu) ⟨.bl _, H, I, rfl, q⟩
theorem inB_cases {K : PySem.W.Frag} {H : Hp} {d e : D} {x y : V} {Gx Gy : Fp} {b : Bool} (r1 : Rep K H d x Gx) (r2 : Rep K H e y Gy) (h : inB d e = some b) :
    (∃ p ps, Dp K H x p ∧ Dp K H y (.list ps) ∧ SeqAt.shaped p = true ∧ SeqAt.shaped (.list ps) = true ∧ b = ps.any fun z => PyData.eqv z p) ∨
    (∃ p ps, Dp K H x p ∧ Dp K H y (.tuple ps) ∧ SeqAt.shaped p = true ∧ SeqAt.shaped (.list ps) = true ∧ b = ps.any fun z => PyData.eqv z p) ∨
    ∃ (k : Nat) (z : Str), x = .str ⟨#[k]⟩ ∧ y = .str z ∧ b = decide (k ∈ z.cps.toList) := by
  unfold inB at h
  split at h
  · rename_i ds
    obtain ⟨p, ps, e1, e2, h1, h2, h3⟩ := eqAny_some h
    exact .inl ⟨p, ps, Rep.dp _ _ _ _ r1 e1, Rep.dp (.lst ds) _ _ (.list ps) r2 (by simp only [toPy, e2, Option.map_some]), h1, h2, h3⟩
  · rename_i ds
    obtain ⟨p, ps, e1, e2, h1, h2, h3⟩ := eqAny_some h
    exact .inl ⟨p, ps, Rep.dp _ _ _ _ r1 e1, Rep.dp (.scr ds) _ _ (.list ps) r2 (by simp only [toPy, e2, Option.map_some]), h1, h2, h3⟩
  · rename_i ds
    obtain ⟨p, ps, e1, e2, h1, h2, h3⟩ := eqAny_some h
    exact .inr (.inl ⟨p, ps, Rep.dp _ _ _ _ r1 e1, Rep.dp (.tup ds) _ _ (.tuple ps) r2 (by simp only [toPy, e2, Option.map_some]), h1, h2, h3⟩)
  · rename_i s' z
    split at h
    · rename_i k ek
      cases h
      have e : s' = ⟨#[k]⟩ := by
        obtain ⟨cps⟩ := s'
        have e2 : cps = #[k] := Array.toList_inj.mp (by simpa using ek)
        rw [e2]
      exact .inr (.inr ⟨k, z, by rw [← e]; exact (str_inv r1).1, (str_inv r2).1, rfl⟩)
    · cases h
  · cases h
theorem d_in (hu : X.A.units + 65 < cLine) : OpR X (compareOp .In) (rD X.K (gBl inB)) := fun pins s σ H x y v u Q I rx ry h => by
  obtain ⟨d, e, Gx, Gy, r, r1, r2, eg, q⟩ := h
  obtain ⟨b, eb, rfl⟩ := gBl_some eg
  have q := q (.bl b) H [] (Same.refl H) rep_bl nd0 new0
  rcases inB_cases r1 r2 eb with ⟨p, ps, h1, h2, h3, h4, rfl⟩ | ⟨p, ps, h1, h2, h3, h4, rfl⟩ | ⟨k, z, h1, h2, rfl⟩
  · exact op_inD hu pins s σ H x y v u Q I rx ry ⟨p, ps, h1, h2, h3, h4, q⟩
  · exact op_inT hu pins s σ H x y v u Q I rx ry ⟨p, ps, h1, h2, h3, h4, by simpa using q⟩
  · exact op_in_sign pins s σ H x y v u Q I rx ry ⟨k, z, h1, h2, q⟩
theorem d_notIn (hu : X.A.units + 65 < cLine) : OpR X (compareOp .NotIn) (rD X.K (gBl notInB)) := fun pins s σ H x y v u Q I rx ry h => by
  obtain ⟨d, e, Gx, Gy, r, r1, r2, eg, q⟩ := h
  obtain ⟨b', eb, rfl⟩ := gBl_some eg
  unfold notInB at eb
  cases ei : inB d e with
  | none => rw [ei] at eb; cases eb
  | some b =>
  rw [ei] at eb; cases eb
  have q := q (.bl (!b)) H [] (Same.refl H) rep_bl nd0 new0
  rcases inB_cases r1 r2 ei with ⟨p, ps, h1, h2, h3, h4, rfl⟩ | ⟨p, ps, h1, h2, h3, h4, rfl⟩ | ⟨k, z, h1, h2, rfl⟩
  · exact op_notInD hu pins s σ H x y v u Q I rx ry ⟨p, ps, h1, h2, h3, h4, q⟩
  · exact op_notInT hu pins s σ H x y v u Q I rx ry ⟨p, ps, h1, h2, h3, h4, by simpa using q⟩
  · exact op_notIn_sign pins s σ H x y v u Q I rx ry ⟨k, z, h1, h2, q⟩
end
end Mw

set_option maxHeartbeats 1000000
namespace Mw
open PySem PySem.Spec L2 LamX
open PyProof.Rows hiding St

/-! ### the law's def is called: cs, the code objects with lambdas and their (empty) tables -/
section
variable {P : Program} {w : World} {K : PySem.W.Frag} {mg mb : Str → Option Value} {k : Nat} {fa a : Addr} {cs : List (Addr × Addr)} {fd : FuncData} {x : Str} {sp : Sp} {s₁ : Shared} {vs : List Value} {ns : List Int}
theorem end_core (KX : K.In s₁.heap) (hns : s₁.heap.Ns mainGlobals mg) (hb : s₁.heap.Ns builtinsNs mb) (hbb : ∀ x : Str, x ≠ "__name__" → mb x = bootBuiltins x) (hlim : s₁.heap.NoLimit) (hg : s₁.gens = #[])
    (hT : ∀ p ∈ cs, s₁.heap.get? p.2 = some { cls := .none, data := .fields #[] }) (nT : ∀ p ∈ cs, K.lookup p.2 = none) (C : ∀ p ∈ cs, PySem.W.CodeHd s₁.heap p.1 p.2)
    (hbm : ∃ (bm : Addr) (ob : Obj), mg "__builtins__" = some (.ref bm) ∧ bm ≠ builtinsNs ∧ s₁.heap.get? bm = some ob ∧ ob.cls = .type "module" ∧ ob.dict = some builtinsNs ∧ ob.data = .plain)
    (ha : s₁.heap.get? a = some { cls := .type "list", data := .seq vs.toArray }) (hr : Room k callerA)
    (Fg : ∀ base : Heap, K.In base → base.Ns mainGlobals mg → (∀ p ∈ cs, TabB base mg p.1 p.2) → FnG P w K mg base k fa fd [x] sp) (hbind : ∀ (s : Shared) (u : Value), BindsTo s fd ⟨[u], []⟩ [(x, u)])
    {H : Hp} (tabs : ∀ p ∈ cs, H p.2 = some (.tbl #[])) (kinds : ∀ b, H b = none ∨ b ∈ cs.map (·.2) ∨ ∃ o xs, H b = some (.frz o (.lst xs))) (hok : HOk P w H s₁.heap) (only : ∀ b, H b ≠ none → b = a ∨ b ∈ cs.map (·.2)) (notK : H a ≠ none → K.lookup a = none)
    (hsp : sp [.ref a] H (fun v _ => v = .bl true) fun _ _ _ => False) :
    codeAny (model P w) callerA (.call (.ref fa) ⟨[.ref a], []⟩) (fun r s' => r = .ok (.ret (.bool true)) ∧ OldK s₁.heap s'.heap ∧ s'.os = s₁.os ∧ AllBare s'.gens) s₁ := by
  have tabAt : ∀ b : Addr, b ∈ cs.map (·.2) → s₁.heap.get? b = some { cls := .none, data := .fields #[] } := fun b hb => by
    obtain ⟨p, hp, rfl⟩ := List.mem_map.mp hb
    exact hT p hp
  have inBase : ∀ {b : Addr} {o : Obj}, s₁.heap.get? b = some o → H b = none → (hidT s₁.heap H).get? b = some o := fun e n => hidT_get e n
  -- an object that is neither a list nor an empty record is not tracked
  have free : ∀ {b : Addr} {o : Obj}, s₁.heap.get? b = some o → (∀ us n, o.data ≠ .seq us n) → o.data ≠ .fields #[] → H b = none := fun {b o} e h1 h2 => by
    cases q : H b with
    | none => rfl
    | some u =>
      rcases only b (by rw [q]; exact fun z => nomatch z) with rfl | z
      · rw [ha] at e; cases e; exact (h1 _ _ rfl).elim
      · rw [tabAt b z] at e; cases e; exact (h2 rfl).elim
  have freeD : ∀ {b : Addr} {o : Obj} {es : Array DictEntry} {ep : Nat}, s₁.heap.get? b = some o → o.data = .dict es ep → H b = none := fun {b o es ep} e d =>
    free e (fun us n z => by rw [d] at z; cases z) fun z => by rw [d] at z; cases z
  have names : ∀ {b : Addr} {m : Str → Option Value}, s₁.heap.Ns b m → (hidT s₁.heap H).Ns b m := fun {b m} ⟨o, es, ep, e, d, r⟩ => ⟨o, es, ep, inBase e (freeD e d), d, r⟩
  have Kb : K.In (hidT s₁.heap H) := fun b o e => inBase (KX b o e) (by
    cases q : H b with
    | none => rfl
    | some u =>
      rcases only b (by rw [q]; exact fun z => nomatch z) with rfl | z
      · rw [notK (by rw [q]; exact fun z => nomatch z)] at e; cases e
      · obtain ⟨p, hp, rfl⟩ := List.mem_map.mp z
        rw [nT p hp] at e; cases e)
  obtain ⟨mc, l1, l2⟩ := hlim
  have M : L2.Mod K mg (hidT s₁.heap H) := ⟨Kb, names hns, ⟨mb, names hb, hbb⟩, ⟨mc, names l1, l2⟩⟩
  obtain ⟨og, eg, epg, g1, g2, g3⟩ := id hns
  have TB : ∀ p ∈ cs, TabB (hidT s₁.heap H) mg p.1 p.2 := fun p hp => by
    have tp := hT p hp
    refine ⟨?_, ?_, fun z => ?_⟩
    · obtain ⟨o, us, file, tf, flags, tg, inF, text, tt, e1, r1, r2, r3, r4, r5, r6, r7, r8, r9⟩ := C p hp
      refine ⟨o, us, file, tf, flags, tg, inF, text, tt, inBase e1 (free e1 (fun us' n z => ?_) fun z => ?_), r1, r2, r3, r4, r5, r6, r7, r8, r9⟩
      · rw [r2] at z; cases z
      · rw [r2] at z; cases z; simp at r3
    · obtain ⟨bm, ob, b1, b2, b3, b4, b5, b6⟩ := hbm
      have n1 : bm ≠ mainGlobals := fun q => by rw [q, g1] at b3; cases b3; rw [g2] at b6; cases b6
      have n2 : bm ≠ p.2 := fun q => by rw [q, tp] at b3; cases b3; cases b6
      refine ⟨bm, ob, b1, b2, n1, n2, inBase b3 (free b3 (fun us' n z => ?_) fun z => ?_), b4, b5, b6⟩
      · rw [b6] at z; cases z
      · rw [b6] at z; cases z
    · rw [z, tp] at g1; cases g1; cases g2
  have e0 : Env0 P w K mg (hidT s₁.heap H) callerA [] s₁ H := ⟨rfl, M, fun b o e => of_hidT e, Nat.le_of_eq (hidT_size _ _), trivial, fun b hb => absurd (show b ∈ ([] : List Addr) from hb) (by simp), hok, .of_eq hg⟩
  refine codeAny_mono ((Fg _ Kb (names hns) TB).run callerA [] s₁ H ⟨[.ref a], []⟩ [.ref a] [.ref a] _ _ rfl hr e0 (hbind s₁ (.ref a)) (.cons rfl .nil) hsp) fun r s' h => ?_
  cases r with
  | error e =>
    obtain ⟨_, _, _, _, _, _, _, _, _, _, _, _, z⟩ := h
    exact z.elim
  | ok fl =>
    cases fl with
    | next => exact False.elim h
    | brk => exact False.elim h
    | cont => exact False.elim h
    | ret u =>
      obtain ⟨v, H', os, bare, un, hok', rv, q⟩ := h
      have q : v = .bl true := q
      subst q
      obtain rfl : u = Value.bool true := rv
      -- nothing but the tables has changed
      have same : ∀ b o, b ∉ cs.map (·.2) → s₁.heap.get? b = some o → s'.heap.get? b = some o := fun b o nb e => by
        rcases kinds b with z | z | ⟨ob, xs, z⟩
        · exact un.keep b o e z (fun y => absurd (show b ∈ ([] : List Addr) from y) (by simp)) (by simp)
        · exact absurd z nb
        · obtain ⟨e1, _⟩ := hok b _ z
          obtain ⟨e2, _⟩ := hok' b _ (un.frzs b ob _ z)
          rw [e] at e1; cases e1
          exact e2
      have more : ∀ p ∈ cs, ∃ m : Array Value, s'.heap.get? p.2 = some { cls := .none, data := .fields m } := fun p hp => by
        obtain ⟨m, z⟩ := un.tbls p.2 #[] (tabs p hp)
        exact ⟨_, hok' p.2 _ z⟩
      refine ⟨rfl, ⟨fun b o e => ?_, fun b o e => ?_⟩, os, bare⟩
      · by_cases hb : b ∈ cs.map (·.2)
        · obtain ⟨p, hp, rfl⟩ := List.mem_map.mp hb
          obtain ⟨m, hm⟩ := more p hp
          rw [hT p hp] at e
          cases e
          exact .inr (.inl ⟨((C p hp).tab (hT p hp)).isCodeTable, rfl, #[], m, rfl, by rw [Array.empty_append]; exact hm⟩)
        · exact .inl (same b o hb e)
      · by_cases hb : b ∈ cs.map (·.2)
        · obtain ⟨p, hp, rfl⟩ := List.mem_map.mp hb
          obtain ⟨m, hm⟩ := more p hp
          exact ⟨_, hm⟩
        · exact ⟨o, same b o hb e⟩
theorem end_G (KX : K.In s₁.heap) (hns : s₁.heap.Ns mainGlobals mg) (hb : s₁.heap.Ns builtinsNs mb) (hbb : ∀ x : Str, x ≠ "__name__" → mb x = bootBuiltins x) (hlim : s₁.heap.NoLimit) (hg : s₁.gens = #[])
    (hT : ∀ p ∈ cs, s₁.heap.get? p.2 = some { cls := .none, data := .fields #[] }) (nT : ∀ p ∈ cs, K.lookup p.2 = none) (C : ∀ p ∈ cs, PySem.W.CodeHd s₁.heap p.1 p.2)
    (hbm : ∃ (bm : Addr) (ob : Obj), mg "__builtins__" = some (.ref bm) ∧ bm ≠ builtinsNs ∧ s₁.heap.get? bm = some ob ∧ ob.cls = .type "module" ∧ ob.dict = some builtinsNs ∧ ob.data = .plain)
    (ha : s₁.heap.get? a = some { cls := .type "list", data := .seq vs.toArray }) (hi : IntsAre vs ns) (hl : ns.length ≤ sizeLine) (hr : Room k callerA)
    (Fg : ∀ base : Heap, K.In base → base.Ns mainGlobals mg → (∀ p ∈ cs, TabB base mg p.1 p.2) → FnG P w K mg base k fa fd [x] sp) (hbind : ∀ (s : Shared) (u : Value), BindsTo s fd ⟨[u], []⟩ [(x, u)])
    (hsp : ∀ H : Hp, (∀ p ∈ cs, H p.2 = some (.tbl #[])) → Stat K H a (ns.map V.int) → sp [.ref a] H (fun v _ => v = .bl true) fun _ _ _ => False) :
    codeAny (model P w) callerA (.call (.ref fa) ⟨[.ref a], []⟩) (fun r s' => r = .ok (.ret (.bool true)) ∧ OldK s₁.heap s'.heap ∧ s'.os = s₁.os ∧ AllBare s'.gens) s₁ := by
  have rv := vals_ints hi
  have tabAt : ∀ b : Addr, b ∈ cs.map (·.2) → s₁.heap.get? b = some { cls := .none, data := .fields #[] } := fun b hb => by
    obtain ⟨p, hp, rfl⟩ := List.mem_map.mp hb
    exact hT p hp
  have aT : a ∉ cs.map (·.2) := fun z => by
    have q := tabAt a z
    rw [ha] at q
    have y : Data.seq vs.toArray _ = Data.fields #[] := congrArg Obj.data (Option.some.inj q)
    cases y
  have inT : ∀ p ∈ cs, p.2 ∈ cs.map (·.2) := fun p hp => List.mem_map.mpr ⟨p, hp, rfl⟩
  cases hk : K.lookup a with
  | some o =>
    have e := KX a o hk
    rw [ha] at e
    cases e
    let H : Hp := fun b => if b ∈ cs.map (·.2) then some (.tbl #[]) else none
    have h1 : ∀ b, b ∈ cs.map (·.2) → H b = some (.tbl #[]) := fun b hb => if_pos hb
    have h2 : ∀ b, b ∉ cs.map (·.2) → H b = none := fun b hb => if_neg hb
    refine end_core KX hns hb hbb hlim hg hT nT C hbm ha hr Fg hbind (H := H) (fun p hp => h1 _ (inT p hp)) (fun b => ?_) (fun b u z => ?_) (fun b z => ?_) (fun z => (z (h2 a aT)).elim)
      (hsp H (fun p hp => h1 _ (inT p hp)) (.inr ⟨_, vs.toArray, _, hk, rfl, rfl, rfl, by rw [List.size_toArray, hi.length]; exact hl, by simpa using rv⟩))
    · by_cases q : b ∈ cs.map (·.2)
      · exact .inr (.inl q)
      · exact .inl (h2 b q)
    · by_cases q : b ∈ cs.map (·.2)
      · rw [h1 b q] at z; cases z; exact tabAt b q
      · rw [h2 b q] at z; cases z
    · by_cases q : b ∈ cs.map (·.2)
      · exact .inr q
      · exact (z (h2 b q)).elim
  | none =>
    let H : Hp := fun b => if b = a then some (.frz { cls := .type "list", data := .seq vs.toArray } (.lst (ns.map V.int))) else if b ∈ cs.map (·.2) then some (.tbl #[]) else none
    have h0 : H a = some (.frz { cls := .type "list", data := .seq vs.toArray } (.lst (ns.map V.int))) := if_pos rfl
    have h1 : ∀ b, b ∈ cs.map (·.2) → H b = some (.tbl #[]) := fun b hb => by
      have ne : b ≠ a := fun z => aT (by rw [← z]; exact hb)
      show (if b = a then _ else _) = _
      rw [if_neg ne, if_pos hb]
    have h2 : ∀ b, b ≠ a → b ∉ cs.map (·.2) → H b = none := fun b ne hb => by
      show (if b = a then _ else _) = _
      rw [if_neg ne, if_neg hb]
    refine end_core KX hns hb hbb hlim hg hT nT C hbm ha hr Fg hbind (H := H) (fun p hp => h1 _ (inT p hp)) (fun b => ?_) (fun b u z => ?_) (fun b z => ?_) (fun _ => hk) (hsp H (fun p hp => h1 _ (inT p hp)) (.inl ⟨_, h0⟩))
    · by_cases e : b = a
      · rw [e]; exact .inr (.inr ⟨_, _, h0⟩)
      · by_cases q : b ∈ cs.map (·.2)
        · exact .inr (.inl q)
        · exact .inl (h2 b e q)
    · by_cases e : b = a
      · rw [e, h0] at z
        cases z
        rw [e]
        exact ⟨ha, by rw [List.length_map]; exact hl, vs, _, rv, ha⟩
      · by_cases q : b ∈ cs.map (·.2)
        · rw [h1 b q] at z; cases z; exact tabAt b q
        · rw [h2 b e q] at z; cases z
    · by_cases e : b = a
      · exact .inl e
      · by_cases q : b ∈ cs.map (·.2)
        · exact .inr q
        · exact (z (h2 b e q)).elim
/-- what is known of the law's promise at the head's heap h -/
def LawG (l : PySem.W.OpenLaw) (w : World) (K : PySem.W.Frag) (k n : Nat) (x : Str) (mg : Str → Option Value) (fa : Addr) (h : Heap) : Prop :=
  ∃ (fd : FuncData) (cs : List (Addr × Addr)) (sp : Sp), (∀ p ∈ cs, h.get? p.2 = some { cls := .none, data := .fields #[] }) ∧ (∀ p ∈ cs, K.lookup p.2 = none) ∧ (∀ p ∈ cs, PySem.W.CodeHd h p.1 p.2) ∧ (∀ (s : Shared) (u : Value), BindsTo s fd ⟨[u], []⟩ [(x, u)]) ∧
    (∀ (H : Hp) (a : Addr) (ns : List Int), ns.length ≤ n → (∀ z ∈ ns, Builtin.Int.intBits z ≤ 1048576) → (∀ p ∈ cs, H p.2 = some (.tbl #[])) → Stat K H a (ns.map V.int) → sp [.ref a] H (fun v _ => v = .bl true) fun _ _ _ => False) ∧
    ∀ base : Heap, K.In base → base.Ns mainGlobals mg → (∀ p ∈ cs, TabB base mg p.1 p.2) → FnG l.prog w K mg base k fa fd [x] sp
theorem walk_G {l : PySem.W.OpenLaw} {n k : Nat} {q : Program} {loose : List Str} {XP : (Str → Option Value) → Heap → Prop} {YP : World → Heap → Prop} {d : DefRec} {x : Str}
    (hn : l.most = some n) (hn2 : n ≤ sizeLine) (hdf : d.params.defaults = []) (hr : Room k callerA)
    (F : ∀ (w : World) (mg : Str → Option Value) (fa : Addr) (h : Heap), YP w h → h.Ns mainGlobals mg → mg d.name = some (.ref fa) → ∃ K : PySem.W.Frag, K.In h ∧ LawG l w K k n x mg fa h) :
    PySem.W.WalkO q loose XP YP l.row.toRowW d [] (fun f vs => PySem.call f vs) := by
  refine Att.attach_callB hn hdf fun w s₀ s₁ mg mb fa o pm cd doc a vs ns G Y ho hd hcd hmg hobj hints hlen hbits hg => ?_
  obtain ⟨K, KX, fd, cs, sp, hT, nT, C, hb, hsp, hF⟩ := F w mg fa _ Y G.T.g hmg
  exact end_G KX G.T.g G.T.b G.T.builtins G.T.nolimit hg hT nT C G.T.bmain hobj hints (Nat.le_trans hlen hn2) hr hF hb fun H hH hS => hsp H a ns hlen hbits hH hS
/-- the script, as the def gets it -/
theorem sp_start {T : List (Addr × Str)} {ex : Str → Value} {g : List D → FR} {H : Hp} {ms : List D} (t : Tabs T H) (st : Stat K H a (ns.map V.int)) (e : g [.scr (ns.map D.int)] = .ok (.bl true) ms) : spF K T ex [.r] g [.ref a] H (fun v _ => v = .bl true) fun _ _ _ => False := by
  classical
  let Z : Hp := fun b => match H b with
    | some (.tbl _) => none
    | y => y
  have zs : Same Z H := fun b o e => by
    simp only [Z] at e
    split at e
    · cases e
    · exact e
  have zt : ∀ b ps, Z b ≠ some (.tbl ps) := fun b ps e => by
    have y := zs b _ e
    simp only [Z, y] at e
    cases e
  have repInts : ∀ l : List Int, RepL K H (l.map D.int) (l.map V.int) [] := by
    intro l
    induction l with
    | nil => exact RepL.nil
    | cons i l ih => exact RepL.cons rep_int ih
  refine ⟨[.scr (ns.map D.int)], Z, fun _ => [], rfl, ?_, ⟨zs, zt, t, fun _ => List.Pairwise.nil, fun i j _ b hb => (nomatch (show b ∈ ([] : Fp) from hb)), fun i b hb => (nomatch (show b ∈ ([] : Fp) from hb)), fun i b hb => (nomatch (show b ∈ ([] : Fp) from hb))⟩, fun _ _ => rfl, ?_⟩
  · simp only [AStart]
    exact ⟨⟨[], by simp only [Rep]; exact ⟨a, _, rfl, st, repInts ns⟩, fun b hb => nomatch hb⟩, trivial⟩
  · rw [e]
    intro v H' F' G _ _ _ r _
    exact (bl_inv r).1
end
end Mw

set_option maxHeartbeats 1000000
namespace Mw
open PySem PySem.Spec L2
open PyProof.Rows hiding St

/-! ### the error classes, as the head tells them -/
def exNm (K : PySem.W.Frag) : Str → Value := fun x => .ref (He.ga K x)
def six : List Str := ["NotAllowed", "TooLarge", "Missing", "BadPaper", "BadForm", "Broken"]
def ncT : Str → Option Str := fun x => (List.zip six (["refused", "large", "missing", "paper", "form", "broken"] : List Str)).lookup x
def exB (K : PySem.W.Frag) (x : Str) : Bool :=
  He.eqO (PySem.W.findIn K (.ref (He.ga K x)) "__getattribute__") (some (some (.builtin "BaseException.__getattribute__"))) && (He.eqO (PySem.W.findIn K (.ref (He.ga K x)) "__getattr__") (some none) &&
  (decide (PySem.W.subIn K (.ref (He.ga K x)) (.type "BaseException") = some true) && (PySem.W.hasDictIn K (He.ga K x) && (He.eqO (PySem.W.findIn K (.ref (He.ga K x)) "__class__") (some (some (.builtin "object.__class__"))) &&
  (He.eqO (PySem.W.specialIn K (.builtin "object.__class__") "__get__") (some (some (.builtin "getset_descriptor.__get__"))) && (decide (PySem.W.takesIn K (.builtin "object.__class__") = some true) && decide (PySem.W.mroIn K (He.ga K x) (.type "object") = some true)))))))
theorem exB_ok {K : PySem.W.Frag} {x : Str} (h : exB K x = true) : ExcC K (He.ga K x) := by
  obtain ⟨h1, h⟩ := He.ba h
  obtain ⟨h2, h⟩ := He.ba h
  obtain ⟨h3, h⟩ := He.ba h
  obtain ⟨h4, h⟩ := He.ba h
  obtain ⟨h5, h⟩ := He.ba h
  obtain ⟨h6, h⟩ := He.ba h
  obtain ⟨h7, h8⟩ := He.ba h
  exact ⟨He.eqO_ok h1, He.eqO_ok h2, of_decide_eq_true h3, h4, He.eqO_ok h5, He.eqO_ok h6, of_decide_eq_true h7, of_decide_eq_true h8⟩
def kitB (K : PySem.W.Frag) (xs : List Str) : Bool := xs.all fun x => exB K x && (decide (PySem.W.exmOne K (.ref (He.ga K x)) (.ref (He.ga K "MealError")) = some true) && xs.all fun y => decide (PySem.W.kitOne K (.ref (He.ga K x)) (.ref (He.ga K y)) = some (decide (x = y))))
theorem kitB_ok {K : PySem.W.Frag} {xs : List Str} (h : kitB K xs = true) {x : Str} (hx : x ∈ xs) : ExcC K (He.ga K x) ∧ PySem.W.exmOne K (.ref (He.ga K x)) (.ref (He.ga K "MealError")) = some true ∧ ∀ y ∈ xs, PySem.W.kitOne K (.ref (He.ga K x)) (.ref (He.ga K y)) = some (decide (x = y)) := by
  obtain ⟨h1, h2⟩ := He.ba (List.all_eq_true.mp h x hx)
  obtain ⟨h2, h3⟩ := He.ba h2
  exact ⟨exB_ok h1, of_decide_eq_true h2, fun y hy => of_decide_eq_true (List.all_eq_true.mp h3 y hy)⟩
def nmK (K : PySem.W.Frag) : Addr → Str → Prop := fun D n => ∃ x ∈ six, D = He.ga K x ∧ ncT x = some n
theorem nmK_of {K : PySem.W.Frag} : ∀ e n, ncT e = some n → ∃ D, exNm K e = .ref D ∧ nmK K D n := fun e n h => by
  refine ⟨He.ga K e, rfl, e, ?_, rfl, h⟩
  unfold ncT at h
  have := List.of_mem_zip (PySem.mem_of_lookup h)
  exact this.1
/-- what the suite makes of the exception -/
def toldS (κ : Addr → Option Bool) (a : Addr) (c1 c2 c3 c4 c5 c6 : Addr) : M Fl :=
  let i1 := fun C => eN (isE κ a) (lCons (eVar 1) (lCons (eC (.ref C)) lNil))
  sSeq (sSet 2 (eN dLst (lCons (i1 c1) (lCons (i1 c2) (lCons (i1 c3) (lCons (i1 c4) (lCons (i1 c5) (lCons (i1 c6) lNil))))))))
    (sSeq (sSet 3 (eLc (.nm 4) (iRng rng1 (lCons (eC (.int 6)) lNil)) (cTru (eOp ixD (eVar 2) (eVar 4)))
        (eOp ixD (eN dLst (lCons (eC (.str "refused")) (lCons (eC (.str "large")) (lCons (eC (.str "missing")) (lCons (eC (.str "paper")) (lCons (eC (.str "form")) (lCons (eC (.str "broken")) lNil))))))) (eVar 4))))
      (sRet (eN dTup (lCons (eOp ixD (eN dLst (lCons (eC (.str "odd")) (lCons (eOp ixD (eOp addD (eVar 3) (eN dLst (lCons (eC (.str "")) lNil))) (eC (.int 0))) lNil)))
        (eN (un1 intD) (lCons (eOp (gBl eqB) (eN (un1 lenD) (lCons (eVar 3) lNil)) (eC (.int 1))) lNil))) lNil))))
theorem lCons_ok {f : M D} {g : M (List D)} {ρ ρ1 ρ2 : Env} {d : D} {ds : List D} (h : f ρ = .ok d ρ1) (h2 : g ρ1 = .ok ds ρ2) : lCons f g ρ = .ok (d :: ds) ρ2 := by simp [lCons, M.bind, M.pur, h, h2]
theorem eN_ok {n : List D → Option D} {fl : M (List D)} {ρ ρ1 : Env} {ds : List D} {r : D} (h : fl ρ = .ok ds ρ1) (h2 : n ds = some r) : eN n fl ρ = .ok r ρ1 := by simp [eN, M.bind, M.opt, h, h2]
theorem eOp_ok {g : D → D → Option D} {f f' : M D} {ρ ρ1 ρ2 : Env} {x y r : D} (h : f ρ = .ok x ρ1) (h2 : f' ρ1 = .ok y ρ2) (h3 : g x y = some r) : eOp g f f' ρ = .ok r ρ2 := by simp [eOp, M.bind, M.opt, h, h2, h3]
theorem eUn_ok {g : D → Option D} {f : M D} {ρ ρ1 : Env} {x r : D} (h : f ρ = .ok x ρ1) (h3 : g x = some r) : eUn g f ρ = .ok r ρ1 := by simp [eUn, M.bind, M.opt, h, h3]
theorem eVar_ok {i : Nat} {ρ : Env} {d : D} (h : ρ[i]? = some (some d)) : eVar i ρ = .ok d ρ := by simp [eVar, h]
theorem bind_ok {α β : Type} {x : M α} {f : α → M β} {ρ ρ1 : Env} {a : α} (h : x ρ = .ok a ρ1) : M.bind x f ρ = f a ρ1 := by simp [M.bind, h]
theorem sSet_ok {i : Nat} {f : M D} {ρ ρ1 : Env} {d : D} (h : f ρ = .ok d ρ1) : sSet i f ρ = .ok .nx (ρ1.set i (some d)) := by simp [sSet, M.bind, h]
theorem sSeq_nx {a b : M Fl} {ρ ρ1 : Env} (h : a ρ = .ok .nx ρ1) : sSeq a b ρ = b ρ1 := by simp [sSeq, M.bind, h]
theorem sSeq_ret {a b : M Fl} {ρ ρ1 : Env} {d : D} (h : a ρ = .ok (.ret d) ρ1) : sSeq a b ρ = .ok (.ret d) ρ1 := by simp [sSeq, M.bind, M.pur, h]
theorem sRet_ok {f : M D} {ρ ρ1 : Env} {d : D} (h : f ρ = .ok d ρ1) : sRet f ρ = .ok (.ret d) ρ1 := by simp [sRet, M.bind, M.pur, h]
theorem lNil_ok {ρ : Env} : lNil ρ = .ok [] ρ := rfl
theorem eC_ok {d : D} {ρ : Env} : eC d ρ = .ok d ρ := rfl
theorem toldS_ok {κ : Addr → Option Bool} {a c1 c2 c3 c4 c5 c6 : Addr} {x n : Str} (hx : x ∈ six) (hn : ncT x = some n)
    (h1 : κ c1 = some (decide (x = "NotAllowed"))) (h2 : κ c2 = some (decide (x = "TooLarge"))) (h3 : κ c3 = some (decide (x = "Missing"))) (h4 : κ c4 = some (decide (x = "BadPaper"))) (h5 : κ c5 = some (decide (x = "BadForm"))) (h6 : κ c6 = some (decide (x = "Broken"))) :
    ∃ ρ', toldS κ a c1 c2 c3 c4 c5 c6 [none, some (.ref a), none, none, none] = .ok (.ret (.tup [.str n])) ρ' := by
  have key : ∀ C b, κ C = some b → eN (isE κ a) (lCons (eVar 1) (lCons (eC (.ref C)) lNil)) [none, some (.ref a), none, none, none] = .ok (.bl b) [none, some (.ref a), none, none, none] := fun C b hC =>
    eN_ok (lCons_ok (eVar_ok rfl) (lCons_ok eC_ok lNil_ok)) (by simp [isE, hC])
  have six' : x = "NotAllowed" ∨ x = "TooLarge" ∨ x = "Missing" ∨ x = "BadPaper" ∨ x = "BadForm" ∨ x = "Broken" := by simpa [six] using hx
  unfold toldS
  dsimp only
  rw [sSeq_nx (sSet_ok (eN_ok (lCons_ok (key _ _ h1) (lCons_ok (key _ _ h2) (lCons_ok (key _ _ h3) (lCons_ok (key _ _ h4) (lCons_ok (key _ _ h5) (lCons_ok (key _ _ h6) lNil_ok)))))) rfl))]
  rcases six' with rfl | rfl | rfl | rfl | rfl | rfl
  · have e : ncT "NotAllowed" = some "refused" := by kernel_rfl
    rw [e] at hn
    cases hn
    refine ⟨[none, some (.ref a), some (.lst [.bl true, .bl false, .bl false, .bl false, .bl false, .bl false]), some (.lst [.str "refused"]), none], ?_⟩
    kernel_rfl
  · have e : ncT "TooLarge" = some "large" := by kernel_rfl
    rw [e] at hn
    cases hn
    refine ⟨[none, some (.ref a), some (.lst [.bl false, .bl true, .bl false, .bl false, .bl false, .bl false]), some (.lst [.str "large"]), none], ?_⟩
    kernel_rfl
  · have e : ncT "Missing" = some "missing" := by kernel_rfl
    rw [e] at hn
    cases hn
    refine ⟨[none, some (.ref a), some (.lst [.bl false, .bl false, .bl true, .bl false, .bl false, .bl false]), some (.lst [.str "missing"]), none], ?_⟩
    kernel_rfl
  · have e : ncT "BadPaper" = some "paper" := by kernel_rfl
    rw [e] at hn
    cases hn
    refine ⟨[none, some (.ref a), some (.lst [.bl false, .bl false, .bl false, .bl true, .bl false, .bl false]), some (.lst [.str "paper"]), none], ?_⟩
    kernel_rfl
  · have e : ncT "BadForm" = some "form" := by kernel_rfl
    rw [e] at hn
    cases hn
    refine ⟨[none, some (.ref a), some (.lst [.bl false, .bl false, .bl false, .bl false, .bl true, .bl false]), some (.lst [.str "form"]), none], ?_⟩
    kernel_rfl
  · have e : ncT "Broken" = some "broken" := by kernel_rfl
    rw [e] at hn
    cases hn
    refine ⟨[none, some (.ref a), some (.lst [.bl false, .bl false, .bl false, .bl false, .bl false, .bl true]), some (.lst [.str "broken"]), none], ?_⟩
    kernel_rfl
end Mw
namespace Mw
open PySem PySem.Spec L2
open PyProof.Rows hiding St
/-! ### what the printed derivations lean on -/
theorem pmd_nb {pk : List Pk} {vs : List V} {i : Nat} (h : pk[i]? = some .m) : (pmd pk vs i).notBrw = true := by
  unfold pmd
  rw [h]
  cases vs[i]? <;> rfl
def Pk.isR : Pk → Bool
  | .r => true
  | _ => false
theorem pmd_allW {pk : List Pk} {vs : List V} {l : List Nat} (h : (l.all fun j => match pk[j]? with | some p => !p.isR | none => true) = true) : (l.all fun j => (pmd pk vs j).isW) = true := by
  rw [List.all_eq_true] at h ⊢
  intro j hj
  have z := h j hj
  unfold pmd
  cases e : pk[j]? with
  | none => rfl
  | some p =>
    rw [e] at z
    cases p with
    | r => cases z
    | o => rfl
    | m => cases vs[j]? <;> rfl
def fd0 : FuncData := PySem.W.fnOf "" "" ⟨[], [], none, [], [], none, []⟩ [] ⟨.function, [], false, false, []⟩ .none .none .none .none none .none .none
open Classical in
noncomputable def fdK (K : PySem.W.Frag) (x : Str) : FuncData := if h : ∃ fd, ∃ oc od osl, K.lookup (He.ga K x) = some ⟨oc, od, .func fd, osl⟩ then Classical.choose h else fd0
theorem fdK_eq {K : PySem.W.Frag} {x : Str} {fd : FuncData} (h : ∃ oc od osl, K.lookup (He.ga K x) = some ⟨oc, od, .func fd, osl⟩) : fdK K x = fd := by
  have hh : ∃ fd, ∃ oc od osl, K.lookup (He.ga K x) = some ⟨oc, od, .func fd, osl⟩ := ⟨fd, h⟩
  unfold fdK
  rw [dif_pos hh]
  obtain ⟨oc, od, osl, e⟩ := h
  obtain ⟨oc', od', osl', e'⟩ := Classical.choose_spec hh
  rw [e'] at e
  cases e; rfl
/-- a def of the module, plain: no defaults -/
abbrev FnP (K : PySem.W.Frag) (x : Str) (st : Stmt) : Prop := FunD K x x (defArgs st) (defBody st) (defScope st) [] [] (He.ga K x) (fdK K x)
abbrev dOf (x : Str) (st : Stmt) : He.DefD := ⟨(x, none), x, x, defArgs st, defBody st, defScope st, [], []⟩
theorem fnP_of {fa : List He.Fa} {fn : List He.DefD} {K : PySem.W.Frag} {x : Str} {st : Stmt} (c : He.SaysD fa fn K) (i : Nat) (h : fn[i]? = some (dOf x st)) : FnP K x st := by
  obtain ⟨fd, F⟩ := c.def_ i h
  obtain ⟨oc, od, dV, kV, doc, pm, an, cdv, ct, osl, e, lk, _⟩ := id F.ex
  have F : FunD K x x (defArgs st) (defBody st) (defScope st) [] [] (He.ga K x) fd := F
  have lk : K.lookup (He.ga K x) = some ⟨oc, od, .func fd, osl⟩ := lk
  unfold FnP
  rw [fdK_eq ⟨oc, od, osl, lk⟩]
  exact F
/-- an own error class without __init__ -/
structure XcOk (K : PySem.W.Frag) (mg : Str → Option Value) (x : Str) : Prop where
  q : PySem.W.excIn K (He.ga K x) He.veBase "ValueError.__new__" = true
  g : mg x = some (.ref (He.ga K x))
  k : PySem.W.keepIn K (.ref (He.ga K x)) = true
  b : PySem.W.subIn K (.ref (He.ga K x)) (.type "BaseException") = some true
  t : PySem.W.typeIn K (.ref (He.ga K x)) = some (.type "type")
theorem xc_of {K : PySem.W.Frag} {h : Heap} {mg : Str → Option Value} (X : K.In h) (G : h.Ns mainGlobals mg) {x : Str} (c1 : (He.Fa.glo x).ok K = true) (c2 : (He.Fa.exc x).ok K = true) : XcOk K mg x := by
  obtain ⟨h1, h2⟩ := He.ba c2
  obtain ⟨h2, h3⟩ := He.ba h2
  obtain ⟨h3, h4⟩ := He.ba h3
  exact ⟨h1, He.glo_ok X G c1, h2, of_decide_eq_true h3, of_decide_eq_true h4⟩
/-- raise X('..') -/
theorem s_raiseX {X : Cx} {c : Cfg} {x m : Str} {j : Nat} {p p2 pos pos' : Pos} (hc : X.calm = true) (tk : L2N.Takes X c.W) (o : XcOk X.K X.mg x) (hx : c.ex = exNm X.K) (hg : Gl X x) (hdb : (x == ("__debug__" : Str)) = false := by decide) :
    PSv X c (.Raise (some (.Call (.Name x p) [.Constant (.str m) j p2] [] pos)) none pos') [] (sRaise x) :=
  s_raise (t := fun _ _ _ => True) hc tk (by rw [hx]; rfl) (L2N.pmk_own PySem.F.excBase_ValueError o.q o.g o.k (raises_own o.b o.t) hg hdb)
/-- the table of a def's lambdas -/
abbrev tabP (K : PySem.W.Frag) (x : Str) : Addr × Str := ((He.cT K (x, none)).2, (x ++ (".<locals>." : Str)) ++ ("<lambda>" : Str))
end Mw
namespace Mw
open PySem PySem.Spec L2
open PyProof.Rows hiding St
theorem room_u65 {k : Nat} {A : Around} (r : Room k A) : A.units + 65 < cLine := by have := r.un; omega
theorem code_at {K : PySem.W.Frag} {x q : Str} {fd : FuncData} {cdv : Value} (hcd : fd.code = cdv) (hci : PySem.W.codeIn K cdv q = true) (hlk : ∃ oc od osl, K.lookup (He.ga K x) = some ⟨oc, od, .func fd, osl⟩) : cdv = .ref (He.cT K (x, none)).1 := by
  obtain ⟨c0, rfl⟩ := He.codeIn_ref hci
  obtain ⟨oc, od, osl, lk⟩ := hlk
  have e : He.codeOf K (x, none) = c0 := He.codeOf_eq (p := (x, none)) lk hcd
  show Value.ref c0 = .ref (He.codeOf K (x, none))
  rw [e]
theorem hu_of {T : List (Addr × Str)} {P : Addr} {q : Str} (nd : (T.map (·.1)).Nodup) (h : (P, q) ∈ T) : ∀ p ∈ T, p.1 = P → p.2 = q := by
  induction T with
  | nil => cases h
  | cons a T ih =>
    intro p hp e
    rw [List.map_cons, List.nodup_cons] at nd
    rcases List.mem_cons.mp hp with z | z
    · rcases List.mem_cons.mp h with y | y
      · rw [z, ← y]
      · exact (nd.1 (List.mem_map.mpr ⟨(P, q), y, by rw [← e, z]⟩)).elim
    · rcases List.mem_cons.mp h with y | y
      · exact (nd.1 (List.mem_map.mpr ⟨p, z, by rw [e, ← y]⟩)).elim
      · exact ih nd.2 y p z e
end Mw

set_option maxHeartbeats 1000000
namespace Mw
open PySem PySem.Spec L2
open PyProof.Rows hiding St

/-! ## the plain side -/
/-! ### running -/
section
variable {α β : Type} {ρ : Env}
@[simp] theorem bind_app (x : M α) (f : α → M β) (ρ : Env) : M.bind x f ρ = match x ρ with
  | .ok a ρ' => f a ρ'
  | .err c ρ' => .err c ρ'
  | .stuck => .stuck := rfl
@[simp] theorem pur_app (a : α) (ρ : Env) : M.pur a ρ = .ok a ρ := rfl
@[simp] theorem opt_some (a : α) (ρ : Env) : M.opt (some a) ρ = .ok a ρ := rfl
@[simp] theorem opt_none (ρ : Env) : (M.opt none : M α) ρ = .stuck := rfl
@[simp] theorem eC_app (d : D) (ρ : Env) : eC d ρ = .ok d ρ := rfl
@[simp] theorem eVar_app (i : Nat) (ρ : Env) : eVar i ρ = match ρ[i]? with
  | some (some d) => .ok d ρ
  | _ => .stuck := rfl
@[simp] theorem eTake_app (i : Nat) (ρ : Env) : eTake i ρ = match ρ[i]? with
  | some (some d) => if d.imm then .ok d ρ else .ok d (ρ.set i none)
  | _ => .stuck := rfl
@[simp] theorem eChk_app (f : M D) (ρ : Env) : eChk f ρ = M.bind f (fun d => if d.imm then M.pur d else fun _ => .stuck) ρ := rfl
@[simp] theorem eOp_app (g : D → D → Option D) (f f' : M D) (ρ : Env) : eOp g f f' ρ = M.bind f (fun x => M.bind f' fun y => M.opt (g x y)) ρ := rfl
@[simp] theorem eUn_app (g : D → Option D) (f : M D) (ρ : Env) : eUn g f ρ = M.bind f (fun x => M.opt (g x)) ρ := rfl
@[simp] theorem eN_app (g : List D → Option D) (f : M (List D)) (ρ : Env) : eN g f ρ = M.bind f (fun x => M.opt (g x)) ρ := rfl
@[simp] theorem lNil_app (ρ : Env) : lNil ρ = .ok [] ρ := rfl
@[simp] theorem lCons_app (f : M D) (g : M (List D)) (ρ : Env) : lCons f g ρ = M.bind f (fun x => M.bind g fun xs => M.pur (x :: xs)) ρ := rfl
@[simp] theorem lSlot_app (j : Nat) (f : M (List D)) (ρ : Env) : lSlot j f ρ = match ρ[j]? with
  | some (some _) => f ρ
  | _ => .stuck := rfl
@[simp] theorem un1_one (u : D → Option D) (d : D) : un1 u [d] = u d := rfl
@[simp] theorem cTru_app (f : M D) (ρ : Env) : cTru f ρ = M.bind f (fun d => M.opt (truD d)) ρ := rfl
@[simp] theorem cOp_app (g : D → D → Option Bool) (f f' : M D) (ρ : Env) : cOp g f f' ρ = M.bind f (fun x => M.bind f' fun y => M.opt (g x y)) ρ := rfl
@[simp] theorem cNot_app (f : M Bool) (ρ : Env) : cNot f ρ = M.bind f (fun b => M.pur (!b)) ρ := rfl
@[simp] theorem cAnd_app (f g : M Bool) (ρ : Env) : cAnd f g ρ = M.bind f (fun b => if b then g else M.pur false) ρ := rfl
@[simp] theorem cOr_app (f g : M Bool) (ρ : Env) : cOr f g ρ = M.bind f (fun b => if b then M.pur true else g) ρ := rfl
@[simp] theorem eAnd_app (f g : M D) (ρ : Env) : eAnd f g ρ = M.bind f (fun d => M.bind (M.opt (dBl d)) fun b => if b then g else M.pur (.bl false)) ρ := rfl
@[simp] theorem eOr_app (f g : M D) (ρ : Env) : eOr f g ρ = M.bind f (fun d => M.bind (M.opt (dBl d)) fun b => if b then M.pur (.bl true) else g) ρ := rfl
@[simp] theorem eNot_app (f : M Bool) (ρ : Env) : eNot f ρ = M.bind f (fun b => M.pur (.bl (!b))) ρ := rfl
@[simp] theorem eIf_app (t : M Bool) (f g : M D) (ρ : Env) : eIf t f g ρ = M.bind t (fun b => if b then f else g) ρ := rfl
@[simp] theorem sNx_app (ρ : Env) : sNx ρ = .ok .nx ρ := rfl
@[simp] theorem sSeq_app (a b : M Fl) (ρ : Env) : sSeq a b ρ = match a ρ with
  | .ok .nx ρ' => b ρ'
  | .ok (.ret d) ρ' => .ok (.ret d) ρ'
  | .ok .brk ρ' => .ok .brk ρ'
  | .ok .ct ρ' => .ok .ct ρ'
  | .err c ρ' => .err c ρ'
  | .stuck => .stuck := by
  unfold sSeq
  rw [bind_app]
  cases a ρ with
  | ok x ρ' => cases x <;> rfl
  | err _ _ => rfl
  | stuck => rfl
@[simp] theorem sSet_app (i : Nat) (f : M D) (ρ : Env) : sSet i f ρ = M.bind f (fun d ρ => .ok .nx (ρ.set i (some d))) ρ := rfl
@[simp] theorem sRet_app (f : M D) (ρ : Env) : sRet f ρ = M.bind f (fun d => M.pur (.ret d)) ρ := rfl
@[simp] theorem sExpr_app (f : M D) (ρ : Env) : sExpr f ρ = M.bind f (fun _ => M.pur .nx) ρ := rfl
@[simp] theorem sIf_app (t : M Bool) (f g : M Fl) (ρ : Env) : sIf t f g ρ = M.bind t (fun b => if b then f else g) ρ := rfl
@[simp] theorem sAsg_app (t : Tg) (f : M D) (ρ : Env) : sAsg t f ρ = M.bind f (fun d ρ => match asg t d ρ with
  | some ρ' => .ok .nx ρ'
  | none => .stuck) ρ := rfl
@[simp] theorem sPar_app (i j : Nat) (f : M (List D)) (ρ : Env) : sPar i j f ρ = M.bind f (fun ds ρ => match ds with
  | [d, e] => if d.imm && e.imm then .ok .nx ((ρ.set i (some d)).set j (some e)) else .stuck
  | _ => .stuck) ρ := rfl
@[simp] theorem sRaise_app (x : Str) (ρ : Env) : sRaise x ρ = .err x ρ := rfl
@[simp] theorem sMeth_app (i : Nat) (f : M D) (g : List D → D → Option (List D)) (ρ : Env) : sMeth i f g ρ = match gLst i ρ with
  | none => .stuck
  | some _ => M.bind f (fun d ρ1 => match gLst i ρ1 with
    | none => .stuck
    | some ds => match g ds d with
      | none => .stuck
      | some ds' => .ok .nx (ρ1.set i (some (.lst ds')))) ρ := rfl
@[simp] theorem sSetL_app (i : Nat) (f fi : M D) (ρ : Env) : sSetL i f fi ρ = M.bind f (fun v => fun ρ => match gLst i ρ with
  | none => .stuck
  | some _ => M.bind fi (fun k ρ1 => match gLst i ρ1 with
    | none => .stuck
    | some ds => match setLD ds k v with
      | none => .stuck
      | some ds' => .ok .nx (ρ1.set i (some (.lst ds')))) ρ) ρ := rfl
@[simp] theorem iSeq_app (f : M D) (ρ : Env) : iSeq f ρ = M.bind f (fun d => M.opt (seqD d)) ρ := rfl
@[simp] theorem iRng_app (g : List D → Option (List D)) (f : M (List D)) (ρ : Env) : iRng g f ρ = M.bind f (fun d => M.opt (g d)) ρ := rfl
@[simp] theorem eSl_app (f : M D) (fl fh : M (Option Int)) (ρ : Env) : eSl f fl fh ρ = M.bind f (fun x => M.bind fl fun l => M.bind fh fun h => M.opt (slD x l h)) ρ := rfl
@[simp] theorem oPart_app (f : M D) (ρ : Env) : oPart f ρ = M.bind f (fun d => M.opt (intO d)) ρ := rfl
@[simp] theorem eFmt_app (f : M D) (ρ : Env) : eFmt f ρ = M.bind f (fun d => M.opt ((fmtD d).map .str)) ρ := rfl
@[simp] theorem jNil_app (acc : Str) (ρ : Env) : jNil acc ρ = .ok (.str acc) ρ := rfl
@[simp] theorem eTold_app (nc : Str → Option Str) (f : M D) (ρ : Env) : eTold nc f ρ = match f ρ with
  | .ok d ρ' => .ok (.tup [.str "told", d]) ρ'
  | .err e ρ' => match nc e with
    | some n => .ok (.tup [.str n]) ρ'
    | none => .stuck
  | .stuck => .stuck := rfl
@[simp] theorem eCall_app (sl : List (Option Nat)) (g : List D → FR) (fl : M (List D)) (ρ : Env) : eCall sl g fl ρ = M.bind fl (fun ds ρ => match asm sl ds ρ with
  | none => .stuck
  | some full => match g full with
    | .ok d ms => .ok d (setMs sl ms ρ)
    | .err e ms => .err e (setMs sl ms ρ)
    | .stuck => .stuck) ρ := rfl
end
/-! ### operations on ints -/
@[simp] theorem addD_i (i j : Int) : addD (.int i) (.int j) = some (.int (i + j)) := rfl
@[simp] theorem subD_i (i j : Int) : subD (.int i) (.int j) = some (.int (i - j)) := rfl
@[simp] theorem negD_i (i : Int) : negD (.int i) = some (.int (-i)) := rfl
@[simp] theorem ltB_i (i j : Int) : ltB (.int i) (.int j) = some (decide (i < j)) := rfl
@[simp] theorem leB_i (i j : Int) : leB (.int i) (.int j) = some (decide (i ≤ j)) := rfl
@[simp] theorem gtB_i (i j : Int) : gtB (.int i) (.int j) = some (decide (j < i)) := rfl
@[simp] theorem geB_i (i j : Int) : geB (.int i) (.int j) = some (decide (j ≤ i)) := rfl
@[simp] theorem eqB_i (i j : Int) : eqB (.int i) (.int j) = some (decide (i = j)) := by
  show eqP (.int i) (.int j) = _
  unfold eqP
  simp only [toPy]
  rw [if_pos (by rfl)]
  show some (i == j) = _
  rfl
@[simp] theorem neB_i (i j : Int) : neB (.int i) (.int j) = some (!decide (i = j)) := by
  unfold neB
  rw [eqB_i]; rfl
@[simp] theorem eqB_s (a b : Str) : eqB (.str a) (.str b) = some (decide (a = b)) := rfl
@[simp] theorem neB_s (a b : Str) : neB (.str a) (.str b) = some (!decide (a = b)) := rfl
@[simp] theorem modD_i {i j : Int} (h : j ≠ 0) : modD (.int i) (.int j) = some (.int (i.fmod j)) := if_pos h
/-- an int of no great size -/
def Sm (i : Int) : Prop := i.natAbs < 2 ^ 1900
theorem log2_lt' {n k : Nat} (hk : 0 < k) (h : n < 2 ^ k) : n.log2 < k := by
  by_cases h0 : n = 0
  · rw [h0]; simpa using hk
  · exact (Nat.log2_lt h0).mpr h
theorem Sm.log {i : Int} (h : Sm i) : i.natAbs.log2 < 1900 := log2_lt' (by decide) h
@[simp] theorem fdivD_i {i j : Int} (h : j ≠ 0) (hs : Sm j) : fdivD (.int i) (.int j) = some (.int (i.fdiv j)) := if_pos ⟨h, Nat.lt_trans hs.log (by decide)⟩
@[simp] theorem mulD_i {i j : Int} (h : Sm i) (h' : Sm j) : mulD (.int i) (.int j) = some (.int (i * j)) := if_pos (by have := h.log; have := h'.log; omega)
@[simp] theorem absD_i (i : Int) : absD (.int i) = some (.int (if i < 0 then -i else i)) := rfl
@[simp] theorem intD_i (i : Int) : intD (.int i) = some (.int i) := rfl
@[simp] theorem intD_b (b : Bool) : intD (.bl b) = some (.int (if b then 1 else 0)) := rfl
@[simp] theorem lenD_l (ds : List D) : lenD (.lst ds) = some (.int ds.length) := rfl
@[simp] theorem lenD_t (ds : List D) : lenD (.tup ds) = some (.int ds.length) := rfl
@[simp] theorem gBl_app (g : D → D → Option Bool) (d e : D) : gBl g d e = (g d e).map .bl := rfl
@[simp] theorem imm_i (i : Int) : (D.int i).imm = true := rfl
@[simp] theorem imm_s (s : Str) : (D.str s).imm = true := rfl
@[simp] theorem imm_b (b : Bool) : (D.bl b).imm = true := rfl
@[simp] theorem imm_n : D.non.imm = true := rfl
@[simp] theorem imm_t (ds : List D) : (D.tup ds).imm = D.imms ds := by simp [D.imm]
@[simp] theorem imms_nil : D.imms [] = true := by simp [D.imms]
@[simp] theorem imms_cons (d : D) (ds : List D) : D.imms (d :: ds) = (d.imm && D.imms ds) := by simp [D.imms]
theorem imms_ints (l : List Int) : D.imms (l.map .int) = true := by
  induction l with
  | nil => rfl
  | cons a l ih => simp [ih]
@[simp] theorem imm_l (ds : List D) : (D.lst ds).imm = false := rfl
theorem log2_small {n : Nat} (h : n < 2 ^ 60) : n.log2 < 60 := log2_lt' (by decide) h
/-! ### loops -/
/-- what a loop over the items reaches: P of the items ahead -/
theorem sFor_gen {t : Tg} {b : M Fl} {P : List D → Env → Prop} {Q : R Fl → Prop} (h0 : ∀ ρ, P [] ρ → Q (.ok .nx ρ))
    (h : ∀ d r ρ, P (d :: r) ρ → ∃ ρ1, asg t d ρ = some ρ1 ∧ ((∃ ρ2, (b ρ1 = .ok .nx ρ2 ∨ b ρ1 = .ok .ct ρ2) ∧ P r ρ2) ∨ (∃ ρ2, b ρ1 = .ok .brk ρ2 ∧ Q (.ok .nx ρ2)) ∨ (∃ d' ρ2, b ρ1 = .ok (.ret d') ρ2 ∧ Q (.ok (.ret d') ρ2)) ∨ ∃ e ρ2, b ρ1 = .err e ρ2 ∧ Q (.err e ρ2))) :
    ∀ ds ρ, P ds ρ → Q (sFor t b ds ρ)
  | [], ρ, p => h0 ρ p
  | d :: r, ρ, p => by
    obtain ⟨ρ1, ea, h1⟩ := h d r ρ p
    unfold sFor
    simp only [ea]
    rcases h1 with ⟨ρ2, e | e, p2⟩ | ⟨ρ2, e, q⟩ | ⟨d', ρ2, e, q⟩ | ⟨e', ρ2, e, q⟩
    · simp only [e]; exact sFor_gen h0 h r ρ2 p2
    · simp only [e]; exact sFor_gen h0 h r ρ2 p2
    · simp only [e]; exact q
    · simp only [e]; exact q
    · simp only [e]; exact q
/-- a loop that runs to its end -/
theorem sFor_nx {t : Tg} {b : M Fl} {P : List D → Env → Prop} (h : ∀ d r ρ, P (d :: r) ρ → ∃ ρ1 ρ2, asg t d ρ = some ρ1 ∧ b ρ1 = .ok .nx ρ2 ∧ P r ρ2) {ds : List D} {ρ : Env} (p : P ds ρ) : ∃ ρ', sFor t b ds ρ = .ok .nx ρ' ∧ P [] ρ' :=
  sFor_gen (P := P) (Q := fun r => ∃ ρ', r = .ok .nx ρ' ∧ P [] ρ') (fun ρ p => ⟨ρ, rfl, p⟩) (fun d r ρ p => by
    obtain ⟨ρ1, ρ2, h1, h2, h3⟩ := h d r ρ p
    exact ⟨ρ1, h1, .inl ⟨ρ2, .inl h2, h3⟩⟩) ds ρ p
/-- a while loop, by a measure -/
theorem sWhile_gen {t : M Bool} {b : M Fl} {P : Nat → Env → Prop} {Q : R Fl → Prop} (h : ∀ m ρ, P m ρ → ∃ k ρ1, t ρ = .ok k ρ1 ∧ (k = false → Q (.ok .nx ρ1)) ∧ (k = true → 0 < m ∧ ((∃ m' ρ2, m' < m ∧ (b ρ1 = .ok .nx ρ2 ∨ b ρ1 = .ok .ct ρ2) ∧ P m' ρ2) ∨ (∃ ρ2, b ρ1 = .ok .brk ρ2 ∧ Q (.ok .nx ρ2)) ∨ (∃ d' ρ2, b ρ1 = .ok (.ret d') ρ2 ∧ Q (.ok (.ret d') ρ2)) ∨ ∃ e ρ2, b ρ1 = .err e ρ2 ∧ Q (.err e ρ2)))) :
    ∀ n m ρ, m < n → P m ρ → Q (sWhile n t b ρ)
  | 0, m, ρ, hm, p => by omega
  | n + 1, m, ρ, hm, p => by
    obtain ⟨k, ρ1, e, hf, ht⟩ := h m ρ p
    unfold sWhile
    simp only [bind_app, e]
    cases k with
    | false => exact hf rfl
    | true =>
      obtain ⟨hp, h1⟩ := ht rfl
      rcases h1 with ⟨m', ρ2, hm', e2 | e2, p2⟩ | ⟨ρ2, e2, q⟩ | ⟨d', ρ2, e2, q⟩ | ⟨e', ρ2, e2, q⟩
      · simp only [if_true, bind_app, e2, pur_app]; exact sWhile_gen h n m' ρ2 (by omega) p2
      · simp only [if_true, bind_app, e2, pur_app]; exact sWhile_gen h n m' ρ2 (by omega) p2
      · simp only [if_true, bind_app, e2, pur_app]; exact q
      · simp only [if_true, bind_app, e2, pur_app]; exact q
      · simp only [if_true, bind_app, e2, pur_app]; exact q
/-! ### texts of data -/
/-- an upper bound of the text's length -/
def wtP : PyData → Nat
  | .none => 6
  | .bool _ => 6
  | .int _ => 1922
  | .str x => 10 * x.length + 2
  | .list xs => wtPs xs + 3
  | .tuple xs => wtPs xs + 3
  | .dict _ => 0
where wtPs : List PyData → Nat
  | [] => 0
  | x :: xs => wtP x + 2 + wtPs xs
/-- data whose text can be told -/
def tellP : PyData → Bool
  | .none => true
  | .bool _ => true
  | .int i => decide (i.natAbs.log2 < 1920)
  | .str x => x.cps.toList.all fun c => decide (c < 16 ^ 8)
  | .list xs => tellPs xs
  | .tuple xs => tellPs xs
  | .dict _ => false
where tellPs : List PyData → Bool
  | [] => true
  | x :: xs => tellP x && tellPs xs
theorem str_len_of (s : String) : (Str.ofString s).length = s.length := PySem.ofString_length s
mutual
theorem shown_le : ∀ p : PyData, tellP p = true → p.shown.length ≤ wtP p ∧ p.showable = true ∧ p.hasDict = false
  | .none, _ => ⟨by decide, rfl, rfl⟩
  | .bool b, _ => ⟨by cases b <;> decide, rfl, rfl⟩
  | .int i, h => by
    have h : i.natAbs.log2 < 1920 := by simpa [tellP] using h
    refine ⟨?_, by simpa [PyData.showable] using h, rfl⟩
    have e := int_text_length_le (k := 1920) (by decide) h
    show (Str.ofString (toString i)).length ≤ 1922
    rw [PySem.ofString_length]
    omega
  | .str x, h => by
    have h : (x.cps.toList.all fun c => decide (c < 16 ^ 8)) = true := h
    have h : ∀ c ∈ x.cps.toList, c < 16 ^ 8 := fun c hc => of_decide_eq_true (List.all_eq_true.mp h c hc)
    exact ⟨StrLaws.reprText_len x h, rfl, rfl⟩
  | .list xs, h => by
    obtain ⟨h1, h2, h3⟩ := shownAll_le xs (by simpa [tellP] using h)
    have h4 := listText_len_le (PyData.shownAll xs)
    refine ⟨?_, by simpa [PyData.showable] using h2, by simpa [PyData.hasDict] using h3⟩
    show (listText (PyData.shownAll xs)).length ≤ wtP.wtPs xs + 3
    omega
  | .tuple xs, h => by
    obtain ⟨h1, h2, h3⟩ := shownAll_le xs (by simpa [tellP] using h)
    have h4 := tupleText_len_le (PyData.shownAll xs)
    refine ⟨?_, by simpa [PyData.showable] using h2, by simpa [PyData.hasDict] using h3⟩
    show (tupleText (PyData.shownAll xs)).length ≤ wtP.wtPs xs + 3
    omega
  | .dict _, h => by simp [tellP] at h
theorem shownAll_le : ∀ ps : List PyData, tellP.tellPs ps = true → ((PyData.shownAll ps).map (·.length)).sum + 2 * (PyData.shownAll ps).length ≤ wtP.wtPs ps ∧ PyData.showableAll ps = true ∧ PyData.hasDictAll ps = false
  | [], _ => ⟨by simp [PyData.shownAll, wtP.wtPs], rfl, rfl⟩
  | p :: ps, h => by
    have h := Bool.and_eq_true_iff.mp (show (tellP p && tellP.tellPs ps) = true from h)
    obtain ⟨a1, a2, a3⟩ := shown_le p h.1
    obtain ⟨b1, b2, b3⟩ := shownAll_le ps h.2
    refine ⟨?_, by simp [PyData.showableAll, a2, b2], by simp [PyData.hasDictAll, a3, b3]⟩
    simp only [PyData.shownAll, List.map_cons, List.sum_cons, List.length_cons, wtP.wtPs]
    omega
end
theorem reprD_ok {d : D} {p : PyData} (e : toPy d = some p) (h : tellP p = true) (hw : wtP p ≤ 16000000) (hd : p.depth ≤ 58) : reprD (.lst [d]) = some (.str (PyData.list [p]).shown) := by
  have a := shown_le (.list [p]) (by simp [tellP, tellP.tellPs, h])
  have l : (PyData.list [p]).shown.length ≤ 16777216 := Nat.le_trans a.1 (by simp only [wtP, wtP.wtPs]; omega)
  have dp : (PyData.list [p]).depth ≤ 60 := by simp only [PyData.depth, PyData.depthAll]; omega
  unfold reprD
  simp only [toPys, e]
  rw [if_pos (by simp only [a.2.1, a.2.2, l, dp, decide_true, Bool.not_false, Bool.and_self])]
/-- repr([told]) == repr([due]) -/
def bSame : M Fl := sRet (eOp (gBl eqB) (eN (un1 reprD) (lCons (eN dLst (lCons (eVar 0) lNil)) lNil)) (eN (un1 reprD) (lCons (eN dLst (lCons (eVar 1) lNil)) lNil)))
noncomputable def gSame : List D → FR := runFn 2 [.r, .r] bSame
theorem same_ok {d : D} {p : PyData} (e : toPy d = some p) (h : tellP p = true) (hw : wtP p ≤ 16000000) (hd : p.depth ≤ 58) : gSame [d, d] = .ok (.bl true) [] := by
  have r := reprD_ok e h hw hd
  unfold gSame
  rw [runFn_eq]
  unfold bSame
  simp [okO, dLst, r, getMs]
theorem runFn_ret {n : Nat} {pk : List Pk} {b : M Fl} {ds ms : List D} {d : D} {ρ' : Env} (h0 : okO pk ds = true) (h : b (ds.map some ++ List.replicate (n - ds.length) none) = .ok (.ret d) ρ') (hm : getMs pk ρ' = some ms) : runFn n pk b ds = .ok d ms := by
  rw [runFn_eq]
  rw [if_pos h0, h]
  simp only [hm]
theorem runFn_nx {n : Nat} {pk : List Pk} {b : M Fl} {ds ms : List D} {ρ' : Env} (h0 : okO pk ds = true) (h : b (ds.map some ++ List.replicate (n - ds.length) none) = .ok .nx ρ') (hm : getMs pk ρ' = some ms) : runFn n pk b ds = .ok .non ms := by
  rw [runFn_eq]
  rw [if_pos h0, h]
  simp only [hm]
theorem runFn_err {n : Nat} {pk : List Pk} {b : M Fl} {ds ms : List D} {c : Str} {ρ' : Env} (h0 : okO pk ds = true) (h : b (ds.map some ++ List.replicate (n - ds.length) none) = .err c ρ') (hm : getMs pk ρ' = some ms) : runFn n pk b ds = .err c ms := by
  rw [runFn_eq]
  rw [if_pos h0, h]
  simp only [hm]
theorem n2i_0 : ((0 : Nat) : Int) = 0 := rfl
theorem n2i_1 : ((1 : Nat) : Int) = 1 := rfl
theorem n2i_2 : ((2 : Nat) : Int) = 2 := rfl
theorem n2i_3 : ((3 : Nat) : Int) = 3 := rfl
theorem n2i_4 : ((4 : Nat) : Int) = 4 := rfl
theorem n2i_5 : ((5 : Nat) : Int) = 5 := rfl
theorem n2i_6 : ((6 : Nat) : Int) = 6 := rfl
theorem n2i_7 : ((7 : Nat) : Int) = 7 := rfl
theorem n2i_8 : ((8 : Nat) : Int) = 8 := rfl
theorem n2i_9 : ((9 : Nat) : Int) = 9 := rfl
theorem n2i_10 : ((10 : Nat) : Int) = 10 := rfl
theorem n2i_11 : ((11 : Nat) : Int) = 11 := rfl
theorem n2i_12 : ((12 : Nat) : Int) = 12 := rfl
end Mw

set_option maxHeartbeats 2000000
namespace Mw
open PySem PySem.Spec L2
open PyProof.Rows hiding St

/-! ### the script's numbers -/
structure Nums (l : List Int) : Prop where
  ne : l ≠ []
  le : ∀ n ∈ l, 0 ≤ n ∧ n < 1009
  len : l.length ≤ 5000
def stD (l : List Int) (p : Nat) : D := .lst [.lst (l.map .int), .int p]
theorem atI_nat {α : Type} {l : List α} {i : Int} {a : α} (h0 : 0 ≤ i) (h : l[i.toNat]? = some a) : atI l i = some a := by
  have hl : i.toNat < l.length := (List.getElem?_eq_some_iff.mp h).1
  unfold atI ixN
  rw [if_pos h0, if_pos (by omega)]
  exact h
@[simp] theorem ixD_l (ds : List D) (i : Int) : ixD (.lst ds) (.int i) = atI ds i := rfl
@[simp] theorem ixD_t (ds : List D) (i : Int) : ixD (.tup ds) (.int i) = atI ds i := rfl
@[simp] theorem atI_0 {α : Type} (a : α) (l : List α) : atI (a :: l) 0 = some a := atI_nat (by decide) rfl
@[simp] theorem atI_1 {α : Type} (a b : α) (l : List α) : atI (a :: b :: l) 1 = some b := atI_nat (by decide) rfl
@[simp] theorem atI_2 {α : Type} (a b c : α) (l : List α) : atI (a :: b :: c :: l) 2 = some c := atI_nat (by decide) rfl
def nextV (l : List Int) (p : Nat) (many : Int) : Int :=
  ((l.getD ((p + 1) % l.length) 0 + (((p + 1) / l.length : Nat) : Int) * 389) + ((p : Int) + 1) * (((p + 1) / l.length : Nat) : Int) * 17).fmod many
def bNext : M Fl :=
    (sSeq (sSetL 0 (eOp addD (eOp ixD (eVar 0) (eC (.int 1))) (eC (.int 1))) (eC (.int 1)))
    (sSeq (sSet 2 (eOp fdivD (eOp ixD (eVar 0) (eC (.int 1))) (eN (un1 lenD) (lCons (eOp ixD (eVar 0) (eC (.int 0))) lNil))))
    (sRet (eOp modD (eN (un1 intD) (lCons (eOp addD (eOp addD (eOp ixD (eOp ixD (eVar 0) (eC (.int 0))) (eOp modD (eOp ixD (eVar 0) (eC (.int 1))) (eN (un1 lenD) (lCons (eOp ixD (eVar 0) (eC (.int 0))) lNil)))) (eOp mulD (eVar 2) (eC (.int 389)))) (eOp mulD (eOp mulD (eOp ixD (eVar 0) (eC (.int 1))) (eVar 2)) (eC (.int 17)))) lNil)) (eVar 1)))))
noncomputable def gNext : List D → FR := runFn 3 [.m, .r] bNext
theorem sm_nat {n : Nat} (h : n < 2 ^ 1900) : Sm (n : Int) := by
  show ((n : Int)).natAbs < 2 ^ 1900
  simpa using h
theorem small_1900 {n : Nat} (h : n < 2 ^ 200) : n < 2 ^ 1900 := Nat.lt_of_lt_of_le h (Nat.pow_le_pow_right (by decide) (by decide))
theorem sm_of {i : Int} (h : i.natAbs < 2 ^ 200) : Sm i := small_1900 h
theorem next_ok {l : List Int} {p : Nat} {many : Int} (h : Nums l) (hp : p < 2 ^ 60) (hm : many ≠ 0) : gNext [stD l p, .int many] = .ok (.int (nextV l p many)) [stD l (p + 1)] := by
  have hl : 0 < l.length := List.length_pos_iff.mpr h.ne
  have hl' := h.len
  obtain ⟨L, hL⟩ : ∃ L : Nat, L = l.length := ⟨_, rfl⟩
  obtain ⟨Q, hQ⟩ : ∃ Q : Nat, Q = (p + 1) / l.length := ⟨_, rfl⟩
  obtain ⟨r, hr⟩ : ∃ r : Nat, r = (p + 1) % l.length := ⟨_, rfl⟩
  have hq : Q ≤ p + 1 := by rw [hQ]; exact Nat.div_le_self _ _
  have hrl : r < l.length := by rw [hr]; exact Nat.mod_lt _ hl
  have q1 : ((p : Int) + 1).fdiv (L : Int) = (Q : Int) := by
    rw [Int.fdiv_eq_ediv_of_nonneg _ (by omega), hQ, hL]; rfl
  have q2 : ((p : Int) + 1).fmod (L : Int) = (r : Int) := by
    rw [Int.fmod_eq_emod_of_nonneg _ (by omega), hr, hL]; rfl
  have n0 : (L : Int) ≠ 0 := by omega
  have s1 : Sm (L : Int) := sm_nat (small_1900 (by omega))
  have s2 : Sm ((p : Int) + 1) := sm_of (by omega)
  have s3 : Sm (Q : Int) := sm_nat (small_1900 (by omega))
  have s4 : Sm (((p : Int) + 1) * (Q : Int)) := by
    refine sm_of ?_
    rw [Int.natAbs_mul]
    have a1 : ((p : Int) + 1).natAbs ≤ 2 ^ 61 := by omega
    have a2 : ((Q : Int)).natAbs ≤ 2 ^ 61 := by omega
    exact Nat.lt_of_le_of_lt (Nat.mul_le_mul a1 a2) (by decide)
  have s5 : Sm 389 := sm_of (by decide)
  have s6 : Sm 17 := sm_of (by decide)
  have at_ : atI (l.map D.int) (r : Int) = some (.int (l.getD r 0)) := by
    refine atI_nat (by omega) ?_
    rw [Int.toNat_natCast, List.getElem?_map, List.getD_eq_getElem?_getD, List.getElem?_eq_getElem hrl]
    rfl
  have ix1 : ixN 2 1 = some 1 := by decide
  have len : lenD (.lst (l.map D.int)) = some (.int (L : Int)) := by rw [lenD_l, List.length_map, hL]
  unfold gNext
  rw [runFn_eq]
  unfold bNext stD nextV
  rw [← hQ, ← hr]
  simp only [okO, if_true, List.map_cons, List.map_nil, List.length_cons, List.length_nil, Nat.reduceAdd, Nat.reduceSub, List.replicate, List.cons_append, List.nil_append, sSeq_app, sSetL_app, sSet_app, sRet_app, bind_app, eOp_app, eN_app, lCons_app, lNil_app, eVar_app, eC_app, List.getElem?_cons_zero, List.getElem?_cons_succ, ixD_l, atI_0, atI_1, opt_some, pur_app,
    addD_i, gLst, setLD, ix1, List.set, len, un1_one, fdivD_i n0 s1, modD_i n0, q1, q2, at_, mulD_i s3 s5, mulD_i s2 s3, mulD_i s4 s6, intD_i, modD_i hm, getMs, Option.map_some]
  rfl
theorem nextV_lt {l : List Int} {p : Nat} {many : Int} (hm : 0 < many) : 0 ≤ nextV l p many ∧ nextV l p many < many := by
  unfold nextV
  exact ⟨Int.fmod_nonneg_of_pos _ hm, Int.fmod_lt_of_pos _ hm⟩
end Mw

set_option maxHeartbeats 2000000
namespace Mw
open PySem PySem.Spec L2
open PyProof.Rows hiding St

/-! ### the stream -/
def bStream : M Fl :=
    (sSeq (sSet 1 (eN dLst lNil))
    (sSeq (M.bind (iSeq (eSl (eVar 0) (M.pur none) (oPart (eC (.int 63))))) (sFor (.nm 2) (sSeq (sSet 3 (eN (un1 absD) (lCons (eN (un1 intD) (lCons (eVar 2) lNil)) lNil)))
    (sIf (cOp geB (eVar 3) (eOp powD (eC (.int 10)) (eC (.int 18)))) (M.bind (iRng rng1 (lCons (eC (.int 60)) lNil)) (sFor (.nm 4) (sSeq (sMeth 1 (eOp modD (eN (un1 intD) (lCons (eVar 3) lNil)) (eC (.int 1009))) appD)
    (sSeq (sSet 3 (eOp fdivD (eVar 3) (eC (.int 1009))))
    (sIf (cOp eqB (eVar 3) (eC (.int 0))) (M.pur .brk) sNx))))) (sSeq (sSet 5 (eOp modD (eN (un1 intD) (lCons (eVar 3) lNil)) (eC (.int 2147483647))))
    (M.bind (iRng rng1 (lCons (eC (.int 10)) lNil)) (sFor (.nm 4) (sSeq (sSet 5 (eOp modD (eN (un1 intD) (lCons (eOp addD (eOp addD (eOp mulD (eVar 5) (eC (.int 48271))) (eOp mulD (eC (.int 7)) (eVar 4))) (eC (.int 11))) lNil)) (eC (.int 2147483647))))
    (sMeth 1 (eOp modD (eOp modD (eN (un1 intD) (lCons (eOp addD (eOp mulD (eVar 5) (eC (.int 69621))) (eVar 4)) lNil)) (eC (.int 2147483629))) (eC (.int 1009))) appD)))))))))
    (sSeq (sIf (cOp eqB (eN (un1 lenD) (lCons (eVar 1) lNil)) (eC (.int 0))) (sMeth 1 (eC (.int 0)) appD) sNx)
    (sRet (eTake 1)))))
noncomputable def gStream : List D → FR := runFn 6 [.r] bStream
def Rg (l : List Int) : Prop := ∀ n ∈ l, 0 ≤ n ∧ n < 1009
theorem Rg.snoc {l : List Int} (h : Rg l) {i : Int} : Rg (l ++ [i.fmod 1009]) := fun n hn => by
  rcases List.mem_append.mp hn with z | z
  · exact h n z
  · rw [List.mem_singleton.mp z]
    exact ⟨Int.fmod_nonneg_of_pos _ (by decide), Int.fmod_lt_of_pos _ (by decide)⟩
theorem app_ints {l : List Int} {i : Int} (h : l.length < 5000) : appD (l.map .int) (.int i) = some ((l ++ [i]).map .int) := by
  unfold appD
  rw [if_pos (by rw [List.length_map]; omega), List.map_append]
  rfl
@[simp] theorem asg_nm (i : Nat) (d : D) (ρ : Env) : asg (.nm i) d ρ = if d.imm then some (ρ.set i (some d)) else none := by simp only [asg]
/-- the digits of a great number -/
theorem stream_in1 {S : D} {x2 x5 : Option D} {B : Nat} (hB : B < 5000) : ∀ (ds : List D) (ρ : Env), (∀ d ∈ ds, ∃ i, d = .int i) → (∃ (l : List Int) (q : Int) (x4 : Option D), ρ = [some S, some (.lst (l.map .int)), x2, some (.int q), x4, x5] ∧ Rg l ∧ l.length + ds.length ≤ B) →
    ∃ (l : List Int) (q : Int) (x4 : Option D), sFor (.nm 4) (sSeq (sMeth 1 (eOp modD (eN (un1 intD) (lCons (eVar 3) lNil)) (eC (.int 1009))) appD) (sSeq (sSet 3 (eOp fdivD (eVar 3) (eC (.int 1009)))) (sIf (cOp eqB (eVar 3) (eC (.int 0))) (M.pur .brk) sNx))) ds ρ =
      .ok .nx [some S, some (.lst (l.map .int)), x2, some (.int q), x4, x5] ∧ Rg l ∧ l.length ≤ B
  | [], ρ, _, ⟨l, q, x4, e, h1, h2⟩ => ⟨l, q, x4, by rw [e]; rfl, h1, by simpa using h2⟩
  | d :: ds, ρ, hd, ⟨l, q, x4, e, h1, h2⟩ => by
    obtain ⟨i, rfl⟩ := hd d List.mem_cons_self
    rw [List.length_cons] at h2
    have s1 : Sm 1009 := sm_of (by decide)
    have ap := app_ints (l := l) (i := q.fmod 1009) (by omega)
    unfold sFor
    rw [e]
    simp only [asg_nm, imm_i, if_true, List.set, sSeq_app, sMeth_app, gLst, List.getElem?_cons_zero, List.getElem?_cons_succ, bind_app, eOp_app, eN_app, lCons_app, eVar_app, lNil_app, pur_app, un1_one, intD_i, opt_some, eC_app, modD_i (show (1009 : Int) ≠ 0 by decide), ap, sSet_app, fdivD_i (show (1009 : Int) ≠ 0 by decide) s1, sIf_app, cOp_app, eqB_i]
    by_cases h0 : q.fdiv 1009 = 0
    · simp only [h0, decide_true, if_true]
      exact ⟨_, _, _, rfl, h1.snoc, by rw [List.length_append, List.length_singleton]; omega⟩
    · simp only [h0, decide_false, Bool.false_eq_true, if_false, sNx_app]
      exact stream_in1 hB ds _ (fun d' hd' => hd d' (List.mem_cons_of_mem _ hd')) ⟨l ++ [q.fmod 1009], _, _, rfl, h1.snoc, by rw [List.length_append, List.length_singleton]; omega⟩
/-- the turns of a small one -/
theorem stream_in2 {S : D} {x2 x3 : Option D} {B : Nat} (hB : B < 5000) : ∀ (ds : List D) (ρ : Env), (∀ d ∈ ds, ∃ i : Int, d = .int i ∧ i.natAbs < 2 ^ 20) → (∃ (l : List Int) (q : Int) (x4 : Option D), ρ = [some S, some (.lst (l.map .int)), x2, x3, x4, some (.int q)] ∧ Rg l ∧ q.natAbs < 2 ^ 40 ∧ l.length + ds.length ≤ B) →
    ∃ (l : List Int) (q : Int) (x4 : Option D), sFor (.nm 4) (sSeq (sSet 5 (eOp modD (eN (un1 intD) (lCons (eOp addD (eOp addD (eOp mulD (eVar 5) (eC (.int 48271))) (eOp mulD (eC (.int 7)) (eVar 4))) (eC (.int 11))) lNil)) (eC (.int 2147483647))))
    (sMeth 1 (eOp modD (eOp modD (eN (un1 intD) (lCons (eOp addD (eOp mulD (eVar 5) (eC (.int 69621))) (eVar 4)) lNil)) (eC (.int 2147483629))) (eC (.int 1009))) appD)) ds ρ =
      .ok .nx [some S, some (.lst (l.map .int)), x2, x3, x4, some (.int q)] ∧ Rg l ∧ l.length ≤ B
  | [], ρ, _, ⟨l, q, x4, e, h1, h2, h3⟩ => ⟨l, q, x4, by rw [e]; rfl, h1, by simpa using h3⟩
  | d :: ds, ρ, hd, ⟨l, q, x4, e, h1, h2, h3⟩ => by
    obtain ⟨i, rfl, hi⟩ := hd d List.mem_cons_self
    rw [List.length_cons] at h3
    have s1 : Sm q := sm_of (Nat.lt_trans h2 (by decide))
    have s2 : Sm i := sm_of (Nat.lt_trans hi (by decide))
    have s3 : Sm 48271 := sm_of (by decide)
    have s4 : Sm 7 := sm_of (by decide)
    have s5 : Sm 69621 := sm_of (by decide)
    obtain ⟨q', hq'⟩ : ∃ q' : Int, q' = (q * 48271 + 7 * i + 11).fmod 2147483647 := ⟨_, rfl⟩
    have b1 : 0 ≤ q' ∧ q' < 2147483647 := by rw [hq']; exact ⟨Int.fmod_nonneg_of_pos _ (by decide), Int.fmod_lt_of_pos _ (by decide)⟩
    have s6 : Sm q' := sm_of (Nat.lt_trans (show q'.natAbs < 2 ^ 40 by omega) (by decide))
    have ap := app_ints (l := l) (i := (((q' * 69621 + i).fmod 2147483629).fmod 1009)) (by omega)
    unfold sFor
    rw [e]
    simp only [asg_nm, imm_i, if_true, List.set, sSeq_app, sMeth_app, gLst, List.getElem?_cons_zero, List.getElem?_cons_succ, bind_app, eOp_app, eN_app, lCons_app, eVar_app, lNil_app, pur_app, un1_one, intD_i, opt_some, eC_app, mulD_i s1 s3, mulD_i s4 s2, addD_i, modD_i (show (2147483647 : Int) ≠ 0 by decide), ← hq', sSet_app, mulD_i s6 s5, modD_i (show (2147483629 : Int) ≠ 0 by decide), modD_i (show (1009 : Int) ≠ 0 by decide), ap]
    exact stream_in2 hB ds _ (fun d' hd' => hd d' (List.mem_cons_of_mem _ hd')) ⟨l ++ [((q' * 69621 + i).fmod 2147483629).fmod 1009], _, _, rfl, h1.snoc, by omega, by rw [List.length_append, List.length_singleton]; omega⟩
theorem rng_ints {lo k : Int} {n : Nat} : ∀ d ∈ rngD lo k n, ∃ i, d = .int i := fun d hd => by
  unfold rngD at hd
  obtain ⟨i, _, rfl⟩ := List.mem_map.mp hd
  exact ⟨_, rfl⟩
theorem rng_ints2 {n : Nat} (hn : n < 2 ^ 20) : ∀ d ∈ rngD 0 1 n, ∃ i : Int, d = .int i ∧ i.natAbs < 2 ^ 20 := fun d hd => by
  unfold rngD at hd
  obtain ⟨i, hi, rfl⟩ := List.mem_map.mp hd
  have := List.mem_range.mp hi
  exact ⟨_, rfl, by omega⟩
theorem stream_out {S : D} : ∀ (ns : List Int) (ρ : Env), (∃ (l : List Int) (x2 x3 x4 x5 : Option D), ρ = [some S, some (.lst (l.map .int)), x2, x3, x4, x5] ∧ Rg l ∧ l.length + 60 * ns.length ≤ 3780) →
    ∃ (l : List Int) (x2 x3 x4 x5 : Option D), sFor (.nm 2) (sSeq (sSet 3 (eN (un1 absD) (lCons (eN (un1 intD) (lCons (eVar 2) lNil)) lNil)))
    (sIf (cOp geB (eVar 3) (eOp powD (eC (.int 10)) (eC (.int 18)))) (M.bind (iRng rng1 (lCons (eC (.int 60)) lNil)) (sFor (.nm 4) (sSeq (sMeth 1 (eOp modD (eN (un1 intD) (lCons (eVar 3) lNil)) (eC (.int 1009))) appD)
    (sSeq (sSet 3 (eOp fdivD (eVar 3) (eC (.int 1009))))
    (sIf (cOp eqB (eVar 3) (eC (.int 0))) (M.pur .brk) sNx))))) (sSeq (sSet 5 (eOp modD (eN (un1 intD) (lCons (eVar 3) lNil)) (eC (.int 2147483647))))
    (M.bind (iRng rng1 (lCons (eC (.int 10)) lNil)) (sFor (.nm 4) (sSeq (sSet 5 (eOp modD (eN (un1 intD) (lCons (eOp addD (eOp addD (eOp mulD (eVar 5) (eC (.int 48271))) (eOp mulD (eC (.int 7)) (eVar 4))) (eC (.int 11))) lNil)) (eC (.int 2147483647))))
    (sMeth 1 (eOp modD (eOp modD (eN (un1 intD) (lCons (eOp addD (eOp mulD (eVar 5) (eC (.int 69621))) (eVar 4)) lNil)) (eC (.int 2147483629))) (eC (.int 1009))) appD))))))) (ns.map .int) ρ =
      .ok .nx [some S, some (.lst (l.map .int)), x2, x3, x4, x5] ∧ Rg l ∧ l.length ≤ 3780
  | [], ρ, ⟨l, x2, x3, x4, x5, e, h1, h2⟩ => ⟨l, x2, x3, x4, x5, by rw [e]; rfl, h1, by simpa using h2⟩
  | n :: ns, ρ, ⟨l, x2, x3, x4, x5, e, h1, h2⟩ => by
    rw [List.length_cons] at h2
    have pw : powD (.int 10) (.int 18) = some (.int (10 ^ 18)) := rfl
    have r60 : rng1 [.int 60] = some (rngD 0 1 60) := rfl
    have r10 : rng1 [.int 10] = some (rngD 0 1 10) := rfl
    rw [List.map_cons]
    unfold sFor
    rw [e]
    obtain ⟨q, hq⟩ : ∃ q : Int, q = (if n < 0 then -n else n) := ⟨_, rfl⟩
    simp only [asg_nm, imm_i, if_true, List.set, sSeq_app, sSet_app, List.getElem?_cons_zero, List.getElem?_cons_succ, bind_app, eOp_app, eN_app, lCons_app, eVar_app, lNil_app, pur_app, un1_one, intD_i, absD_i, ← hq, opt_some, eC_app, sIf_app, cOp_app, geB_i, pw, iRng_app, r60, r10, modD_i (show (2147483647 : Int) ≠ 0 by decide)]
    by_cases hc : (10 : Int) ^ 18 ≤ q
    · simp only [hc, decide_true, if_true, bind_app, iRng_app, lCons_app, lNil_app, eC_app, pur_app, opt_some, r60]
      obtain ⟨l', q', x4', e', h1', h2'⟩ := stream_in1 (S := S) (x2 := some (.int n)) (x5 := x5) (B := l.length + 60) (by omega) (rngD 0 1 60) [some S, some (.lst (l.map .int)), some (.int n), some (.int q), x4, x5] rng_ints ⟨l, q, x4, rfl, h1, by rw [rngD_len]; omega⟩
      rw [e']
      exact stream_out ns _ ⟨l', _, _, _, _, rfl, h1', by omega⟩
    · obtain ⟨s, hs⟩ : ∃ s : Int, s = q.fmod 2147483647 := ⟨_, rfl⟩
      have bs : 0 ≤ s ∧ s < 2147483647 := by rw [hs]; exact ⟨Int.fmod_nonneg_of_pos _ (by decide), Int.fmod_lt_of_pos _ (by decide)⟩
      simp only [hc, decide_false, Bool.false_eq_true, if_false, sSeq_app, sSet_app, bind_app, iRng_app, eOp_app, eN_app, lCons_app, lNil_app, eVar_app, eC_app, pur_app, opt_some, r10, un1_one, intD_i, List.getElem?_cons_zero, List.getElem?_cons_succ, modD_i (show (2147483647 : Int) ≠ 0 by decide), ← hs, List.set]
      obtain ⟨l', q', x4', e', h1', h2'⟩ := stream_in2 (S := S) (x2 := some (.int n)) (x3 := some (.int q)) (B := l.length + 10) (by omega) (rngD 0 1 10) [some S, some (.lst (l.map .int)), some (.int n), some (.int q), x4, some (.int s)] (rng_ints2 (by decide)) ⟨l, s, x4, rfl, h1, by omega, by rw [rngD_len]; omega⟩
      rw [e']
      exact stream_out ns _ ⟨l', _, _, _, _, rfl, h1', by omega⟩
theorem stream_ok {ns : List Int} (h : ns.length ≤ 63) : ∃ l, Nums l ∧ gStream [.scr (ns.map .int)] = .ok (.lst (l.map .int)) [] := by
  have cut : slD (.scr (ns.map .int)) none (some 63) = some (.lst (ns.map .int)) := by
    have e0 : slD (.scr (ns.map .int)) none (some 63) = if D.imms (ns.map .int) = true then some (.lst (slD.cutV' (ns.map .int) none (some 63))) else none := rfl
    rw [e0, if_pos (imms_ints ns)]
    unfold slD.cutV'
    have e1 : HT.sIx (ns.map D.int).length 0 none = 0 := rfl
    have e2 : HT.sIx (ns.map D.int).length (ns.map D.int).length (some 63) = ns.length := by
      rw [List.length_map]
      unfold HT.sIx
      simp
      omega
    rw [e1, e2]
    have e3 : (ns.map D.int).take (ns.length - 0) = ns.map D.int := by
      rw [Nat.sub_zero, List.take_of_length_le (by rw [List.length_map]; exact Nat.le_refl _)]
    simp only [List.drop_zero, e3]
  obtain ⟨l, x2, x3, x4, x5, e, h1, h2⟩ := stream_out (S := .scr (ns.map .int)) ns [some (.scr (ns.map .int)), some (.lst []), none, none, none, none] ⟨[], none, none, none, none, rfl, fun _ z => (nomatch z), by simp; omega⟩
  have d0 : dLst [] = some (.lst []) := rfl
  by_cases hl : l = []
  · subst hl
    have ap : appD ([] : List D) (.int 0) = some [.int 0] := rfl
    refine ⟨[0], ⟨by simp, fun n hn => by simp at hn; subst hn; decide, by simp⟩, ?_⟩
    have e' : bStream [some (.scr (ns.map .int)), none, none, none, none, none] = .ok (.ret (.lst [.int 0])) [some (.scr (ns.map .int)), none, x2, x3, x4, x5] := by
      unfold bStream
      simp only [sSeq_app, sSet_app, eN_app, bind_app, lNil_app, d0, opt_some, List.set, iSeq_app, eSl_app, eVar_app, List.getElem?_cons_zero, List.getElem?_cons_succ, pur_app, oPart_app, eC_app, intO, cut, seqD, e, sIf_app, cOp_app, lCons_app, un1_one, lenD_l, List.map_nil, List.length_nil, Int.natCast_zero, eqB_i, decide_true, if_true, sMeth_app, gLst, ap, sRet_app, eTake_app, imm_l, Bool.false_eq_true, if_false]
    exact runFn_ret rfl e' rfl
  · refine ⟨l, ⟨hl, h1, by omega⟩, ?_⟩
    have hn : ¬ ((l.length : Nat) : Int) = 0 := by
      have := List.length_pos_iff.mpr hl
      omega
    have e' : bStream [some (.scr (ns.map .int)), none, none, none, none, none] = .ok (.ret (.lst (l.map .int))) [some (.scr (ns.map .int)), none, x2, x3, x4, x5] := by
      unfold bStream
      simp only [sSeq_app, sSet_app, eN_app, bind_app, lNil_app, d0, opt_some, List.set, iSeq_app, eSl_app, eVar_app, List.getElem?_cons_zero, List.getElem?_cons_succ, pur_app, oPart_app, eC_app, intO, cut, seqD, e, sIf_app, cOp_app, lCons_app, un1_one, lenD_l, List.length_map, eqB_i, hn, decide_false, Bool.false_eq_true, if_false, sNx_app, sRet_app, eTake_app, imm_l]
    exact runFn_ret rfl e' rfl
end Mw

namespace Mw
open PySem PySem.Spec L2
open PyProof.Rows hiding St

/-! ### a < b < c -/
def eChain (g g' : D → D → Option Bool) (f fb fc : M D) : M D := M.bind f fun x => M.bind fb fun y => M.bind (M.opt (g x y)) fun k => if k then M.bind fc fun z => M.opt (gBl g' y z) else M.pur (.bl false)
def cChain (g g' : D → D → Option Bool) (f fb fc : M D) : M Bool := M.bind (eChain g g' f fb fc) fun d => M.opt (dBl d)
section
variable {X : Cx} {c : Cfg} {a b d : Expr} {pos : Pos} {wa wb wd ra rb rd : List Nat} {ba bb bd : Bool} {f fb fd : M D} {g g' : D → D → Option Bool}
theorem chain_fin (dis : ∀ j ∈ ra, j ∉ wb) (dis' : ∀ j ∈ rb, j ∉ wd) {σ : L2.St} {H : Hp} {Q : VK} (q : tG (Rep X.K) X.K c (wa ++ (wb ++ wd)) [] true (eChain g g' f fb fd) σ H Q) :
    tChain (rD X.K (gBl g)) (rD X.K (gBl g')) (tG (Rep X.K) X.K c wa ra ba f) (tG (Rep X.K) X.K c wb rb bb fb) (tG (Rep X.K) X.K c wd rd bd fd) σ H Q := by
  obtain ⟨Z, ρ, F, S, p⟩ := q
  refine tG_two (repC := Rep X.K) (fun _ => trivial) S p (fun i h => List.mem_append_left _ h) (fun i h => List.mem_append_right _ (List.mem_append_left _ h)) dis fun d1 d2 ρ2 v1 v2 H2 F2 G1 G2 S2 r1 r2 O1 O2 m st dj p2 p0 => ?_
  have p3 : Post (Rep X.K) X.K c wd [] true Z σ H2 F2 Q (M.bind (M.opt (g d1 d2)) (fun k => if k then M.bind fd fun z => M.opt (gBl g' d2 z) else M.pur (.bl false)) ρ2) := Post.shift p0 st (fun i h => h) fun i h => List.mem_append_right _ (List.mem_append_right _ h)
  cases e : g d1 d2 with
  | none => rw [e] at p3; exact p3.elim
  | some k =>
    rw [e] at p3
    refine ⟨d1, d2, G1, G2, .bl k, r1, r2, by rw [gBl, e]; rfl, fun v H' G es rr nd nw => ⟨k, (bl_inv rr).1, ?_⟩⟩
    cases k with
    | false => rw [if_neg Bool.false_ne_true]; exact Post.fin S2 p3 es rep_bl nd0 new0
    | true =>
      rw [if_pos rfl]
      have p4 : Post (Rep X.K) X.K c wd [] true Z σ H' F2 Q (M.bind fd (fun z => M.opt (gBl g' d2 z)) ρ2) := Post.shift p3 (Step.of es) (fun _ z => nomatch z) fun _ h => h
      have S2' := S2.same es
      have m2 := Rep.isM _ _ _ r2
      have r2' : Rep X.K H' d2 v2 G2 := Rep.keep _ _ _ r2 (Same.keeps es)
      have m2' := Rep.isM _ _ _ r2'
      refine tG_bind (w2 := []) S2' fd _ p4 (fun _ h => h) (fun _ h => nomatch h) fun z ρ3 v3 H3 F3 G3 st3 S3 r3 O3 p5 => ?_
      obtain ⟨r, er, p6⟩ := p5.opt
      have out := O2.out (ws := wd) (F' := F2) (H' := H2) S2 dis'
      exact ⟨d2, z, G2, G3, r, Rep.keep _ _ _ r2' (S2'.keeps st3 fun a ha => ⟨m2' a ha, out a ha⟩), r3, er, fun v H4 G es4 rr nd nw => Post.fin S3 p6 es4 rr nd nw⟩
theorem v_chain {op op' : CmpOp} (ho : OpR X (compareOp op) (rD X.K (gBl g))) (ho' : OpR X (compareOp op') (rD X.K (gBl g'))) (ha : PEv X c a wa ra ba f) (hb : PEv X c b wb rb bb fb) (hd : PEv X c d wd rd bd fd)
    (hm : lastMarks [op, op'] [b, d] = false := by with_unfolding_all rfl) (dis : ∀ j ∈ ra, j ∉ wb := by decide) (dis' : ∀ j ∈ rb, j ∉ wd := by decide) : PEv X c (.Compare a [op, op'] [b, d] pos) (wa ++ (wb ++ wd)) [] true (eChain g g' f fb fd) :=
  PE.imp (pe_chain ho ho' ha hb hd hm) fun σ H Q q => chain_fin dis dis' q
theorem t_chain {op op' : CmpOp} (ho : OpR X (compareOp op) (rD X.K (gBl g))) (ho' : OpR X (compareOp op') (rD X.K (gBl g'))) (ha : PEv X c a wa ra ba f) (hb : PEv X c b wb rb bb fb) (hd : PEv X c d wd rd bd fd)
    (hm : lastMarks [op, op'] [b, d] = false := by with_unfolding_all rfl) (dis : ∀ j ∈ ra, j ∉ wb := by decide) (dis' : ∀ j ∈ rb, j ∉ wd := by decide) : PTv X c (.Compare a [op, op'] [b, d] pos) (wa ++ (wb ++ wd)) (cChain g g' f fb fd) :=
  PT.imp (pt_chain ho ho' ha hb hd hm) fun σ H Q q => chain_fin dis dis' (by
    obtain ⟨Z, ρ, F, S, p⟩ := q
    refine tG_one S p (fun _ h => h) fun d ρ1 v H1 F1 G1 st S1 r O p1 => ?_
    cases e : dBl d with
    | none => rw [e] at p1; exact p1.elim
    | some k =>
      rw [e] at p1
      rw [dBl_some e] at r
      exact ⟨k, (bl_inv r).1, p1 k H1 F1 [] st S1 ⟨rfl, rfl⟩ Own.nil⟩)
end
end Mw

namespace Mw
open PySem PySem.Spec L2
open PyProof.Rows hiding St

/-! ### calls over sequences -/
/-- the parts of a list or a tuple -/
def itemsD : D → Option (List D)
  | .tup ds => some ds
  | .lst ds => some ds
  | .scr ds => some ds
  | _ => none
def tupleD (d : D) : Option D := match itemsD d with
  | some ds => if D.imms ds then some (.tup ds) else none
  | none => none
def listD (d : D) : Option D := match itemsD d with
  | some ds => if D.imms ds then some (.lst ds) else none
  | none => none
def blsD : List D → Option (List Bool)
  | [] => some []
  | .bl b :: r => (blsD r).map (b :: ·)
  | _ => none
def intsD : List D → Option (List Int)
  | [] => some []
  | .int b :: r => (intsD r).map (b :: ·)
  | _ => none
def strsD : List D → Option (List Str)
  | [] => some []
  | .str b :: r => (strsD r).map (b :: ·)
  | _ => none
/-- the parts of a list -/
def lstOf : D → Option (List D)
  | .lst ds => some ds
  | .scr ds => some ds
  | _ => none
def anyD (d : D) : Option D := (lstOf d).bind fun ds => (blsD ds).map fun bs => .bl (bs.any id)
def allD (d : D) : Option D := (lstOf d).bind fun ds => (blsD ds).map fun bs => .bl (bs.all id)
def sumD (d : D) : Option D := (lstOf d).bind fun ds => (intsD ds).map fun bs => .int bs.sum
def maxI : List Int → Option Int
  | [] => none
  | i :: r => some (r.foldl (fun a b => if b > a then b else a) i)
def minI : List Int → Option Int
  | [] => none
  | i :: r => some (r.foldl (fun a b => if b < a then b else a) i)
def maxD : List D → Option D
  | [.int i, .int j] => some (.int (if j > i then j else i))
  | [d] => (lstOf d).bind fun ds => (intsD ds).bind fun bs => (maxI bs).map .int
  | _ => none
def minD : List D → Option D
  | [.int i, .int j] => some (.int (if j < i then j else i))
  | [d] => (lstOf d).bind fun ds => (intsD ds).bind fun bs => (minI bs).map .int
  | _ => none
def sortI (ns : List Int) : List Int := ns.mergeSort (fun a b => decide (a ≤ b))
def sortS (ns : List Str) : List Str := ns.mergeSort (fun a b => !strLt b a)
def sortD (d : D) : Option D := (lstOf d).bind fun ds => match intsD ds with
  | some ns => some (.lst ((sortI ns).map .int))
  | none => match strsD ds with
    | some ns => if ns.length < 64 then some (.lst ((sortS ns).map .str)) else none
    | none => none
section
variable {K : PySem.W.Frag} {H : Hp}
theorem blsD_rep : ∀ {ds : List D} {bs : List Bool} {vs : List V} {G : Fp}, RepL K H ds vs G → blsD ds = some bs → vs = bs.map V.bl
  | [], bs, vs, G, r, e => by simp only [RepL] at r; cases e; exact r.1
  | d :: ds, bs, vs, G, r, e => by
    simp only [RepL] at r
    obtain ⟨v, r', G1, G2, rfl, rfl, h1, h2⟩ := r
    cases d with
    | bl b =>
      simp only [blsD, Option.map_eq_some_iff] at e
      obtain ⟨bs', e, rfl⟩ := e
      rw [(bl_inv h1).1, blsD_rep h2 e]; rfl
    | _ => simp [blsD] at e
theorem intsD_rep : ∀ {ds : List D} {bs : List Int} {vs : List V} {G : Fp}, RepL K H ds vs G → intsD ds = some bs → vs = bs.map V.int
  | [], bs, vs, G, r, e => by simp only [RepL] at r; cases e; exact r.1
  | d :: ds, bs, vs, G, r, e => by
    simp only [RepL] at r
    obtain ⟨v, r', G1, G2, rfl, rfl, h1, h2⟩ := r
    cases d with
    | int b =>
      simp only [intsD, Option.map_eq_some_iff] at e
      obtain ⟨bs', e, rfl⟩ := e
      rw [(int_inv h1).1, intsD_rep h2 e]; rfl
    | _ => simp [intsD] at e
theorem strsD_rep : ∀ {ds : List D} {bs : List Str} {vs : List V} {G : Fp}, RepL K H ds vs G → strsD ds = some bs → vs = bs.map V.str
  | [], bs, vs, G, r, e => by simp only [RepL] at r; cases e; exact r.1
  | d :: ds, bs, vs, G, r, e => by
    simp only [RepL] at r
    obtain ⟨v, r', G1, G2, rfl, rfl, h1, h2⟩ := r
    cases d with
    | str b =>
      simp only [strsD, Option.map_eq_some_iff] at e
      obtain ⟨bs', e, rfl⟩ := e
      rw [(str_inv h1).1, strsD_rep h2 e]; rfl
    | _ => simp [strsD] at e
theorem rep_ints : ∀ ns : List Int, RepL K H (ns.map D.int) (ns.map V.int) []
  | [] => RepL.nil
  | _ :: ns => RepL.cons (G1 := []) rep_int (rep_ints ns)
theorem rep_strs : ∀ ns : List Str, RepL K H (ns.map D.str) (ns.map V.str) []
  | [] => RepL.nil
  | _ :: ns => RepL.cons (G1 := []) rep_str (rep_strs ns)
theorem lstOf_rep {d : D} {ds : List D} {v : V} {G : Fp} (r : Rep K H d v G) (e : lstOf d = some ds) : ∃ a vs G', v = .ref a ∧ SqL K H a vs ∧ RepL K H ds vs G' := by
  cases d with
  | lst es =>
    cases e
    obtain ⟨a, us, G', rfl, rfl, s1, l1⟩ := lst_inv r
    exact ⟨a, us, G', rfl, SqL.of s1, l1⟩
  | scr es =>
    cases e
    obtain ⟨a, us, rfl, s1, l1⟩ := scr_inv r
    exact ⟨a, us, G, rfl, s1.sqL, l1⟩
  | _ => simp [lstOf] at e
theorem itemsD_rep {d : D} {ds : List D} {v : V} {G : Fp} (r : Rep K H d v G) (e : itemsD d = some ds) : ∃ a vs G', v = .ref a ∧ (SqL K H a vs ∨ SqT K H a vs) ∧ RepL K H ds vs G' := by
  cases d with
  | lst es =>
    cases e
    obtain ⟨a, us, G', rfl, rfl, s1, l1⟩ := lst_inv r
    exact ⟨a, us, G', rfl, .inl (SqL.of s1), l1⟩
  | scr es =>
    cases e
    obtain ⟨a, us, rfl, s1, l1⟩ := scr_inv r
    exact ⟨a, us, G, rfl, .inl s1.sqL, l1⟩
  | tup es =>
    cases e
    obtain ⟨a, us, rfl, s1, l1⟩ := tup_inv r
    exact ⟨a, us, G, rfl, .inr s1, l1⟩
  | _ => simp [itemsD] at e
end
section
variable {X : Cx}
theorem d_tuple : CallR X (.type "tuple") (nD X.K (un1 tupleD)) := CallR.of call_tuple_of fun xs H Q h => by
  obtain ⟨ds, Gx, r, l, eg, q⟩ := h
  obtain ⟨d, v, rfl, r1, eu⟩ := un1_rep l eg
  unfold tupleD at eu
  split at eu
  · rename_i es ei
    split at eu
    · rename_i im
      cases eu
      obtain ⟨a, us, G', rfl, s1, l1⟩ := itemsD_rep r1 ei
      have l2 := imms_of l1 im
      refine ⟨a, us, rfl, ?_⟩
      rcases s1 with s1 | s1
      · refine .inl ⟨s1, fun p hp => ?_⟩
        have sm : Same H (upd H p (.tup us)) := same_upd hp
        exact q _ _ [] sm (rep_tup (SqT.of upd_same) (RepL.keep _ _ _ l2 (Same.keeps sm))) nd0 new0
      · exact .inr ⟨s1, q _ _ [] (Same.refl H) (rep_tup s1 l2) nd0 new0⟩
    · cases eu
  · cases eu
theorem d_list : CallR X (.type "list") (nD X.K (un1 listD)) := CallR.of call_list_of fun xs H Q h => by
  obtain ⟨ds, Gx, r, l, eg, q⟩ := h
  obtain ⟨d, v, rfl, r1, eu⟩ := un1_rep l eg
  unfold listD at eu
  split at eu
  · rename_i es ei
    split at eu
    · rename_i im
      cases eu
      obtain ⟨a, us, G', rfl, s1, l1⟩ := itemsD_rep r1 ei
      have l2 := imms_of l1 im
      refine ⟨a, us, rfl, s1, fun p hp => ?_⟩
      have sm : Same H (upd H p (.lst us)) := same_upd hp
      exact q _ _ [p] sm (rep_lst upd_same (RepL.keep _ _ _ l2 (Same.keeps sm))) nd1 (new1 hp)
    · cases eu
  · cases eu
theorem d_any (hc : X.calm = true) : CallR X (.builtin "any") (nD X.K (un1 anyD)) := CallR.of (cr_any hc) fun xs H Q h => by
  obtain ⟨ds, Gx, r, l, eg, q⟩ := h
  obtain ⟨d, v, rfl, r1, eu⟩ := un1_rep l eg
  simp only [anyD, Option.bind_eq_some_iff, Option.map_eq_some_iff] at eu
  obtain ⟨es, e1, bs, e2, rfl⟩ := eu
  obtain ⟨a, us, G', rfl, s1, l1⟩ := lstOf_rep r1 e1
  have e3 := blsD_rep l1 e2
  subst e3
  exact ⟨a, bs, rfl, s1, q _ _ [] (Same.refl H) rep_bl nd0 new0⟩
theorem d_all (hc : X.calm = true) : CallR X (.builtin "all") (nD X.K (un1 allD)) := CallR.of (cr_all hc) fun xs H Q h => by
  obtain ⟨ds, Gx, r, l, eg, q⟩ := h
  obtain ⟨d, v, rfl, r1, eu⟩ := un1_rep l eg
  simp only [allD, Option.bind_eq_some_iff, Option.map_eq_some_iff] at eu
  obtain ⟨es, e1, bs, e2, rfl⟩ := eu
  obtain ⟨a, us, G', rfl, s1, l1⟩ := lstOf_rep r1 e1
  have e3 := blsD_rep l1 e2
  subst e3
  exact ⟨a, bs, rfl, s1, q _ _ [] (Same.refl H) rep_bl nd0 new0⟩
theorem d_sum (hc : X.calm = true) : CallR X (.builtin "sum") (nD X.K (un1 sumD)) := CallR.of (cr_sum hc) fun xs H Q h => by
  obtain ⟨ds, Gx, r, l, eg, q⟩ := h
  obtain ⟨d, v, rfl, r1, eu⟩ := un1_rep l eg
  simp only [sumD, Option.bind_eq_some_iff, Option.map_eq_some_iff] at eu
  obtain ⟨es, e1, bs, e2, rfl⟩ := eu
  obtain ⟨a, us, G', rfl, s1, l1⟩ := lstOf_rep r1 e1
  have e3 := intsD_rep l1 e2
  subst e3
  exact ⟨a, bs, rfl, s1, q _ _ [] (Same.refl H) rep_int nd0 new0⟩
theorem foldmax : ∀ (r : List Int) (i : Int), (r.foldl (fun a b => if b > a then b else a) i) ∈ i :: r ∧ ∀ y ∈ i :: r, y ≤ r.foldl (fun a b => if b > a then b else a) i
  | [], i => by simp
  | j :: r, i => by
    obtain ⟨h1, h2⟩ := foldmax r (if j > i then j else i)
    rw [List.foldl_cons]
    have h3 := h2 (if j > i then j else i) List.mem_cons_self
    refine ⟨?_, fun y hy => ?_⟩
    · rcases List.mem_cons.mp h1 with e | e
      · rw [e]; split <;> simp
      · exact List.mem_cons_of_mem _ (List.mem_cons_of_mem _ e)
    · rcases List.mem_cons.mp hy with e | e
      · subst e; split at h3 <;> split <;> omega
      · rcases List.mem_cons.mp e with e | e
        · subst e; split at h3 <;> split <;> omega
        · exact h2 y (List.mem_cons_of_mem _ e)
theorem foldmin : ∀ (r : List Int) (i : Int), (r.foldl (fun a b => if b < a then b else a) i) ∈ i :: r ∧ ∀ y ∈ i :: r, r.foldl (fun a b => if b < a then b else a) i ≤ y
  | [], i => by simp
  | j :: r, i => by
    obtain ⟨h1, h2⟩ := foldmin r (if j < i then j else i)
    rw [List.foldl_cons]
    have h3 := h2 (if j < i then j else i) List.mem_cons_self
    refine ⟨?_, fun y hy => ?_⟩
    · rcases List.mem_cons.mp h1 with e | e
      · rw [e]; split <;> simp
      · exact List.mem_cons_of_mem _ (List.mem_cons_of_mem _ e)
    · rcases List.mem_cons.mp hy with e | e
      · subst e; split at h3 <;> split <;> omega
      · rcases List.mem_cons.mp e with e | e
        · subst e; split at h3 <;> split <;> omega
        · exact h2 y (List.mem_cons_of_mem _ e)
theorem d_max (hc : X.calm = true) : CallR X (.builtin "max") (nD X.K maxD) := CallR.of ((call_max2 hc).or (cr_max hc)) fun xs H Q h => by
  obtain ⟨ds, Gx, r, l, eg, q⟩ := h
  unfold maxD at eg
  split at eg
  · cases eg
    rw [RepL.ints_inv2 l]
    exact .inl ⟨_, _, rfl, q _ _ [] (Same.refl H) rep_int nd0 new0⟩
  · rename_i d
    obtain ⟨d', v, e0, r1, eu⟩ := un1_rep (u := fun _ => some r) (r := r) l rfl
    simp only [RepL] at l
    obtain ⟨v', r', G1, G2, e1, rfl, h1, rfl, rfl⟩ := l
    subst e0
    cases e1
    simp only [Option.bind_eq_some_iff, Option.map_eq_some_iff] at eg
    obtain ⟨es, e1, bs, e2, m, e3, rfl⟩ := eg
    obtain ⟨a, us, G', rfl, s1, l1⟩ := lstOf_rep h1 e1
    have e4 := intsD_rep l1 e2
    subst e4
    cases bs with
    | nil => cases e3
    | cons i rr =>
      simp only [maxI, Option.some.injEq] at e3
      obtain ⟨k1, k2⟩ := foldmax rr i
      rw [e3] at k1 k2
      refine .inr ⟨a, i :: rr, rfl, s1, by simp, fun m' h1 h2 => ?_⟩
      have e5 : m' = m := Int.le_antisymm (k2 _ h1) (h2 _ k1)
      rw [e5]
      exact q _ _ [] (Same.refl H) rep_int nd0 new0
  · cases eg
theorem d_min (hc : X.calm = true) : CallR X (.builtin "min") (nD X.K minD) := CallR.of ((call_min2 hc).or (cr_min hc)) fun xs H Q h => by
  obtain ⟨ds, Gx, r, l, eg, q⟩ := h
  unfold minD at eg
  split at eg
  · cases eg
    rw [RepL.ints_inv2 l]
    exact .inl ⟨_, _, rfl, q _ _ [] (Same.refl H) rep_int nd0 new0⟩
  · rename_i d
    obtain ⟨d', v, e0, r1, eu⟩ := un1_rep (u := fun _ => some r) (r := r) l rfl
    simp only [RepL] at l
    obtain ⟨v', r', G1, G2, e1, rfl, h1, rfl, rfl⟩ := l
    subst e0
    cases e1
    simp only [Option.bind_eq_some_iff, Option.map_eq_some_iff] at eg
    obtain ⟨es, e1, bs, e2, m, e3, rfl⟩ := eg
    obtain ⟨a, us, G', rfl, s1, l1⟩ := lstOf_rep h1 e1
    have e4 := intsD_rep l1 e2
    subst e4
    cases bs with
    | nil => cases e3
    | cons i rr =>
      simp only [minI, Option.some.injEq] at e3
      obtain ⟨k1, k2⟩ := foldmin rr i
      rw [e3] at k1 k2
      refine .inr ⟨a, i :: rr, rfl, s1, by simp, fun m' h1 h2 => ?_⟩
      have e5 : m' = m := Int.le_antisymm (h2 _ k1) (k2 _ h1)
      rw [e5]
      exact q _ _ [] (Same.refl H) rep_int nd0 new0
  · cases eg
end
end Mw

namespace Mw
open PySem PySem.Spec L2
open PyProof.Rows hiding St

/-! ### sorted -/
theorem sortI_uniq {a b : List Int} (p : a.Perm b) (s : a.Pairwise (· ≤ ·)) : a = sortI b := by
  have h1 : (sortI b).Pairwise (fun a b => a ≤ b) := (List.pairwise_mergeSort (le := fun a b : Int => decide (a ≤ b)) (fun a b c h1 h2 => by simp only [decide_eq_true_eq] at *; omega) (fun a b => by simp only [Bool.or_eq_true, decide_eq_true_eq]; omega) b).imp fun h => by simpa using h
  exact List.Perm.eq_of_pairwise (le := fun a b : Int => a ≤ b) (fun a b _ _ h1 h2 => Int.le_antisymm h1 h2) s h1 (p.trans (List.mergeSort_perm b _).symm)
theorem strLt_irrefl (a : Str) : strLt a a = false := by
  unfold strLt
  exact decide_eq_false (List.lt_irrefl _)
theorem strLe_trans {a b c : Str} (h1 : strLt b a = false) (h2 : strLt c b = false) : strLt c a = false := by
  unfold strLt at *
  rw [decide_eq_false_iff_not, List.not_lt] at *
  exact List.le_trans h1 h2
theorem strLe_total (a b : Str) : strLt b a = false ∨ strLt a b = false := by
  unfold strLt
  rw [decide_eq_false_iff_not, decide_eq_false_iff_not, List.not_lt, List.not_lt]
  exact List.le_total _ _
theorem strLe_antisymm {a b : Str} (h1 : strLt b a = false) (h2 : strLt a b = false) : a = b := by
  unfold strLt at *
  rw [decide_eq_false_iff_not, List.not_lt] at *
  have e := List.le_antisymm h1 h2
  obtain ⟨⟨a⟩⟩ := a
  obtain ⟨⟨b⟩⟩ := b
  simp only at e
  rw [e]
theorem risingS_pair : ∀ (l : List Str) (p : Str), risingS p l = true → (p :: l).Pairwise (fun a b => strLt b a = false)
  | [], p, _ => by simp
  | x :: r, p, h => by
    simp only [risingS, Bool.and_eq_true, Bool.not_eq_true'] at h
    have ih := risingS_pair r x h.2
    have h1 : strLt x p = false := by unfold strLt; rw [← ltCps_eq]; exact h.1
    refine List.pairwise_cons.mpr ⟨fun y hy => ?_, ih⟩
    rcases List.mem_cons.mp hy with e | hy
    · rw [e]; exact h1
    · exact strLe_trans h1 ((List.pairwise_cons.mp ih).1 y hy)
theorem sortedS_pair {l : List Str} (h : sortedS l = true) : l.Pairwise (fun a b => strLt b a = false) := by
  cases l with
  | nil => exact List.Pairwise.nil
  | cons x r => exact risingS_pair r x h
theorem sortS_pair (b : List Str) : (sortS b).Pairwise (fun a b => strLt b a = false) :=
  (List.pairwise_mergeSort (le := fun a b : Str => !strLt b a) (fun a b c h1 h2 => by
    simp only [Bool.not_eq_true'] at *
    exact strLe_trans h1 h2) (fun a b => by
    simp only [Bool.or_eq_true, Bool.not_eq_true']
    exact strLe_total a b) b).imp fun h => by simpa using h
theorem sortS_uniq {a b : List Str} (p : a.Perm b) (s : sortedS a = true) : a = sortS b :=
  List.Perm.eq_of_pairwise (le := fun a b : Str => strLt b a = false) (fun a b _ _ h1 h2 => strLe_antisymm h1 h2) (sortedS_pair s) (sortS_pair b) (p.trans (List.mergeSort_perm b _).symm)
section
variable {X : Cx}
theorem d_sorted : CallR X (.builtin "sorted") (nD X.K (un1 sortD)) := CallR.of (cr_sortedI.or cr_sortedS) fun xs H Q h => by
  obtain ⟨ds, Gx, r, l, eg, q⟩ := h
  obtain ⟨d, v, rfl, r1, eu⟩ := un1_rep l eg
  simp only [sortD, Option.bind_eq_some_iff] at eu
  obtain ⟨es, e1, e2⟩ := eu
  obtain ⟨a, us, G', rfl, s1, l1⟩ := lstOf_rep r1 e1
  split at e2
  · rename_i ns en
    cases e2
    have e4 := intsD_rep l1 en
    subst e4
    refine .inl ⟨a, ns, rfl, s1, fun ns' p hp hs hn => ?_⟩
    have e5 := sortI_uniq hp hs
    subst e5
    have sm : Same H (upd H p (.lst ((sortI ns).map V.int))) := same_upd hn
    exact q _ _ [p] sm (rep_lst upd_same (rep_ints _)) nd1 (new1 hn)
  · rename_i en
    split at e2
    · rename_i ns en2
      split at e2
      · rename_i hl
        cases e2
        have e4 := strsD_rep l1 en2
        subst e4
        refine .inr ⟨a, ns, rfl, s1, hl, fun ns' p hp hs hn => ?_⟩
        have e5 := sortS_uniq hp hs
        subst e5
        have sm : Same H (upd H p (.lst ((sortS ns).map V.str))) := same_upd hn
        exact q _ _ [p] sm (rep_lst upd_same (rep_strs _)) nd1 (new1 hn)
      · cases e2
    · cases e2
/-! ### join -/
def joinD (a : Str) (d : D) : Option D := (itemsD d).bind fun ds => (strsD ds).bind fun ys => if (ys.map (·.length)).sum + ys.length * a.length ≤ 16777216 then some (.str (Txt.join a ys)) else none
def eJoin (f f' : M D) : M D := M.bind f fun x => match x with
  | .str a => M.bind f' fun y => M.opt (joinD a y)
  | _ => fun _ => .stuck
variable {c : Cfg} {a b : Expr} {pos apos : Pos} {wa wb ra rb : List Nat} {ba bb : Bool} {f f' : M D}
theorem v_join (ho : PEv X c a wa ra ba f) (he : PEv X c b wb rb bb f') (hs : starEach [b] X.env = [(false, eval b X.env)] := by rfl) (hbase : attributeBase a "join" X.env (eval a X.env) = eval a X.env := by rfl) (hline : (apos.endLine == pos.line) = true := by rfl) :
    PEv X c (.Call (.Attribute a "join" apos) [b] [] pos) (wa ++ wb) [] true (eJoin f f') := by
  refine PE.imp (pe_join ho he hs hbase hline) fun σ H Q q => ?_
  obtain ⟨Z, ρ, F, S, p⟩ := q
  refine tG_bind (w2 := wb) S f _ p (fun i h => List.mem_append_left _ h) (fun i h => List.mem_append_right _ h) fun d ρ1 v H1 F1 G st S1 r O p1 => ?_
  cases d with
  | str z =>
    refine ⟨⟨z, (str_inv r).1⟩, ?_⟩
    refine tG_bind (w2 := []) S1 f' _ p1 (fun _ h => h) (fun _ h => nomatch h) fun d2 ρ2 v2 H2 F2 G2 st2 S2 r2 O2 p2 => ?_
    obtain ⟨r', e, p3⟩ := p2.opt
    simp only [joinD, Option.bind_eq_some_iff] at e
    obtain ⟨ds, e1, ys, e2, e3⟩ := e
    split at e3
    · rename_i hl
      cases e3
      obtain ⟨a, us, G', rfl, s1, l1⟩ := itemsD_rep r2 e1
      have e4 := strsD_rep l1 e2
      subst e4
      exact ⟨z, a, ys, (str_inv r).1, rfl, s1, hl, Post.fin S2 p3 (Same.refl _) rep_str nd0 new0⟩
    · cases e3
  | _ => exact p1.elim
/-! ### xs[::-1] -/
def revD : D → Option D
  | .lst ds => if D.imms ds then some (.lst ds.reverse) else none
  | .scr ds => if D.imms ds then some (.lst ds.reverse) else none
  | _ => none
theorem RepL.rev0 {K : PySem.W.Frag} {H : Hp} : ∀ {ds : List D} {vs : List V}, RepL K H ds vs [] → RepL K H ds.reverse vs.reverse []
  | [], vs, r => by simp only [RepL] at r; rw [r.1]; exact RepL.nil
  | d :: ds, vs, r => by
    simp only [RepL] at r
    obtain ⟨v, r0, G1, G2, rfl, e, h1, h2⟩ := r
    obtain ⟨e1, e2⟩ := List.append_eq_nil_iff.mp e.symm
    subst e1 e2
    rw [List.reverse_cons, List.reverse_cons]
    exact RepL.append (RepL.rev0 h2) (RepL.cons h1 RepL.nil)
theorem v_rev {k : Nat} {p1 p2 p3 : Pos} (he : PEv X c a wa ra ba f) : PEv X c (.Subscript a (.Slice none none (some (.UnaryOp .USub (.Constant (.int 1) k p1) p2)) p3) pos) wa [] true (eUn revD f) := by
  refine PE.imp (pe_revL he) fun σ H Q q => ?_
  obtain ⟨Z, ρ, F, S, p⟩ := q
  refine tG_bind (w2 := []) S f _ p (fun _ h => h) (fun _ h => nomatch h) fun d ρ1 v H1 F1 G st S1 r O p1 => ?_
  obtain ⟨r', e, p3⟩ := p1.opt
  cases d with
  | lst ds =>
    simp only [revD] at e
    split at e
    · rename_i im
      cases e
      obtain ⟨a, us, G', rfl, _, s1, lr⟩ := lst_inv r
      refine ⟨a, us, rfl, SqL.of s1, fun q hq => ?_⟩
      have sm := same_upd (o := .lst us.reverse) hq
      exact Post.fin S1 p3 sm (rep_lst upd_same (RepL.keep _ _ _ (RepL.rev0 (imms_of lr im)) (Same.keeps sm))) nd1 (new1 hq)
    · cases e
  | scr ds =>
    simp only [revD] at e
    split at e
    · rename_i im
      cases e
      obtain ⟨a, us, rfl, s1, lr⟩ := scr_inv r
      refine ⟨a, us, rfl, s1.sqL, fun q hq => ?_⟩
      have sm := same_upd (o := .lst us.reverse) hq
      exact Post.fin S1 p3 sm (rep_lst upd_same (RepL.keep _ _ _ (RepL.rev0 (imms_of lr im)) (Same.keeps sm))) nd1 (new1 hq)
    · cases e
  | _ => simp [revD] at e
/-! ### list.index -/
/-- the place of the first equal one -/
def idxD (d : D) : List D → Option Nat
  | [] => none
  | e :: r => match toPy e, toPy d with
    | some p, some q => if PyData.eqv p q then some 0 else (idxD d r).map (· + 1)
    | _, _ => none
end
end Mw

namespace Mw
open PySem PySem.Spec L2
open PyProof.Rows hiding St

/-! ### what an iterator over something hands out -/
structure Src (P : Program) (w : World) (K : PySem.W.Frag) (J : It) (it : Addr) (f0 : List Addr) (tn : Nat → Heap → Prop) : Prop where
  obj : ∀ i h, tn i h → ∃ o, h.get? it = some o ∧ ∀ v, o.data ≠ .cell v
  keep : ∀ i h h', tn i h → (∀ o, h.get? it = some o → h'.get? it = some o) → tn i h'
  draw : ∀ (X : Cx), X.prog = P → X.w = w → X.K = K → X.calm = true → ∀ (i : Nat) (pins : List (Addr × Obj)) (s : Shared) (σ : L2.St) (H : Hp), Inv X pins σ H s → tn i s.heap → J.go i H ∨ J.stop i H →
    ∃ (n : Nat) (Pn : Nat → Value → Prop) (Sn : Nat → Heap → Prop), Draws P w X.A.in1 it (it :: f0) n Pn Sn ∧ Sn i s.heap ∧ (∀ h', Sn (i + 1) h' → tn (i + 1) h') ∧ (J.go i H → i < n) ∧ (J.stop i H → i = n) ∧ ∀ u, J.go i H → Pn i u → ∃ x, RelV x u ∧ J.yld i H x H
def JL (K : PySem.W.Frag) (a : Addr) : It :=
  ⟨fun i H => ∃ xs x, SqL K H a xs ∧ xs[i]? = some x, fun i H x H' => H' = H ∧ ∀ xs, SqL K H a xs → xs[i]? = some x, fun i H => ∃ xs, SqL K H a xs ∧ xs.length = i⟩
def JT (K : PySem.W.Frag) (a : Addr) : It :=
  ⟨fun i H => ∃ xs x, SqT K H a xs ∧ xs[i]? = some x, fun i H x H' => H' = H ∧ ∀ xs, SqT K H a xs → xs[i]? = some x, fun i H => ∃ xs, SqT K H a xs ∧ xs.length = i⟩
theorem src_list {P : Program} {w : World} {K : PySem.W.Frag} (a it : Addr) (hne : a ≠ it) : Src P w K (JL K a) it [a] (fun i h => h.IsListIter it a i) where
  obj := fun i h st => by
    obtain ⟨o, e, c, d⟩ := st
    exact ⟨o, e, fun v z => by rw [d] at z; cases z⟩
  keep := fun i h h' st k => st.at fun o e => k o e
  draw := by
    intro X hP hw hK hc i pins s σ H I st hg
    subst hP hw hK
    have gx : ∃ xs, SqL X.K H a xs := by
      rcases hg with ⟨xs, x, hq, _⟩ | ⟨xs, hq, _⟩
      · exact ⟨xs, hq⟩
      · exact ⟨xs, hq⟩
    obtain ⟨xs, hq⟩ := gx
    obtain ⟨its, rv, p, hz⟩ := I.list hq
    have hl := rv.length
    refine ⟨its.toArray.size, _, _, Draws.list (A := X.A.in1) (I.ok.hd hc) it a hne its.toArray, ⟨st, p.isList⟩, fun h' q => q.1, fun g => ?_, fun g => ?_, fun u g hu => ?_⟩
    · obtain ⟨ys, x, hq', hx⟩ := g
      rw [I.list_inj hq' hq] at hx
      have := (List.getElem?_eq_some_iff.mp hx).1
      simp only [List.size_toArray]; omega
    · obtain ⟨ys, hq', hx⟩ := g
      rw [I.list_inj hq' hq] at hx
      simp only [List.size_toArray]; omega
    · obtain ⟨ys, x, hq', hx⟩ := g
      rw [I.list_inj hq' hq] at hx
      obtain ⟨u', hu', ru⟩ := rv.get hx
      have e : u = u' := by
        have : its[i]? = some u := by simpa using hu
        rw [this] at hu'; exact Option.some.inj hu'
      rw [e]
      exact ⟨x, ru, rfl, fun zs hz => by rw [I.list_inj hz hq]; exact hx⟩
theorem src_tuple {P : Program} {w : World} {K : PySem.W.Frag} (a it : Addr) (hne : a ≠ it) : Src P w K (JT K a) it [a] (fun i h => h.IsTupleIter it a i) where
  obj := fun i h st => by
    obtain ⟨o, e, c, d⟩ := st
    exact ⟨o, e, fun v z => by rw [d] at z; cases z⟩
  keep := fun i h h' st k => st.at fun o e => k o e
  draw := by
    intro X hP hw hK hc i pins s σ H I st hg
    subst hP hw hK
    have gx : ∃ xs, SqT X.K H a xs := by
      rcases hg with ⟨xs, x, hq, _⟩ | ⟨xs, hq, _⟩
      · exact ⟨xs, hq⟩
      · exact ⟨xs, hq⟩
    obtain ⟨xs, hq⟩ := gx
    obtain ⟨its, rv, p, hz⟩ := I.tuple hq
    have hl := rv.length
    refine ⟨its.toArray.size, _, _, Draws.tuple (A := X.A.in1) (I.ok.hd hc) it a hne its.toArray, ⟨st, show s.heap.IsTuple a its.toArray from p⟩, fun h' q => q.1, fun g => ?_, fun g => ?_, fun u g hu => ?_⟩
    · obtain ⟨ys, x, hq', hx⟩ := g
      rw [I.tuple_inj hq' hq] at hx
      have := (List.getElem?_eq_some_iff.mp hx).1
      simp only [List.size_toArray]; omega
    · obtain ⟨ys, hq', hx⟩ := g
      rw [I.tuple_inj hq' hq] at hx
      simp only [List.size_toArray]; omega
    · obtain ⟨ys, x, hq', hx⟩ := g
      rw [I.tuple_inj hq' hq] at hx
      obtain ⟨u', hu', ru⟩ := rv.get hx
      have e : u = u' := by
        have : its[i]? = some u := by simpa using hu
        rw [this] at hu'; exact Option.some.inj hu'
      rw [e]
      exact ⟨x, ru, rfl, fun zs hz => by rw [I.tuple_inj hz hq]; exact hx⟩
/-! ### enumerate -/
def JE (J : It) : It :=
  ⟨J.go, fun i H v H' => ∃ T x, v = .ref T ∧ H T = none ∧ H' = upd H T (.tup [.int (i : Nat), x]) ∧ J.yld i H x H, J.stop⟩
theorem turn_enumS {P : Program} {w : World} {K : PySem.W.Frag} {J : It} {f0 : List Addr} {tn : Nat → Heap → Prop} {elts : List Expr} {kk : Nat} {tpos : Pos} (e it : Addr) (S : Src P w K J it f0 tn) (hne : e ≠ it) (hf0 : e ∉ f0) :
    Turn P w K (.Tuple elts kk tpos) (JE J) [e, it] e (fun i h => (∃ old, IsEnum h e it ((i : Nat) : Int) old) ∧ tn i h) where
  mem := by simp
  obj := fun i h st b hb => by
    obtain ⟨⟨old, he⟩, hs⟩ := st
    have e' : b = e ∨ b = it := by simpa using hb
    rcases e' with z | z
    · rw [z]; exact ⟨_, he, fun v q => nomatch q⟩
    · rw [z]; exact S.obj i h hs
  keep := fun i h h' st k => let ⟨⟨old, he⟩, hi⟩ := st; ⟨⟨old, k e (by simp) _ he⟩, S.keep i h h' hi fun o q => k it (by simp) o q⟩
  item := by
    intro X hP hw hK hc i pins s σ H E I hf st hg
    obtain ⟨⟨old, he⟩, hit⟩ := st
    obtain ⟨n, Pn, Sn, D, s1, k1, l1, _, y1⟩ := S.draw X hP hw hK hc i pins s σ H I hit (.inl hg)
    subst hP hw hK
    have hel : e < s.heap.objs.size := Heap.lt_size he
    have hil : it < s.heap.objs.size := by obtain ⟨_, q, _⟩ := S.obj i _ hit; exact Heap.lt_size q
    have hef : e ∉ it :: f0 := fun q => (List.mem_cons.mp q).elim hne hf0
    refine wpAny_pyNext_enum_itemD D he s1 (l1 hg) hne hef fun u h' tk hP ho hit' hT hsz hk => ?_
    obtain ⟨x, ru, yx⟩ := y1 u hg hP
    refine ⟨_, rfl, wpAny_letOwnedTupleGo_enum (s := { s with heap := h', toks := tk + 1 }) ho fun h'' he' sb => ?_⟩
    have hT2 : h''.get? s.heap.objs.size = some { cls := .type "tuple", data := .seq #[.int i tk, u] } := (sb.2 _ (Nat.ne_of_gt hel)).trans hT
    have new : ObjOk X.prog X.w (upd H s.heap.objs.size (.tup [.int (i : Nat), x])) h'' s.heap.objs.size (.tup [.int (i : Nat), x]) :=
      ⟨by show 2 ≤ sizeLine; decide, [.int i tk, u], .cons ⟨_, rfl⟩ (.cons ru .nil), ⟨_, hT2, rfl, _, rfl⟩⟩
    have I1 : Inv X pins σ (upd H s.heap.objs.size (.tup [.int (i : Nat), x])) { s with heap := h'', toks := tk + 1 } :=
      I.turnedNew (ch := [e, it]) (fun b ob hb q => (sb.2 b (fun z => hb (by simp [z]))).trans (hk b ob (fun z => hb (by simp [z])) (fun z => hb (by simp [z])) q)) hf (Nat.le_refl _) new
    refine ⟨.ref s.heap.objs.size, _, I1, rfl, ⟨_, x, rfl, I.hok.fresh (Nat.le_refl _), rfl, yx⟩, ⟨⟨u, ?_⟩, S.keep _ _ _ (k1 h' hit') fun o q => (sb.2 it (Ne.symm hne)).trans q⟩, fun b hb => ?_⟩
    · have e1 : ((i + 1 : Nat) : Int) = (i : Int) + 1 := by omega
      rw [e1]; exact he'
    · have hb' : b < s.heap.objs.size := by
        have e' : b = e ∨ b = it := by simpa using hb
        rcases e' with z | z
        · rw [z]; exact hel
        · rw [z]; exact hil
      rw [upd_ne (Nat.ne_of_lt hb')]
      exact (hf b hb).1
  done := by
    intro X hP hw hK hc i pins s σ H E I hf st hg
    obtain ⟨⟨old, he⟩, hit⟩ := st
    obtain ⟨n, Pn, Sn, D, s1, k1, _, l2, y1⟩ := S.draw X hP hw hK hc i pins s σ H I hit (.inr hg)
    have l2 := l2 hg
    subst l2
    subst hP hw hK
    obtain ⟨f0', f1, f2, f3, f4, f5⟩ := hf it (by simp)
    exact wpAny_pyNext_enum_endD D he s1 fun h' eb => ⟨rfl, I.turned (t' := s.toks) (fun b o hb q => eb b o hb q) f0' f1 f3 f4 f5⟩
  self := fun A i s Q E st h => let ⟨⟨_, he⟩, _⟩ := st; wpAny_pyIter_enum he h
/-! ### zip -/
def JZ (J J2 : It) : It :=
  ⟨fun i H => J.go i H ∧ J2.go i H, fun i H v H' => ∃ T x y, v = .ref T ∧ H T = none ∧ H' = upd H T (.tup [x, y]) ∧ J.yld i H x H ∧ J2.yld i H y H, fun i H => (J.stop i H ∧ (J2.go i H ∨ J2.stop i H)) ∨ (J.go i H ∧ J2.stop i H)⟩
theorem turn_zipS {P : Program} {w : World} {K : PySem.W.Frag} {J J2 : It} {f0 f2 : List Addr} {tn tn2 : Nat → Heap → Prop} {elts : List Expr} {kk : Nat} {tpos : Pos} {z TI TO i1 i2 : Addr} (D : ZipSep2 z TI TO i1 i2 (i1 :: f0) (i2 :: f2)) (S : Src P w K J i1 f0 tn) (S2 : Src P w K J2 i2 f2 tn2) :
    Turn P w K (.Tuple elts kk tpos) (JZ J J2) [z, TI, TO, i1, i2] z (fun i h => IsZip h z TI TO .none ∧ IsTupOf2 h TI (.ref i1) (.ref i2) ∧ (∃ x y, IsTupOf2 h TO x y) ∧ tn i h ∧ tn2 i h) where
  mem := by simp
  obj := fun i h st c hc => by
    obtain ⟨hz, hTI, ⟨x, y, hTO⟩, h1, h2⟩ := st
    have e' : c = z ∨ c = TI ∨ c = TO ∨ c = i1 ∨ c = i2 := by simpa using hc
    rcases e' with q | q | q | q | q
    · rw [q]; exact ⟨_, hz, fun v q => nomatch q⟩
    · rw [q]; exact ⟨_, hTI, fun v q => nomatch q⟩
    · rw [q]; exact ⟨_, hTO, fun v q => nomatch q⟩
    · rw [q]; exact S.obj i h h1
    · rw [q]; exact S2.obj i h h2
  keep := fun i h h' st k => by
    obtain ⟨hz, hTI, ⟨x, y, hTO⟩, h1, h2⟩ := st
    exact ⟨k z (by simp) _ hz, k TI (by simp) _ hTI, ⟨x, y, k TO (by simp) _ hTO⟩, S.keep _ _ _ h1 fun o q => k i1 (by simp) o q, S2.keep _ _ _ h2 fun o q => k i2 (by simp) o q⟩
  item := by
    intro X hP hw hK hc i pins s σ H E I hf st hg
    obtain ⟨hz, hTI, ⟨x0, y0, hTO⟩, h1, h2⟩ := st
    obtain ⟨g1, g2⟩ := hg
    obtain ⟨n1, P1, N1, D1, s1, k1, l1, _, y1⟩ := S.draw X hP hw hK hc i pins s σ H I h1 (.inl g1)
    obtain ⟨n2, P2, N2, D2, s2, k2, l2, _, y2⟩ := S2.draw X hP hw hK hc i pins s σ H I h2 (.inl g2)
    have hl1 : i1 < s.heap.objs.size := by obtain ⟨_, q, _⟩ := S.obj i _ h1; exact Heap.lt_size q
    have hl2 : i2 < s.heap.objs.size := by obtain ⟨_, q, _⟩ := S2.obj i _ h2; exact Heap.lt_size q
    subst hP hw hK
    have hzl : z < s.heap.objs.size := Heap.lt_size hz
    refine wpAny_pyNext_zipD2_item D D1 D2 hz hTI hTO s1 s2 (l1 g1) (l2 g2) fun u u2 h' tk p1 p2 z' TO' h1' h2' hT hsz hk => ?_
    obtain ⟨x, ru, yx⟩ := y1 u g1 p1
    obtain ⟨y, ru2, yx2⟩ := y2 u2 g2 p2
    refine ⟨_, rfl, wpAny_letOwnedTupleGo_zip (s := { s with heap := h', toks := tk }) z' fun h'' z'' sb => ?_⟩
    have hT2 : h''.get? s.heap.objs.size = some { cls := .type "tuple", data := .seq #[u, u2] } := (sb.2 _ (Nat.ne_of_gt hzl)).trans hT
    have new : ObjOk X.prog X.w (upd H s.heap.objs.size (.tup [x, y])) h'' s.heap.objs.size (.tup [x, y]) :=
      ⟨by show 2 ≤ sizeLine; decide, [u, u2], .cons ru (.cons ru2 .nil), ⟨_, hT2, rfl, _, rfl⟩⟩
    have I1 : Inv X pins σ (upd H s.heap.objs.size (.tup [x, y])) { s with heap := h'', toks := tk } :=
      I.turnedNew (t' := tk) (ch := [z, TI, TO, i1, i2]) (fun c o hb q => (sb.2 c (fun q' => hb (by simp [q']))).trans (hk c o (fun q' => hb (by simp [q'])) (fun q' => hb (by simp [q'])) (fun q' => hb (by simp [q'])) (fun q' => hb (by simp [q'])) q)) hf (Nat.le_refl _) new
    refine ⟨.ref s.heap.objs.size, _, I1, rfl, ⟨_, x, y, rfl, I.hok.fresh (Nat.le_refl _), rfl, yx, yx2⟩, ⟨z'', ?_, ⟨u, u2, ?_⟩, ?_, ?_⟩, fun c hcm => ?_⟩
    · exact (sb.2 _ D.TIz).trans (hk _ _ D.TIz D.TITO D.TIi1 D.TIi2 hTI)
    · exact (sb.2 _ D.TOz).trans TO'
    · exact S.keep _ _ _ (k1 h' h1') fun o q => (sb.2 _ (Ne.symm D.zi1)).trans q
    · exact S2.keep _ _ _ (k2 h' h2') fun o q => (sb.2 _ (Ne.symm D.zi2)).trans q
    · have hlt : c < s.heap.objs.size := by
        have e' : c = z ∨ c = TI ∨ c = TO ∨ c = i1 ∨ c = i2 := by simpa using hcm
        rcases e' with q | q | q | q | q
        · rw [q]; exact hzl
        · rw [q]; exact Heap.lt_size hTI
        · rw [q]; exact Heap.lt_size hTO
        · rw [q]; exact hl1
        · rw [q]; exact hl2
      rw [upd_ne (Nat.ne_of_lt hlt)]
      exact (hf c hcm).1
  done := by
    intro X hP hw hK hc i pins s σ H E I hf st hg
    obtain ⟨hz, hTI, ⟨x0, y0, hTO⟩, h1, h2⟩ := st
    have g1 : J.go i H ∨ J.stop i H := by
      rcases hg with ⟨g, _⟩ | ⟨g, _⟩
      · exact .inr g
      · exact .inl g
    have g2 : J2.go i H ∨ J2.stop i H := by
      rcases hg with ⟨_, g⟩ | ⟨_, g⟩
      · exact g
      · exact .inr g
    obtain ⟨n1, P1, N1, D1, s1, k1, l1, m1, y1⟩ := S.draw X hP hw hK hc i pins s σ H I h1 g1
    obtain ⟨n2, P2, N2, D2, s2, k2, l2, m2, y2⟩ := S2.draw X hP hw hK hc i pins s σ H I h2 g2
    have le1 : i ≤ n1 := g1.elim (fun g => Nat.le_of_lt (l1 g)) fun g => Nat.le_of_eq (m1 g)
    have le2 : i ≤ n2 := g2.elim (fun g => Nat.le_of_lt (l2 g)) fun g => Nat.le_of_eq (m2 g)
    have he : i = n1 ∨ i = n2 := by
      rcases hg with ⟨g, _⟩ | ⟨_, g⟩
      · exact .inl (m1 g)
      · exact .inr (m2 g)
    subst hP hw hK
    exact wpAny_pyNext_zipD2_end D D1 D2 hz hTI hTO s1 s2 le1 le2 he fun h' tk hk => ⟨rfl, I.turnedL (t' := tk) (ch := [z, TI, TO, i1, i2]) (fun c o hb q =>
      hk c o (fun q' => hb (by simp [q'])) (fun q' => hb (by simp [q'])) (fun q' => hb (by simp [q'])) (fun q' => hb (by simp [q'])) q) hf⟩
  self := fun A i s Q E st h => wpAny_pyIter_zip st.1 h
end Mw

namespace PySem
open Sem (wp)
set_option maxHeartbeats 1000000 in
theorem meets_enumB1 {v : Value} {o : Obj} {H : Heap → Prop} (B : Begins v o H) :
    Meets (Builtin.«enumerate.__new__» ⟨[.type "enumerate", v], []⟩) (fun _ R s => H s.heap ∧
      R (.ok (.ret (.ref (s.heap.push o).objs.size))) { s with heap := (s.heap.push o).push { cls := .type "enumerate", data := .fields #[.none, .bool false, .ref s.heap.objs.size, rawInt 0, .none, .none] } }) :=
  .of_wp fun prog w A R s h => by
    obtain ⟨hp, g, d, tk, os⟩ := s; obtain ⟨h1, h⟩ := h
    have hsub := sub_enumerate
    have q1 : ∀ {A' : Around} {E : Value → Shared → Prop} {Q : Value → Shared → Prop}, Q (.ref hp.objs.size) ⟨hp.push o, g, d, tk, os⟩ → wpAny (model prog w) A' (pyIter v) Q E ⟨hp, g, d, tk, os⟩ :=
      fun q => B.iter prog w _ _ ⟨hp, g, d, tk, os⟩ _ h1 q
    wp_walk using q1
    refine wpAny_stack_any fun st => wpAny_pure ?_
    split
    · rename_i c _ _ _ _ _
      cases (c == Value.type "enumerate")
      · wp_walk using q1
        exact ⟨_, rfl, h⟩
      · wp_walk using q1
        exact ⟨_, rfl, h⟩
    · wp_walk using q1
      exact ⟨_, rfl, h⟩
theorem enum_begins1 {prog : Program} {w : World} {A : Around} {E : Value → Shared → Prop} {s : Shared} {v : Value} {o : Obj} {H : Heap → Prop} {Q : Value → Shared → Prop} (B : Begins v o H) (h1 : H s.heap)
    (h : ∀ h', IsEnum h' (s.heap.objs.size + 1) s.heap.objs.size 0 .none → h'.get? s.heap.objs.size = some o → h'.objs.size = s.heap.objs.size + 2 →
      (∀ b o, s.heap.get? b = some o → h'.get? b = some o) → Q (.ref (s.heap.objs.size + 1)) { s with heap := h' }) :
    wpAny (model prog w) A (call (.type "enumerate") [v]) Q E s := by
  refine callType_new F.called_enumerate (by decide) (F.typeCall_enumerate_1 _) (F.newCall_enumerate_1 _) (fun obj => F.args_object_init_2 obj _) F.entry_enumerate_new
    (meets_enumB1 B) ⟨h1, ?_⟩
  have hz : (s.heap.push o).objs.size = s.heap.objs.size + 1 := Heap.size_push ..
  show _ ∧ _
  rw [hz]
  have he : IsEnum ((s.heap.push o).push { cls := .type "enumerate", data := .fields #[.none, .bool false, .ref s.heap.objs.size, rawInt 0, .none, .none] }) (s.heap.objs.size + 1) s.heap.objs.size 0 .none := by
    have := Heap.get?_push_size (s.heap.push o) (o := { cls := .type "enumerate", data := .fields #[.none, .bool false, .ref s.heap.objs.size, rawInt 0, .none, .none] }) rfl
    rw [hz] at this; exact this
  refine ⟨⟨_, he, rfl⟩, h _ he (Heap.get?_push_of_some _ (Heap.get?_push_size _ B.free)) (by rw [Heap.size_push, hz]) fun b o x => Heap.get?_push_of_some _ (Heap.get?_push_of_some _ x)⟩
end PySem
namespace Mw
open PySem PySem.Spec L2
open PyProof.Rows hiding St
def SrcAt (X : Cx) (u : Value) (J : It) (h : Heap) : Prop :=
  ∃ (o : Obj) (Hc : Heap → Prop) (f0 : List Addr) (tn : Addr → Nat → Heap → Prop), Begins u o Hc ∧ Hc h ∧ (∀ b ∈ f0, b < h.objs.size) ∧ ∀ it, it ∉ f0 → Src X.prog X.w X.K J it f0 (tn it) ∧ ∀ h', h'.get? it = some o → tn it 0 h'
def SrcD (K : PySem.W.Frag) (v : V) (J : It) (H : Hp) : Prop := (∃ a xs, v = .ref a ∧ SqL K H a xs ∧ J = JL K a) ∨ (∃ a xs, v = .ref a ∧ SqT K H a xs ∧ J = JT K a)
section
variable {X : Cx} {pins : List (Addr × Obj)} {σ : L2.St} {H : Hp} {s : Shared}
theorem SrcD.at (I : Inv X pins σ H s) {v : V} {u : Value} {J : It} (r : RelV v u) (h : SrcD X.K v J H) : SrcAt X u J s.heap := by
  rcases h with ⟨a, xs, rfl, hq, rfl⟩ | ⟨a, xs, rfl, hq, rfl⟩
  · cases r
    obtain ⟨its, rv, p, hz⟩ := I.list hq
    refine ⟨_, _, [a], fun it i h => h.IsListIter it a i, begins_list a its.toArray, p.isList, fun b hb => ?_, fun it hit => ⟨src_list a it (fun e => hit (by simp [e])), fun h' e => ⟨_, e, rfl, rfl⟩⟩⟩
    have e : b = a := by simpa using hb
    rw [e]; exact p.lt
  · cases r
    obtain ⟨its, rv, p, hz⟩ := I.tuple hq
    refine ⟨_, _, [a], fun it i h => h.IsTupleIter it a i, begins_tuple a its.toArray, show s.heap.IsTuple a its.toArray from p, fun b hb => ?_, fun it hit => ⟨src_tuple a it (fun e => hit (by simp [e])), fun h' e => ⟨_, e, rfl, rfl⟩⟩⟩
    have e : b = a := by simpa using hb
    obtain ⟨o1, ho1, _⟩ := id p
    rw [e]; exact Heap.lt_size ho1
end
def iEnumS (K : PySem.W.Frag) (ta : TA) : TI := fun σ H R => ta σ H fun vs H1 => ∃ v J, vs = [v] ∧ SrcD K v J H1 ∧ R (JE J) H1
theorem pi_enumS {X : Cx} {e : Expr} {ta : TA} {p pos tpos : Pos} {elts : List Expr} {kk : Nat} (hg : Gl X "enumerate") (hm : X.mg "enumerate" = none) (ha : PA X [e] ta) (hs : starEach [e] X.env = [(false, eval e X.env)] := by rfl) :
    PI X (.Tuple elts kk tpos) (.Call (.Name "enumerate" p) [e] [] pos) (iEnumS X.K ta) := by
  refine ⟨fun pins s σ H R I h => ?_⟩
  refine Call_ (ld_blt I hg hm boot_enumerate (PyProof.Rows.callWith_type1 (thn (ha.run pos pins s σ H _ I h) fun us s1 ⟨vs, H1, I1, r1, q1⟩ => ?_) hs rfl))
  obtain ⟨v, J, ex, hq, q⟩ := q1
  subst ex
  cases r1 with
  | cons r rr =>
    cases rr
    obtain ⟨o, Hc, f0, tn, B, hb, hlt, hS⟩ := hq.at I1 r
    refine enum_begins1 B hb fun h' he hit hsz hk => wpAny_pyIter_enum he ?_
    have I2 : Inv X pins σ H1 { s1 with heap := h' } := I1.kept (t' := s1.toks) hk
    have n1 : s1.heap.objs.size ∉ f0 := fun z => Nat.lt_irrefl _ (hlt _ z)
    have n2 : s1.heap.objs.size + 1 ∉ f0 := fun z => Nat.lt_irrefl _ (Nat.lt_of_succ_lt (hlt _ z))
    obtain ⟨S, h0⟩ := hS s1.heap.objs.size n1
    refine ⟨s1.heap.objs.size + 1, [s1.heap.objs.size + 1, s1.heap.objs.size], _, _, H1, rfl, I2, turn_enumS (s1.heap.objs.size + 1) s1.heap.objs.size S (Nat.succ_ne_self _) n2, ⟨⟨.none, he⟩, h0 _ hit⟩, fun b hb => ?_, q⟩
    have e' : b = s1.heap.objs.size + 1 ∨ b = s1.heap.objs.size := by simpa using hb
    have hle : s1.heap.objs.size ≤ b := by
      rcases e' with z | z
      · rw [z]; exact Nat.le_add_right _ _
      · rw [z]; exact Nat.le_refl _
    exact I1.fpOk hle (I1.hok.fresh hle)
def iZipS (K : PySem.W.Frag) (ta : TA) : TI := fun σ H R => ta σ H fun vs H1 => ∃ v v2 J J2, vs = [v, v2] ∧ SrcD K v J H1 ∧ SrcD K v2 J2 H1 ∧ R (JZ J J2) H1
theorem pi_zipS {X : Cx} {e e2 : Expr} {ta : TA} {p pos tpos : Pos} {elts : List Expr} {kk : Nat} (hg : Gl X "zip") (hm : X.mg "zip" = none) (ha : PA X [e, e2] ta)
    (hs : starEach [e, e2] X.env = (false, eval e X.env) :: starEach [e2] X.env := by rfl) (hpl : (backTo pos (starEach [e2] X.env)).any (·.1) = false := by rfl) :
    PI X (.Tuple elts kk tpos) (.Call (.Name "zip" p) [e, e2] [] pos) (iZipS X.K ta) := by
  refine ⟨fun pins s σ H R I h => ?_⟩
  refine Call_ (ld_blt I hg hm PyProof.Rows.boot_zip (PyProof.Rows.callWith_type1 (thn (ha.run pos pins s σ H _ I h) fun us s1 ⟨vs, H1, I1, r1, q1⟩ => ?_) hs hpl))
  obtain ⟨v, v2, J, J2, ex, hq, hq2, q⟩ := q1
  subst ex
  cases r1 with
  | cons r rr =>
    cases rr with
    | cons r' rr =>
      cases rr
      obtain ⟨o, Hc, f0, tn, B, hb, hlt, hS⟩ := hq.at I1 r
      obtain ⟨o2, Hc2, f2, tn2, B2, hb2, hlt2, hS2⟩ := hq2.at I1 r'
      have fresh5 : ∀ c, c ∈ [s1.heap.objs.size + 4, s1.heap.objs.size + 2, s1.heap.objs.size + 3, s1.heap.objs.size, s1.heap.objs.size + 1] → FpOk X pins H1 c := fun c hcm => by
        have e' : c = s1.heap.objs.size + 4 ∨ c = s1.heap.objs.size + 2 ∨ c = s1.heap.objs.size + 3 ∨ c = s1.heap.objs.size ∨ c = s1.heap.objs.size + 1 := by simpa using hcm
        have hle : s1.heap.objs.size ≤ c := by
          rcases e' with z | z | z | z | z
          · rw [z]; exact Nat.le_add_right _ _
          · rw [z]; exact Nat.le_add_right _ _
          · rw [z]; exact Nat.le_add_right _ _
          · rw [z]; exact Nat.le_refl _
          · rw [z]; exact Nat.le_add_right _ _
        exact I1.fpOk hle (I1.hok.fresh hle)
      have n1 : s1.heap.objs.size ∉ f0 := fun z => Nat.lt_irrefl _ (hlt _ z)
      have n2 : s1.heap.objs.size + 1 ∉ f2 := fun z => Nat.lt_irrefl _ (Nat.lt_of_succ_lt (hlt2 _ z))
      obtain ⟨S, h0⟩ := hS s1.heap.objs.size n1
      obtain ⟨S2, h02⟩ := hS2 (s1.heap.objs.size + 1) n2
      refine zip_begins2 B B2 hb hb2 fun h' hz hTI hTO h1 h2 hsz hk => wpAny_pyIter_zip hz ?_
      have I2 : Inv X pins σ H1 { s1 with heap := h' } := I1.kept (t' := s1.toks) hk
      exact ⟨s1.heap.objs.size + 4, [s1.heap.objs.size + 4, s1.heap.objs.size + 2, s1.heap.objs.size + 3, s1.heap.objs.size, s1.heap.objs.size + 1], _, _, H1, rfl, I2, turn_zipS (zip_sep2 hlt hlt2) S S2, ⟨hz, hTI, ⟨_, _, hTO⟩, h0 _ h1, h02 _ h2⟩, fresh5, q⟩
/-! ### over plain data -/
def enumL (ds : List D) : List D := ds.mapIdx fun i d => .tup [.int (i : Nat), d]
def zipL (ds es : List D) : List D := List.zipWith (fun a b => .tup [a, b]) ds es
def enum1 : List D → Option (List D)
  | [d] => (itemsD d).map enumL
  | _ => none
def zip2 : List D → Option (List D)
  | [d, e] => (itemsD d).bind fun ds => (itemsD e).map fun es => zipL ds es
  | _ => none
section
variable {K : PySem.W.Frag} {H0 : Hp}
theorem gives_src {d : D} {ds : List D} {v : V} {G : Fp} (r : Rep K H0 d v G) (e : itemsD d = some ds) : ∃ J, SrcD K v J H0 ∧ Gives K J ds H0 G ∧ ∀ i H x H', J.yld i H x H' → H' = H := by
  cases d with
  | lst es =>
    cases e
    obtain ⟨a, us, G', rfl, rfl, s1, l1⟩ := lst_inv r
    exact ⟨JL K a, .inl ⟨a, us, rfl, SqL.of s1, rfl⟩, ⟨(gives_lst s1 l1).go, fun H k => ⟨us, SqL.of (k.at_ a List.mem_cons_self _ s1), l1.length⟩, (gives_lst s1 l1).yld⟩, fun i H x H' y => y.1⟩
  | scr es =>
    cases e
    obtain ⟨a, us, rfl, s1, l1⟩ := scr_inv r
    exact ⟨JL K a, .inl ⟨a, us, rfl, s1.sqL, rfl⟩, ⟨(gives_scr s1 l1).go, fun H k => ⟨us, (k.stat s1).sqL, l1.length⟩, (gives_scr s1 l1).yld⟩, fun i H x H' y => y.1⟩
  | tup es =>
    cases e
    obtain ⟨a, us, rfl, s1, l1⟩ := tup_inv r
    exact ⟨JT K a, .inr ⟨a, us, rfl, s1, rfl⟩, ⟨(gives_tup s1 l1).go, fun H k => ⟨us, k.sqT s1, l1.length⟩, (gives_tup s1 l1).yld⟩, fun i H x H' y => y.1⟩
  | _ => simp [itemsD] at e
theorem gives_enum {J : It} {ds : List D} {G : Fp} (g : Gives K J ds H0 G) : Gives K (JE J) (enumL ds) H0 G := by
  have hl : (enumL ds).length = ds.length := by simp [enumL]
  refine ⟨fun i H k hi => g.go i H k (by rw [← hl]; exact hi), fun H k => by rw [hl]; exact g.stop H k, fun i H x H' k hi y => ?_⟩
  rw [hl] at hi
  obtain ⟨T, x0, rfl, hT, rfl, y0⟩ := y
  obtain ⟨_, d, G', e1, r1, sub⟩ := g.yld i H x0 H k hi y0
  have sm : Same H (upd H T (.tup [.int (i : Nat), x0])) := same_upd hT
  refine ⟨sm, .tup [.int (i : Nat), d], G', by simp [enumL, e1], ?_, sub⟩
  have r2 : RepL K (upd H T (.tup [.int (i : Nat), x0])) [.int (i : Nat), d] [.int (i : Nat), x0] ([] ++ (G' ++ [])) := RepL.cons rep_int (RepL.cons (Rep.keep _ _ _ r1 (Same.keeps sm)) RepL.nil)
  rw [List.append_nil, List.nil_append] at r2
  exact rep_tup (SqT.of upd_same) r2
theorem gives_zip {J J2 : It} {ds es : List D} {G G2 : Fp} (g : Gives K J ds H0 G) (g2 : Gives K J2 es H0 G2) : Gives K (JZ J J2) (zipL ds es) H0 (G ++ G2) := by
  have hl : (zipL ds es).length = min ds.length es.length := by simp [zipL]
  refine ⟨fun i H k hi => ?_, fun H k => ?_, fun i H x H' k hi y => ?_⟩
  · rw [hl] at hi
    exact ⟨g.go i H k.l (by omega), g2.go i H k.r (by omega)⟩
  · rw [hl]
    by_cases h : ds.length ≤ es.length
    · rw [Nat.min_eq_left h]
      refine .inl ⟨g.stop H k.l, ?_⟩
      by_cases h2 : ds.length = es.length
      · rw [h2]; exact .inr (g2.stop H k.r)
      · exact .inl (g2.go _ H k.r (by omega))
    · rw [Nat.min_eq_right (by omega)]
      exact .inr ⟨g.go _ H k.l (by omega), g2.stop H k.r⟩
  · rw [hl] at hi
    obtain ⟨T, x0, x1, rfl, hT, rfl, y0, y1⟩ := y
    obtain ⟨_, d, G', e1, r1, sub⟩ := g.yld i H x0 H k.l (by omega) y0
    obtain ⟨_, d2, G2', e2, r2, sub2⟩ := g2.yld i H x1 H k.r (by omega) y1
    have sm : Same H (upd H T (.tup [x0, x1])) := same_upd hT
    refine ⟨sm, .tup [d, d2], G' ++ G2', by simp [zipL, List.getElem?_zipWith, e1, e2], ?_, fun b hb => ?_⟩
    · have r3 : RepL K (upd H T (.tup [x0, x1])) [d, d2] [x0, x1] (G' ++ (G2' ++ [])) := RepL.cons (Rep.keep _ _ _ r1 (Same.keeps sm)) (RepL.cons (Rep.keep _ _ _ r2 (Same.keeps sm)) RepL.nil)
      rw [List.append_nil] at r3
      exact rep_tup (SqT.of upd_same) r3
    · rcases List.mem_append.mp hb with h | h
      · exact List.mem_append_left _ (sub b h)
      · exact List.mem_append_right _ (sub2 b h)
end
section
variable {X : Cx} {c : Cfg} {e e2 : Expr} {ws rs : List Nat} {fr : Bool} {fl : M (List D)} {elts : List Expr} {kk : Nat} {tpos p pos : Pos}
theorem i_enum (hg : Gl X "enumerate") (hm : X.mg "enumerate" = none) (ha : PAv X c [e] ws rs fr fl) (hs : starEach [e] X.env = [(false, eval e X.env)] := by rfl) : PIv X c (.Tuple elts kk tpos) (.Call (.Name "enumerate" p) [e] [] pos) ws rs (iRng enum1 fl) := by
  refine PI.imp (pi_enumS hg hm ha hs) fun σ H R q => ?_
  obtain ⟨Z, ρ, F, S, p⟩ := q
  refine ⟨Z, ρ, F, S, ?_⟩
  unfold iRng M.bind at p
  cases ef : fl ρ with
  | stuck => rw [ef] at p; exact p.elim
  | err x ρ1 => rw [ef] at p; exact p
  | ok ds ρ1 =>
    rw [ef] at p
    simp only [] at p
    intro vs H1 F1 G st S1 r O
    cases eg : enum1 ds with
    | none => rw [eg] at p; exact p.elim
    | some dd =>
      rw [eg] at p
      unfold enum1 at eg
      split at eg
      · rename_i d
        simp only [Option.map_eq_some_iff] at eg
        obtain ⟨es, ei, rfl⟩ := eg
        simp only [RepL] at r
        obtain ⟨v, r', G1, G2, rfl, rfl, h1, rfl, rfl⟩ := r
        rw [List.append_nil] at O
        obtain ⟨J, hs, gv, _⟩ := gives_src h1 ei
        exact ⟨v, J, rfl, hs, p _ H1 F1 G1 st S1 (gives_enum gv) (Rep.isM _ _ _ h1) (own_gg O fun _ h => h)⟩
      · cases eg
theorem i_zip (hg : Gl X "zip") (hm : X.mg "zip" = none) (ha : PAv X c [e, e2] ws rs fr fl) (hs : starEach [e, e2] X.env = (false, eval e X.env) :: starEach [e2] X.env := by rfl) (hpl : (backTo pos (starEach [e2] X.env)).any (·.1) = false := by rfl) :
    PIv X c (.Tuple elts kk tpos) (.Call (.Name "zip" p) [e, e2] [] pos) ws rs (iRng zip2 fl) := by
  refine PI.imp (pi_zipS hg hm ha hs hpl) fun σ H R q => ?_
  obtain ⟨Z, ρ, F, S, p⟩ := q
  refine ⟨Z, ρ, F, S, ?_⟩
  unfold iRng M.bind at p
  cases ef : fl ρ with
  | stuck => rw [ef] at p; exact p.elim
  | err x ρ1 => rw [ef] at p; exact p
  | ok ds ρ1 =>
    rw [ef] at p
    simp only [] at p
    intro vs H1 F1 G st S1 r O
    cases eg : zip2 ds with
    | none => rw [eg] at p; exact p.elim
    | some dd =>
      rw [eg] at p
      unfold zip2 at eg
      split at eg
      · rename_i d d2
        simp only [Option.bind_eq_some_iff, Option.map_eq_some_iff] at eg
        obtain ⟨es, ei, es2, ei2, rfl⟩ := eg
        simp only [RepL] at r
        obtain ⟨v, r', G1, G2', rfl, rfl, h1, w, r2, G2, G3, rfl, rfl, h2, rfl, rfl⟩ := r
        rw [List.append_nil] at O
        obtain ⟨J, hs, gv, _⟩ := gives_src h1 ei
        obtain ⟨J2, hs2, gv2, _⟩ := gives_src h2 ei2
        exact ⟨v, w, J, J2, rfl, hs, hs2, p _ H1 F1 (G1 ++ G2) st S1 (gives_zip gv gv2) (fun b hb => (List.mem_append.mp hb).elim (Rep.isM _ _ _ h1 b) (Rep.isM _ _ _ h2 b)) (own_gg O fun _ h => h)⟩
      · cases eg
end
end Mw

namespace Mw
open PySem PySem.Spec L2
open PyProof.Rows hiding St

/-! ### i += j, i -= j -/
def addI : D → D → Option D
  | .int i, .int j => some (.int (i + j))
  | _, _ => none
def subI : D → D → Option D
  | .int i, .int j => some (.int (i - j))
  | _, _ => none
section
variable {X : Cx}
theorem ip_addI : PIp X .Add (rD X.K addI) := fun pins s σ H x y v u Q I rx ry h => iop_add pins s σ H x y v u Q I rx ry (rI_0 (rD_int (C := fun _ _ => True) (gd := fun i j => .int (i + j)) (fun d e r eg => by
  unfold addI at eg
  split at eg
  · cases eg; exact ⟨_, _, rfl, rfl, trivial, rfl⟩
  · cases eg) (fun _ _ _ _ => rep_int) x y H Q h))
theorem ip_subI : PIp X .Sub (rD X.K subI) := fun pins s σ H x y v u Q I rx ry h => iop_sub pins s σ H x y v u Q I rx ry (rI_0 (rD_int (C := fun _ _ => True) (gd := fun i j => .int (i - j)) (fun d e r eg => by
  unfold subI at eg
  split at eg
  · cases eg; exact ⟨_, _, rfl, rfl, trivial, rfl⟩
  · cases eg) (fun _ _ _ _ => rep_int) x y H Q h))
end
/-! ### (..)[::-1] -/
section
variable {prog : Program} {w : World} {A : Around} {E : Value → Shared → Prop} {s : Shared}
theorem adjust_rev (n : Nat) : Builtin.Slice.sliceAdjust none none (-1) (n : Int) = ((n : Int) - 1, -1) := by
  unfold Builtin.Slice.sliceAdjust
  simp
theorem places_rev (n : Nat) : Builtin.Slice.slicePlaces ((n : Int) - 1) (-1) (-1) = n := by
  unfold Builtin.Slice.slicePlaces
  simp
  omega
theorem sliceApplied_rev {sl : Addr} {vl vu vs : Value} {n : Nat} {Q : Int × Int × Nat → Shared → Prop} (hs : s.heap.IsSliceOf sl vl vu vs) (pl : IsPart vl none) (pu : IsPart vu none) (ps : IsPart vs (some (-1)))
    (h : Q ((n : Int) - 1, -1, n) s) : wpAny (model prog w) A (Builtin.Slice.sliceApplied (.ref sl) (pure (n : Int))) Q E s := by
  obtain ⟨os, hos, hcs, hds⟩ := id hs
  unfold Builtin.Slice.sliceApplied Builtin.Slice.sliceFields
  refine wpAny_bind (wpAny_bind (wpAny_field hos hds (x := vl) rfl (wpAny_bind (wpAny_field hos hds (x := vu) rfl (wpAny_bind (wpAny_field hos hds (x := vs) rfl (wpAny_pure ?_)))))))
  refine wpAny_bind (HT.slicePart_ ps ?_)
  show wpAny _ _ (if ((-1 : Int) == 0) = true then _ else _) _ _ s
  rw [if_neg (by decide)]
  refine wpAny_bind (HT.slicePart_ pl (wpAny_bind (HT.slicePart_ pu (wpAny_bind (wpAny_pure ?_)))))
  show wpAny _ _ (match Builtin.Slice.sliceAdjust none none (-1) (n : Int) with | (lo, hi) => pure (lo, (-1 : Int), Builtin.Slice.slicePlaces lo hi (-1))) _ _ s
  rw [adjust_rev n]
  show wpAny _ _ (pure ((n : Int) - 1, (-1 : Int), Builtin.Slice.slicePlaces ((n : Int) - 1) (-1) (-1))) _ _ s
  rw [places_rev]
  exact wpAny_pure h
theorem pick_rev (xs : Array Value) : ((List.range xs.size).filterMap fun (m : Nat) => xs[(((xs.size : Int) - 1) + (m : Int) * (-1)).toNat]?).toArray = xs.toList.reverse.toArray := by
  have e : (List.range xs.size).filterMap (fun (m : Nat) => xs[(((xs.size : Int) - 1) + (m : Int) * (-1)).toNat]?) = ((List.range xs.size).map (fun k => xs.size - 1 - k)).filterMap (xs[·]?) := by
    have e0 : (List.range xs.size).map (fun (m : Nat) => (((xs.size : Int) - 1) + (m : Int) * (-1)).toNat) = (List.range xs.size).map (fun k => xs.size - 1 - k) := by
      apply List.map_congr_left
      intro m hm
      have := List.mem_range.mp hm
      omega
    rw [← e0, List.filterMap_map]
    rfl
  rw [e, PySem.W.krv_range, List.filterMap_reverse, PySem.W.krv_all]
theorem getItem_tuple_rev {t sl : Addr} {items : Array Value} {vl vu vs : Value} {Q : Value → Shared → Prop} (ht : IsTup s.heap t items) (hs : s.heap.IsSliceOf sl vl vu vs) (pl : IsPart vl none) (pu : IsPart vu none) (ps : IsPart vs (some (-1)))
    (h : Q (.ref s.heap.objs.size) { s with heap := s.heap.push { cls := .type "tuple", data := .seq items.toList.reverse.toArray } })
    (hsz : items.size ≤ sizeLine) : wpAny (model prog w) A (getItem (.ref t) (.ref sl)) Q E s := by
  have htake : sizeOk (.seq items.toList.reverse.toArray) := by
    show (items.toList.reverse.toArray).size ≤ sizeLine
    rw [List.size_toArray, List.length_reverse, Array.length_toList]
    exact hsz
  obtain ⟨os, hos, hcs, hds⟩ := id hs
  have hTs : s.TypeIs (.ref sl) "slice" := ⟨os, hos, hcs⟩
  unfold getItem
  try with_reducible refine wpAny_holding ?_
  first | refine wpAny_bind (wpAny_pure ?_) | skip
  refine wpAny_bind (wpAny_sequenceKey ht.typeIs (by decide) ?_)
  refine wpAny_bind (wpAny_callSpecial?_slot (name := Str.ofString "__getitem__") ht.typeIs PyProof.Rows.slot_tuple_getitem
    (wpAny_call_entry PyProof.Rows.slot_tuple_getitem ht.typeIs entry_tuple_getitem ?_ (args_tuple_getitem _ _)))
  show wpAny _ _ (Builtin.Tuple.tupleItemsOf (.ref t) >>= _) _ _ s
  refine wpAny_bind (tupleItemsOf_ ht ?_)
  refine wpAny_bind (wpAny_typeOf hTs ?_)
  rw [if_pos (by decide)]
  refine wpAny_bind (sliceApplied_rev hs pl pu ps ?_)
  have hno : ¬ ((((items.size : Int) - 1 == 0 && (-1 : Int) == 1 && items.size == items.size)) = true) := by
    intro q
    rw [Bool.and_eq_true, Bool.and_eq_true] at q
    exact absurd q.1.2 (by decide)
  show wpAny _ _ (if ((items.size : Int) - 1 == 0 && (-1 : Int) == 1 && items.size == items.size) = true then _ else _) _ _ s
  rw [if_neg hno, pick_rev]
  first
    | exact wpAny_bind (m := Builtin.Tuple.tupleExact _) (wpAny_newObj_type (wpAny_pure ⟨_, rfl, wpAny_pure h⟩) htake)
    | exact wpAny_bind (m := Builtin.Tuple.tupleExact _) (wpAny_newObj_type (wpAny_bind (wpAny_pure (wpAny_pure ⟨_, rfl, wpAny_pure h⟩))) htake)
    | exact wpAny_bind (wpAny_bind (m := Builtin.Tuple.tupleExact _) (wpAny_newObj_type (wpAny_pure (wpAny_pure ⟨_, rfl, wpAny_pure h⟩)) htake))
    | exact wpAny_bind (wpAny_bind (m := Builtin.Tuple.tupleExact _) (wpAny_newObj_type (wpAny_pure ⟨_, rfl, wpAny_pure h⟩) htake))
end
section
variable {X : Cx}
def tRevT (K : PySem.W.Frag) (te : TE) : TE := fun σ H Q => te σ H fun x H1 => ∃ a xs, x = .ref a ∧ SqT K H1 a xs ∧ ∀ p, H1 p = none → Q (.ref p) (upd H1 p (.tup xs.reverse))
theorem pe_revT {e : Expr} {te : TE} {k : Nat} {p1 p2 p3 pos : Pos} (he : PE X e te) : PE X (.Subscript e (.Slice none none (some (.UnaryOp .USub (.Constant (.int 1) k p1) p2)) p3) pos) (tRevT X.K te) := by
  refine ⟨fun pins s σ H Q I h => ?_⟩
  refine Subscript_ (thn (he.run pins s σ H _ I h) fun v s1 ⟨x, H1, I1, r1, q1⟩ => ?_)
  obtain ⟨a, xs, ex, hx, q⟩ := q1
  subst ex
  cases r1
  have hst : PO X (some (.UnaryOp .USub (.Constant (.int 1) k p1) p2)) (tPart (tUn (rU fun i => .int (-i)) (tC (.int 1)))) := po_some (pe_un un_neg pe_int)
  refine wpAny_Slice (thn (po_none.run pins s1 σ H1 (fun o H2 => o = none ∧ H2 = H1) I1 ⟨rfl, rfl⟩) fun vl s2 ⟨l, H2, I2, pl, el, e2⟩ => ?_)
  subst el e2
  refine thn (po_none.run pins s2 σ H2 (fun o H3 => o = none ∧ H3 = H2) I2 ⟨rfl, rfl⟩) fun vu s3 ⟨u, H3, I3, pu, eu, e3⟩ => ?_
  subst eu e3
  refine thn (hst.run pins s3 σ H3 (fun o H4 => o = some (-1) ∧ H4 = H3) I3 ⟨1, rfl, -1, rfl, rfl, rfl⟩) fun vs s4 ⟨o, H4, I4, ps, eo, e4⟩ => ?_
  subst eo e4
  have I5 : Inv X pins σ H4 { s4 with heap := s4.heap.push { cls := .type "slice", data := .fields #[vl, vu, vs] } } := I4.kept (t' := s4.toks) fun b ob q => Heap.get?_push_of_some _ q
  obtain ⟨its, r, ht, hz⟩ := I5.tuple hx
  have hlen := r.length
  show wpAny (model X.prog X.w) X.A (subscriptTail e (.Slice none none (some (.UnaryOp .USub (.Constant (.int 1) k p1) p2)) p3) (.ref a) (.ref s4.heap.objs.size)) (EP X pins σ Q) X.xe { s4 with heap := s4.heap.push { cls := .type "slice", data := .fields #[vl, vu, vs] } }
  refine tail_any (ops := [.ref a, .ref s4.heap.objs.size]) ht.typeIs (PyProof.Rows.slot_tuple_getitem.lookup) ?_ (by with_unfolding_all rfl)
  refine getItem_tuple_rev ht (Heap.IsSliceOf.new _ vl vu vs) pl pu ps ?_ (by rw [List.size_toArray]; omega)
  refine ⟨.ref _, _, I5.laid (t' := s4.toks) (o := .tup xs.reverse) (fun b ob q => Heap.get?_push_of_some _ q) (Nat.le_refl _) ?_, rfl, q _ (I5.hok.fresh (Nat.le_refl _))⟩
  exact ⟨by rw [List.length_reverse]; exact hz, _, r.reverse, ⟨_, Heap.get?_push_size _ rfl, rfl, _, rfl⟩⟩
def revT : D → Option D
  | .lst ds => if D.imms ds then some (.lst ds.reverse) else none
  | .scr ds => if D.imms ds then some (.lst ds.reverse) else none
  | .tup ds => if D.imms ds then some (.tup ds.reverse) else none
  | _ => none
variable {c : Cfg} {a : Expr} {pos : Pos} {wa ra : List Nat} {ba : Bool} {f : M D}
theorem tG_ext {α β : Type} {rep : Hp → α → β → Fp → Prop} {K : PySem.W.Frag} {c : Cfg} {ws rs : List Nat} {fr : Bool} {f g : M α} {σ : L2.St} {H : Hp} {Q : β → Hp → Prop} {Z : Hp} {ρ : Env} {F : Nat → Fp} (S : Sim K c Z ρ σ H F) (e : f ρ = g ρ) (p : Post rep K c ws rs fr Z σ H F Q (f ρ)) : tG rep K c ws rs fr g σ H Q := ⟨Z, ρ, F, S, by rw [← e]; exact p⟩
theorem v_rv {k : Nat} {p1 p2 p3 : Pos} (he : PEv X c a wa ra ba f) : PEv X c (.Subscript a (.Slice none none (some (.UnaryOp .USub (.Constant (.int 1) k p1) p2)) p3) pos) wa [] true (eUn revT f) := by
  refine ⟨fun pins s σ H Q I q => ?_⟩
  obtain ⟨Z, ρ, F, S, p⟩ := q
  have keep := p
  unfold eUn M.bind at p
  cases ef : f ρ with
  | stuck => rw [ef] at p; exact p.elim
  | err x ρ1 =>
    refine (v_rev he).run pins s σ H Q I ⟨Z, ρ, F, S, ?_⟩
    unfold eUn M.bind
    rw [ef] at p ⊢
    exact p
  | ok d ρ1 =>
    rw [ef] at p
    cases d with
    | tup ds =>
      refine (pe_revT he).run pins s σ H Q I ?_
      refine ⟨Z, ρ, F, S, ?_⟩
      rw [ef]
      intro v H1 F1 G st S1 r O
      have p1 : Post (Rep X.K) X.K c [] [] true Z σ H1 F1 Q (M.opt (revT (.tup ds)) ρ1) := Post.shift p st (fun _ h => h) (fun _ h => nomatch h)
      obtain ⟨r', e, p3⟩ := p1.opt
      simp only [revT] at e
      split at e
      · rename_i im
        cases e
        obtain ⟨a, us, rfl, s1, lr⟩ := tup_inv r
        refine ⟨a, us, rfl, s1, fun q hq => ?_⟩
        have sm := same_upd (o := .tup us.reverse) hq
        exact Post.fin S1 p3 sm (rep_tup (SqT.of upd_same) (RepL.keep _ _ _ (RepL.rev0 (imms_of lr im)) (Same.keeps sm))) nd0 new0
      · cases e
    | _ =>
      refine (v_rev he).run pins s σ H Q I ⟨Z, ρ, F, S, ?_⟩
      unfold eUn M.bind
      rw [ef]
      exact p
end
end Mw

namespace Mw
open PySem PySem.Spec L2
open PyProof.Rows hiding St

/-! ### min and max of data -/
def rPickDt (K : PySem.W.Frag) (g : PyData → List PyData → PyData) : List V → Hp → VK → Prop := fun vs H Q => ∃ (a : Addr) (xs : List V) (p : PyData) (ps : List PyData), vs = [V.ref a] ∧ (SqL K H a xs ∨ SqT K H a xs) ∧ DpAll K H xs (p :: ps) ∧ PySem.W.AlikeAll (p :: ps) ∧ PyData.depthAll (p :: ps) ≤ 60 ∧
  ∀ (i : Nat) (x : V), xs[i]? = some x → (p :: ps)[i]? = some (g p ps) → Q x H
section
variable {K : PySem.W.Frag} {H : Hp}
theorem DpAll.length : ∀ {xs : List V} {ps : List PyData}, DpAll K H xs ps → xs.length = ps.length
  | _, _, .nil => rfl
  | _, _, .cons _ r => by simp [DpAll.length r]
theorem DpAll.get : ∀ {xs : List V} {ps : List PyData}, DpAll K H xs ps → ∀ {i : Nat} {x : V}, xs[i]? = some x → ∃ p, ps[i]? = some p ∧ Dp K H x p
  | _, _, .nil, _, _, e => by simp at e
  | _, _, .cons h r, 0, _, e => by
    simp only [List.getElem?_cons_zero, Option.some.injEq] at e
    subst e
    exact ⟨_, rfl, h⟩
  | _, _, .cons h r, i + 1, _, e => by
    obtain ⟨p, e1, h1⟩ := DpAll.get r (i := i) (by simpa using e)
    exact ⟨p, by simpa using e1, h1⟩
end
section
variable {X : Cx}
theorem cr_minDt (hc : X.calm = true) (hu : X.A.units + 64 < cLine) : CallR X (.builtin "min") (rPickDt X.K PySem.W.minD) := by
  intro pins s σ H vs us Q I r h
  obtain ⟨a, xs, p, ps, rfl, hs, hd, ha, hdp, q⟩ := h
  have fin : ∀ (its : List Value), Vals xs its → ∀ (i : Nat) v h' tk bs, its.toArray[i]? = some v → Reads h' v (PySem.W.minD p ps) bs → (∀ b o, s.heap.get? b = some o → h'.get? b = some o) → EP X pins σ Q v { s with heap := h', toks := tk } := fun its rv i v h' tk bs hv hrd hk => by
    have hv' : its[i]? = some v := by simpa using hv
    have hi : i < xs.length := by rw [rv.length]; exact (List.getElem?_eq_some_iff.mp hv').1
    have hx : xs[i]? = some xs[i] := List.getElem?_eq_getElem hi
    obtain ⟨u, hu', ru⟩ := rv.get hx
    have e0 : u = v := by rw [hv'] at hu'; exact (Option.some.inj hu').symm
    subst e0
    obtain ⟨p', e1, d1⟩ := Mw.DpAll.get hd hx
    have I1 : Inv X pins σ H { s with heap := h', toks := tk } := I.kept hk
    obtain ⟨as', r1⟩ := Dp.reads I1 p' _ _ d1 ru
    have e2 := (Reads.unique r1 _ _ hrd).1
    exact ⟨xs[i], H, I1, ru, q i _ hx (by rw [← e2]; exact e1)⟩
  rw [Vals.ref1 r]
  rcases hs with hs | hs
  · obtain ⟨its, rv, hl, _⟩ := I.list hs
    obtain ⟨as, hr⟩ := Dp.readsAll I (p :: ps) xs its hd rv
    exact PySem.W.min_list_data (I.ok.hd hc) hl.isList (by simpa using hr) ha (by omega) (fin its rv)
  · obtain ⟨its, rv, hl, _⟩ := I.tuple hs
    obtain ⟨as, hr⟩ := Dp.readsAll I (p :: ps) xs its hd rv
    exact PySem.W.min_tuple_data (I.ok.hd hc) (show s.heap.IsTuple a its.toArray from hl) (by simpa using hr) ha (by omega) (fin its rv)
theorem cr_maxDt (hc : X.calm = true) (hu : X.A.units + 64 < cLine) : CallR X (.builtin "max") (rPickDt X.K PySem.W.maxD) := by
  intro pins s σ H vs us Q I r h
  obtain ⟨a, xs, p, ps, rfl, hs, hd, ha, hdp, q⟩ := h
  have fin : ∀ (its : List Value), Vals xs its → ∀ (i : Nat) v h' tk bs, its.toArray[i]? = some v → Reads h' v (PySem.W.maxD p ps) bs → (∀ b o, s.heap.get? b = some o → h'.get? b = some o) → EP X pins σ Q v { s with heap := h', toks := tk } := fun its rv i v h' tk bs hv hrd hk => by
    have hv' : its[i]? = some v := by simpa using hv
    have hi : i < xs.length := by rw [rv.length]; exact (List.getElem?_eq_some_iff.mp hv').1
    have hx : xs[i]? = some xs[i] := List.getElem?_eq_getElem hi
    obtain ⟨u, hu', ru⟩ := rv.get hx
    have e0 : u = v := by rw [hv'] at hu'; exact (Option.some.inj hu').symm
    subst e0
    obtain ⟨p', e1, d1⟩ := Mw.DpAll.get hd hx
    have I1 : Inv X pins σ H { s with heap := h', toks := tk } := I.kept hk
    obtain ⟨as', r1⟩ := Dp.reads I1 p' _ _ d1 ru
    have e2 := (Reads.unique r1 _ _ hrd).1
    exact ⟨xs[i], H, I1, ru, q i _ hx (by rw [← e2]; exact e1)⟩
  rw [Vals.ref1 r]
  rcases hs with hs | hs
  · obtain ⟨its, rv, hl, _⟩ := I.list hs
    obtain ⟨as, hr⟩ := Dp.readsAll I (p :: ps) xs its hd rv
    exact PySem.W.max_list_data (I.ok.hd hc) hl.isList (by simpa using hr) ha (by omega) (fin its rv)
  · obtain ⟨its, rv, hl, _⟩ := I.tuple hs
    obtain ⟨as, hr⟩ := Dp.readsAll I (p :: ps) xs its hd rv
    exact PySem.W.max_tuple_data (I.ok.hd hc) (show s.heap.IsTuple a its.toArray from hl) (by simpa using hr) ha (by omega) (fin its rv)
end
/-! ### back from the library's data -/
mutual
def ofPy : PyData → Option D
  | .none => some .non
  | .bool b => some (.bl b)
  | .int i => some (.int i)
  | .str s => some (.str s)
  | .tuple xs => (ofPys xs).map .tup
  | .list _ => none
  | .dict _ => none
def ofPys : List PyData → Option (List D)
  | [] => some []
  | p :: r => match ofPy p, ofPys r with
    | some d, some ds => some (d :: ds)
    | _, _ => none
end
mutual
theorem ofPy_eq : ∀ (d : D) (p : PyData) (e : D), toPy d = some p → ofPy p = some e → e = d
  | .non, p, e, h, h2 => by simp only [toPy] at h; cases h; simp only [ofPy] at h2; exact (Option.some.inj h2).symm
  | .bl b, p, e, h, h2 => by simp only [toPy] at h; cases h; simp only [ofPy] at h2; exact (Option.some.inj h2).symm
  | .int b, p, e, h, h2 => by simp only [toPy] at h; cases h; simp only [ofPy] at h2; exact (Option.some.inj h2).symm
  | .str b, p, e, h, h2 => by simp only [toPy] at h; cases h; simp only [ofPy] at h2; exact (Option.some.inj h2).symm
  | .ref b, p, e, h, h2 => by simp [toPy] at h
  | .dic b, p, e, h, h2 => by simp [toPy] at h
  | .lst b, p, e, h, h2 => by
    simp only [toPy, Option.map_eq_some_iff] at h
    obtain ⟨ps, _, rfl⟩ := h
    simp [ofPy] at h2
  | .scr b, p, e, h, h2 => by
    simp only [toPy, Option.map_eq_some_iff] at h
    obtain ⟨ps, _, rfl⟩ := h
    simp [ofPy] at h2
  | .tup b, p, e, h, h2 => by
    simp only [toPy, Option.map_eq_some_iff] at h
    obtain ⟨ps, h, rfl⟩ := h
    simp only [ofPy, Option.map_eq_some_iff] at h2
    obtain ⟨ds, h2, rfl⟩ := h2
    rw [ofPys_eq b ps ds h h2]
theorem ofPys_eq : ∀ (d : List D) (p : List PyData) (e : List D), toPys d = some p → ofPys p = some e → e = d
  | [], p, e, h, h2 => by simp only [toPys] at h; cases h; simp only [ofPys] at h2; exact (Option.some.inj h2).symm
  | d :: ds, p, e, h, h2 => by
    simp only [toPys] at h
    split at h
    · rename_i p1 p2 e1 e2
      cases h
      simp only [ofPys] at h2
      split at h2
      · rename_i d1 d2 g1 g2
        cases h2
        rw [ofPy_eq d p1 d1 e1 g1, ofPys_eq ds p2 d2 e2 g2]
      · cases h2
    · cases h
end
mutual
theorem ofPy_imm : ∀ (p : PyData) (e : D), ofPy p = some e → e.imm = true
  | .none, e, h => by simp only [ofPy] at h; cases h; rfl
  | .bool b, e, h => by simp only [ofPy] at h; cases h; rfl
  | .int b, e, h => by simp only [ofPy] at h; cases h; rfl
  | .str b, e, h => by simp only [ofPy] at h; cases h; rfl
  | .list b, e, h => by simp [ofPy] at h
  | .dict b, e, h => by simp [ofPy] at h
  | .tuple xs, e, h => by
    simp only [ofPy, Option.map_eq_some_iff] at h
    obtain ⟨ds, h, rfl⟩ := h
    simp only [D.imm]
    exact ofPys_imm xs ds h
theorem ofPys_imm : ∀ (p : List PyData) (e : List D), ofPys p = some e → D.imms e = true
  | [], e, h => by simp only [ofPys] at h; cases h; rfl
  | p :: r, e, h => by
    simp only [ofPys] at h
    split at h
    · rename_i d ds e1 e2
      cases h
      simp only [D.imms, Bool.and_eq_true]
      exact ⟨ofPy_imm p d e1, ofPys_imm r ds e2⟩
    · cases h
end
def alikeB (ps : List PyData) : Bool := ps.all (fun x => ps.all fun y => PySem.W.alike x y) && ps.all fun x => match x with
  | .none => false
  | _ => true
theorem alikeB_of {ps : List PyData} (h : alikeB ps = true) : PySem.W.AlikeAll ps := by
  unfold alikeB at h
  rw [Bool.and_eq_true, List.all_eq_true, List.all_eq_true] at h
  refine ⟨fun x hx y hy => List.all_eq_true.mp (h.1 x hx) y hy, fun x hx e => ?_⟩
  have := h.2 x hx
  rw [e] at this
  cases this
def datPick (g : PyData → List PyData → PyData) (ds : List D) : Option D := match toPys ds with
  | some (p :: ps) => if alikeB (p :: ps) && decide (PyData.depthAll (p :: ps) ≤ 60) then ofPy (g p ps) else none
  | _ => none
def minX (ds : List D) : Option D := match minD ds with
  | some r => some r
  | none => match ds with
    | [d] => (itemsD d).bind (datPick PySem.W.minD)
    | _ => none
def maxX (ds : List D) : Option D := match maxD ds with
  | some r => some r
  | none => match ds with
    | [d] => (itemsD d).bind (datPick PySem.W.maxD)
    | _ => none
section
variable {K : PySem.W.Frag} {H : Hp}
theorem toPys_get : ∀ {ds : List D} {ps : List PyData} {i : Nat} {p : PyData}, toPys ds = some ps → ps[i]? = some p → ∃ d, ds[i]? = some d ∧ toPy d = some p
  | [], ps, i, p, h, e => by simp only [toPys] at h; cases h; simp at e
  | d :: ds, ps, i, p, h, e => by
    simp only [toPys] at h
    split at h
    · rename_i p1 p2 e1 e2
      cases h
      cases i with
      | zero => simp only [List.getElem?_cons_zero, Option.some.injEq] at e; subst e; exact ⟨d, rfl, e1⟩
      | succ i =>
        obtain ⟨d', h1, h2⟩ := toPys_get (i := i) e2 (by simpa using e)
        exact ⟨d', by simpa using h1, h2⟩
    · cases h
theorem pick_rep {g : PyData → List PyData → PyData} {d r : D} {ds : List D} {v : V} {G : Fp} {Q : VK} (r1 : Rep K H d v G) (ei : itemsD d = some ds) (e : datPick g ds = some r) (q : ∀ v H' G, Same H H' → Rep K H' r v G → G.Nodup → (∀ a ∈ G, H a = none) → Q v H') : rPickDt K g [v] H Q := by
  unfold datPick at e
  split at e
  · rename_i p ps ep
    split at e
    · rename_i hb
      rw [Bool.and_eq_true, decide_eq_true_eq] at hb
      obtain ⟨a, us, G', rfl, s1, l1⟩ := itemsD_rep r1 ei
      refine ⟨a, us, p, ps, rfl, s1, RepL.dp _ _ _ _ l1 ep, alikeB_of hb.1, hb.2, fun i x hx hp => ?_⟩
      obtain ⟨d', h1, h2⟩ := toPys_get ep hp
      have e2 := ofPy_eq d' _ r h2 e
      subst e2
      obtain ⟨w, G2, h3, h4, _⟩ := l1.getS h1
      rw [hx] at h3
      cases h3
      have im : r.imm = true := ofPy_imm _ _ e
      have g0 := Rep.imm _ _ _ h4 im
      rw [g0] at h4
      exact q x H [] (Same.refl H) h4 nd0 new0
    · cases e
  · cases e
end
section
variable {X : Cx}
theorem d_minX (hc : X.calm = true) (hu : X.A.units + 64 < cLine) : CallR X (.builtin "min") (nD X.K minX) := CallR.of ((d_min hc).or (cr_minDt hc hu)) fun xs H Q h => by
  obtain ⟨ds, Gx, r, l, eg, q⟩ := h
  unfold minX at eg
  split at eg
  · rename_i r' e1
    cases eg
    exact .inl ⟨ds, Gx, r, l, e1, q⟩
  · split at eg
    · rename_i d
      simp only [Option.bind_eq_some_iff] at eg
      obtain ⟨es, ei, ep⟩ := eg
      simp only [RepL] at l
      obtain ⟨v, r', G1, G2, rfl, rfl, h1, rfl, rfl⟩ := l
      exact .inr (pick_rep h1 ei ep q)
    · cases eg
theorem d_maxX (hc : X.calm = true) (hu : X.A.units + 64 < cLine) : CallR X (.builtin "max") (nD X.K maxX) := CallR.of ((d_max hc).or (cr_maxDt hc hu)) fun xs H Q h => by
  obtain ⟨ds, Gx, r, l, eg, q⟩ := h
  unfold maxX at eg
  split at eg
  · rename_i r' e1
    cases eg
    exact .inl ⟨ds, Gx, r, l, e1, q⟩
  · split at eg
    · rename_i d
      simp only [Option.bind_eq_some_iff] at eg
      obtain ⟨es, ei, ep⟩ := eg
      simp only [RepL] at l
      obtain ⟨v, r', G1, G2, rfl, rfl, h1, rfl, rfl⟩ := l
      exact .inr (pick_rep h1 ei ep q)
    · cases eg
end
end Mw

namespace Mw
open PySem PySem.Spec L2
open PyProof.Rows hiding St
section
variable {X : Cx} {c : Cfg} {e : Expr} {wa ra : List Nat} {f : M D} {x : Str} {p apos cpos pos : Pos} {ba : Bool}
/-! ### xs.extend(ys) -/
def extD (ds : List D) (d : D) : Option (List D) := match d with
  | .lst es => if D.imms es = true ∧ ds.length + es.length ≤ 16777216 then some (ds ++ es) else none
  | _ => none
theorem s_extend (i : Nat) (he : PEv X c e wa ra ba f) (hm : (c.md i).notBrw = true := by rfl) (hN : X.N[i]? = some x := by rfl) (hv : Vis X.env.scope x := by first | exact Or.inl rfl | exact Or.inr (Or.inl rfl) | exact Or.inr (Or.inr rfl)) (hd : (x == ("__debug__" : Str)) = false := by decide)
    (hcd : (x == ("__classdict__" : Str)) = false := by decide)
    (hfew : ((backTo cpos (starEach [e] X.env)).all (fun x => !x.1) && (backToKw cpos (keywordEach [] X.env)).all (fun x => x.1.isSome)
      && decide (([e] : List Expr).length + ([] : List Keyword).length + (if ([] : List Keyword).isEmpty then 0 else 1) < 30)) = true := by rfl)
    (hline : (apos.endLine == cpos.line) = true := by rfl) (hs : starEach [e] X.env = (false, eval e X.env) :: starEach [] X.env := by rfl)
    (hsw : swapsWith (.Call (.Attribute (.Name x p) "extend" apos) [e] [] cpos) none pos.line X.env = pure false := by rfl) :
    PSv X c (.Expr (.Call (.Attribute (.Name x p) "extend" apos) [e] [] cpos) pos) (wa ++ [i]) (sMeth i f extD) := by
  refine PS.imp (ps_expr (pe_bm PySem.F.plainAttrs_list PySem.F.slot_list_extend PySem.F.type_list_extend mt_extend (pe_var hN hv hd hcd) (pa_cons he pa_nil hs) rfl hfew hline hs rfl) hsw) fun N σ H q => ?_
  obtain ⟨Z, ρ, F, S, p0⟩ := q
  have hm := notBrw_ne hm
  unfold sMeth at p0
  cases eg : gLst i ρ with
  | none => rw [eg] at p0; exact p0.elim
  | some ds0 =>
  rw [eg] at p0
  obtain ⟨a, vs0, G0, hσ, eF, hH, rl0⟩ := slot_lst S hm eg
  refine ⟨.ref a, hσ, .inl ⟨rfl, _, SqL.of hH⟩, ?_⟩
  refine tS_one S p0 (fun _ h => List.mem_append_left _ h) (fun _ _ _ => trivial) fun d ρ1 v H1 F1 G st S1 r O p1 => ?_
  cases eg1 : gLst i ρ1 with
  | none => rw [eg1] at p1; exact p1.elim
  | some ds =>
  rw [eg1] at p1
  obtain ⟨a1, vs, G1, hσ1, eF1, hH1, rl⟩ := slot_lst S1 hm eg1
  rw [hσ] at hσ1; cases hσ1
  simp only [] at p1
  split at p1
  · exact p1.elim
  · rename_i ds' ed
    unfold extD at ed
    split at ed
    · rename_i es
      split at ed
      · rename_i hl
        cases ed
        obtain ⟨b, zs, G', rfl, _, s1, l1⟩ := lst_inv r
        have l2 := imms_of l1 hl.1
        have aF : a ∈ F1 i := by rw [eF1]; exact List.mem_cons_self
        have mD : IsM (H1 a) := S1.mu i a aF
        have nd := S1.nd i
        rw [eF1] at nd
        obtain ⟨n1, n2⟩ := List.nodup_cons.mp nd
        have r' : Rep X.K (upd H1 a (.lst (vs ++ zs))) (.lst (ds ++ es)) (.ref a) (a :: G1) := by
          have z := RepL.append (keepsL_upd (o := .lst (vs ++ zs)) mD n1 rl) (keepsL_upd (o := .lst (vs ++ zs)) mD List.not_mem_nil l2)
          rw [List.append_nil] at z
          exact rep_lst upd_same z
        refine ⟨a, b, vs, zs, rfl, rfl, hH1, s1, by rw [rl.length, l2.length, szl]; exact hl.2, p1 σ _ _ (st.mut (G' := a :: G1) S1 aF (fun b hb => .inl (by rw [eF1]; exact hb)) (fun _ h => List.mem_append_left _ h) (List.mem_append_right _ (by simp))) (S1.mut hm hσ aF trivial r' nd fun b hb => .inl (by rw [eF1]; exact hb))⟩
      · cases ed
    · cases ed
end
end Mw

namespace Mw
open PySem PySem.Spec L2
open PyProof.Rows hiding St
/-! ### xs.index(y) -/
def idxB (ds : List D) (d : D) : Option Nat := match toPys ds, toPy d with
  | some ps, some p => if SeqAt.shaped (.list ps) && SeqAt.shaped p then ps.findIdx? (fun z => PyData.eqv z p) else none
  | _, _ => none
def eIndex (f f' : M D) : M D := M.bind f fun x => match x with
  | .lst ds => M.bind f' fun y => M.opt ((idxB ds y).map fun n => .int (n : Nat))
  | _ => fun _ => .stuck
section
variable {X : Cx} {c : Cfg} {a b : Expr} {wa ra wb rb : List Nat} {f f' : M D} {apos cpos : Pos} {ba bb : Bool}
theorem v_index (hu : X.A.units + 65 < cLine) (ho : PEv X c a wa ra ba f) (he : PEv X c b wb rb bb f') (hbase : attributeBase a "index" X.env (eval a X.env) = eval a X.env := by rfl)
    (hfew : ((backTo cpos (starEach [b] X.env)).all (fun x => !x.1) && (backToKw cpos (keywordEach [] X.env)).all (fun x => x.1.isSome)
      && decide (([b] : List Expr).length + ([] : List Keyword).length + (if ([] : List Keyword).isEmpty then 0 else 1) < 30)) = true := by rfl)
    (hline : (apos.endLine == cpos.line) = true := by rfl) (hs : starEach [b] X.env = (false, eval b X.env) :: starEach [] X.env := by rfl) (dis : ∀ j ∈ ra, j ∉ wb := by decide) :
    PEv X c (.Call (.Attribute a "index" apos) [b] [] cpos) (wa ++ wb) [] true (eIndex f f') := by
  refine ⟨fun pins s σ H Q I q => ?_⟩
  obtain ⟨Z, ρ, F, S, p⟩ := q
  have lst := (pe_bm (X := X) (apos := apos) (cpos := cpos) PySem.F.plainAttrs_list PySem.F.slot_list_index PySem.F.type_list_index (mt_indexD hu) ho (pa_cons he pa_nil hs) hbase hfew hline hs rfl)
  have p0 := p
  unfold eIndex M.bind at p
  cases ef : f ρ with
  | stuck => rw [ef] at p; exact p.elim
  | err x ρ1 =>
    rw [ef] at p
    refine lst.run pins s σ H Q I ⟨Z, ρ, F, S, ?_⟩
    rw [ef]
    exact fun H' F' st S' => p H' F' (st.mono fun _ h => List.mem_append_left _ h) S'
  | ok d ρ1 =>
    rw [ef] at p
    cases d with
    | lst ds =>
      refine lst.run pins s σ H Q I ⟨Z, ρ, F, S, ?_⟩
      rw [ef]
      intro v H1 F1 G st S1 r O
      have mG := Rep.isM _ _ _ r
      obtain ⟨a0, us, G', rfl, rfl, s1, l1⟩ := lst_inv r
      refine ⟨.inl ⟨rfl, us, SqL.of s1⟩, ?_⟩
      have p1 : Post (Rep X.K) X.K c wb [] true Z σ H1 F1 Q (M.bind f' (fun y => M.opt ((idxB ds y).map fun n => .int (n : Nat))) ρ1) := Post.shift p st (fun _ h => List.mem_append_left _ h) (fun _ h => List.mem_append_right _ h)
      refine tG_bind (w2 := []) S1 f' _ p1 (fun _ h => h) (fun _ h => nomatch h) fun d2 ρ2 v2 H2 F2 G2 st2 S2 r2 O2 p2 => ?_
      obtain ⟨r', e, p3⟩ := p2.opt
      simp only [Option.map_eq_some_iff] at e
      obtain ⟨j, ej, rfl⟩ := e
      unfold idxB at ej
      split at ej
      · rename_i ps pd e1 e2
        split at ej
        · rename_i hsh
          rw [Bool.and_eq_true] at hsh
          obtain ⟨hj, h1, h2⟩ := List.findIdx?_eq_some_iff_getElem.mp ej
          have out := O.out (ws := wb) (F' := F1) (H' := H1) S1 dis
          have rr := Rep.keep _ _ _ r (S1.keeps st2 fun a ha => ⟨mG a ha, out a ha⟩)
          have hd := Rep.dp (.lst ds) _ _ (.list ps) rr (by simp only [toPy, e1, Option.map_some])
          exact ⟨a0, v2, pd, ps, j, ps[j], rfl, rfl, hd, Rep.dp _ _ _ _ r2 e2, hsh.1, hsh.2, List.getElem?_eq_getElem hj, h1, fun m z' hm hz => by
            have := h2 m hm
            obtain ⟨hm', e⟩ := List.getElem?_eq_some_iff.mp hz
            rw [← e]
            simpa using this, Post.fin S2 p3 (Same.refl _) rep_int nd0 new0⟩
        · cases ej
      · cases ej
    | _ => exact p.elim
end
end Mw

namespace Mw
open PySem PySem.Spec L2
open PyProof.Rows hiding St
/-! ### a < b < c < d -/
def tChain3 (r r' r3 : R2) (ta tb tc td : TE) : TE := fun σ H Q => ta σ H fun x H1 => tb σ H1 fun y H2 => r x y H2 fun z H3 => ∃ k, z = .bl k ∧
  (if k = true then tc σ H3 fun w' H4 => r' y w' H4 fun z2 H5 => ∃ k2, z2 = .bl k2 ∧ (if k2 = true then td σ H5 fun u' H6 => r3 w' u' H6 Q else Q (.bl false) H5) else Q (.bl false) H3)
section
variable {X : Cx} {a b e d : Expr} {ta tb tc td : TE} {pos : Pos}
theorem pe_chain3 {op op' op3 : CmpOp} {r r' r3 : R2} (ho : OpR X (compareOp op) r) (ho' : OpR X (compareOp op') r') (ho3 : OpR X (compareOp op3) r3) (ha : PE X a ta) (hb : PE X b tb) (hc : PE X e tc) (hd : PE X d td)
    (hm : lastMarks [op, op', op3] [b, e, d] = false := by with_unfolding_all rfl) : PE X (.Compare a [op, op', op3] [b, e, d] pos) (tChain3 r r' r3 ta tb tc td) := by
  refine ⟨fun pins s σ H Q I h => ?_⟩
  refine Compare_chain (thn (ha.run pins s σ H _ I h) fun v s1 ⟨x, H1, I1, r1, q1⟩ => chain_link (thn (hb.run pins s1 σ H1 _ I1 q1) fun u s2 ⟨y, H2, I2, r2, q2⟩ =>
    thn (ho pins s2 σ H2 x y v u _ I2 r1 r2 q2) fun d s3 ⟨z, H3, I3, r3, k, e, q3⟩ => ?_)) hm
  subst e
  cases r3
  refine wpAny_truthy_bool ?_
  cases k with
  | false => exact ite_ff ⟨.bl false, H3, I3, rfl, q3⟩
  | true =>
    refine ite_tt ?_
    show wpAny _ _ (compareChain pos u (op' :: op3 :: []) (eval _ X.env :: eval _ X.env :: [])) _ _ _
    refine chain_link (thn (hc.run pins s3 σ H3 _ I3 q3) fun w' s4 ⟨z', H4, I4, r4, q4⟩ => thn (ho' pins s4 σ H4 y z' u w' _ I4 r2 r4 q4) fun d2 s5 ⟨z2, H5, I5, r5, k2, e2, q5⟩ => ?_)
    subst e2
    cases r5
    refine wpAny_truthy_bool ?_
    cases k2 with
    | false => exact ite_ff ⟨.bl false, H5, I5, rfl, q5⟩
    | true => exact ite_tt (chain_last (thn (hd.run pins s5 σ H5 _ I5 q5) fun w2 s6 ⟨z3, H6, I6, r6, q6⟩ => ho3 pins s6 σ H6 z' z3 w' w2 Q I6 r4 r6 q6))
theorem pt_chain3 {op op' op3 : CmpOp} {r r' r3 : R2} (ho : OpR X (compareOp op) r) (ho' : OpR X (compareOp op') r') (ho3 : OpR X (compareOp op3) r3) (ha : PE X a ta) (hb : PE X b tb) (hc : PE X e tc) (hd : PE X d td)
    (hm : lastMarks [op, op', op3] [b, e, d] = false := by with_unfolding_all rfl) : PT X (.Compare a [op, op', op3] [b, e, d] pos) (tTest (tChain3 r r' r3 ta tb tc td)) := by
  refine ⟨fun pins s σ H Q I h => ?_⟩
  refine isTrue_chain (thn (ha.run pins s σ H _ I h) fun v s1 ⟨x, H1, I1, r1, q1⟩ => test_link (thn (hb.run pins s1 σ H1 _ I1 q1) fun u s2 ⟨y, H2, I2, r2, q2⟩ =>
    thn (ho pins s2 σ H2 x y v u _ I2 r1 r2 q2) fun d s3 ⟨z, H3, I3, r3, k, e, q3⟩ => ?_)) hm
  subst e
  cases r3
  refine wpAny_truthy_bool ?_
  cases k with
  | false =>
    obtain ⟨k', e', q'⟩ := q3
    cases e'
    exact ite_ff ⟨H3, I3, q'⟩
  | true =>
    refine ite_tt ?_
    show wpAny _ _ (testChain pos u (op' :: op3 :: []) (eval _ X.env :: eval _ X.env :: [])) _ _ _
    refine test_link (thn (hc.run pins s3 σ H3 _ I3 q3) fun w' s4 ⟨z', H4, I4, r4, q4⟩ => thn (ho' pins s4 σ H4 y z' u w' _ I4 r2 r4 q4) fun d2 s5 ⟨z2, H5, I5, r5, k2, e2, q5⟩ => ?_)
    subst e2
    cases r5
    refine wpAny_truthy_bool ?_
    cases k2 with
    | false =>
      obtain ⟨k', e', q'⟩ := q5
      cases e'
      exact ite_ff ⟨H5, I5, q'⟩
    | true => exact ite_tt (test_last (thn (hd.run pins s5 σ H5 _ I5 q5) fun w2 s6 ⟨z3, H6, I6, r6, q6⟩ => thn (ho3 pins s6 σ H6 z' z3 w' w2 _ I6 r4 r6 q6) fun d3 s7 ⟨z4, H7, I7, r7, k3, e3, q7⟩ => by
      subst e3
      cases r7
      exact wpAny_truthy_bool ⟨H7, I7, q7⟩))
end
def eChain3 (g g' g3 : D → D → Option Bool) (f fb fc fd : M D) : M D := M.bind f fun x => M.bind fb fun y => M.bind (M.opt (g x y)) fun k => if k then M.bind fc fun z => M.bind (M.opt (g' y z)) fun k2 => if k2 then M.bind fd fun u => M.opt (gBl g3 z u) else M.pur (.bl false) else M.pur (.bl false)
def cChain3 (g g' g3 : D → D → Option Bool) (f fb fc fd : M D) : M Bool := M.bind (eChain3 g g' g3 f fb fc fd) fun d => M.opt (dBl d)
section
variable {X : Cx} {c : Cfg} {a b e d : Expr} {pos : Pos} {wa wb we wd ra rb re rd : List Nat} {ba bb be bd : Bool} {f fb fe fd : M D} {g g' g3 : D → D → Option Bool}
theorem chain3_fin (dis : ∀ j ∈ ra, j ∉ wb) (dis' : ∀ j ∈ rb, j ∉ we) (dis3 : ∀ j ∈ re, j ∉ wd) {σ : L2.St} {H : Hp} {Q : VK} (q : tG (Rep X.K) X.K c (wa ++ (wb ++ (we ++ wd))) [] true (eChain3 g g' g3 f fb fe fd) σ H Q) :
    tChain3 (rD X.K (gBl g)) (rD X.K (gBl g')) (rD X.K (gBl g3)) (tG (Rep X.K) X.K c wa ra ba f) (tG (Rep X.K) X.K c wb rb bb fb) (tG (Rep X.K) X.K c we re be fe) (tG (Rep X.K) X.K c wd rd bd fd) σ H Q := by
  obtain ⟨Z, ρ, F, S, p⟩ := q
  refine tG_two (repC := Rep X.K) (fun _ => trivial) S p (fun i h => List.mem_append_left _ h) (fun i h => List.mem_append_right _ (List.mem_append_left _ h)) dis fun d1 d2 ρ2 v1 v2 H2 F2 G1 G2 S2 r1 r2 O1 O2 m st dj p2 p0 => ?_
  have p3 : Post (Rep X.K) X.K c (we ++ wd) [] true Z σ H2 F2 Q (M.bind (M.opt (g d1 d2)) (fun k => if k then M.bind fe fun z => M.bind (M.opt (g' d2 z)) fun k2 => if k2 then M.bind fd fun u => M.opt (gBl g3 z u) else M.pur (.bl false) else M.pur (.bl false)) ρ2) := Post.shift p0 st (fun i h => h) fun i h => List.mem_append_right _ (List.mem_append_right _ h)
  cases e : g d1 d2 with
  | none => rw [e] at p3; exact p3.elim
  | some k =>
    rw [e] at p3
    refine ⟨d1, d2, G1, G2, .bl k, r1, r2, by rw [gBl, e]; rfl, fun v H' G es rr nd nw => ⟨k, (bl_inv rr).1, ?_⟩⟩
    cases k with
    | false => rw [if_neg Bool.false_ne_true]; exact Post.fin S2 p3 es rep_bl nd0 new0
    | true =>
      rw [if_pos rfl]
      have p4 : Post (Rep X.K) X.K c (we ++ wd) [] true Z σ H' F2 Q (M.bind fe (fun z => M.bind (M.opt (g' d2 z)) fun k2 => if k2 then M.bind fd fun u => M.opt (gBl g3 z u) else M.pur (.bl false)) ρ2) := Post.shift p3 (Step.of es) (fun _ z => nomatch z) fun _ h => h
      have S2' := S2.same es
      have r2' : Rep X.K H' d2 v2 G2 := Rep.keep _ _ _ r2 (Same.keeps es)
      have m2' := Rep.isM _ _ _ r2'
      refine tG_bind (w2 := wd) S2' fe _ p4 (fun _ h => List.mem_append_left _ h) (fun _ h => List.mem_append_right _ h) fun z ρ3 v3 H3 F3 G3 st3 S3 r3 O3 p5 => ?_
      have out := O2.out (ws := we) (F' := F2) (H' := H2) S2 dis'
      have rk := Rep.keep _ _ _ r2' (S2'.keeps st3 fun a ha => ⟨m2' a ha, out a ha⟩)
      cases e2 : g' d2 z with
      | none => rw [e2] at p5; exact p5.elim
      | some k2 =>
        rw [e2] at p5
        refine ⟨d2, z, G2, G3, .bl k2, rk, r3, by rw [gBl, e2]; rfl, fun w H4 G' es4 rr4 nd4 nw4 => ⟨k2, (bl_inv rr4).1, ?_⟩⟩
        cases k2 with
        | false => rw [if_neg Bool.false_ne_true]; exact Post.fin S3 p5 es4 rep_bl nd0 new0
        | true =>
          rw [if_pos rfl]
          have p6 : Post (Rep X.K) X.K c wd [] true Z σ H4 F3 Q (M.bind fd (fun u => M.opt (gBl g3 z u)) ρ3) := Post.shift p5 (Step.of es4) (fun _ z => nomatch z) fun _ h => h
          have S3' := S3.same es4
          have r3' : Rep X.K H4 z v3 G3 := Rep.keep _ _ _ r3 (Same.keeps es4)
          have m3' := Rep.isM _ _ _ r3'
          refine tG_bind (w2 := []) S3' fd _ p6 (fun _ h => h) (fun _ h => nomatch h) fun u ρ4 v4 H5 F5 G5 st5 S5 r5 O5 p7 => ?_
          obtain ⟨r, er, p8⟩ := p7.opt
          have out3 := O3.out (ws := wd) (F' := F3) (H' := H3) S3 dis3
          exact ⟨z, u, G3, G5, r, Rep.keep _ _ _ r3' (S3'.keeps st5 fun a ha => ⟨m3' a ha, out3 a ha⟩), r5, er, fun v H6 G es6 rr nd nw => Post.fin S5 p8 es6 rr nd nw⟩
theorem v_chain3 {op op' op3 : CmpOp} (ho : OpR X (compareOp op) (rD X.K (gBl g))) (ho' : OpR X (compareOp op') (rD X.K (gBl g'))) (ho3 : OpR X (compareOp op3) (rD X.K (gBl g3))) (ha : PEv X c a wa ra ba f) (hb : PEv X c b wb rb bb fb) (he : PEv X c e we re be fe) (hd : PEv X c d wd rd bd fd)
    (hm : lastMarks [op, op', op3] [b, e, d] = false := by with_unfolding_all rfl) (dis : ∀ j ∈ ra, j ∉ wb := by decide) (dis' : ∀ j ∈ rb, j ∉ we := by decide) (dis3 : ∀ j ∈ re, j ∉ wd := by decide) : PEv X c (.Compare a [op, op', op3] [b, e, d] pos) (wa ++ (wb ++ (we ++ wd))) [] true (eChain3 g g' g3 f fb fe fd) :=
  PE.imp (pe_chain3 ho ho' ho3 ha hb he hd hm) fun σ H Q q => chain3_fin dis dis' dis3 q
theorem t_chain3 {op op' op3 : CmpOp} (ho : OpR X (compareOp op) (rD X.K (gBl g))) (ho' : OpR X (compareOp op') (rD X.K (gBl g'))) (ho3 : OpR X (compareOp op3) (rD X.K (gBl g3))) (ha : PEv X c a wa ra ba f) (hb : PEv X c b wb rb bb fb) (he : PEv X c e we re be fe) (hd : PEv X c d wd rd bd fd)
    (hm : lastMarks [op, op', op3] [b, e, d] = false := by with_unfolding_all rfl) (dis : ∀ j ∈ ra, j ∉ wb := by decide) (dis' : ∀ j ∈ rb, j ∉ we := by decide) (dis3 : ∀ j ∈ re, j ∉ wd := by decide) : PTv X c (.Compare a [op, op', op3] [b, e, d] pos) (wa ++ (wb ++ (we ++ wd))) (cChain3 g g' g3 f fb fe fd) :=
  PT.imp (pt_chain3 ho ho' ho3 ha hb he hd hm) fun σ H Q q => chain3_fin dis dis' dis3 (by
    obtain ⟨Z, ρ, F, S, p⟩ := q
    refine tG_one S p (fun _ h => h) fun d ρ1 v H1 F1 G1 st S1 r O p1 => ?_
    cases e : dBl d with
    | none => rw [e] at p1; exact p1.elim
    | some k =>
      rw [e] at p1
      rw [dBl_some e] at r
      exact ⟨k, (bl_inv r).1, p1 k H1 F1 [] st S1 ⟨rfl, rfl⟩ Own.nil⟩)
end
end Mw

namespace Mw
open PySem PySem.Spec L2
open PyProof.Rows hiding St
/-! ### (*xs, y) -/
def immsOf (d : D) : Option (List D) := (itemsD d).bind fun ds => if D.imms ds then some ds else none
def lStar (f : M D) (g : M (List D)) : M (List D) := M.bind f fun x => match immsOf x with
  | some ds => M.bind g fun xs => M.pur (ds ++ xs)
  | none => fun _ => .stuck
section
variable {X : Cx} {c : Cfg} {e : Expr} {es : List Expr} {p : Pos} {wa ra wb rb : List Nat} {ba bb : Bool} {f : M D} {fl : M (List D)}
theorem l_star (ha : PEv X c e wa ra ba f) (hb : PAv X c es wb rb bb fl) (hs : starEach (.Starred e p :: es) X.env = (true, eval e X.env) :: starEach es X.env := by rfl) :
    PAv X c (.Starred e p :: es) (wa ++ wb) rb bb (lStar f fl) := by
  refine PA.imp (StX.pa_star ha hb hs) fun σ H Q q => ?_
  obtain ⟨Z, ρ, F, S, p⟩ := q
  refine tG_bind (w2 := wb) S f _ p (fun _ h => List.mem_append_left _ h) (fun _ h => List.mem_append_right _ h) fun d ρ1 v H1 F1 G st S1 r O p1 => ?_
  cases ei : immsOf d with
  | none => rw [ei] at p1; exact p1.elim
  | some ds =>
    rw [ei] at p1
    simp only [immsOf, Option.bind_eq_some_iff] at ei
    obtain ⟨ds', e1, e2⟩ := ei
    split at e2
    · rename_i im
      cases e2
      obtain ⟨a, us, G', rfl, s1, l1⟩ := itemsD_rep r e1
      have l2 := imms_of l1 im
      refine ⟨a, us, rfl, s1.symm, ?_⟩
      refine tG_one S1 p1 (fun _ h => h) fun ds2 ρ2 vs2 H2 F2 G2 st2 S2 r2 O2 p2 => ?_
      exact p2 (us ++ vs2) H2 F2 G2 st2 S2 (by
        have z := RepL.append (RepL.keep _ _ _ l2 (S1.keeps st2 fun _ z => nomatch z)) r2
        simpa using z) O2
    · cases e2
end
end Mw

namespace Mw
open PySem PySem.Spec L2
open PyProof.Rows hiding St
/-! ### equations of runs, more -/
@[simp] theorem eChain_app (g g' : D → D → Option Bool) (f fb fc : M D) (ρ : Env) : eChain g g' f fb fc ρ = M.bind f (fun x => M.bind fb fun y => M.bind (M.opt (g x y)) fun k => if k then M.bind fc fun z => M.opt (gBl g' y z) else M.pur (.bl false)) ρ := rfl
@[simp] theorem cChain_app (g g' : D → D → Option Bool) (f fb fc : M D) (ρ : Env) : cChain g g' f fb fc ρ = M.bind (eChain g g' f fb fc) (fun d => M.opt (dBl d)) ρ := rfl
@[simp] theorem eChain3_app (g g' g3 : D → D → Option Bool) (f fb fc fd : M D) (ρ : Env) : eChain3 g g' g3 f fb fc fd ρ = M.bind f (fun x => M.bind fb fun y => M.bind (M.opt (g x y)) fun k => if k then M.bind fc fun z => M.bind (M.opt (g' y z)) fun k2 => if k2 then M.bind fd fun u => M.opt (gBl g3 z u) else M.pur (.bl false) else M.pur (.bl false)) ρ := rfl
@[simp] theorem cChain3_app (g g' g3 : D → D → Option Bool) (f fb fc fd : M D) (ρ : Env) : cChain3 g g' g3 f fb fc fd ρ = M.bind (eChain3 g g' g3 f fb fc fd) (fun d => M.opt (dBl d)) ρ := rfl
@[simp] theorem lStar_app (f : M D) (g : M (List D)) (ρ : Env) : lStar f g ρ = M.bind f (fun x => match immsOf x with
  | some ds => M.bind g fun xs => M.pur (ds ++ xs)
  | none => fun _ => .stuck) ρ := rfl
theorem tupleD_l {ds : List D} (h : D.imms ds = true) : tupleD (.lst ds) = some (.tup ds) := by simp [tupleD, itemsD, h]
theorem tupleD_t {ds : List D} (h : D.imms ds = true) : tupleD (.tup ds) = some (.tup ds) := by simp [tupleD, itemsD, h]
theorem listD_l {ds : List D} (h : D.imms ds = true) : listD (.lst ds) = some (.lst ds) := by simp [listD, itemsD, h]
theorem listD_t {ds : List D} (h : D.imms ds = true) : listD (.tup ds) = some (.lst ds) := by simp [listD, itemsD, h]
theorem blsD_map (bs : List Bool) : blsD (bs.map D.bl) = some bs := by
  induction bs with
  | nil => rfl
  | cons b bs ih => simp [blsD, ih]
theorem intsD_map (bs : List Int) : intsD (bs.map D.int) = some bs := by
  induction bs with
  | nil => rfl
  | cons b bs ih => simp [intsD, ih]
theorem strsD_map (bs : List Str) : strsD (bs.map D.str) = some bs := by
  induction bs with
  | nil => rfl
  | cons b bs ih => simp [strsD, ih]
theorem allD_l (bs : List Bool) : allD (.lst (bs.map D.bl)) = some (.bl (bs.all id)) := by simp [allD, lstOf, blsD_map]
theorem anyD_l (bs : List Bool) : anyD (.lst (bs.map D.bl)) = some (.bl (bs.any id)) := by simp [anyD, lstOf, blsD_map]
theorem sumD_l (bs : List Int) : sumD (.lst (bs.map D.int)) = some (.int bs.sum) := by simp [sumD, lstOf, intsD_map]
theorem minX_i (i j : Int) : minX [.int i, .int j] = some (.int (if j < i then j else i)) := rfl
theorem maxX_i (i j : Int) : maxX [.int i, .int j] = some (.int (if j > i then j else i)) := rfl
theorem addI_i (i j : Int) : addI (.int i) (.int j) = some (.int (i + j)) := rfl
theorem subI_i (i j : Int) : subI (.int i) (.int j) = some (.int (i - j)) := rfl
theorem imms_bls (bs : List Bool) : D.imms (bs.map D.bl) = true := by
  induction bs with
  | nil => rfl
  | cons b bs ih => simp [D.imms, D.imm, ih]
theorem imms_strs (bs : List Str) : D.imms (bs.map D.str) = true := by
  induction bs with
  | nil => rfl
  | cons b bs ih => simp [D.imms, D.imm, ih]
/-- a comprehension whose parts change nothing -/
theorem comp_pure {t : Tg} {tt : M Bool} {te : M D} (cd : D → Bool) (V : D → D) (A : D → Env) (W : Env) : ∀ (xs : List D), (∀ x ∈ xs, asg t x W = some (A x) ∧ tt (A x) = .ok (cd x) (A x) ∧ (cd x = true → te (A x) = .ok (V x) (A x)) ∧ wipeE (A x) t.ids = W) →
    ∀ ρ, wipeE ρ t.ids = W → ∃ ρ', comp t tt te xs ρ = .ok ((xs.filter cd).map V) ρ' ∧ wipeE ρ' t.ids = W
  | [], _, ρ, e => ⟨ρ, rfl, e⟩
  | x :: r, h, ρ, e => by
    obtain ⟨h1, h2, h3, h4⟩ := h x List.mem_cons_self
    obtain ⟨ρ', e1, e2⟩ := comp_pure cd V A W r (fun y hy => h y (List.mem_cons_of_mem _ hy)) (A x) h4
    refine ⟨ρ', ?_, e2⟩
    simp only [comp]
    rw [e, h1]
    simp only [h2]
    cases q : cd x with
    | false => simp only [e1, List.filter_cons, q, Bool.false_eq_true, if_false]
    | true => simp only [h3 q, e1, List.filter_cons, q, if_true, List.map_cons]
end Mw

namespace Mw
open PySem PySem.Spec L2
open PyProof.Rows hiding St
theorem unwipe_congr {ρ0 ρ ρ' : Env} : ∀ (vs ws : List Nat), (∀ j, j ∈ ws → j ∈ vs) → ρ.length = ρ'.length → (∀ j, j ∉ vs → ρ[j]? = ρ'[j]?) → ∀ j, (j ∈ vs → j ∈ ws) → (unwipe ρ0 ρ ws)[j]? = (unwipe ρ0 ρ' ws)[j]?
  | vs, [], _, hl, h, j, hj => h j fun z => by simpa using hj z
  | vs, i :: r, hs, hl, h, j, hj => by
    have e (x : Env) : unwipe ρ0 x (i :: r) = (unwipe ρ0 x r).set i ((ρ0[i]?).getD none) := rfl
    rw [e, e]
    by_cases q : i = j
    · subst q
      rw [List.getElem?_set_self', List.getElem?_set_self']
      have l1 := unwipe_len ρ0 ρ r
      have l2 := unwipe_len ρ0 ρ' r
      have z : ((unwipe ρ0 ρ r)[i]?).isSome = ((unwipe ρ0 ρ' r)[i]?).isSome := by
        rw [Bool.eq_iff_iff]; simp [l1, l2, hl]
      cases q1 : (unwipe ρ0 ρ r)[i]? <;> cases q2 : (unwipe ρ0 ρ' r)[i]? <;> rw [q1, q2] at z <;> first | rfl | cases z
    · rw [List.getElem?_set_ne q, List.getElem?_set_ne q]
      exact unwipe_congr vs r (fun k hk => hs k (List.mem_cons_of_mem _ hk)) hl h j fun z => by
        rcases List.mem_cons.mp (hj z) with z | z
        · exact absurd z.symm q
        · exact z
theorem wipe_len (ρ : Env) : ∀ vs : List Nat, (wipeE ρ vs).length = ρ.length
  | [] => rfl
  | v :: vs => by
    have e : wipeE ρ (v :: vs) = (wipeE ρ vs).set v none := rfl
    rw [e, List.length_set, wipe_len ρ vs]
theorem unwipe_wipe {ρ0 ρ W : Env} {vs : List Nat} (e : wipeE ρ vs = W) : unwipe ρ0 ρ vs = unwipe ρ0 W vs := by
  subst e
  apply List.ext_getElem?
  intro j
  exact unwipe_congr vs vs (fun _ h => h) (wipe_len ρ vs).symm (fun k hk => by rw [wipeE_get, if_neg hk]) j (fun h => h)
/-- a comprehension whose parts change nothing -/
theorem eLc_pure {t : Tg} {fi : M (List D)} {tt : M Bool} {te : M D} {ρ ρ1 : Env} {xs : List D} (cd : D → Bool) (V : D → D) (A : D → Env) (hi : fi ρ = .ok xs ρ1) (hc : clean ρ1 t.ids = true) (hl : xs.length ≤ 16777216)
    (h : ∀ x ∈ xs, asg t x (wipeE ρ1 t.ids) = some (A x) ∧ tt (A x) = .ok (cd x) (A x) ∧ (cd x = true → te (A x) = .ok (V x) (A x)) ∧ wipeE (A x) t.ids = wipeE ρ1 t.ids) :
    eLc t fi tt te ρ = .ok (.lst ((xs.filter cd).map V)) (unwipe ρ1 (wipeE ρ1 t.ids) t.ids) := by
  obtain ⟨ρ', e1, e2⟩ := comp_pure cd V A (wipeE ρ1 t.ids) xs h ρ1 rfl
  unfold eLc M.bind
  rw [hi]
  simp only [hc, hl, decide_true, Bool.and_self, if_true, e1]
  rw [unwipe_wipe e2]
end Mw

namespace Mw
open PySem PySem.Spec L2
open PyProof.Rows hiding St
/-- a comprehension whose element changes what stands outside (draws) -/
theorem comp_steps {t : Tg} {tt : M Bool} {te : M D} (V : Nat → D) (W : Nat → Env) : ∀ (xs : List D) (k : Nat) (ρ : Env), wipeE ρ t.ids = W k →
    (∀ n x, xs[n]? = some x → ∃ A B, asg t x (W (k + n)) = some A ∧ tt A = .ok true A ∧ te A = .ok (V (k + n)) B ∧ wipeE B t.ids = W (k + n + 1)) → ∃ ρ', comp t tt te xs ρ = .ok ((List.range' k xs.length).map V) ρ' ∧ wipeE ρ' t.ids = W (k + xs.length)
  | [], k, ρ, e, _ => ⟨ρ, rfl, e⟩
  | x :: r, k, ρ, e, h => by
    obtain ⟨A, B, h1, h2, h3, h4⟩ := h 0 x rfl
    rw [Nat.add_zero] at h1 h3 h4
    obtain ⟨ρ', e1, e2⟩ := comp_steps V W r (k + 1) B h4 fun n y hy => by
      have z := h (n + 1) y (by simpa using hy)
      have e0 : k + (n + 1) = k + 1 + n := by omega
      rw [e0] at z
      exact z
    refine ⟨ρ', ?_, by rw [e2]; congr 1; simp only [List.length_cons]; omega⟩
    simp only [comp]
    rw [e, h1]
    simp only [h2, h3, e1, List.length_cons, List.range'_succ, List.map_cons]
theorem eLc_steps {t : Tg} {fi : M (List D)} {tt : M Bool} {te : M D} {ρ ρ1 : Env} {xs : List D} (V : Nat → D) (W : Nat → Env) (hi : fi ρ = .ok xs ρ1) (hc : clean ρ1 t.ids = true) (hl : xs.length ≤ 16777216) (h0 : wipeE ρ1 t.ids = W 0)
    (h : ∀ n x, xs[n]? = some x → ∃ A B, asg t x (W n) = some A ∧ tt A = .ok true A ∧ te A = .ok (V n) B ∧ wipeE B t.ids = W (n + 1)) :
    eLc t fi tt te ρ = .ok (.lst ((List.range' 0 xs.length).map V)) (unwipe ρ1 (W xs.length) t.ids) := by
  obtain ⟨ρ', e1, e2⟩ := comp_steps V W xs 0 ρ1 h0 fun n x hx => by simpa using h n x hx
  unfold eLc M.bind
  rw [hi]
  simp only [hc, hl, decide_true, Bool.and_self, if_true, e1]
  rw [unwipe_wipe e2, Nat.zero_add]
end Mw

set_option maxHeartbeats 1000000
namespace Mw
open PySem PySem.Spec L2
open PyProof.Rows hiding St
/-! ### plain side, general -/
@[simp] theorem sAug_app (i : Nat) (g : D → D → Option D) (f : M D) (ρ : Env) : sAug i g f ρ = match ρ[i]? with
  | some (some x) => if x.imm then M.bind f (fun y => M.bind (M.opt (g x y)) fun z ρ' => if z.imm then .ok .nx (ρ'.set i (some z)) else .stuck) ρ else .stuck
  | _ => .stuck := rfl
/-- what a run of statements that goes on reaches -/
def Nx (P : Env → Prop) : R Fl → Prop
  | .ok .nx ρ => P ρ
  | .ok .ct ρ => P ρ
  | _ => False
@[simp] theorem Nx_nx (P : Env → Prop) (ρ : Env) : Nx P (.ok .nx ρ) = P ρ := rfl
@[simp] theorem Nx_ct (P : Env → Prop) (ρ : Env) : Nx P (.ok .ct ρ) = P ρ := rfl
/-- a loop that folds -/
theorem sFor_fold {α σ : Type} {t : Tg} {b : M Fl} (e : α → D) (step : σ → α → σ) (Rl : σ → Env → Prop) : ∀ (items : List α), (∀ a ∈ items, ∀ s ρ, Rl s ρ → ∃ ρ1, asg t (e a) ρ = some ρ1 ∧ Nx (Rl (step s a)) (b ρ1)) →
    ∀ s ρ, Rl s ρ → ∃ ρ', sFor t b (items.map e) ρ = .ok .nx ρ' ∧ Rl (items.foldl step s) ρ'
  | [], _, s, ρ, r => ⟨ρ, rfl, r⟩
  | a :: l, h, s, ρ, r => by
    obtain ⟨ρ1, h1, h2⟩ := h a List.mem_cons_self s ρ r
    rw [List.map_cons, sFor]
    simp only [h1]
    cases q : b ρ1 with
    | ok f ρ2 =>
      rw [q] at h2
      cases f with
      | nx => exact sFor_fold e step Rl l (fun a ha => h a (List.mem_cons_of_mem _ ha)) (step s a) ρ2 h2
      | ct => exact sFor_fold e step Rl l (fun a ha => h a (List.mem_cons_of_mem _ ha)) (step s a) ρ2 h2
      | brk => exact h2.elim
      | ret d => exact h2.elim
    | err c ρ2 => rw [q] at h2; exact h2.elim
    | stuck => rw [q] at h2; exact h2.elim
/-- a run that goes on, or ends with what r says -/
def Fnd (r : Env → R Fl) (bad : Bool) (P : Env → Prop) (x : R Fl) : Prop := if bad then ∃ ρ, P ρ ∧ x = r ρ else Nx P x
/-- a loop that goes on while nothing is found; what is found ends it with r -/
theorem sFor_find {α : Type} {t : Tg} {b : M Fl} (e : α → D) (bad : α → Bool) (I : Env → Prop) (r : Env → R Fl) (hr : ∀ ρ, (∃ d, r ρ = .ok (.ret d) ρ) ∨ ∃ c, r ρ = .err c ρ) : ∀ (items : List α), (∀ a ∈ items, ∀ ρ, I ρ → ∃ ρ1, asg t (e a) ρ = some ρ1 ∧ Fnd r (bad a) I (b ρ1)) →
    ∀ ρ, I ρ → ∃ ρ', I ρ' ∧ sFor t b (items.map e) ρ = if items.any bad then r ρ' else .ok .nx ρ'
  | [], _, ρ, i => ⟨ρ, i, rfl⟩
  | a :: l, h, ρ, i => by
    obtain ⟨ρ1, h1, h2⟩ := h a List.mem_cons_self ρ i
    rw [List.map_cons, sFor]
    simp only [h1, List.any_cons]
    unfold Fnd at h2
    by_cases q : bad a = true
    · rw [if_pos q] at h2
      obtain ⟨ρ2, i2, e2⟩ := h2
      refine ⟨ρ2, i2, ?_⟩
      simp only [e2, q, Bool.true_or, if_true]
      rcases hr ρ2 with ⟨d, z⟩ | ⟨c, z⟩
      · rw [z]
      · rw [z]
    · rw [if_neg q] at h2
      have q' : bad a = false := by simpa using q
      simp only [q', Bool.false_or]
      cases q2 : b ρ1 with
      | ok f ρ2 =>
        rw [q2] at h2
        cases f with
        | nx => exact sFor_find e bad I r hr l (fun a ha => h a (List.mem_cons_of_mem _ ha)) ρ2 h2
        | ct => exact sFor_find e bad I r hr l (fun a ha => h a (List.mem_cons_of_mem _ ha)) ρ2 h2
        | brk => exact h2.elim
        | ret d => exact h2.elim
      | err c ρ2 => rw [q2] at h2; exact h2.elim
      | stuck => rw [q2] at h2; exact h2.elim
theorem sFor_at {t : Tg} {b : M Fl} (Rl : Nat → Env → Prop) : ∀ (ds : List D) (k : Nat), (∀ i d, ds[i]? = some d → ∀ ρ, Rl (k + i) ρ → ∃ ρ1, asg t d ρ = some ρ1 ∧ Nx (Rl (k + i + 1)) (b ρ1)) →
    ∀ ρ, Rl k ρ → ∃ ρ', sFor t b ds ρ = .ok .nx ρ' ∧ Rl (k + ds.length) ρ'
  | [], k, _, ρ, r => ⟨ρ, rfl, r⟩
  | a :: l, k, h, ρ, r => by
    obtain ⟨ρ1, h1, h2⟩ := h 0 a rfl ρ r
    have go : ∀ ρ2, Rl (k + 1) ρ2 → ∃ ρ', sFor t b l ρ2 = .ok .nx ρ' ∧ Rl (k + (a :: l).length) ρ' := fun ρ2 r2 => by
      have z := sFor_at (t := t) (b := b) Rl l (k + 1) (fun i d hd ρ r => by
        have w := h (i + 1) d (by simpa using hd) ρ (by rw [show k + (i + 1) = k + 1 + i from by omega]; exact r)
        rw [show k + (i + 1) + 1 = k + 1 + i + 1 from by omega] at w
        exact w) ρ2 r2
      rw [show k + 1 + l.length = k + (a :: l).length from by rw [List.length_cons]; omega] at z
      exact z
    rw [sFor]
    simp only [h1]
    cases q : b ρ1 with
    | ok f ρ2 =>
      rw [q] at h2
      cases f with
      | nx => exact go ρ2 h2
      | ct => exact go ρ2 h2
      | brk => exact h2.elim
      | ret d => exact h2.elim
    | err c ρ2 => rw [q] at h2; exact h2.elim
    | stuck => rw [q] at h2; exact h2.elim
/-- over a range, by its places -/
theorem sFor_range {t : Tg} {b : M Fl} (e : Nat → D) (Rl : Nat → Env → Prop) (n : Nat) (h : ∀ i, i < n → ∀ ρ, Rl i ρ → ∃ ρ1, asg t (e i) ρ = some ρ1 ∧ Nx (Rl (i + 1)) (b ρ1)) {ρ : Env} (h0 : Rl 0 ρ) : ∃ ρ', sFor t b ((List.range n).map e) ρ = .ok .nx ρ' ∧ Rl n ρ' := by
  have z := sFor_at (t := t) (b := b) Rl ((List.range n).map e) 0 (fun i d hd ρ r => by
    rw [List.getElem?_map] at hd
    by_cases q : i < n
    · rw [List.getElem?_range q] at hd
      cases hd
      rw [Nat.zero_add] at r ⊢
      exact h i q ρ r
    · rw [List.getElem?_eq_none (by rw [List.length_range]; omega)] at hd
      cases hd) ρ h0
  rwa [List.length_map, List.length_range, Nat.zero_add] at z
/-- a while loop of M turns, whose test changes nothing -/
theorem sWhile_at {t : M Bool} {b : M Fl} (Rl : Nat → Env → Prop) (M : Nat) (h : ∀ m ρ, m ≤ M → Rl m ρ → t ρ = .ok (decide (m < M)) ρ ∧ (m < M → Nx (Rl (m + 1)) (b ρ))) : ∀ (n m : Nat) (ρ : Env), m ≤ M → M - m < n → Rl m ρ → ∃ ρ', sWhile n t b ρ = .ok .nx ρ' ∧ Rl M ρ'
  | 0, m, ρ, _, h0, _ => by omega
  | n + 1, m, ρ, h1, h0, r => by
    obtain ⟨e, hb⟩ := h m ρ h1 r
    unfold sWhile
    simp only [bind_app, e]
    by_cases q : m < M
    · have hb := hb q
      simp only [q, decide_true, if_true, bind_app]
      cases e2 : b ρ with
      | ok f ρ2 =>
        rw [e2] at hb
        cases f with
        | nx => exact sWhile_at Rl M h n (m + 1) ρ2 q (by omega) hb
        | ct => exact sWhile_at Rl M h n (m + 1) ρ2 q (by omega) hb
        | brk => exact hb.elim
        | ret d => exact hb.elim
      | err c ρ2 => rw [e2] at hb; exact hb.elim
      | stuck => rw [e2] at hb; exact hb.elim
    · have e3 : m = M := by omega
      subst e3
      simp only [q, decide_false, Bool.false_eq_true, if_false]
      exact ⟨ρ, rfl, r⟩
theorem comp_map {α : Type} {t : Tg} {tt : M Bool} {te : M D} (e : α → D) (cd : α → Bool) (V : α → D) (A : α → Env) (W : Env) : ∀ (items : List α), (∀ a ∈ items, asg t (e a) W = some (A a) ∧ tt (A a) = .ok (cd a) (A a) ∧ (cd a = true → te (A a) = .ok (V a) (A a)) ∧ wipeE (A a) t.ids = W) →
    ∀ ρ, wipeE ρ t.ids = W → ∃ ρ', comp t tt te (items.map e) ρ = .ok ((items.filter cd).map V) ρ' ∧ wipeE ρ' t.ids = W
  | [], _, ρ, h => ⟨ρ, rfl, h⟩
  | x :: r, h, ρ, hw => by
    obtain ⟨h1, h2, h3, h4⟩ := h x List.mem_cons_self
    obtain ⟨ρ', e1, e2⟩ := comp_map e cd V A W r (fun y hy => h y (List.mem_cons_of_mem _ hy)) (A x) h4
    refine ⟨ρ', ?_, e2⟩
    rw [List.map_cons]
    simp only [comp]
    rw [hw, h1]
    simp only [h2]
    cases q : cd x with
    | false => simp only [e1, List.filter_cons, q, Bool.false_eq_true, if_false]
    | true => simp only [h3 q, e1, List.filter_cons, q, if_true, List.map_cons]
/-- a comprehension over items that stand for a: its parts change nothing -/
theorem eLc_map {α : Type} {t : Tg} {fi : M (List D)} {tt : M Bool} {te : M D} {ρ ρ1 : Env} (items : List α) (e : α → D) (cd : α → Bool) (V : α → D) (A : α → Env) (hi : fi ρ = .ok (items.map e) ρ1) (hc : clean ρ1 t.ids = true) (hl : items.length ≤ 16777216)
    (h : ∀ a ∈ items, asg t (e a) (wipeE ρ1 t.ids) = some (A a) ∧ tt (A a) = .ok (cd a) (A a) ∧ (cd a = true → te (A a) = .ok (V a) (A a)) ∧ wipeE (A a) t.ids = wipeE ρ1 t.ids) :
    eLc t fi tt te ρ = .ok (.lst ((items.filter cd).map V)) (unwipe ρ1 (wipeE ρ1 t.ids) t.ids) := by
  obtain ⟨ρ', e1, e2⟩ := comp_map e cd V A (wipeE ρ1 t.ids) items h ρ1 rfl
  unfold eLc M.bind
  rw [hi]
  simp only [hc, List.length_map, hl, decide_true, Bool.and_self, if_true, e1]
  rw [unwipe_wipe e2]
theorem eLc_map' {α : Type} {t : Tg} {fi : M (List D)} {te : M D} {ρ ρ1 : Env} (items : List α) (e : α → D) (V : α → D) (A : α → Env) (hi : fi ρ = .ok (items.map e) ρ1) (hc : clean ρ1 t.ids = true) (hl : items.length ≤ 16777216)
    (h : ∀ a ∈ items, asg t (e a) (wipeE ρ1 t.ids) = some (A a) ∧ te (A a) = .ok (V a) (A a) ∧ wipeE (A a) t.ids = wipeE ρ1 t.ids) :
    eLc t fi (M.pur true) te ρ = .ok (.lst (items.map V)) (unwipe ρ1 (wipeE ρ1 t.ids) t.ids) := by
  have z := eLc_map (tt := M.pur true) items e (fun _ => true) V A hi hc hl fun a ha => ⟨(h a ha).1, rfl, fun _ => (h a ha).2.1, (h a ha).2.2⟩
  rwa [List.filter_eq_self.mpr fun _ _ => rfl] at z
/-! numbers -/
def nI (k : Nat) : D := .int (k : Int)
theorem nI_def (k : Nat) : nI k = .int (k : Int) := rfl
theorem imms_map {α : Type} {f : α → D} {l : List α} (h : ∀ a ∈ l, (f a).imm = true) : D.imms (l.map f) = true := by
  induction l with
  | nil => rfl
  | cons a l ih =>
    rw [List.map_cons, imms_cons, h a List.mem_cons_self, ih fun b hb => h b (List.mem_cons_of_mem _ hb)]; rfl
theorem imms_nI (l : List Nat) : D.imms (l.map nI) = true := imms_map fun _ _ => rfl
theorem fit_of {i : Int} (h : i.natAbs < 4611686018427387904) : fit i = true := fit_iff.mpr (by omega)
theorem rng1_nat {n : Nat} (h : n < 4611686018427387904) : rng1 [.int (n : Int)] = some ((List.range n).map nI) := by
  simp only [rng1, fit_of (i := (n : Int)) (by simpa using h), if_true]
  congr 1
  unfold rngD
  simp only [Int.toNat_natCast]
  apply List.map_congr_left
  intro i _
  show D.int _ = D.int _
  congr 1; omega
theorem rng2_nat {m n : Nat} (hm : m < 4611686018427387904) (hn : n < 4611686018427387904) : rng2 [.int (m : Int), .int (n : Int)] = some ((List.range' m (n - m)).map nI) := by
  simp only [rng2, fit_of (i := (n : Int)) (by simpa using hn), fit_of (i := (m : Int)) (by simpa using hm), Bool.and_self, if_true]
  congr 1
  unfold rngD
  have e : ((n : Int) - (m : Int)).toNat = n - m := by omega
  rw [e, List.range'_eq_map_range, List.map_map]
  apply List.map_congr_left
  intro i _
  show D.int _ = D.int _
  congr 1
  show (m : Int) + (i : Int) * 1 = ((m + i : Nat) : Int)
  omega
theorem maxX_sub (a b : Nat) : maxX [.int 0, .int ((a : Int) - (b : Int))] = some (.int ((a - b : Nat) : Int)) := by
  rw [maxX_i]
  congr 2
  split <;> omega
theorem atI_map {α : Type} (f : α → D) {l : List α} {k : Nat} {a : α} (h : l[k]? = some a) : atI (l.map f) (k : Int) = some (f a) :=
  atI_nat (by omega) (by rw [Int.toNat_natCast, List.getElem?_map, h]; rfl)
theorem atI_nI {l : List Nat} {k : Nat} (h : k < l.length) : atI (l.map nI) (k : Int) = some (.int ((l.getD k 0 : Nat) : Int)) := by
  rw [atI_map nI (List.getElem?_eq_getElem h), List.getD_eq_getElem?_getD, List.getElem?_eq_getElem h]; rfl
theorem atI_int {l : List Int} {k : Nat} (h : k < l.length) : atI (l.map D.int) (k : Int) = some (.int (l.getD k 0)) := by
  rw [atI_map D.int (List.getElem?_eq_getElem h), List.getD_eq_getElem?_getD, List.getElem?_eq_getElem h]; rfl
theorem atI_in {l : List D} {i : Int} (h0 : 0 ≤ i) (h1 : i < l.length) : ∃ d, atI l i = some d ∧ d ∈ l := by
  have h : i.toNat < l.length := by omega
  exact ⟨l[i.toNat], atI_nat h0 (List.getElem?_eq_getElem h), List.getElem_mem h⟩
theorem appD_ok {ds : List D} {d : D} (h : ds.length < 16777216) : appD ds d = some (ds ++ [d]) := if_pos h
/-! slices -/
theorem slT_from {ds : List D} (h : D.imms ds = true) (k : Nat) : slD (.tup ds) (some (k : Int)) none = some (.tup (ds.drop k)) := by
  show (if D.imms ds = true then some (D.tup (slD.cutV' ds (some (k : Int)) none)) else none) = _
  rw [if_pos h]
  unfold slD.cutV'
  rw [HT.sIx_none, HT.sIx_nat, List.take_of_length_le (by rw [List.length_drop]; exact Nat.le_refl _)]
  by_cases q : k ≤ ds.length
  · rw [Nat.min_eq_left q]
  · rw [Nat.min_eq_right (by omega), List.drop_eq_nil_of_le (Nat.le_refl _), List.drop_eq_nil_of_le (by omega)]
theorem slT_to {ds : List D} (h : D.imms ds = true) (k : Nat) : slD (.tup ds) none (some (k : Int)) = some (.tup (ds.take k)) := by
  show (if D.imms ds = true then some (D.tup (slD.cutV' ds none (some (k : Int)))) else none) = _
  rw [if_pos h]
  unfold slD.cutV'
  rw [HT.sIx_none, HT.sIx_nat, List.drop_zero, Nat.sub_zero]
  by_cases q : k ≤ ds.length
  · rw [Nat.min_eq_left q]
  · rw [Nat.min_eq_right (by omega), List.take_of_length_le (Nat.le_refl _), List.take_of_length_le (by omega)]
theorem slT_last {ds : List D} (h : D.imms ds = true) : slD (.tup ds) (some (-1)) none = some (.tup (ds.drop (ds.length - 1))) := by
  show (if D.imms ds = true then some (D.tup (slD.cutV' ds (some (-1)) none)) else none) = _
  rw [if_pos h]
  unfold slD.cutV'
  have e : HT.sIx ds.length 0 (some (-1)) = ds.length - 1 := by
    show (if (-1 : Int) < 0 then ((-1 : Int) + (ds.length : Int)).toNat else min (-1 : Int).toNat ds.length) = _
    rw [if_pos (by decide)]; omega
  rw [HT.sIx_none, e, List.take_of_length_le (by rw [List.length_drop]; exact Nat.le_refl _)]
theorem imms_append {a b : List D} : D.imms (a ++ b) = (D.imms a && D.imms b) := by
  induction a with
  | nil => simp
  | cons d a ih => rw [List.cons_append, imms_cons, imms_cons, ih, Bool.and_assoc]
theorem imms_sub {a b : List D} (h : D.imms b = true) (s : ∀ d ∈ a, d ∈ b) : D.imms a = true := by
  have all : ∀ (b : List D), D.imms b = true → ∀ d ∈ b, d.imm = true := fun b => by
    induction b with
    | nil => intro _ d hd; cases hd
    | cons x b ih =>
      intro h d hd
      rw [imms_cons, Bool.and_eq_true] at h
      rcases List.mem_cons.mp hd with rfl | hd
      · exact h.1
      · exact ih h.2 d hd
  have := imms_map (f := fun d : D => d) (l := a) fun d hd => all b h d (s d hd)
  rwa [List.map_id'] at this
theorem addT {a b : List D} (ha : D.imms a = true) (hb : D.imms b = true) (h : a.length + b.length ≤ 16777216) : addD (.tup a) (.tup b) = some (.tup (a ++ b)) := by
  show (if (D.imms a && D.imms b) = true ∧ a.length + b.length ≤ 16777216 then some (D.tup (a ++ b)) else none) = _
  rw [if_pos ⟨by rw [ha, hb]; rfl, h⟩]
theorem addL {a b : List D} (ha : D.imms a = true) (hb : D.imms b = true) (h : a.length + b.length ≤ 16777216) : addD (.lst a) (.lst b) = some (.lst (a ++ b)) := by
  show (if (D.imms a && D.imms b) = true ∧ a.length + b.length ≤ 16777216 then some (D.lst (a ++ b)) else none) = _
  rw [if_pos ⟨by rw [ha, hb]; rfl, h⟩]
theorem revT_t {a : List D} (ha : D.imms a = true) : revT (.tup a) = some (.tup a.reverse) := if_pos ha
/-! what repr can tell -/
/-- small data: what same_ok asks of it -/
def okD (d : D) : Prop := ∃ p, toPy d = some p ∧ tellP p = true ∧ wtP p ≤ 16000000 ∧ p.depth ≤ 58
theorem same_okD {d : D} (h : okD d) : gSame [d, d] = .ok (.bl true) [] := by
  obtain ⟨p, h1, h2, h3, h4⟩ := h
  exact same_ok h1 h2 h3 h4
theorem lg_ok {i : Int} (h : i.natAbs < 2 ^ 180) : decide (i.natAbs.log2 < 1920) = true := decide_eq_true (Nat.lt_trans (sm_of (Nat.lt_trans h (by decide))).log (by decide))
theorem okD_i {i : Int} (h : i.natAbs < 2 ^ 180) : okD (.int i) := ⟨.int i, rfl, lg_ok h, by show 1922 ≤ _; decide, by simp [PyData.depth]⟩
theorem okD_b (b : Bool) : okD (.bl b) := ⟨.bool b, rfl, rfl, by cases b <;> decide, by cases b <;> decide⟩
theorem toPys_ints : ∀ l : List Int, toPys (l.map .int) = some (l.map .int)
  | [] => rfl
  | i :: l => by simp only [List.map_cons, toPys, toPy, toPys_ints l]
theorem tell_ints {l : List Int} (h : ∀ i ∈ l, i.natAbs < 2 ^ 180) : tellP.tellPs (l.map PyData.int) = true := by
  induction l with
  | nil => rfl
  | cons i l ih =>
    show (tellP (.int i) && tellP.tellPs (l.map PyData.int)) = true
    rw [ih fun j hj => h j (List.mem_cons_of_mem _ hj), show tellP (.int i) = true from lg_ok (h i List.mem_cons_self)]; rfl
theorem wt_ints (l : List Int) : wtP.wtPs (l.map PyData.int) = 1924 * l.length := by
  induction l with
  | nil => rfl
  | cons i l ih =>
    show wtP (.int i) + 2 + wtP.wtPs (l.map PyData.int) = _
    rw [ih, List.length_cons]
    show 1922 + 2 + _ = _
    omega
theorem depth_ints (l : List Int) : PyData.depthAll (l.map PyData.int) ≤ 1 := by
  induction l with
  | nil => simp [PyData.depthAll]
  | cons i l ih => simp only [List.map_cons, PyData.depthAll, PyData.depth]; omega
end Mw

set_option maxHeartbeats 1000000
namespace Mw
open PySem PySem.Spec L2
open PyProof.Rows hiding St
open PySem.W (Datum DatumOrd minOf maxOf)
/-! ### min and max of typed data -/
section
variable {α : Type} [DecidableEq α] [DatumOrd α]
/-- enc stands for the data of α -/
structure Enc (enc : α → D) : Prop where
  to : ∀ a : α, toPy (enc a) = some (Datum.toD a)
  of : ∀ a : α, ofPy (Datum.toD a) = some (enc a)
  dep : ∀ a : α, (Datum.toD a).depth ≤ 50
variable {enc : α → D}
theorem Enc.tos (h : Enc enc) : ∀ xs : List α, toPys (xs.map enc) = some (xs.map Datum.toD)
  | [] => rfl
  | x :: xs => by simp only [List.map_cons, toPys, h.to x, h.tos xs]
theorem Enc.deps (h : Enc enc) : ∀ xs : List α, PyData.depthAll (xs.map Datum.toD) ≤ 50
  | [] => by simp [PyData.depthAll]
  | x :: xs => by
    have a := h.dep x
    have b := h.deps xs
    simp only [List.map_cons, PyData.depthAll]; omega
theorem alikeB_typed (xs : List α) : alikeB (xs.map Datum.toD) = true := by
  unfold alikeB
  rw [Bool.and_eq_true, List.all_eq_true, List.all_eq_true]
  refine ⟨fun x hx => List.all_eq_true.mpr fun y hy => ?_, fun x hx => ?_⟩
  · obtain ⟨a, _, rfl⟩ := List.mem_map.mp hx
    obtain ⟨b, _, rfl⟩ := List.mem_map.mp hy
    exact DatumOrd.alike a b
  · obtain ⟨a, _, rfl⟩ := List.mem_map.mp hx
    have := DatumOrd.notNone a
    cases q : (Datum.toD a : PyData) with
    | none => exact absurd q this
    | _ => rfl
theorem datPick_min (h : Enc enc) (x : α) (xs : List α) : datPick PySem.W.minD ((x :: xs).map enc) = some (enc (minOf x xs)) := by
  unfold datPick
  rw [h.tos (x :: xs), List.map_cons]
  simp only []
  have a := alikeB_typed (x :: xs)
  have b := h.deps (x :: xs)
  rw [List.map_cons] at a b
  rw [if_pos (by rw [a, Bool.true_and, decide_eq_true_eq]; omega), PySem.W.minD_map, h.of]
theorem datPick_max (h : Enc enc) (x : α) (xs : List α) : datPick PySem.W.maxD ((x :: xs).map enc) = some (enc (maxOf x xs)) := by
  unfold datPick
  rw [h.tos (x :: xs), List.map_cons]
  simp only []
  have a := alikeB_typed (x :: xs)
  have b := h.deps (x :: xs)
  rw [List.map_cons] at a b
  rw [if_pos (by rw [a, Bool.true_and, decide_eq_true_eq]; omega), PySem.W.maxD_map, h.of]
/-- what is in the row and below all else is the least -/
theorem minOf_is : ∀ (xs : List α) (x b : α), b ∈ x :: xs → DatumOrd.lt b b = false → (∀ y ∈ x :: xs, y = b ∨ (DatumOrd.lt b y = true ∧ DatumOrd.lt y b = false)) → minOf x xs = b
  | [], x, b, hb, _, _ => by
    have : b = x := by simpa using hb
    rw [this]; rfl
  | y :: ys, x, b, hb, hi, h => by
    have e : minOf x (y :: ys) = minOf (if DatumOrd.lt y x = true then y else x) ys := rfl
    rw [e]
    refine minOf_is ys _ b ?_ hi fun z hz => ?_
    · rcases List.mem_cons.mp hb with q | hb
      · subst q
        have : DatumOrd.lt y b = false := by
          rcases h y (List.mem_cons_of_mem _ List.mem_cons_self) with z | z
          · rw [z]; exact hi
          · exact z.2
        rw [this, if_neg (by decide)]
        exact List.mem_cons_self
      · rcases List.mem_cons.mp hb with q | hb
        · subst q
          rcases h x List.mem_cons_self with z | z
          · subst z; rw [if_neg (by rw [hi]; decide)]; exact List.mem_cons_self
          · rw [if_pos z.1]; exact List.mem_cons_self
        · exact List.mem_cons_of_mem _ hb
    · rcases List.mem_cons.mp hz with q | hz
      · rw [q]
        split
        · exact h y (List.mem_cons_of_mem _ List.mem_cons_self)
        · exact h x List.mem_cons_self
      · exact h z (List.mem_cons_of_mem _ (List.mem_cons_of_mem _ hz))
/-- at the back of max and min: a row that is no row of whole numbers -/
theorem minX_pick {ds : List D} {d r : D} (hd : itemsD d = some ds) (hi : minD [d] = none) (h : datPick PySem.W.minD ds = some r) : minX [d] = some r := by
  unfold minX
  rw [hi]
  simp only [hd, Option.bind_some, h]
theorem maxX_pick {ds : List D} {d r : D} (hd : itemsD d = some ds) (hi : maxD [d] = none) (h : datPick PySem.W.maxD ds = some r) : maxX [d] = some r := by
  unfold maxX
  rw [hi]
  simp only [hd, Option.bind_some, h]
theorem enc_int : Enc (α := Int) D.int := ⟨fun _ => rfl, fun _ => rfl, fun a => by show PyData.depth (.int a) ≤ 50; simp [PyData.depth]⟩
theorem minX_tup (x : Int) (xs : List Int) : minX [.tup ((x :: xs).map D.int)] = some (.int (minOf x xs)) := minX_pick (ds := (x :: xs).map D.int) rfl rfl (datPick_min enc_int x xs)
theorem maxX_tup (x : Int) (xs : List Int) : maxX [.tup ((x :: xs).map D.int)] = some (.int (maxOf x xs)) := maxX_pick (ds := (x :: xs).map D.int) rfl rfl (datPick_max enc_int x xs)
theorem minOf_ge {m : Int} : ∀ (xs : List Int) (x : Int), (∀ y ∈ x :: xs, m ≤ y) → m ≤ minOf x xs
  | [], x, h => h x List.mem_cons_self
  | y :: ys, x, h => by
    have e : minOf x (y :: ys) = minOf (if DatumOrd.lt y x = true then y else x) ys := rfl
    rw [e]
    refine minOf_ge ys _ fun z hz => ?_
    rcases List.mem_cons.mp hz with q | hz
    · rw [q]
      split
      · exact h y (List.mem_cons_of_mem _ List.mem_cons_self)
      · exact h x List.mem_cons_self
    · exact h z (List.mem_cons_of_mem _ (List.mem_cons_of_mem _ hz))
end
theorem asg_tpt (ts : List Tg) (ds : List D) (ρ : Env) : asg (.tp ts) (.tup ds) ρ = asgs ts ds ρ := by simp only [asg]
theorem asg_tpl (ts : List Tg) (ds : List D) (ρ : Env) : asg (.tp ts) (.lst ds) ρ = asgs ts ds ρ := by simp only [asg]
theorem asgs_nil (ρ : Env) : asgs [] [] ρ = some ρ := by simp only [asgs]
theorem asgs_cons (t : Tg) (ts : List Tg) (d : D) (ds : List D) (ρ : Env) : asgs (t :: ts) (d :: ds) ρ = match asg t d ρ with
  | some ρ' => asgs ts ds ρ'
  | none => none := by
  simp only [asgs] <;> cases asg t d ρ <;> rfl
theorem seqD_l (ds : List D) : seqD (.lst ds) = some ds := rfl
theorem seqD_t (ds : List D) : seqD (.tup ds) = some ds := rfl
theorem seqD_c (ds : List D) : seqD (.scr ds) = some ds := rfl
end Mw

set_option maxHeartbeats 1000000
namespace Mw
open PySem PySem.Spec L2
open PyProof.Rows hiding St
/-! ### sorted, of any data that can be compared -/
def pyOf (d : D) : PyData := (toPy d).getD .none
def tupC : PyData → Bool
  | .tuple (_ :: _) => true
  | _ => false
def tupN : PyData → Bool
  | .tuple _ => false
  | .none => false
  | _ => true
def sortableB (ps : List PyData) : Bool := ps.all tupC || ps.all tupN
def sortA (ds : List D) : Option (List D) := match toPys ds with
  | some ps => if D.imms ds && alikeB ps && sortableB ps && decide (PyData.depthAll ps ≤ 55) then some (ds.mergeSort (PySem.W.dataLe false pyOf)) else none
  | none => none
def sortX (d : D) : Option D := match sortD d with
  | some r => some r
  | none => (lstOf d).bind fun ds => (sortA ds).map .lst
theorem pyOf_some {d : D} {p : PyData} (h : toPy d = some p) : pyOf d = p := by unfold pyOf; rw [h]; rfl
theorem toPys_map : ∀ {ds : List D} {ps : List PyData}, toPys ds = some ps → ds.map pyOf = ps
  | [], ps, h => by simp only [toPys] at h; cases h; rfl
  | d :: ds, ps, h => by
    simp only [toPys] at h
    split at h
    · rename_i p q e1 e2
      cases h
      rw [List.map_cons, pyOf_some e1, toPys_map e2]
    · cases h
theorem sortableB_of {ps : List PyData} (h : sortableB ps = true) : PySem.W.Sortable ps := by
  unfold sortableB at h
  rw [Bool.or_eq_true, List.all_eq_true, List.all_eq_true] at h
  rcases h with h | h
  · left
    intro d hd
    have := h d hd
    match d, this with
    | .tuple (x :: r), _ => exact ⟨x, r, rfl⟩
  · right
    intro d hd
    have := h d hd
    refine ⟨fun e => ?_, fun xs e => ?_⟩
    · rw [e] at this; cases this
    · rw [e] at this; cases this
theorem depth_mem : ∀ {ps : List PyData} {p : PyData}, p ∈ ps → p.depth ≤ PyData.depthAll ps
  | q :: ps, p, h => by
    simp only [PyData.depthAll]
    rcases List.mem_cons.mp h with rfl | h
    · omega
    · have := depth_mem h; omega
section
variable {K : PySem.W.Frag} {H : Hp}
theorem RepL.of_pairs : ∀ {l : List (V × D)}, (∀ b ∈ l, Rep K H b.2 b.1 []) → RepL K H (l.map Prod.snd) (l.map Prod.fst) []
  | [], _ => by simp only [List.map_nil, RepL, and_self]
  | b :: l, h => by
    have := RepL.cons (h b List.mem_cons_self) (RepL.of_pairs fun c hc => h c (List.mem_cons_of_mem _ hc))
    simpa using this
theorem RepL.pairs : ∀ {ds : List D} {xs : List V} {G : Fp}, RepL K H ds xs G → D.imms ds = true → ∀ b ∈ xs.zip ds, Rep K H b.2 b.1 []
  | [], xs, G, h, _, b, hb => by simp at hb
  | d :: ds, xs, G, h, hi, b, hb => by
    simp only [RepL] at h
    obtain ⟨v, r, G1, G2, rfl, rfl, h1, h2⟩ := h
    rw [imms_cons, Bool.and_eq_true] at hi
    rw [List.zip_cons_cons] at hb
    rcases List.mem_cons.mp hb with rfl | hb
    · have := Rep.imm _ _ _ h1 hi.1
      rw [this] at h1; exact h1
    · exact RepL.pairs h2 hi.2 b hb
theorem vals_zip : ∀ {xs : List V} {its : List Value} {ds : List D}, Vals xs its → xs.length = ds.length → PySem.W.EachIs (fun u b => RelV (Prod.fst b) u) its (xs.zip ds)
  | [], _, [], .nil, _ => .nil
  | x :: xs, _, [], _, e => by simp at e
  | x :: xs, _, d :: ds, .cons r t, e => .cons r (vals_zip t (by simpa using e))
theorem vals_of_each : ∀ {out : List Value} {l : List (V × D)}, PySem.W.EachIs (fun u b => RelV (Prod.fst b) u) out l → Vals (l.map Prod.fst) out
  | _, _, .nil => .nil
  | _, _, .cons r t => .cons r (vals_of_each t)
theorem zip_fst_snd {xs : List V} {ds : List D} (h : xs.length = ds.length) : (xs.zip ds).map Prod.snd = ds := List.map_snd_zip (by omega)
def rSortedA (K : PySem.W.Frag) : List V → Hp → VK → Prop := fun vs H Q => ∃ (a : Addr) (xs : List V) (ds : List D) (G : Fp) (es : List D), vs = [V.ref a] ∧ SqL K H a xs ∧ RepL K H ds xs G ∧ sortA ds = some es ∧
  ∀ (ys : List V) (p : Addr), RepL K H es ys [] → H p = none → Q (.ref p) (upd H p (.lst ys))
end
section
variable {X : Cx}
theorem cr_sortedA (hu : X.A.units + 64 < cLine) : CallR X (.builtin "sorted") (rSortedA X.K) := by
  intro pins s σ H vs us Q I r h
  obtain ⟨a, xs, ds, G, es, rfl, hs, hr, he, q⟩ := h
  obtain ⟨its, rv, hl, hz⟩ := I.list hs
  rw [Vals.ref1 r]
  unfold sortA at he
  split at he
  · rename_i ps ep
    split at he
    · rename_i hc
      cases he
      simp only [Bool.and_eq_true, decide_eq_true_eq] at hc
      obtain ⟨⟨⟨c1, c2⟩, c3⟩, c4⟩ := hc
      have hlen : xs.length = ds.length := RepL.length hr
      have pm := toPys_map ep
      have prs := RepL.pairs hr c1
      have e1 := vals_zip (ds := ds) rv hlen
      have enc : (xs.zip ds).map (fun b => pyOf b.2) = ps := by
        rw [← pm]
        conv => rhs; rw [← zip_fst_snd hlen]
        rw [List.map_map]; rfl
      have er : PySem.W.EachIs (fun v b => ∃ as, Reads s.heap v (pyOf (Prod.snd b)) as) its (xs.zip ds) := by
        refine PySem.W.EachIs.of_zip e1.length fun p hp => ?_
        have rel := e1.zip p hp
        have mem : p.2 ∈ xs.zip ds := (List.of_mem_zip hp).2
        have rp := prs p.2 mem
        have pd : p.2.2 ∈ ds := (List.of_mem_zip mem).2
        obtain ⟨y, hy⟩ : ∃ y, toPy p.2.2 = some y := by
          have : ∀ (ds : List D) (ps : List PyData), toPys ds = some ps → ∀ d ∈ ds, ∃ y, toPy d = some y := fun ds => by
            induction ds with
            | nil => intro _ _ d hd; cases hd
            | cons x ds ih =>
              intro ps h d hd
              simp only [toPys] at h
              split at h
              · rename_i p q e1 e2
                rcases List.mem_cons.mp hd with rfl | hd
                · exact ⟨_, e1⟩
                · exact ih _ e2 d hd
              · cases h
          exact this ds ps ep _ pd
        have dp := Rep.dp _ _ _ _ rp hy
        rw [← pyOf_some hy] at dp
        exact Dp.reads I _ _ _ dp rel
      have al := (alikeB_of c2).1
      refine PySem.W.sorted_data (R := fun u b => RelV (Prod.fst b) u) (enc := fun b => pyOf (Prod.snd b)) (bs := xs.zip ds) hl.isList e1 er (by rw [enc]; exact fun x hx y hy => al x hx y hy) (by rw [enc]; exact sortableB_of c3) ?_ ?_ fun out h1 h2 => ?_
      · rw [← e1.length, ← rv.length]; exact hz
      · intro b hb
        have m : pyOf b.2 ∈ ps := by rw [← enc]; exact List.mem_map.mpr ⟨b, hb, rfl⟩
        have := depth_mem m
        omega
      · obtain ⟨ep, he'⟩ := PyProof.Rows.sortedAll_at s.heap its out.toArray
        have sn : ((xs.zip ds).mergeSort (PySem.W.dataLe false fun b => pyOf (Prod.snd b))).map Prod.snd = ds.mergeSort (PySem.W.dataLe false pyOf) := by
          have z := List.map_mergeSort (r := PySem.W.dataLe false fun b : V × D => pyOf (Prod.snd b)) (s := PySem.W.dataLe false pyOf) (f := Prod.snd) (l := xs.zip ds) (fun a _ b _ => rfl)
          rw [z, zip_fst_snd hlen]
        have rl := RepL.of_pairs (K := X.K) (H := H) (l := (xs.zip ds).mergeSort (PySem.W.dataLe false fun b => pyOf (Prod.snd b))) fun b hb => prs b (List.mem_mergeSort.mp hb)
        rw [sn] at rl
        have hz2 : (((xs.zip ds).mergeSort (PySem.W.dataLe false fun b => pyOf (Prod.snd b))).map Prod.fst).length ≤ sizeLine := by
          rw [List.length_map, List.length_mergeSort, ← e1.length, ← rv.length]; exact hz
        exact ⟨.ref _, upd H (s.heap.objs.size + 1) (.lst (((xs.zip ds).mergeSort (PySem.W.dataLe false fun b => pyOf (Prod.snd b))).map Prod.fst)), I.laid (t' := s.toks) (fun _ _ => PyProof.Rows.sortedAll_old) (Nat.le_succ _) ⟨hz2, out, ep, vals_of_each h2, he'⟩, rfl, q _ _ rl (I.hok.fresh (Nat.le_succ _))⟩
    · cases he
  · cases he
theorem d_sortedX (hu : X.A.units + 64 < cLine) : CallR X (.builtin "sorted") (nD X.K (un1 sortX)) := CallR.of (d_sorted.or (cr_sortedA hu)) fun xs H Q h => by
  obtain ⟨ds, Gx, r, l, eg, q⟩ := h
  obtain ⟨d, v, rfl, r1, eu⟩ := un1_rep l eg
  unfold sortX at eu
  split at eu
  · rename_i r' e1
    cases eu
    exact .inl ⟨[d], _, r, (by have := RepL.cons r1 (show RepL X.K H [] [] [] from by simp [RepL]); simpa using this), e1, q⟩
  · simp only [Option.bind_eq_some_iff, Option.map_eq_some_iff] at eu
    obtain ⟨es, e1, zs, e2, rfl⟩ := eu
    obtain ⟨a, us, G', rfl, s1, l1⟩ := lstOf_rep r1 e1
    refine .inr ⟨a, us, es, G', zs, rfl, s1, l1, e2, fun ys p hy hp => ?_⟩
    have sm : Same H (upd H p (.lst ys)) := same_upd hp
    exact q _ _ [p] sm (rep_lst upd_same (RepL.keep _ _ _ hy ⟨fun a ha => (nomatch ha), fun a xs e => sm a _ e, fun a o u e => sm a _ e⟩)) nd1 (new1 hp)
end
end Mw

set_option maxHeartbeats 3200000
namespace Mw
open PySem PySem.Spec L2
open PyProof.Rows hiding St
/-! ### sets of whole numbers and texts -/
def keyM (e : Int × Value) : Key := match e.2 with
  | .int k _ => .inl k
  | .str x _ => .inr x
  | _ => .inl 0
def GoodM (w : World) (e : Int × Value) : Prop := ∃ k, keyIs k e.2 = true ∧ e.1 = keyH w k
/-- the set at a: S its members, n their number; its table rises and can be walked -/
def SetM (w : World) (h : Heap) (a : Addr) (S : Key → Bool) (n : Nat) : Prop :=
  ∃ o es ep t, h.get? a = some o ∧ o.ExactSet ∧ o.data = .set es ep t ∧ (∀ e ∈ es.toList, GoodM w e) ∧ (es.toList.map keyM).Nodup ∧ (∀ k, S k = true ↔ k ∈ es.toList.map keyM) ∧
    es.size < scanBound ∧ t.fits es.size = true ∧ es.size = n ∧ Ris t.place.toList ∧ (w.params.followText "set-order" = true ∨ t.led = true)
section
variable {P : Program} {w : World} {h h' : Heap} {a : Addr} {S : Key → Bool} {n : Nat}

theorem SetM.at (R : SetM w h a S n) (k : ∀ o, h.get? a = some o → h'.get? a = some o) : SetM w h' a S n := by
  obtain ⟨o, es, ep, t, ho, r⟩ := R
  exact ⟨o, es, ep, t, k o ho, r⟩
theorem SetM.lt (R : SetM w h a S n) : a < h.objs.size := by
  obtain ⟨o, es, ep, t, ho, r⟩ := R
  exact Heap.lt_size ho
theorem SetM.congr {S' : Key → Bool} (R : SetM w h a S n) (e : ∀ k, S' k = S k) : SetM w h a S' n := by
  have q : S' = S := funext e
  rw [q]; exact R
theorem goodM_key {e : Int × Value} (g : GoodM w e) : keyIs (keyM e) e.2 = true := by
  obtain ⟨k, h, _⟩ := g
  unfold keyM
  rcases keyIs_shape h with ⟨i, t, rfl, q⟩ | ⟨x, t, rfl, q⟩ <;> rw [q] at h ⊢ <;> exact h
theorem keyIs_scan {k : Key} {v : Value} (h : keyIs k v = true) : v.scannable = true := by
  rcases keyIs_shape h with ⟨i, t, rfl, rfl⟩ | ⟨x, t, rfl, rfl⟩ <;> rfl
theorem goodM_elems {l : List (Int × Value)} (g : ∀ e ∈ l, GoodM w e) : ElemsOf (mixKind P w) l := fun e he => by
  obtain ⟨k, h1, h2⟩ := g e he
  exact ⟨⟨k, h1, h2⟩, keyIs_scan h1⟩
theorem goodM_is {e : Int × Value} (g : GoodM w e) (k : Key) : (mixKind P w).is k e.2 = true ↔ keyM e = k :=
  ⟨fun h => (mixKind P w).inj e.2 _ _ (goodM_key g) h, fun h => by rw [← h]; exact goodM_key g⟩
theorem goodM_mem {l : List (Int × Value)} (g : ∀ e ∈ l, GoodM w e) (k : Key) : k ∈ l.map keyM ↔ ∃ e ∈ l, (mixKind P w).is k e.2 = true := by
  rw [List.mem_map]
  constructor
  · rintro ⟨e, he, q⟩
    exact ⟨e, he, (goodM_is (g e he) k).2 q⟩
  · rintro ⟨e, he, q⟩
    exact ⟨e, he, (goodM_is (g e he) k).1 q⟩
theorem SetM.setOf (R : SetM w h a S n) : h.SetOf (mixKind P w) a S n := by
  obtain ⟨o, es, ep, t, ho, hx, hd, g, nd, hm, hb, hf, hn, _⟩ := R
  exact ⟨o, es, ep, t, ho, hx, hd, goodM_elems g, fun k => (hm k).trans (goodM_mem g k), hb, hf, hn⟩
end

section
variable {P : Program} {w : World} {A : Around} {E : Value → Shared → Prop} {s : Shared} {a : Addr} {S : Key → Bool} {n : Nat}

/-! ### add -/
theorem setM_add_tail {g : Bool → Sem Unit} (hg : ∀ (b : Bool) (s₁ : Shared) (Q' : Unit → Shared → Prop), Q' () s₁ → wpAny (model P w) A (g b) Q' E s₁)
    {o : Obj} {es : Array (Int × Value)} {ep : Nat} {t : SetTable} (ho : s.heap.get? a = some o) (hex : o.ExactSet) (hd : o.data = .set es ep t)
    {es1 : Array (Int × Value)} {t2 : SetTable} {S' : Key → Bool} (g1 : ∀ e ∈ es1.toList, GoodM w e) (nd1 : (es1.toList.map keyM).Nodup) (m1 : ∀ k, S' k = true ↔ k ∈ es1.toList.map keyM)
    (hb1 : es1.size < scanBound) (hf2 : t2.fits es1.size = true) (hr : Ris t2.place.toList) (hl : w.params.followText "set-order" = true ∨ t2.led = true) {wasDummy : Bool} {R : Option Bool → Shared → Prop}
    (hR : ∀ h', Heap.SameBut a s.heap h' → SetM w h' a S' es1.size → R (some true) { s with heap := h' }) :
    wpAny (model P w) A (do
        storeSet a es1 t2
        if (!wasDummy && t2.tooFull) = true then do
            g (relayAll t2 es1 (SetTable.grown es1.size)).2.2
            storeSet a (relayAll t2 es1 (SetTable.grown es1.size)).1 (relayAll t2 es1 (SetTable.grown es1.size)).2.1
            pure (some true)
          else pure (some true)) R E s := by
  refine wpAny_bind (wpAny_storeSet_of ho hd ?_ (fits_of_scanBound hb1))
  have ho1 := store_at (es' := es1) (t' := t2) ho hd
  have sb1 := Heap.SameBut.update s.heap a (Obj.putSet es1 t2)
  split
  · have pm := relayAll_perm t2 es1 (SetTable.grown es1.size)
    have hf3 := relayAll_fits t2 es1 (SetTable.grown es1.size)
    have hr3 := relayAll_ris t2 es1 (SetTable.grown es1.size)
    have hl3 := relayAll_led t2 es1 (SetTable.grown es1.size)
    generalize relayAll t2 es1 (SetTable.grown es1.size) = Z at pm hf3 hr3 hl3 ⊢
    obtain ⟨es2, t3, gave⟩ := Z
    dsimp only at pm hf3 hr3 hl3 ⊢
    have hsz : es2.size = es1.size := by rw [← Array.length_toList, pm.length_eq, Array.length_toList]
    have hb2 : es2.size < scanBound := by rw [hsz]; exact hb1
    refine wpAny_bind (hg _ _ _ ?_)
    refine wpAny_bind (wpAny_storeSet_of ho1 rfl ?_ (fits_of_scanBound hb2))
    have ho2 := store_at (es' := es2) (t' := t3) ho1 rfl
    refine wpAny_pure (hR _ (sb1.trans (Heap.SameBut.update _ a _)) ?_)
    exact ⟨_, es2, _, t3, ho2, hex, rfl, fun e he => g1 e (pm.mem_iff.mp he), (pm.map keyM).nodup_iff.mpr nd1, fun k => (m1 k).trans (pm.map keyM).mem_iff.symm, hb2, hf3, hsz, hr3,
      hl.imp id fun z => by rw [hl3]; exact z⟩
  · exact wpAny_pure (hR _ sb1 ⟨_, es1, _, t2, ho1, hex, rfl, g1, nd1, m1, hb1, hf2, rfl, hr, hl⟩)

theorem setM_add_hashed {k : Key} {v : Value} {Q : Bool → Shared → Prop} (hkey : (mixKind P w).is k v = true) (R : SetM w s.heap a S n) (room : n + 1 < scanBound)
    (hQ : ∀ h', Heap.SameBut a s.heap h' → SetM w h' a (fun j => S j || decide (j = k)) (if S k = true then n else n + 1) → Q (!S k) { s with heap := h' }) :
    wpAny (model P w) A (setAddHashed a v ((mixKind P w).hash k)) Q E s := by
  obtain ⟨o, es, ep, t, ho, hex, hd, g, nd, hm, hb, hf, hn, hr, hl⟩ := R
  have hsc : v.scannable = true := keyIs_scan hkey
  have hel : ElemsOf (mixKind P w) es.toList := goodM_elems g
  unfold setAddHashed setAddHashedIn
  refine wpAny_holding (wpAny_bind (wpAny_setState_of ho hd hf ?_))
  dsimp only
  rw [byScan_of hsc hb hel]
  simp only [↓reduceIte]
  unfold setAddByScan
  refine wpAny_bind ?_
  refine wpAny_bind (wpAny_rule ?_)
  refine wpAny_bind (wpAny_setScan_of hkey ho hd hf hel ?_)
  cases hfi : List.findIdx? (fun e => (mixKind P w).is k e.2) es.toList with
  | some j =>
    dsimp only
    obtain ⟨hj, pj, _⟩ := List.findIdx?_eq_some_iff_getElem.mp hfi
    have hSk : S k = true := (hm k).2 ((goodM_mem (P := P) (w := w) g k).2 ⟨es.toList[j], List.getElem_mem hj, pj⟩)
    refine wpAny_pure (wpAny_pure ?_)
    have q := hQ s.heap (Heap.SameBut.refl a s.heap) ⟨o, es, ep, t, ho, hex, hd, g, nd, fun i => by
      rw [Bool.or_eq_true, decide_eq_true_eq, ← hm i]
      exact ⟨fun z => z.elim id (fun e => e ▸ hSk), .inl⟩, hb, hf, by rw [if_pos hSk]; exact hn, hr, hl⟩
    rw [hSk] at q
    exact q
  | none =>
    dsimp only
    have hnk : k ∉ es.toList.map keyM := fun z => by
      obtain ⟨e, he, q⟩ := (goodM_mem (P := P) (w := w) g k).1 z
      have c := List.findIdx?_eq_none_iff.mp hfi e he
      rw [q] at c
      cases c
    have hSk : S k = false := by
      cases q : S k with
      | false => rfl
      | true => exact absurd ((hm k).1 q) hnk
    have hgw : ∀ (b : Bool) {s₁ : Shared} {Q' : Unit → Shared → Prop}, Q' () s₁ → wpAny (model P w) A (match b with | true => rule "set.scan.the-table-gave-way" | false => pure ()) Q' E s₁ :=
      fun b s₁ Q' q => by cases b <;> first | exact wpAny_pure q | exact wpAny_rule q
    have pm := layNew_perm t es ((mixKind P w).hash k) v
    have hf1 := layNew_fits t es ((mixKind P w).hash k) v
    have hr1 := layNew_ris t es ((mixKind P w).hash k) v hr
    have hl1 := layNew_led t es ((mixKind P w).hash k) v
    generalize layNew t es ((mixKind P w).hash k) v = Z at pm hf1 hr1 hl1 ⊢
    obtain ⟨es1, t1, wasDummy, gave⟩ := Z
    dsimp only at pm hf1 hr1 hl1 ⊢
    rw [Array.toList_push] at pm
    have pc : es1.toList.Perm (((mixKind P w).hash k, v) :: es.toList) := pm.trans (List.perm_append_singleton _ _)
    have kk : keyM ((mixKind P w).hash k, v) = k := (goodM_is (P := P) (w := w) (e := ((mixKind P w).hash k, v)) ⟨k, hkey, rfl⟩ k).1 hkey
    have pk : (es1.toList.map keyM).Perm (k :: es.toList.map keyM) := by
      have z := pc.map keyM
      rw [List.map_cons, kk] at z; exact z
    have g1 : ∀ e ∈ es1.toList, GoodM w e := fun e he => by
      rcases List.mem_cons.mp (pc.mem_iff.mp he) with z | z
      · rw [z]; exact ⟨k, hkey, rfl⟩
      · exact g e z
    have nd1 : (es1.toList.map keyM).Nodup := pk.nodup_iff.mpr (List.nodup_cons.mpr ⟨hnk, nd⟩)
    have m1 : ∀ i, (S i || decide (i = k)) = true ↔ i ∈ es1.toList.map keyM := fun i => by
      rw [Bool.or_eq_true, decide_eq_true_eq, hm i, pk.mem_iff, List.mem_cons]
      exact Or.comm
    have hsz : es1.size = n + 1 := by rw [← Array.length_toList, pc.length_eq, List.length_cons, Array.length_toList, hn]
    have hb1 : es1.size < scanBound := by rw [hsz]; exact room
    have hled : w.params.followText "set-order" = true ∨ t1.led = true := hl.imp id fun z => by rw [hl1]; exact z
    have fin : ∀ h', Heap.SameBut a s.heap h' → SetM w h' a (fun j => S j || decide (j = k)) es1.size → Q true { s with heap := h' } := fun h' sb r => by
      have q := hQ h' sb
      rw [hSk] at q
      rw [hsz] at r
      exact q r
    refine wpAny_bind (hgw _ ?_)
    split
    · refine wpAny_bind ?_
      rw [hashByValue_scannable 8 hsc]
      refine wpAny_pure ?_
      refine setM_add_tail ?_ ho hex hd g1 nd1 m1 hb1 ?_ ?_ ?_ ?_
      · intro b s₁ Q' q; cases b <;> first | exact wpAny_pure q | exact wpAny_rule q
      · first | (split <;> first | exact hf1 | exact SetTable.fits_plain_off hf1) | exact hf1
      · first | (split <;> exact hr1) | exact hr1
      · first | (split <;> exact hled) | exact hled
      · intro h' sb r; dsimp only; exact wpAny_pure (fin h' sb r)
    · refine wpAny_bind (wpAny_pure ?_)
      simp only [↓reduceIte]
      refine setM_add_tail ?_ ho hex hd g1 nd1 m1 hb1 hf1 hr1 hled ?_
      · intro b s₁ Q' q; cases b <;> first | exact wpAny_pure q | exact wpAny_rule q
      · intro h' sb r; dsimp only; exact wpAny_pure (fin h' sb r)

end
end Mw

set_option maxHeartbeats 3200000
namespace Mw
open PySem PySem.Spec L2
open PyProof.Rows hiding St
/-! ### set(xs), of whole numbers and texts -/
instance memKey (j : Key) (l : List Key) : Decidable (j ∈ l) := @List.instDecidableMemOfLawfulBEq Key instBEqOfDecidableEq inferInstance j l
theorem setM_new_at {w : World} {h : Heap} {a : Addr} {ns : List Key} (ho : h.get? a = some { cls := .type "set", dict := none, data := .set #[] 0 (.fresh 0 0 (!w.params.followText "set-order")) }) : SetM w h a (fun j => decide (j ∈ ns.take 0)) 0 :=
  ⟨_, #[], 0, _, ho, ⟨rfl, rfl, rfl⟩, rfl, (fun e he => by simp at he), (by simp), (fun k => by simp), (by decide), (by rfl), rfl, List.Pairwise.nil, by
    show _ ∨ (!w.params.followText "set-order") = true
    cases w.params.followText "set-order"
    · exact .inr rfl
    · exact .inl rfl⟩
section
variable {P : Program} {w : World} {A : Around} {E : Value → Shared → Prop} {s : Shared}
theorem set_update_keys {I : Addr} {fp wr : List Addr} {G : Array GenState → Array GenState → Prop} {n : Nat} {Pv : Nat → Value → Prop} {St : Nat → Shared → Prop} {R : Result → Shared → Prop}
    (W : WalksS P w A.in1 I fp wr G n Pv St) (S : Addr) (hSf : S ∉ fp) (ns : List Key) (hn : n = ns.length) (hb : ns.length + 1 < scanBound) (hval : ∀ i v, Pv i v → ∃ k, ns[i]? = some k ∧ keyIs k v = true) :
    ∀ (k i : Nat) (s : Shared), n - i = k → i ≤ n → St i s → (∃ c, c ≤ i ∧ SetM w s.heap S (fun j => decide (j ∈ ns.take i)) c) →
      (∀ s' c, Moved (S :: wr) G s s' → c ≤ n → SetM w s'.heap S (fun j => decide (j ∈ ns)) c → R (.ok (.ret .none)) s') →
      codeAny (model P w) A (.builtin "set.update.loop" ⟨[.ref S, .ref I], []⟩) R s := by
  have hSw : S ∉ wr := fun h => hSf (W.sub _ h)
  have hsub : ∀ b ∈ wr, b ∈ S :: wr := fun b hb => List.mem_cons_of_mem _ hb
  intro k
  induction k with
  | zero =>
    intro i s hk' hi hst ⟨c, hc, hS⟩ hR
    have hin : i = n := by omega
    subst hin
    refine codeAny_builtin F.entry_set_update_loop ?_
    rw [Around.under_plainId F.plain_set_update_loop _]
    show wpAny _ A.in1 (pyNext (.ref I) >>= _) _ _ s
    refine wpAny_bind (W.done s _ _ hst fun s' hm => ?_)
    show wpAny _ A.in1 (ret Value.none) _ _ s'
    have e : ns.take i = ns := List.take_of_length_le (by omega)
    rw [e] at hS
    exact wpAny_pure (hR s' c (hm.mono hsub) hc (hS.at fun o e => hm.heap S o hSw e))
  | succ k ih =>
    intro i s hk' hi hst ⟨c, hc, hS⟩ hR
    have hlt : i < n := by omega
    refine codeAny_builtin F.entry_set_update_loop ?_
    rw [Around.under_plainId F.plain_set_update_loop _]
    show wpAny _ A.in1 (pyNext (.ref I) >>= _) _ _ s
    refine wpAny_bind (W.item i s _ _ hlt hst fun v s' hP hst' hm => ?_)
    obtain ⟨z, hz, hzv⟩ := hval i v hP
    have hS' : SetM w s'.heap S (fun j => decide (j ∈ ns.take i)) c := hS.at fun o e => hm.heap S o hSw e
    show wpAny _ A.in1 (holding [v] (setAdd S v) >>= _) _ _ s'
    refine wpAny_bind (wpAny_holding ?_)
    unfold setAdd
    refine wpAny_holding ?_
    refine wpAny_bind ((mixKind P w).pyHash (k := z) hzv ?_)
    refine setM_add_hashed (s := { s' with toks := s'.toks + 1 }) hzv hS' (by omega) fun h' hsb hS2 => ?_
    have hS3 : SetM w h' S (fun j => decide (j ∈ ns.take (i + 1))) (if decide (z ∈ ns.take i) = true then c else c + 1) := hS2.congr fun j => by
      rw [List.take_add_one, hz]
      simp [List.mem_append]
    have hc3 : (if decide (z ∈ ns.take i) = true then c else c + 1) ≤ i + 1 := by
      split <;> omega
    refine wpAny_pure ⟨plainId_quiet F.plain_set_update_loop _, ih (i + 1) _ (by omega) hlt (W.frame _ s' _ _ hst' (Nat.le_succ _) fun b hb o e => ?_) ⟨_, hc3, hS3⟩ fun s'' c2 hm'' hc'' hS'' => ?_⟩
    · rw [hsb.2 b (fun h : b = S => hSf (by rw [← h]; exact hb))]; exact e
    · refine hR s'' c2 (Moved.trans W.gtrans ((hm.mono hsub).then_heap (Nat.le_succ _) fun b o hb e => ?_) hm'') hc'' hS''
      rw [hsb.2 b (fun h : b = S => hb (by rw [h]; exact List.mem_cons_self))]; exact e


set_option maxHeartbeats 3200000 in
theorem call_set_keysL {l : Addr} {items : Array Value} (ns : List Key) {Q : Value → Shared → Prop} (hh : A.handled = none) (hl : s.heap.IsList l items) (hsz : items.size = ns.length) (hval : ∀ (i : Nat) (v : Value), items[i]? = some v → ∃ k, ns[i]? = some k ∧ keyIs k v = true) (hb : ns.length + 1 < scanBound)
    (h : ∀ (h' : Heap) (tk c : Nat), SetM w h' s.heap.objs.size (fun j => decide (j ∈ ns)) c → c ≤ ns.length → (∀ b o, s.heap.get? b = some o → h'.get? b = some o) → Q (.ref s.heap.objs.size) { s with heap := h', toks := tk }) :
    wpAny (model P w) A (call (.type "set") [.ref l]) Q E s := by
  have hisz := hsz
  obtain ⟨c, tl, hmro⟩ := F.called_set.mro
  have hmade := F.called_set.made
  have hsub := F.called_set.sub
  refine wpAny_call (codeAny_of_tree ?_)
  show wpAny _ _ (callAny (.type "set") _) _ _ _
  refine wpAny_pure ⟨Code.quiet_builtin _ (by decide +kernel), codeAny_builtin F.entry_type_call ?_⟩
  rw [Around.under_plain (weight_type_call_type "set" [.ref l] []) rfl]
  have h1 := F.called_set.notType
  have h2 := F.called_set.canCreate
  have hct := F.typeCall_set_1 (.ref l)
  repeat (any_goals (first | assumption | wp_step))

  refine codeAny_mono (code_set_led1 (.ref l) (E := E) (Q₁ := fun obj s₁ => obj = .ref s.heap.objs.size ∧ s₁ = { s with heap := s.heap.push { cls := .type "set", dict := none, data := .set #[] 0 (.fresh 0 0 (!w.params.followText "set-order")) } }) ⟨rfl, rfl⟩) fun r s₁ hr => ?_
  cases r with
  | error e => exact hr
  | ok fl =>
    cases fl with
    | ret obj =>
      obtain ⟨rfl, rfl⟩ := hr
      have hS : (s.heap.push { cls := .type "set", dict := none, data := .set #[] 0 (.fresh 0 0 (!w.params.followText "set-order")) }).get? s.heap.objs.size = some { cls := .type "set", dict := none, data := .set #[] 0 (.fresh 0 0 (!w.params.followText "set-order")) } := Heap.get?_push_size _ rfl
      have hT : Shared.TypeIs { s with heap := s.heap.push { cls := .type "set", dict := none, data := .set #[] 0 (.fresh 0 0 (!w.params.followText "set-order")) } } (.ref s.heap.objs.size) "set" := ⟨_, hS, rfl⟩
      have hli := F.called_set.init.lookup
      have hbi := F.called_set.init.bind (.ref s.heap.objs.size)
      repeat (any_goals (first | assumption | wp_step))

      refine codeAny_mono (codeAny_call_builtin (R := wants (fun r s₂ => r = .none ∧ ∃ h' tk c, s₂ = { s with heap := h', toks := tk } ∧ SetM w h' s.heap.objs.size (fun j => decide (j ∈ ns)) c ∧ c ≤ ns.length ∧
          (∀ b o, s.heap.get? b = some o → h'.get? b = some o)) E) F.called_set.init.plain F.entry_set_init (check_set_init_1 hT ?_)) fun r₂ s₂ hr₂ => ?_
      · obtain ⟨ol, hol, hcl, nl, hdl⟩ := hl
        obtain ⟨ocls, odict, odata, oslots⟩ := ol
        simp only at hcl hdl
        subst hcl; subst hdl
        have hol' : (s.heap.push { cls := .type "set", dict := none, data := .set #[] 0 (.fresh 0 0 (!w.params.followText "set-order")) }).get? l = some { cls := .type "list", dict := odict, data := .seq items nl, slots := oslots } := Heap.get?_push_of_some _ hol
        have hsls := F.sub_list_set
        have hslf := F.sub_list_frozenset
        have hne : (Value.type "list" == Value.type "dict") = false := by decide
        have hl1 : (s.heap.push { cls := .type "set", dict := none, data := .set #[] 0 (.fresh 0 0 (!w.params.followText "set-order")) }).IsList l items := ⟨_, hol', rfl, nl, rfl⟩
        unfold Builtin.«set.__init__» noKeywords Builtin.Frozenset.updateFrom
        generalize hPI : pyIter = PI
        wp_walk
        subst hPI

        refine wpAny_pyIter_list hl1 ?_
        refine wpAny_bind (wpAny_runValue ?_)
        have hlS : l < s.heap.objs.size := Heap.lt_size hol
        have hh3 : A.in1.in1.in1.handled = none := by simp [hh]
        have hz1 : (s.heap.push { cls := .type "set", dict := none, data := .set #[] 0 (.fresh 0 0 (!w.params.followText "set-order")) }).objs.size = s.heap.objs.size + 1 := Heap.size_push ..
        have hneI : l ≠ (s.heap.push { cls := .type "set", dict := none, data := .set #[] 0 (.fresh 0 0 (!w.params.followText "set-order")) }).objs.size := by
          rw [Heap.size_push]; exact Nat.ne_of_lt (Nat.lt_succ_of_lt hlS)
        have hSf : s.heap.objs.size ∉ [(s.heap.push { cls := .type "set", dict := none, data := .set #[] 0 (.fresh 0 0 (!w.params.followText "set-order")) }).objs.size, l] := by
          rw [Heap.size_push]; simp only [List.mem_cons, List.mem_singleton, List.not_mem_nil, or_false, not_or]
          exact ⟨Nat.ne_of_lt (Nat.lt_succ_self _), Nat.ne_of_gt hlS⟩
        refine set_update_keys ((Walks.list hh3 _ l hneI items).toS) s.heap.objs.size
          hSf ns hisz hb hval (items.size - 0) 0 _ (by omega) (Nat.zero_le _)
          ⟨⟨_, Heap.get?_push_size _ rfl, rfl, rfl⟩, (hl1.push _)⟩ ?hS0 ?hR
        case hS0 =>
          have hget : ((s.heap.push { cls := .type "set", dict := none, data := .set #[] 0 (.fresh 0 0 (!w.params.followText "set-order")) }).push { cls := .type "list_iterator", data := .fields #[.ref l, .int 0 0] }).get? s.heap.objs.size
              = some { cls := .type "set", dict := none, data := .set #[] 0 (.fresh 0 0 (!w.params.followText "set-order")) } := Heap.get?_push_of_some _ hS
          exact ⟨0, Nat.le_refl 0, setM_new_at hget⟩
        case hR =>
          intro s' c' hm hc' hS'
          obtain ⟨h', g2, d', tk', os'⟩ := s'
          have eg : g2 = s.gens := hm.gens
          have ed : d' = s.drawn := hm.drawn
          have eo : os' = s.os := hm.os
          subst eg; subst ed; subst eo
          show wpAny _ _ _ _ _ _
          refine wpAny_pure ?_
          show wpAny _ _ (ret Value.none) _ _ _
          rw [hisz] at hc'
          refine wpAny_pure ⟨rfl, h', tk', c', rfl, hS', hc', fun b o e => ?_⟩
          have hb0 : b < s.heap.objs.size := Heap.lt_size e
          have hb1 : b ≠ s.heap.objs.size := Nat.ne_of_lt hb0
          have hb2 : b ≠ (s.heap.push { cls := .type "set", dict := none, data := .set #[] 0 (.fresh 0 0 (!w.params.followText "set-order")) }).objs.size := by
            rw [Heap.size_push]; exact Nat.ne_of_lt (Nat.lt_succ_of_lt hb0)
          exact hm.heap b o (by simp only [List.mem_cons, List.mem_singleton, List.not_mem_nil, or_false, not_or]; exact ⟨hb1, hb2⟩) (Heap.get?_push_of_some _ (Heap.get?_push_of_some _ e))

      · cases r₂ with
        | error e => exact hr₂
        | ok fl₂ =>
          cases fl₂ with
          | ret r =>
            obtain ⟨rfl, h', tk, c', rfl, hS', hc', hk'⟩ := hr₂
            repeat (any_goals (first | assumption | wp_step))
            exact h _ _ _ hS' hc' hk'
          | _ => exact hr₂.elim
    | _ => exact hr.elim

set_option maxHeartbeats 3200000 in
theorem call_set_keysT {l : Addr} {items : Array Value} (ns : List Key) {Q : Value → Shared → Prop} (hh : A.handled = none) (hl : s.heap.IsTuple l items) (hsz : items.size = ns.length) (hval : ∀ (i : Nat) (v : Value), items[i]? = some v → ∃ k, ns[i]? = some k ∧ keyIs k v = true) (hb : ns.length + 1 < scanBound)
    (h : ∀ (h' : Heap) (tk c : Nat), SetM w h' s.heap.objs.size (fun j => decide (j ∈ ns)) c → c ≤ ns.length → (∀ b o, s.heap.get? b = some o → h'.get? b = some o) → Q (.ref s.heap.objs.size) { s with heap := h', toks := tk }) :
    wpAny (model P w) A (call (.type "set") [.ref l]) Q E s := by
  have hisz := hsz
  obtain ⟨c, tl, hmro⟩ := F.called_set.mro
  have hmade := F.called_set.made
  have hsub := F.called_set.sub
  refine wpAny_call (codeAny_of_tree ?_)
  show wpAny _ _ (callAny (.type "set") _) _ _ _
  refine wpAny_pure ⟨Code.quiet_builtin _ (by decide +kernel), codeAny_builtin F.entry_type_call ?_⟩
  rw [Around.under_plain (weight_type_call_type "set" [.ref l] []) rfl]
  have h1 := F.called_set.notType
  have h2 := F.called_set.canCreate
  have hct := F.typeCall_set_1 (.ref l)
  repeat (any_goals (first | assumption | wp_step))

  refine codeAny_mono (code_set_led1 (.ref l) (E := E) (Q₁ := fun obj s₁ => obj = .ref s.heap.objs.size ∧ s₁ = { s with heap := s.heap.push { cls := .type "set", dict := none, data := .set #[] 0 (.fresh 0 0 (!w.params.followText "set-order")) } }) ⟨rfl, rfl⟩) fun r s₁ hr => ?_
  cases r with
  | error e => exact hr
  | ok fl =>
    cases fl with
    | ret obj =>
      obtain ⟨rfl, rfl⟩ := hr
      have hS : (s.heap.push { cls := .type "set", dict := none, data := .set #[] 0 (.fresh 0 0 (!w.params.followText "set-order")) }).get? s.heap.objs.size = some { cls := .type "set", dict := none, data := .set #[] 0 (.fresh 0 0 (!w.params.followText "set-order")) } := Heap.get?_push_size _ rfl
      have hT : Shared.TypeIs { s with heap := s.heap.push { cls := .type "set", dict := none, data := .set #[] 0 (.fresh 0 0 (!w.params.followText "set-order")) } } (.ref s.heap.objs.size) "set" := ⟨_, hS, rfl⟩
      have hli := F.called_set.init.lookup
      have hbi := F.called_set.init.bind (.ref s.heap.objs.size)
      repeat (any_goals (first | assumption | wp_step))

      refine codeAny_mono (codeAny_call_builtin (R := wants (fun r s₂ => r = .none ∧ ∃ h' tk c, s₂ = { s with heap := h', toks := tk } ∧ SetM w h' s.heap.objs.size (fun j => decide (j ∈ ns)) c ∧ c ≤ ns.length ∧
          (∀ b o, s.heap.get? b = some o → h'.get? b = some o)) E) F.called_set.init.plain F.entry_set_init (check_set_init_1 hT ?_)) fun r₂ s₂ hr₂ => ?_
      · obtain ⟨ol, hol, hcl, nl, hdl⟩ := hl
        obtain ⟨ocls, odict, odata, oslots⟩ := ol
        simp only at hcl hdl
        subst hcl; subst hdl
        have hol' : (s.heap.push { cls := .type "set", dict := none, data := .set #[] 0 (.fresh 0 0 (!w.params.followText "set-order")) }).get? l = some { cls := .type "tuple", dict := odict, data := .seq items nl, slots := oslots } := Heap.get?_push_of_some _ hol
        have hsls := F.sub_tuple_set
        have hslf := F.sub_tuple_frozenset
        have hne : (Value.type "tuple" == Value.type "dict") = false := by decide
        have hl1 : (s.heap.push { cls := .type "set", dict := none, data := .set #[] 0 (.fresh 0 0 (!w.params.followText "set-order")) }).IsTuple l items := ⟨_, hol', rfl, nl, rfl⟩
        unfold Builtin.«set.__init__» noKeywords Builtin.Frozenset.updateFrom
        generalize hPI : pyIter = PI
        wp_walk
        subst hPI

        refine wpAny_pyIter_tuple hl1 ?_
        refine wpAny_bind (wpAny_runValue ?_)
        have hlS : l < s.heap.objs.size := Heap.lt_size hol
        have hh3 : A.in1.in1.in1.handled = none := by simp [hh]
        have hz1 : (s.heap.push { cls := .type "set", dict := none, data := .set #[] 0 (.fresh 0 0 (!w.params.followText "set-order")) }).objs.size = s.heap.objs.size + 1 := Heap.size_push ..
        have hneI : l ≠ (s.heap.push { cls := .type "set", dict := none, data := .set #[] 0 (.fresh 0 0 (!w.params.followText "set-order")) }).objs.size := by
          rw [Heap.size_push]; exact Nat.ne_of_lt (Nat.lt_succ_of_lt hlS)
        have hSf : s.heap.objs.size ∉ [(s.heap.push { cls := .type "set", dict := none, data := .set #[] 0 (.fresh 0 0 (!w.params.followText "set-order")) }).objs.size, l] := by
          rw [Heap.size_push]; simp only [List.mem_cons, List.mem_singleton, List.not_mem_nil, or_false, not_or]
          exact ⟨Nat.ne_of_lt (Nat.lt_succ_self _), Nat.ne_of_gt hlS⟩
        refine set_update_keys ((Walks.tuple hh3 _ l hneI items).toS) s.heap.objs.size
          hSf ns hisz hb hval (items.size - 0) 0 _ (by omega) (Nat.zero_le _)
          ⟨⟨_, Heap.get?_push_size _ rfl, rfl, rfl⟩, (hl1.push _)⟩ ?hS0 ?hR
        case hS0 =>
          have hget : ((s.heap.push { cls := .type "set", dict := none, data := .set #[] 0 (.fresh 0 0 (!w.params.followText "set-order")) }).push { cls := .type "tuple_iterator", data := .fields #[.ref l, .int 0 0] }).get? s.heap.objs.size
              = some { cls := .type "set", dict := none, data := .set #[] 0 (.fresh 0 0 (!w.params.followText "set-order")) } := Heap.get?_push_of_some _ hS
          exact ⟨0, Nat.le_refl 0, setM_new_at hget⟩
        case hR =>
          intro s' c' hm hc' hS'
          obtain ⟨h', g2, d', tk', os'⟩ := s'
          have eg : g2 = s.gens := hm.gens
          have ed : d' = s.drawn := hm.drawn
          have eo : os' = s.os := hm.os
          subst eg; subst ed; subst eo
          show wpAny _ _ _ _ _ _
          refine wpAny_pure ?_
          show wpAny _ _ (ret Value.none) _ _ _
          rw [hisz] at hc'
          refine wpAny_pure ⟨rfl, h', tk', c', rfl, hS', hc', fun b o e => ?_⟩
          have hb0 : b < s.heap.objs.size := Heap.lt_size e
          have hb1 : b ≠ s.heap.objs.size := Nat.ne_of_lt hb0
          have hb2 : b ≠ (s.heap.push { cls := .type "set", dict := none, data := .set #[] 0 (.fresh 0 0 (!w.params.followText "set-order")) }).objs.size := by
            rw [Heap.size_push]; exact Nat.ne_of_lt (Nat.lt_succ_of_lt hb0)
          exact hm.heap b o (by simp only [List.mem_cons, List.mem_singleton, List.not_mem_nil, or_false, not_or]; exact ⟨hb1, hb2⟩) (Heap.get?_push_of_some _ (Heap.get?_push_of_some _ e))

      · cases r₂ with
        | error e => exact hr₂
        | ok fl₂ =>
          cases fl₂ with
          | ret r =>
            obtain ⟨rfl, h', tk, c', rfl, hS', hc', hk'⟩ := hr₂
            repeat (any_goals (first | assumption | wp_step))
            exact h _ _ _ hS' hc' hk'
          | _ => exact hr₂.elim
    | _ => exact hr.elim

end
end Mw

set_option maxHeartbeats 3200000
namespace Mw
open PySem PySem.Spec L2
open PyProof.Rows hiding St
/-! ### sorted(set(xs)), len(set(xs)) -/
def encK : Key → PyData
  | .inl i => .int i
  | .inr x => .str x
def keyU (v : Value) : Key := match v with
  | .int k _ => .inl k
  | .str x _ => .inr x
  | _ => .inl 0
theorem keyU_is {w : World} {e : Int × Value} (g : GoodM w e) : keyIs (keyU e.2) e.2 = true := goodM_key g
/-- all numbers, or all texts -/
def homoK (ks : List Key) : Bool := ks.all (fun k => match k with | .inl _ => true | .inr _ => false) || ks.all (fun k => match k with | .inl _ => false | .inr _ => true)
theorem alike_homo {ks : List Key} (h : homoK ks = true) : PySem.W.AllAlike (ks.map encK) := by
  unfold homoK at h
  rw [Bool.or_eq_true, List.all_eq_true, List.all_eq_true] at h
  intro d hd d' hd'
  obtain ⟨k, hk, rfl⟩ := List.mem_map.mp hd
  obtain ⟨k', hk', rfl⟩ := List.mem_map.mp hd'
  rcases h with h | h
  · have a := h k hk
    have b := h k' hk'
    cases k with
    | inl i => cases k' with
      | inl j => rfl
      | inr y => cases b
    | inr x => cases a
  · have a := h k hk
    have b := h k' hk'
    cases k with
    | inl i => cases a
    | inr x => cases k' with
      | inl j => cases b
      | inr y => rfl
theorem encK_sortable (ks : List Key) : PySem.W.Sortable (ks.map encK) := .inr fun d hd => by
  obtain ⟨k, _, rfl⟩ := List.mem_map.mp hd
  cases k with
  | inl i => exact ⟨fun e => (nomatch e), fun xs e => (nomatch e)⟩
  | inr x => exact ⟨fun e => (nomatch e), fun xs e => (nomatch e)⟩
theorem encK_depth (k : Key) : (encK k).depth = 0 := by cases k <;> simp [encK, PyData.depth]
theorem reads_key {h : Heap} {k : Key} {v : Value} (hk : keyIs k v = true) : ∃ as, Reads h v (encK k) as ∧ ∀ a, a ∉ as := by
  rcases keyIs_shape hk with ⟨i, t, rfl, rfl⟩ | ⟨x, t, rfl, rfl⟩
  · exact ⟨[], Reads.int i t, fun a h => (nomatch h)⟩
  · exact ⟨[], Reads.str x t, fun a h => (nomatch h)⟩
/-- sorted(s), s a set -/
theorem sorted_setM {P : Program} {w : World} {A : Around} {E : Value → Shared → Prop} {s : Shared} {a : Addr} {S : Key → Bool} {n : Nat} {Q : Value → Shared → Prop} (R : SetM w s.heap a S n) (hh : A.handled = none) (hn : n ≤ 1000000) (hu : A.units + 64 < cLine)
    (hs : ∀ ks : List Key, (∀ k, k ∈ ks → S k = true) → homoK ks = true)
    (hQ : ∀ s' p (out : List Value) (c : Nat) (ks : List Key), (∀ b o, s.heap.get? b = some o → s'.heap.get? b = some o) → s'.gens = s.gens → s'.os = s.os → s.heap.objs.size ≤ p →
      s'.heap.get? p = some (seqObj "list" out.toArray c) → PySem.W.EachIs (fun v k => keyIs k v = true) out (ks.mergeSort (PySem.W.dataLe false encK)) → ks.Nodup → (∀ k, k ∈ ks ↔ S k = true) → ks.length = n → Q (.ref p) s') :
    wpAny (model P w) A (call (.builtin "sorted") [.ref a]) Q E s := by
  obtain ⟨o, es, ep, t, ho, hex, hd, g, nd, hm, hb, hf, hnn, hr, hl⟩ := R
  refine Calls.call_function_entry kind_sorted plain_sorted entry_sorted (args_sorted1 _) ?_
  unfold Builtin.«sorted»
  refine wpAny_bind (m := checkCount "sorted" 1 1 _) (wpAny_pure ?_)
  refine wpAny_bind (collect_set (A := A.in1) hh ⟨o, ho, hex.1, hd⟩ hf hb hr hl fun s1 vs k1 hz g1 o1 pm => ?_)
  have good : ∀ v ∈ vs, keyIs (keyU v) v = true := fun v hv => by
    obtain ⟨e, he, q⟩ := List.mem_map.mp (pm.mem_iff.mp hv)
    rw [← q]; exact keyU_is (g e he)
  have pk : (vs.map keyU).Perm (es.toList.map keyM) := by
    have q := pm.map keyU
    rw [List.map_map] at q
    exact q
  have hvl : vs.length = n := by rw [pm.length_eq, List.length_map, Array.length_toList]; exact hnn
  have hmem : ∀ k, k ∈ vs.map keyU ↔ S k = true := fun k => by rw [pk.mem_iff, ← hm k]
  have homo := hs (vs.map keyU) fun k hk => (hmem k).mp hk
  have e0 : PySem.W.EachIs (fun v k => keyIs k v = true) vs (vs.map keyU) := by
    have : ∀ l : List Value, (∀ v ∈ l, keyIs (keyU v) v = true) → PySem.W.EachIs (fun v k => keyIs k v = true) l (l.map keyU) := fun l => by
      induction l with
      | nil => intro _; exact .nil
      | cons v l ih => intro h; exact .cons (h v List.mem_cons_self) (ih fun u hu => h u (List.mem_cons_of_mem _ hu))
    exact this vs good
  refine wpAny_bind (wpAny_newList ?_ (by rw [hvl, sizeLine_eq]; omega))
  have hoL : (s1.heap.push (seqObj "list" vs.toArray 0)).get? s1.heap.objs.size = some (seqObj "list" vs.toArray 0) := Heap.get?_push_size _ rfl
  have er : PySem.W.EachIs (fun v k => ∃ as, Reads (s1.heap.push (seqObj "list" vs.toArray 0)) v (encK k) as ∧ s1.heap.objs.size ∉ as) vs (vs.map keyU) := e0.mono fun v k hk => by
    obtain ⟨as, r1, r2⟩ := reads_key (h := s1.heap.push (seqObj "list" vs.toArray 0)) hk
    exact ⟨as, r1, r2 _⟩
  refine wpAny_bind (wpAny_holding (PySem.W.list_sort_data (s := { s1 with heap := s1.heap.push (seqObj "list" vs.toArray 0) }) hoL e0 er (alike_homo homo) (encK_sortable _) (by rw [List.length_map, hvl, sizeLine_eq]; omega) (fun k _ => by rw [encK_depth]; show A.units + 1 + 1 + 0 < cLine; omega) fun out h1 h2 => ?_))
  obtain ⟨c, hc⟩ := sortedHeap_at (vs := vs) (out := out.toArray) hoL
  refine wpAny_pure ⟨_, rfl, hQ _ s1.heap.objs.size out c (vs.map keyU) (fun b u e => ?_) g1 o1 hz hc h2 (pk.nodup_iff.mpr nd) hmem (by rw [List.length_map, hvl])⟩
  have q := k1 b u e
  have hlt := Heap.lt_size q
  show (sortedHeap (s1.heap.push (seqObj "list" vs.toArray 0)) s1.heap.objs.size vs out.toArray).get? b = some u
  rw [sortedHeap_old (Nat.ne_of_lt hlt) (by rw [size_push']; exact Nat.lt_succ_of_lt hlt)]
  exact Heap.get?_push_of_some _ q
end Mw

set_option maxHeartbeats 3200000
namespace Mw
open PySem PySem.Spec L2
open PyProof.Rows hiding St
/-! ### sorted(set(xs)), len(set(xs)): the rules -/
def nubK : List Key → List Key
  | [] => []
  | k :: r => if k ∈ nubK r then nubK r else k :: nubK r
theorem nubK_mem : ∀ (ks : List Key) (k : Key), k ∈ nubK ks ↔ k ∈ ks
  | [], k => by simp [nubK]
  | x :: r, k => by
    have ih := nubK_mem r k
    unfold nubK
    split
    · rename_i hx
      rw [ih, List.mem_cons]
      constructor
      · exact .inr
      · rintro (rfl | h)
        · exact ih.mp hx
        · exact h
    · rw [List.mem_cons, List.mem_cons, ih]
theorem nubK_nodup : ∀ ks : List Key, (nubK ks).Nodup
  | [] => List.Pairwise.nil
  | x :: r => by
    unfold nubK
    split
    · exact nubK_nodup r
    · rename_i hx
      exact List.nodup_cons.mpr ⟨hx, nubK_nodup r⟩
def leK : Key → Key → Bool := PySem.W.dataLe false encK
def setK (ks : List Key) : List Key := (nubK ks).mergeSort leK
def tokK : Key → Int ⊕ List Nat
  | .inl i => .inl i
  | .inr x => .inr x.cps.toList
theorem lt_tok (a b : Key) : PySem.W.dataLt (encK a) (encK b) = PyProof.Rows.itemOrd.blt (tokK a) (tokK b) := by
  have e : ∀ k, PySem.W.keyToks (encK k) = [tokK k] := fun k => by cases k <;> simp [encK, tokK, PySem.W.keyToks]
  unfold PySem.W.dataLt
  rw [e, e, PyProof.Rows.lex_cons]
  have z : PyProof.Rows.lexLt PyProof.Rows.itemOrd [] [] = false := rfl
  rw [z, Bool.and_false, Bool.or_false]
theorem leK_eq (a b : Key) : leK a b = !PyProof.Rows.itemOrd.blt (tokK b) (tokK a) := by
  unfold leK
  rw [PySem.W.dataLe_eq]
  show (!PySem.W.dataLt (encK b) (encK a)) = _
  rw [lt_tok]
theorem leK_trans (a b c : Key) (h1 : leK a b = true) (h2 : leK b c = true) : leK a c = true := by
  rw [leK_eq, Bool.not_eq_true'] at *
  have h1' : PyProof.Rows.itemOrd.blt (tokK b) (tokK a) = false := h1
  have h2' : PyProof.Rows.itemOrd.blt (tokK c) (tokK b) = false := h2
  show PyProof.Rows.itemOrd.blt (tokK c) (tokK a) = false
  cases q : PyProof.Rows.itemOrd.blt (tokK c) (tokK a) with
  | false => rfl
  | true =>
    rcases PyProof.Rows.itemOrd.negTrans _ (tokK b) _ q with h | h
    · have := h.symm.trans h2'; cases this
    · have := h.symm.trans h1'; cases this
theorem leK_total (a b : Key) : (leK a b || leK b a) = true := by
  rw [leK_eq, leK_eq]
  cases q : PyProof.Rows.itemOrd.blt (tokK b) (tokK a) with
  | false => rfl
  | true =>
    cases q2 : PyProof.Rows.itemOrd.blt (tokK a) (tokK b) with
    | false => rfl
    | true =>
      have := PyProof.Rows.itemOrd.trans _ _ _ q q2
      rw [PyProof.Rows.itemOrd.irrefl] at this; cases this
theorem leK_anti (a b : Key) (h1 : leK a b = true) (h2 : leK b a = true) : a = b := by
  rw [leK_eq] at *
  simp only [Bool.not_eq_true'] at *
  have e := PyProof.Rows.itemOrd.total _ _ h2 h1
  cases a with
  | inl i => cases b with
    | inl j => cases e; rfl
    | inr y => cases e
  | inr x => cases b with
    | inl j => cases e
    | inr y =>
      have e : x.cps.toList = y.cps.toList := Sum.inr.inj e
      rw [PySem.W.str_of_cps e]
theorem setK_uniq {ks ks' : List Key} (nd : ks'.Nodup) (m : ∀ k, k ∈ ks' ↔ k ∈ ks) : ks'.mergeSort leK = setK ks := by
  have p : ks'.Perm (nubK ks) := (List.perm_ext_iff_of_nodup nd (nubK_nodup ks)).mpr fun k => by rw [m, nubK_mem]
  have s1 := List.pairwise_mergeSort (le := leK) leK_trans leK_total ks'
  have s2 := List.pairwise_mergeSort (le := leK) leK_trans leK_total (nubK ks)
  exact List.Perm.eq_of_pairwise (le := fun a b : Key => leK a b = true) (fun a b _ _ h1 h2 => leK_anti a b h1 h2) s1 s2 (((List.mergeSort_perm ks' leK).trans p).trans (List.mergeSort_perm (nubK ks) leK).symm)
theorem setK_mem {ks : List Key} {k : Key} : k ∈ setK ks ↔ k ∈ ks := by
  unfold setK
  rw [List.mem_mergeSort, nubK_mem]
def dK : Key → D
  | .inl i => .int i
  | .inr x => .str x
def sortSetD (d : D) : Option D := (itemsD d).bind fun ds => (kDs ds).bind fun ks => if homoK ks && decide (ks.length ≤ 4000) then some (.lst ((setK ks).map dK)) else none
def lenSetD (d : D) : Option D := (itemsD d).bind fun ds => (kDs ds).bind fun ks => if ks.length ≤ 4000 then some (.int (nubK ks).length) else none
section
variable {K : PySem.W.Frag} {H : Hp}
theorem kDs_rep : ∀ {ds : List D} {ks : List Key} {vs : List V} {G : Fp}, RepL K H ds vs G → kDs ds = some ks → vs = ks.map kV
  | [], ks, vs, G, r, e => by simp only [RepL] at r; simp only [kDs] at e; cases e; exact r.1
  | d :: ds, ks, vs, G, r, e => by
    simp only [RepL] at r
    obtain ⟨v, r', G1, G2, rfl, rfl, h1, h2⟩ := r
    simp only [kDs] at e
    split at e
    · rename_i k ks' e1 e2
      cases e
      rw [kDs_rep h2 e2, List.map_cons]
      congr 1
      cases d with
      | int i => simp only [kD] at e1; cases e1; exact (int_inv h1).1
      | str x => simp only [kD] at e1; cases e1; exact (str_inv h1).1
      | _ => simp [kD] at e1
    · cases e
theorem rep_keys (ks : List Key) : RepL K H (ks.map dK) (ks.map kV) [] := by
  induction ks with
  | nil => simp [RepL]
  | cons k ks ih =>
    have h1 : Rep K H (dK k) (kV k) [] := by
      cases k with
      | inl i => exact rep_int
      | inr x => exact rep_str
    have := RepL.cons h1 ih
    simpa using this
end
theorem keyIs_rel {k : Key} {u : Value} (r : RelV (kV k) u) : keyIs k u = true := by
  cases k with
  | inl i => obtain ⟨t, e⟩ := (show ∃ t, u = Value.int i t from r); subst e; exact beq_self_eq_true i
  | inr x => obtain ⟨t, e⟩ := (show ∃ t, u = Value.str x t from r); subst e; exact beq_self_eq_true x
theorem vals_keys : ∀ {ks : List Key} {us : List Value}, Vals (ks.map kV) us → us.toArray.size = ks.length ∧ ∀ (i : Nat) (v : Value), us.toArray[i]? = some v → ∃ k, ks[i]? = some k ∧ keyIs k v = true
  | [], _, .nil => ⟨rfl, fun i v h => by simp at h⟩
  | k :: ks, _, .cons r t => by
    obtain ⟨h1, h2⟩ := vals_keys t
    refine ⟨by simp only [List.size_toArray, List.length_cons] at *; omega, fun i v h => ?_⟩
    cases i with
    | zero =>
      simp at h
      subst h
      exact ⟨k, rfl, keyIs_rel r⟩
    | succ i => exact h2 i v (by simpa using h)
theorem vals_out : ∀ {out : List Value} {ks : List Key}, PySem.W.EachIs (fun v k => keyIs k v = true) out ks → Vals (ks.map kV) out
  | _, _, .nil => .nil
  | _, _, .cons r t => by
    refine .cons ?_ (vals_out t)
    rcases keyIs_shape r with ⟨i, t, rfl, rfl⟩ | ⟨x, t, rfl, rfl⟩
    · exact ⟨t, rfl⟩
    · exact ⟨t, rfl⟩
def tSortSet (K : PySem.W.Frag) (ta : TE) : TE := fun σ H Q => ta σ H fun x H1 => ∃ (l : Addr) (ks : List Key), x = .ref l ∧ (SqL K H1 l (ks.map kV) ∨ SqT K H1 l (ks.map kV)) ∧ ks.length ≤ 4000 ∧ homoK ks = true ∧ ∀ p, H1 p = none → Q (.ref p) (upd H1 p (.lst ((setK ks).map kV)))
theorem homo_sub {ks ks' : List Key} (h : homoK ks = true) (s : ∀ k ∈ ks', k ∈ ks) : homoK ks' = true := by
  unfold homoK at *
  rw [Bool.or_eq_true, List.all_eq_true, List.all_eq_true] at *
  exact h.imp (fun f k hk => f k (s k hk)) (fun f k hk => f k (s k hk))
theorem pe_sortSet {X : Cx} {a : Expr} {ta : TE} {p p2 q pos : Pos} (hc : X.calm = true) (hu : X.A.units + 64 < cLine) (hg : Gl X "sorted") (hm : X.mg "sorted" = none) (hg2 : Gl X "set") (hm2 : X.mg "set" = none) (ha : PE X a ta)
    (na : starEach [a] X.env = (false, eval a X.env) :: starEach [] X.env := by rfl) : PE X (.Call (.Name "sorted" p) [.Call (.Name "set" p2) [a] [] q] [] pos) (tSortSet X.K ta) := by
  refine ⟨fun pins s σ H Q I h => ?_⟩
  refine Call_ (ld_blt I hg hm boot_sorted ?_)
  refine PyProof.Rows.callWith_builtin1 (PyProof.Rows.args_cons ?_ rfl) rfl rfl
  refine Call_ (ld_blt I hg2 hm2 boot_set ?_)
  refine PyProof.Rows.callWith_type1 (PyProof.Rows.args_cons (thn (ha.run pins s σ H _ I h) fun v s1 ⟨x, H1, I1, r1, q1⟩ => PyProof.Rows.args_nil ?_) na) na rfl
  obtain ⟨l, ks, rfl, hq, hl, hh, q1⟩ := q1
  cases r1
  have fin : ∀ (h' : Heap) (tk c : Nat), SetM X.w h' s1.heap.objs.size (fun j => decide (j ∈ ks)) c → c ≤ ks.length → (∀ b o, s1.heap.get? b = some o → h'.get? b = some o) →
      wpAny (model X.prog X.w) X.A (spliced (backTo pos (starEach [] X.env))) (fun vs s₂ => wpAny (model X.prog X.w) X.A (call (.builtin "sorted") (Value.ref s1.heap.objs.size :: vs)) (EP X pins σ Q) X.xe s₂) X.xe { s1 with heap := h', toks := tk } := fun h' tk c R hcl hk => by
    refine PyProof.Rows.args_nil ?_
    have I2 : Inv X pins σ H1 { s1 with heap := h', toks := tk } := I1.kept hk
    refine sorted_setM (s := { s1 with heap := h', toks := tk }) R (I2.ok.hd hc) (by omega) hu (fun ks' hs' => homo_sub hh fun k hk' => of_decide_eq_true (hs' k hk')) fun s' p out c' ks' k g o hp hgt he nd hm' hlen => ?_
    have hn : H1 p = none := I2.hok.fresh hp
    have ek : ks'.mergeSort (PySem.W.dataLe false encK) = setK ks := setK_uniq nd fun k => by rw [hm' k, decide_eq_true_eq]
    rw [ek] at he
    have hz : ((setK ks).map kV).length ≤ sizeLine := by
      have := he.length
      rw [← ek, List.length_mergeSort] at this
      rw [List.length_map, ← ek, List.length_mergeSort, sizeLine_eq]; omega
    have J : Inv X pins σ (upd H1 p (.lst ((setK ks).map kV))) { ({ s1 with heap := h', toks := tk } : Shared) with heap := s'.heap, gens := s'.gens, drawn := s'.drawn, toks := s'.toks } :=
      I2.call (ch := []) (Un.laid k hp hn) (I2.hok.laid k hp ⟨hz, out, c', vals_out he, hgt⟩) (by rw [g]; exact I2.bare) (fun _ z => nomatch z)
    have e : s' = { ({ s1 with heap := h', toks := tk } : Shared) with heap := s'.heap, gens := s'.gens, drawn := s'.drawn, toks := s'.toks } := by
      cases s'
      cases s1
      cases o
      rfl
    rw [e]
    exact ⟨.ref p, _, J, rfl, q1 p hn⟩
  rcases hq with hq | hq
  · obtain ⟨its, r, pl, hz⟩ := I1.list hq
    obtain ⟨z1, z2⟩ := vals_keys r
    exact call_set_keysL ks (I1.ok.hd hc) pl.isList z1 z2 (by unfold scanBound; omega) fun h' tk c hS hcl hk => fin h' tk c hS hcl hk
  · obtain ⟨its, r, pl, hz⟩ := I1.tuple hq
    obtain ⟨z1, z2⟩ := vals_keys r
    exact call_set_keysT ks (I1.ok.hd hc) pl z1 z2 (by unfold scanBound; omega) fun h' tk c hS hcl hk => fin h' tk c hS hcl hk
end Mw

set_option maxHeartbeats 3200000
namespace Mw
open PySem PySem.Spec L2
open PyProof.Rows hiding St
def tLenSetM (K : PySem.W.Frag) (ta : TE) : TE := fun σ H Q => ta σ H fun x H1 => ∃ (l : Addr) (ks : List Key), x = .ref l ∧ (SqL K H1 l (ks.map kV) ∨ SqT K H1 l (ks.map kV)) ∧ ks.length ≤ 4000 ∧ Q (.int ((nubK ks).length : Nat)) H1
theorem pe_lenSetM {X : Cx} {a : Expr} {ta : TE} {p p2 q pos : Pos} (hc : X.calm = true) (hg : Gl X "len") (hm : X.mg "len" = none) (hg2 : Gl X "set") (hm2 : X.mg "set" = none) (ha : PE X a ta)
    (na : starEach [a] X.env = (false, eval a X.env) :: starEach [] X.env := by rfl) : PE X (.Call (.Name "len" p) [.Call (.Name "set" p2) [a] [] q] [] pos) (tLenSetM X.K ta) := by
  refine ⟨fun pins s σ H Q I h => ?_⟩
  refine Call_ (ld_blt I hg hm boot_len ?_)
  refine PyProof.Rows.callWith_builtin1 (PyProof.Rows.args_cons ?_ rfl) rfl rfl
  refine Call_ (ld_blt I hg2 hm2 boot_set ?_)
  refine PyProof.Rows.callWith_type1 (PyProof.Rows.args_cons (thn (ha.run pins s σ H _ I h) fun v s1 ⟨x, H1, I1, r1, q1⟩ => PyProof.Rows.args_nil ?_) na) na rfl
  obtain ⟨l, ks, rfl, hq, hl, q1⟩ := q1
  cases r1
  have fin : ∀ (h' : Heap) (tk c : Nat), SetM X.w h' s1.heap.objs.size (fun j => decide (j ∈ ks)) c → c ≤ ks.length → (∀ b o, s1.heap.get? b = some o → h'.get? b = some o) →
      wpAny (model X.prog X.w) X.A (spliced (backTo pos (starEach [] X.env))) (fun vs s₂ => wpAny (model X.prog X.w) X.A (call (.builtin "len") (Value.ref s1.heap.objs.size :: vs)) (EP X pins σ Q) X.xe s₂) X.xe { s1 with heap := h', toks := tk } := fun h' tk c R hcl hk => by
    refine PyProof.Rows.args_nil ?_
    have I2 : Inv X pins σ H1 { s1 with heap := h', toks := tk } := I1.kept hk
    obtain ⟨o, es, ep, t, ho, hex, hd, g, nd, hm', hb, hf, hn, _⟩ := R
    have pm : (es.toList.map keyM).Perm (nubK ks) := (List.perm_ext_iff_of_nodup nd (nubK_nodup ks)).mpr fun k => by rw [← hm' k, decide_eq_true_eq, nubK_mem]
    have en : es.size = (nubK ks).length := by rw [← pm.length_eq, List.length_map, Array.length_toList]
    refine call_len_set ho hex hd hf (by omega) ⟨.int ((nubK ks).length : Nat), H1, I2.tok _, ⟨_, by rw [en]⟩, q1⟩
  rcases hq with hq | hq
  · obtain ⟨its, r, pl, hz⟩ := I1.list hq
    obtain ⟨z1, z2⟩ := vals_keys r
    exact call_set_keysL ks (I1.ok.hd hc) pl.isList z1 z2 (by unfold scanBound; omega) fun h' tk c hS hcl hk => fin h' tk c hS hcl hk
  · obtain ⟨its, r, pl, hz⟩ := I1.tuple hq
    obtain ⟨z1, z2⟩ := vals_keys r
    exact call_set_keysT ks (I1.ok.hd hc) pl z1 z2 (by unfold scanBound; omega) fun h' tk c hS hcl hk => fin h' tk c hS hcl hk
section
variable {X : Cx} {c : Cfg} {a : Expr} {p p2 q pos : Pos} {wa ra : List Nat} {ba : Bool} {f : M D}
theorem v_sortSet (hc : X.calm = true) (hu : X.A.units + 64 < cLine) (hg : Gl X "sorted") (hm : X.mg "sorted" = none) (hg2 : Gl X "set") (hm2 : X.mg "set" = none) (he : PEv X c a wa ra ba f) (na : starEach [a] X.env = (false, eval a X.env) :: starEach [] X.env := by rfl) :
    PEv X c (.Call (.Name "sorted" p) [.Call (.Name "set" p2) [a] [] q] [] pos) wa [] true (eUn sortSetD f) := by
  refine PE.imp (pe_sortSet hc hu hg hm hg2 hm2 he na) fun σ H Q z => ?_
  obtain ⟨Z, ρ, F, S, p⟩ := z
  refine tG_bind (w2 := []) S f _ p (fun _ h => h) (fun _ h => nomatch h) fun d ρ1 v H1 F1 G st S1 r O p2 => ?_
  obtain ⟨r', e, p3⟩ := p2.opt
  simp only [sortSetD, Option.bind_eq_some_iff] at e
  obtain ⟨ds, e1, ks, e2, e3⟩ := e
  split at e3
  · rename_i hk
    cases e3
    rw [Bool.and_eq_true, decide_eq_true_eq] at hk
    obtain ⟨a, us, G', rfl, s1, l1⟩ := itemsD_rep r e1
    have e4 := kDs_rep l1 e2
    subst e4
    refine ⟨a, ks, rfl, s1, hk.2, hk.1, fun q hq => ?_⟩
    have sm := same_upd (o := .lst ((setK ks).map kV)) hq
    exact Post.fin S1 p3 sm (rep_lst upd_same (rep_keys _)) nd1 (new1 hq)
  · cases e3
theorem v_lenSet (hc : X.calm = true) (hg : Gl X "len") (hm : X.mg "len" = none) (hg2 : Gl X "set") (hm2 : X.mg "set" = none) (he : PEv X c a wa ra ba f) (na : starEach [a] X.env = (false, eval a X.env) :: starEach [] X.env := by rfl) :
    PEv X c (.Call (.Name "len" p) [.Call (.Name "set" p2) [a] [] q] [] pos) wa [] true (eUn lenSetD f) := by
  refine PE.imp (pe_lenSetM hc hg hm hg2 hm2 he na) fun σ H Q z => ?_
  obtain ⟨Z, ρ, F, S, p⟩ := z
  refine tG_bind (w2 := []) S f _ p (fun _ h => h) (fun _ h => nomatch h) fun d ρ1 v H1 F1 G st S1 r O p2 => ?_
  obtain ⟨r', e, p3⟩ := p2.opt
  simp only [lenSetD, Option.bind_eq_some_iff] at e
  obtain ⟨ds, e1, ks, e2, e3⟩ := e
  split at e3
  · rename_i hk
    cases e3
    obtain ⟨a, us, G', rfl, s1, l1⟩ := itemsD_rep r e1
    have e4 := kDs_rep l1 e2
    subst e4
    exact ⟨a, ks, rfl, s1, hk, Post.fin S1 p3 (Same.refl _) rep_int nd0 new0⟩
  · cases e3
end
end Mw

set_option maxHeartbeats 1000000
namespace Mw
open PySem PySem.Spec L2
open PyProof.Rows hiding St
/-! ### x[k] op= e, of whole numbers -/
def rGetL : V → V → Hp → VK → Prop := fun o i H Q => ∃ (p : Addr) (xs : List V) (k : Int) (v : V), o = .ref p ∧ i = .int k ∧ H p = some (.lst xs) ∧ 0 ≤ k ∧ xs[k.toNat]? = some v ∧ Q v H
theorem get_list {X : Cx} : PGet X rGetL := by
  intro pins s σ H o i ov iv Q I ro ri h
  obtain ⟨p, xs, k, v, rfl, rfl, hp, h0, he, q⟩ := h
  cases ro
  obtain ⟨t, rfl⟩ := ri
  obtain ⟨its, n, r, e, hz⟩ := I.lst hp
  obtain ⟨w, ew, rw'⟩ := r.get he
  have hl := r.length
  have hn := line63
  have hk : k.toNat < xs.length := (List.getElem?_eq_some_iff.mp he).1
  exact getItem_listL (l := its) ⟨_, e, rfl, n, rfl⟩ h0 (by omega) ew ⟨v, H, I, rw', q⟩
def sAugL (i : Nat) (g : D → D → Option D) (fk fe : M D) : M Fl := fun ρ => match gLst i ρ with
  | none => .stuck
  | some _ => M.bind fk (fun k ρ1 => match gLst i ρ1 with
    | none => .stuck
    | some ds1 => match k with
      | .int kk => if 0 ≤ kk then match ds1[kk.toNat]? with
        | some (.int o) => M.bind fe (fun v ρ2 => match gLst i ρ2 with
          | none => .stuck
          | some ds => match g (.int o) v with
            | some (.int z) => match setLD ds k (.int z) with
              | some ds' => .ok .nx (ρ2.set i (some (.lst ds')))
              | none => .stuck
            | _ => .stuck) ρ1
        | _ => .stuck
        else .stuck
      | _ => .stuck) ρ
section
variable {X : Cx} {c : Cfg} {e e2 : Expr} {wa ra wb rb : List Nat} {ba bb : Bool} {fe g : M D} {x : Str} {p pos spos : Pos} {op : Operator} {gg : D → D → Option D}
theorem s_augL (i : Nat) (ho : PIp X op (rD X.K gg)) (hi : PEv X c e2 wb rb bb g) (he : PEv X c e wa ra ba fe) (hm : (c.md i).notBrw = true := by rfl) (hN : X.N[i]? = some x := by rfl) (hv : Vis X.env.scope x := by first | exact Or.inl rfl | exact Or.inr (Or.inl rfl) | exact Or.inr (Or.inr rfl)) (hd : (x == ("__debug__" : Str)) = false := by decide)
    (hcd : (x == ("__classdict__" : Str)) = false := by decide)
    (ha : ∀ ov iv new, augStore e2 ov iv new = (do holding [new, ov, iv] (setItem ov iv new); release [new, ov, iv] []; pure Flow.next) := by intros; rfl) :
    PSv X c (.AugAssign (.Subscript (.Name x p) e2 spos) op e pos) (wb ++ (wa ++ [i])) (sAugL i gg g fe) := by
  refine PS.imp (ps_augS (pe_var hN hv hd hcd) hi get_list he ho set_list ha) fun N σ H q => ?_
  obtain ⟨Z, ρ, F, S, p0⟩ := q
  have hm := notBrw_ne hm
  have l1 : ∀ j ∈ wb, j ∈ wb ++ (wa ++ [i]) := fun _ h => List.mem_append_left _ h
  have l2 : ∀ j ∈ wa, j ∈ wb ++ (wa ++ [i]) := fun _ h => List.mem_append_right _ (List.mem_append_left _ h)
  unfold sAugL at p0
  cases eg : gLst i ρ with
  | none => rw [eg] at p0; exact p0.elim
  | some ds0 =>
  rw [eg] at p0
  obtain ⟨a, vs0, G0, hσ, eF, hH, rl0⟩ := slot_lst S hm eg
  refine ⟨.ref a, hσ, ?_⟩
  refine tS_one S p0 l1 (fun _ _ _ => trivial) fun k ρ1 kv H1 F1 Gk st1 S1 rk Ok p1 => ?_
  cases eg1 : gLst i ρ1 with
  | none => rw [eg1] at p1; exact p1.elim
  | some ds1 =>
  rw [eg1] at p1
  obtain ⟨a1, vs1, G1, hσ1, eF1, hH1, rl1⟩ := slot_lst S1 hm eg1
  rw [hσ] at hσ1; cases hσ1
  cases k with
  | int kk =>
    simp only [] at p1
    split at p1
    · rename_i h0
      cases ed : ds1[kk.toNat]? with
      | none => rw [ed] at p1; exact p1.elim
      | some old =>
        rw [ed] at p1
        cases old with
        | int o =>
          obtain ⟨v, G', e1, e2', _⟩ := rl1.getS ed
          have ev := (int_inv e2').1
          subst ev
          refine ⟨a, vs1, kk, .int o, rfl, (int_inv rk).1, hH1, h0, e1, ?_⟩
          refine tS_go S1 st1 p1 l1 l2 fun d ρ2 v2 H2 F2 Gd st2 S2 rd Od p2 => ?_
          cases eg2 : gLst i ρ2 with
          | none => rw [eg2] at p2; exact p2.elim
          | some ds =>
          rw [eg2] at p2
          obtain ⟨a2, vs, G2, hσ2, eF2, hH2, rl⟩ := slot_lst S2 hm eg2
          rw [hσ] at hσ2; cases hσ2
          cases ez : gg (.int o) d with
          | none => rw [ez] at p2; exact p2.elim
          | some zz =>
          rw [ez] at p2
          cases zz with
          | int z =>
            simp only [setLD] at p2
            cases ej : ixN ds.length kk with
            | none => rw [ej] at p2; exact p2.elim
            | some j =>
              rw [ej] at p2
              refine ⟨.int o, d, [], Gd, .int z, rep_int, rd, ez, fun u H3 G3 es rr _ _ => ?_⟩
              have eu := (int_inv rr).1
              subst eu
              have S3 := S2.same es
              have hH3 : H3 a = some (.lst vs) := es a _ hH2
              have aF : a ∈ F2 i := by rw [eF2]; exact List.mem_cons_self
              have mD : IsM (H3 a) := by rw [hH3]; trivial
              have nd := S2.nd i
              rw [eF2] at nd
              obtain ⟨n1, n2⟩ := List.nodup_cons.mp nd
              have hjl : j < ds.length := (ixN_seq ej).2.1
              have rl3 : RepL X.K H3 ds vs G2 := RepL.keep _ _ _ rl ⟨fun b _ o e => es b o e, fun b xs e => es b _ e, fun b o u e => es b _ e⟩
              obtain ⟨Gp, Gs, Go, eG, rs⟩ := RepL.setAt (j := j) (rep_int (K := X.K) (H := H3) (i := z)) rl3 hjl
              subst eG
              have inF : ∀ b, b ∈ Gp ++ ([] ++ Gs) → b ∈ F2 i := fun b hb => by
                rw [eF2]
                refine List.mem_cons_of_mem _ ?_
                rcases List.mem_append.mp hb with w | w
                · exact List.mem_append_left _ w
                · exact List.mem_append_right _ (List.mem_append_right _ (by simpa using w))
              have n3 : a ∉ Gp ++ ([] ++ Gs) := fun w => by
                rcases List.mem_append.mp w with w | w
                · exact n1 (List.mem_append_left _ w)
                · exact n1 (List.mem_append_right _ (List.mem_append_right _ (by simpa using w)))
              have r' : Rep X.K (upd H3 a (.lst (vs.set j (.int z)))) (.lst (ds.set j (.int z))) (.ref a) (a :: (Gp ++ ([] ++ Gs))) := rep_lst upd_same (keepsL_upd mD n3 rs)
              have cas : ∀ b ∈ a :: (Gp ++ ([] ++ Gs)), b ∈ F2 i := fun b hb => by
                rcases List.mem_cons.mp hb with w | w
                · rw [w]; exact aF
                · exact inF b w
              have st12 := (((st1.trans st2).trans (Step.of es)).mono (ws := wb ++ wa) fun i hi => by simpa using hi)
              refine ⟨a, vs, kk, j, rfl, (int_inv rk).1, hH3, by rw [rl.length]; exact ej, p2 σ _ _ ?_ (S3.mut hm hσ aF trivial r' ?_ fun b hb => .inl (cas b hb))⟩
              · exact Step.mut (wa := wb ++ wa) st12 S3 aF (fun b hb => .inl (cas b hb)) (fun j hj => (List.mem_append.mp hj).elim (l1 j) (l2 j)) (List.mem_append_right _ (List.mem_append_right _ (by simp)))
              · obtain ⟨m1, m2, m3⟩ := List.nodup_append.mp n2
                obtain ⟨m4, m5, m6⟩ := List.nodup_append.mp m2
                refine List.nodup_cons.mpr ⟨n3, List.nodup_append.mpr ⟨m1, by simpa using m5, fun b hb b' hb' e => ?_⟩⟩
                subst e
                exact m3 b hb b (List.mem_append_right _ (by simpa using hb')) rfl
          | _ => exact p2.elim
        | _ => exact p1.elim
    · exact p1.elim
  | _ => exact p1.elim
end
end Mw

set_option maxHeartbeats 4000000
namespace Mw
open PySem PySem.Spec L2
open PyProof.Rows hiding St
/-! ### a tuple, once or not at all -/
theorem tuple_once (l : Addr) (items : Array Value) (n : Nat) (sl : Array (Option Value)) (x : Int) (u : Tok) (dd : Option Addr) (c0 : (decide (x < -(2 ^ 63)) || decide (x ≥ 2 ^ 63)) = false) (c1 : (items.isEmpty || x == 1) = true) :
    Meets (Builtin.«tuple.__mul__» ⟨[.ref l, .int x u], []⟩) (fun _ R s => s.heap.get? l = some { cls := .type "tuple", dict := dd, data := .seq items n, slots := sl } ∧ R (.ok (.ret (Value.ref l))) s) :=
  .of_wp fun prog w A R s h => by
    obtain ⟨hp, g, d, tk, os⟩ := s
    obtain ⟨hl, h⟩ := h
    have f1 := AutoSeq1.idx_int
    wp_walk using wpAny_loadPart' hl
    repeat (first
      | (refine wpAny_ite_false (decide_eq_false (by rw [c0]; exact Bool.false_ne_true)) ?_; wp_walk using wpAny_loadPart' hl)
      | (refine wpAny_ite_true (decide_eq_true c1) ?_; wp_walk using wpAny_loadPart' hl))
    exact ⟨_, rfl, h⟩
def rOnceT (K : PySem.W.Frag) : R2 := fun x y H Q => ∃ l k xs, x = .ref l ∧ y = .int k ∧ SqT K H l xs ∧ (xs = [] ∨ k = 1) ∧ 0 ≤ k ∧ k ≤ 1000 ∧ Q (.ref l) H
theorem op_onceT {X : Cx} : OpR X (binaryOp .Mult) (rOnceT X.K) := by
  intro pins s σ H x y v u Q I rx ry h
  obtain ⟨l, k, xs, rfl, rfl, hT, hk, h0, h1, q⟩ := h
  cases rx
  obtain ⟨t, rfl⟩ := ry
  obtain ⟨its, r, ⟨⟨cls, dd, data, sl⟩, ho, hc, n, hd⟩, hs⟩ := I.tuple hT
  simp only at hc hd
  subst hc hd
  have hle : its.length = xs.length := r.length.symm
  have c0 : (decide (k < -(2 ^ 63)) || decide (k ≥ 2 ^ 63)) = false := by
    rw [decide_eq_false (by omega), decide_eq_false (by omega)] <;> rfl
  have c1 : (its.toArray.isEmpty || k == 1) = true := by
    rcases hk with z | z
    · subst z
      cases its with
      | nil => rfl
      | cons a b => simp at hle
    · subst z; simp
  exact wpAny_binaryOp_repeat_ref (T := "tuple") (U := "int") (by decide) ⟨_, ho, rfl⟩ (fun s' => typeIs_int s' k t) noFill_tuple_mul F.fills_int_mul F.slot_int_rmul repeat_tuple F.slot_int_index.lookup
    (call_meets F.slot_int_rmul (typeIs_int s k t) F.entry_int_rmul (F.args_int_rmul_2 _ _) (int_rmul_tuple k t l its.toArray n dd sl)
      ⟨ho, rfl, ⟨_, ho, rfl⟩, call_meets F.slot_tuple_mul ⟨_, ho, rfl⟩ F.entry_tuple_mul (F.args_tuple_mul_2 _ _) (tuple_once l its.toArray n sl k t dd c0 c1) ⟨ho, ⟨.ref l, H, I, rfl, q⟩⟩⟩)
/-- mulD, and a tuple once -/
def mulX (d e : D) : Option D := match mulD d e with
  | some r => some r
  | none => match d, e with
    | .tup a, .int k => if (D.imms a && (a.isEmpty || k == 1) && decide (0 ≤ k) && decide (k ≤ 1000)) = true then some (.tup a) else none
    | _, _ => none
theorem d_mulX {X : Cx} : OpR X (binaryOp .Mult) (rD X.K mulX) := by
  refine OpR.of (d_mul.or op_onceT) fun x y H Q h => ?_
  obtain ⟨d, e, Gx, Gy, r, r1, r2, eg, q⟩ := h
  unfold mulX at eg
  split at eg
  · rename_i r' e1
    cases eg
    exact .inl ⟨d, e, Gx, Gy, _, r1, r2, e1, q⟩
  · split at eg
    · rename_i a k _
      split at eg
      · rename_i hc
        cases eg
        simp only [Bool.and_eq_true, Bool.or_eq_true, decide_eq_true_eq, beq_iff_eq, List.isEmpty_iff] at hc
        obtain ⟨⟨⟨hi, hk⟩, h0⟩, h1⟩ := hc
        have im : (D.tup a).imm = true := by rw [imm_t]; exact hi
        have g0 := Rep.imm _ _ _ r1 im
        rw [g0] at r1
        obtain ⟨l, us, rfl, s1, l1⟩ := tup_inv r1
        refine .inr ⟨l, k, us, rfl, (int_inv r2).1, s1, ?_, h0, h1, q _ H [] (Same.refl H) r1 nd0 new0⟩
        rcases hk with z | z
        · subst z
          simp only [RepL] at l1
          exact .inl l1.1
        · exact .inr z
      · cases eg
    · cases eg
end Mw

set_option maxHeartbeats 1000000
namespace Mw
open PySem PySem.Spec L2
open PyProof.Rows hiding St
/-! ### sum of a tuple -/
def rSumT (K : PySem.W.Frag) : List V → Hp → VK → Prop := fun vs H Q => ∃ (a : Addr) (ns : List Int), vs = [V.ref a] ∧ SqT K H a (ns.map V.int) ∧ Q (.int ns.sum) H
theorem cr_sumT {X : Cx} (hc : X.calm = true) : CallR X (.builtin "sum") (rSumT X.K) := by
  intro pins s σ H vs us Q I r h
  obtain ⟨a, ns, rfl, hs, q⟩ := h
  obtain ⟨its, rv, pl, _⟩ := I.tuple hs
  rw [Vals.ref1 r]
  obtain ⟨xs, e⟩ := rv.ints.allInts.items
  have hn : numsOf (intItems xs).toList = ns := by rw [← e]; exact rv.ints.numsOf
  rw [nums_intItems] at hn
  have pl : s.heap.IsTuple a its.toArray := pl
  rw [e] at pl
  refine PySem.W.ktm_sumG (I.ok.hd hc) pl fun h' tk t' hk => ?_
  rw [preSum_eq, List.take_of_length_le (by simp), hn]
  exact ⟨.int _, H, I.kept hk, ⟨_, rfl⟩, q⟩
def sumX (d : D) : Option D := match d with
  | .tup ds => (intsD ds).map fun bs => .int bs.sum
  | _ => sumD d
theorem d_sumX {X : Cx} (hc : X.calm = true) : CallR X (.builtin "sum") (nD X.K (un1 sumX)) := CallR.of ((d_sum hc).or (cr_sumT hc)) fun xs H Q h => by
  obtain ⟨ds, Gx, r, l, eg, q⟩ := h
  obtain ⟨d, v, rfl, r1, eu⟩ := un1_rep l eg
  have one : RepL X.K H [d] [v] Gx → nD X.K (un1 sumD) [v] H Q ∨ rSumT X.K [v] H Q := fun l => by
    unfold sumX at eu
    split at eu
    · rename_i es
      simp only [Option.map_eq_some_iff] at eu
      obtain ⟨bs, e2, rfl⟩ := eu
      obtain ⟨a, us, rfl, s1, l1⟩ := tup_inv r1
      have e3 := intsD_rep l1 e2
      subst e3
      exact .inr ⟨a, bs, rfl, s1, q _ _ [] (Same.refl H) rep_int nd0 new0⟩
    · exact .inl ⟨[d], Gx, r, l, eu, q⟩
  exact one (by have := RepL.cons r1 (show RepL X.K H [] [] [] from by simp [RepL]); simpa using this)
/-! ### equations -/
theorem mulX_i {i j : Int} (h : Sm i) (h' : Sm j) : mulX (.int i) (.int j) = some (.int (i * j)) := by unfold mulX; rw [mulD_i h h']
theorem flat_one (x : Int) : ∀ n, (List.replicate n [D.int x]).flatten = (List.replicate n x).map .int
  | 0 => rfl
  | n + 1 => by rw [List.replicate_succ, List.replicate_succ, List.flatten_cons, flat_one x n]; rfl
theorem mulX_l (x : Int) {n : Nat} (h : n ≤ 1000000) : mulX (.lst [.int x]) (.int (n : Int)) = some (.lst ((List.replicate n x).map .int)) := by
  unfold mulX
  have e : mulD (.lst [.int x]) (.int (n : Int)) = some (.lst ((List.replicate n x).map .int)) := by
    show (if D.imms [.int x] = true ∧ 0 ≤ (n : Int) ∧ (n : Int).toNat < 16777217 ∧ [D.int x].length * (n : Int).toNat ≤ 16777216 then some (D.lst (List.replicate (n : Int).toNat [D.int x]).flatten) else none) = _
    rw [if_pos ⟨by simp, by omega, by omega, by simp only [List.length_singleton]; omega⟩, Int.toNat_natCast, flat_one]
  rw [e]
theorem mulX_t (x : Int) {n : Nat} (h0 : 1 ≤ n) (h : n ≤ 1000) : mulX (.tup [.int x]) (.int (n : Int)) = some (.tup ((List.replicate n x).map .int)) := by
  unfold mulX
  by_cases h1 : n = 1
  · subst h1
    have e : mulD (.tup [.int x]) (.int ((1 : Nat) : Int)) = none := by
      show (if D.imms [.int x] = true ∧ [D.int x] ≠ [] ∧ (2 : Int) ≤ ((1 : Nat) : Int) ∧ ((1 : Nat) : Int) ≤ 1000 ∧ [D.int x].length ≤ 1000 then some (D.tup (List.replicate ((1 : Nat) : Int).toNat [D.int x]).flatten) else none) = none
      rw [if_neg (by rintro ⟨_, _, h, _⟩; omega)]
    rw [e]; rfl
  · have e : mulD (.tup [.int x]) (.int (n : Int)) = some (.tup ((List.replicate n x).map .int)) := by
      show (if D.imms [.int x] = true ∧ [D.int x] ≠ [] ∧ (2 : Int) ≤ (n : Int) ∧ (n : Int) ≤ 1000 ∧ [D.int x].length ≤ 1000 then some (D.tup (List.replicate (n : Int).toNat [D.int x]).flatten) else none) = _
      rw [if_pos ⟨by simp, by simp, by omega, by omega, by simp⟩, Int.toNat_natCast, flat_one]
    rw [e]
theorem sumX_t (bs : List Int) : sumX (.tup (bs.map .int)) = some (.int bs.sum) := by
  show (intsD (bs.map .int)).map _ = _
  rw [intsD_map]; rfl
theorem sumX_l (bs : List Int) : sumX (.lst (bs.map .int)) = some (.int bs.sum) := sumD_l bs
/-- a pair of whole numbers -/
def p2D (p : Int × Int) : D := .tup [.int p.1, .int p.2]
open PySem.W (Datum DatumOrd) in
theorem enc_p2 : Enc p2D := by
  have e : ∀ x : Int × Int, (Datum.toD x : PyData) = .tuple [.int x.1, .int x.2] := fun x => rfl
  refine ⟨fun x => ?_, fun x => ?_, fun x => ?_⟩
  · rw [e]; simp only [p2D, toPy, toPys, Option.map_some]
  · rw [e]; simp only [p2D, ofPy, ofPys, Option.map_some]
  · rw [e]; simp only [PyData.depth, PyData.depthAll]; omega
theorem imms_p2 (l : List (Int × Int)) : D.imms (l.map p2D) = true := imms_map fun p _ => by simp [p2D]
theorem sortX_p2 (ps : List (Int × Int)) : ∃ qs : List (Int × Int), qs.Perm ps ∧ sortX (.lst (ps.map p2D)) = some (.lst (qs.map p2D)) := by
  cases ps with
  | nil => exact ⟨[], List.Perm.nil, by simp [sortX, sortD, lstOf, intsD, sortI]⟩
  | cons p ps =>
    refine ⟨(p :: ps).mergeSort (fun a b => PySem.W.dataLe false pyOf (p2D a) (p2D b)), List.mergeSort_perm _ _, ?_⟩
    have e1 : sortD (.lst ((p :: ps).map p2D)) = none := rfl
    have e2 := enc_p2.tos (p :: ps)
    have a := alikeB_typed (p :: ps)
    have b := enc_p2.deps (p :: ps)
    have srt : sortableB ((p :: ps).map PySem.W.Datum.toD) = true := by
      unfold sortableB
      rw [Bool.or_eq_true]
      left
      rw [List.all_eq_true]
      intro d hd
      obtain ⟨x, _, rfl⟩ := List.mem_map.mp hd
      rfl
    unfold sortX
    rw [e1]
    show (sortA ((p :: ps).map p2D)).map D.lst = _
    unfold sortA
    rw [e2]
    simp only []
    rw [if_pos (by rw [imms_p2, a, srt]; simp only [Bool.true_and, decide_eq_true_eq]; omega)]
    have z := List.map_mergeSort (r := fun a b => PySem.W.dataLe false pyOf (p2D a) (p2D b)) (s := PySem.W.dataLe false pyOf) (f := p2D) (l := p :: ps) (fun a _ b _ => rfl)
    rw [Option.map_some, z]
theorem kDs_ints : ∀ l : List Int, kDs (l.map .int) = some (l.map Sum.inl)
  | [] => rfl
  | i :: l => by simp only [List.map_cons, kDs, kD, kDs_ints l]
/-- sorted(set(xs)), xs whole numbers: some of them, each once -/
theorem sortSetD_l (l : List Int) (h : l.length ≤ 4000) : ∃ zs : List Int, (∀ z, z ∈ zs ↔ z ∈ l) ∧ sortSetD (.lst (l.map .int)) = some (.lst (zs.map .int)) := by
  refine ⟨(setK (l.map Sum.inl)).map (fun k => match k with | .inl i => i | .inr _ => 0), fun z => ?_, ?_⟩
  · rw [List.mem_map]
    constructor
    · rintro ⟨k, hk, rfl⟩
      obtain ⟨i, hi, rfl⟩ := List.mem_map.mp (setK_mem.mp hk)
      exact hi
    · intro hz
      exact ⟨.inl z, setK_mem.mpr (List.mem_map.mpr ⟨z, hz, rfl⟩), rfl⟩
  · have hh : homoK (l.map Sum.inl) = true := by
      unfold homoK
      rw [Bool.or_eq_true]
      left
      rw [List.all_eq_true]
      intro k hk
      obtain ⟨i, _, rfl⟩ := List.mem_map.mp hk
      rfl
    have e : sortSetD (.lst (l.map .int)) = some (.lst ((setK (l.map Sum.inl)).map dK)) := by
      show ((kDs (l.map .int)).bind fun ks => if homoK ks && decide (ks.length ≤ 4000) then some (D.lst ((setK ks).map dK)) else none) = _
      rw [kDs_ints]
      show (if homoK (l.map Sum.inl) && decide ((l.map Sum.inl).length ≤ 4000) then _ else _) = _
      rw [if_pos (by rw [hh, List.length_map, decide_eq_true h]; rfl)]
    rw [e, List.map_map]
    congr 2
    apply List.map_congr_left
    intro k hk
    obtain ⟨i, _, rfl⟩ := List.mem_map.mp (setK_mem.mp hk)
    rfl
/-! ### drawing -/
theorem pick {P : D → Prop} {l : List D} {i : Int} (h0 : 0 ≤ i) (h1 : i < l.length) (h : ∀ d ∈ l, P d) : ∃ d, atI l i = some d ∧ P d := by
  obtain ⟨d, e, m⟩ := atI_in h0 h1
  exact ⟨d, e, h d m⟩
/-- an int from lo to hi -/
def In (lo hi : Int) (d : D) : Prop := ∃ i, d = .int i ∧ lo ≤ i ∧ i ≤ hi
theorem pick_in {lo hi : Int} {l : List D} {i : Int} (h0 : 0 ≤ i) (h1 : i < l.length) (h : ∀ d ∈ l, In lo hi d) : ∃ j, atI l i = some (.int j) ∧ lo ≤ j ∧ j ≤ hi := by
  obtain ⟨d, e, j, rfl, a, b⟩ := pick h0 h1 h
  exact ⟨j, e, a, b⟩
theorem in_i {lo hi i : Int} (h1 : lo ≤ i) (h2 : i ≤ hi) : In lo hi (.int i) := ⟨i, rfl, h1, h2⟩
def okV : Option D → Bool
  | some d => d.imm
  | none => true
theorem drop_of_lt {α : Type} {l : List α} {k : Nat} (h : k < l.length) : ∃ a, l[k]? = some a ∧ l.drop k = a :: l.drop (k + 1) :=
  ⟨l[k], List.getElem?_eq_getElem h, List.drop_eq_getElem_cons h⟩
@[simp] theorem sAugL_app (i : Nat) (g : D → D → Option D) (fk fe : M D) (ρ : Env) : sAugL i g fk fe ρ = match gLst i ρ with
  | none => .stuck
  | some _ => M.bind fk (fun k ρ1 => match gLst i ρ1 with
    | none => .stuck
    | some ds1 => match k with
      | .int kk => if 0 ≤ kk then match ds1[kk.toNat]? with
        | some (.int o) => M.bind fe (fun v ρ2 => match gLst i ρ2 with
          | none => .stuck
          | some ds => match g (.int o) v with
            | some (.int z) => match setLD ds k (.int z) with
              | some ds' => .ok .nx (ρ2.set i (some (.lst ds')))
              | none => .stuck
            | _ => .stuck) ρ1
        | _ => .stuck
        else .stuck
      | _ => .stuck) ρ := rfl
end Mw

namespace Lw
open PySem PySem.Spec L2 Mw
open PyProof.Rows hiding St
def top (i : Nat) : Stmt := PySem.Challenge.pw_mealward_k47_prices_of_days_judged.main.body.getD i (.Pass ⟨0, 0, 0, 0⟩)
abbrev fuel : Nat := 1000000000000000000000000000000000000000000000000000000000000
/-! _law_stream -/
abbrev s__law_stream : Stmt := top 26
theorem sc__law_stream : FnScope ["script", "numbers", "cell", "rest", "k", "stirred"] ["script"] (defScope s__law_stream) := ⟨rfl, rfl, rfl, by decide +kernel, rfl, by decide +kernel, by decide +kernel⟩
noncomputable def b__law_stream : M Fl :=
    (sSeq (sSet 1 (eN dLst lNil))
    (sSeq (M.bind (iSeq (eSl (eVar 0) (M.pur none) (oPart (eC (.int 63))))) (sFor (.nm 2) (sSeq (sSet 3 (eN (un1 absD) (lCons (eN (un1 intD) (lCons (eVar 2) lNil)) lNil)))
    (sIf (cOp geB (eVar 3) (eOp powD (eC (.int 10)) (eC (.int 18)))) (M.bind (iRng rng1 (lCons (eC (.int 60)) lNil)) (sFor (.nm 4) (sSeq (sMeth 1 (eOp modD (eN (un1 intD) (lCons (eVar 3) lNil)) (eC (.int 1009))) appD)
    (sSeq (sSet 3 (eOp fdivD (eVar 3) (eC (.int 1009))))
    (sIf (cOp eqB (eVar 3) (eC (.int 0))) (M.pur .brk) sNx))))) (sSeq (sSet 5 (eOp modD (eN (un1 intD) (lCons (eVar 3) lNil)) (eC (.int 2147483647))))
    (M.bind (iRng rng1 (lCons (eC (.int 10)) lNil)) (sFor (.nm 4) (sSeq (sSet 5 (eOp modD (eN (un1 intD) (lCons (eOp addD (eOp addD (eOp mulD (eVar 5) (eC (.int 48271))) (eOp mulD (eC (.int 7)) (eVar 4))) (eC (.int 11))) lNil)) (eC (.int 2147483647))))
    (sMeth 1 (eOp modD (eOp modD (eN (un1 intD) (lCons (eOp addD (eOp mulD (eVar 5) (eC (.int 69621))) (eVar 4)) lNil)) (eC (.int 2147483629))) (eC (.int 1009))) appD)))))))))
    (sSeq (sIf (cOp eqB (eN (un1 lenD) (lCons (eVar 1) lNil)) (eC (.int 0))) (sMeth 1 (eC (.int 0)) appD) sNx)
    (sRet (eTake 1)))))
noncomputable def g__law_stream : List D → FR := runFn 6 [.r] b__law_stream
/-! _law_next -/
abbrev s__law_next : Stmt := top 27
theorem sc__law_next : FnScope ["state", "many", "turn"] ["state", "many"] (defScope s__law_next) := ⟨rfl, rfl, rfl, by decide +kernel, rfl, by decide +kernel, by decide +kernel⟩
noncomputable def b__law_next : M Fl :=
    (sSeq (sSetL 0 (eOp addD (eOp ixD (eVar 0) (eC (.int 1))) (eC (.int 1))) (eC (.int 1)))
    (sSeq (sSet 2 (eOp fdivD (eOp ixD (eVar 0) (eC (.int 1))) (eN (un1 lenD) (lCons (eOp ixD (eVar 0) (eC (.int 0))) lNil))))
    (sRet (eOp modD (eN (un1 intD) (lCons (eOp addD (eOp addD (eOp ixD (eOp ixD (eVar 0) (eC (.int 0))) (eOp modD (eOp ixD (eVar 0) (eC (.int 1))) (eN (un1 lenD) (lCons (eOp ixD (eVar 0) (eC (.int 0))) lNil)))) (eOp mulD (eVar 2) (eC (.int 389)))) (eOp mulD (eOp mulD (eOp ixD (eVar 0) (eC (.int 1))) (eVar 2)) (eC (.int 17)))) lNil)) (eVar 1)))))
noncomputable def g__law_next : List D → FR := runFn 3 [.m, .r] b__law_next
/-! _law_lots -/
abbrev s__law_lots : Stmt := top 29
theorem sc__law_lots : FnScope ["state", "days", "most", "found", "k", "first", "grams"] ["state", "days", "most"] (defScope s__law_lots) := ⟨rfl, rfl, rfl, by decide +kernel, rfl, by decide +kernel, by decide +kernel⟩
noncomputable def b__law_lots : M Fl :=
    (sSeq (sSet 3 (eN dLst lNil))
    (sSeq (M.bind (iRng rng1 (lCons (eCall [some 0, none] g__law_next (lSlot 0 (lCons (eOp addD (eVar 2) (eC (.int 1))) lNil))) lNil)) (sFor (.nm 4) (sSeq (sSet 5 (eCall [some 0, none] g__law_next (lSlot 0 (lCons (eVar 1) lNil))))
    (sSeq (sSet 6 (eOp ixD (eN dLst (lCons (eOp addD (eC (.int 1)) (eCall [some 0, none] g__law_next (lSlot 0 (lCons (eC (.int 9)) lNil)))) (lCons (eOp addD (eC (.int 1)) (eCall [some 0, none] g__law_next (lSlot 0 (lCons (eC (.int 60)) lNil)))) (lCons (eC (.int 9999)) lNil)))) (eOp ixD (eN dLst (lCons (eC (.int 0)) (lCons (eC (.int 0)) (lCons (eC (.int 1)) (lCons (eC (.int 1)) (lCons (eC (.int 2)) lNil)))))) (eCall [some 0, none] g__law_next (lSlot 0 (lCons (eC (.int 5)) lNil))))))
    (sMeth 3 (eN dTup (lCons (eChk (eVar 5)) (lCons (eN minX (lCons (eC (.int 59)) (lCons (eOp addD (eVar 5) (eCall [some 0, none] g__law_next (lSlot 0 (lCons (eOp ixD (eN dLst (lCons (eC (.int 2)) (lCons (eC (.int 5)) (lCons (eC (.int 60)) lNil)))) (eCall [some 0, none] g__law_next (lSlot 0 (lCons (eC (.int 3)) lNil)))) lNil)))) lNil))) (lCons (eChk (eVar 6)) (lCons (eOp ixD (eN dLst (lCons (eCall [some 0, none] g__law_next (lSlot 0 (lCons (eC (.int 4)) lNil))) (lCons (eCall [some 0, none] g__law_next (lSlot 0 (lCons (eC (.int 1000)) lNil))) lNil))) (eCall [some 0, none] g__law_next (lSlot 0 (lCons (eC (.int 2)) lNil)))) lNil))))) appD)))))
    (sRet (eN (un1 tupleD) (lCons (eVar 3) lNil)))))
noncomputable def g__law_lots : List D → FR := runFn 7 [.m, .r, .r] b__law_lots
/-! _law_uses -/
abbrev s__law_uses : Stmt := top 30
theorem sc__law_uses : FnScope ["state", "days", "top", "k"] ["state", "days"] (defScope s__law_uses) := ⟨rfl, rfl, rfl, by decide +kernel, rfl, by decide +kernel, by decide +kernel⟩
noncomputable def b__law_uses : M Fl :=
    (sSeq (sSet 2 (eOp ixD (eN dLst (lCons (eC (.int 6)) (lCons (eC (.int 40)) (lCons (eC (.int 9999)) lNil)))) (eOp ixD (eN dLst (lCons (eC (.int 0)) (lCons (eC (.int 0)) (lCons (eC (.int 1)) (lCons (eC (.int 1)) (lCons (eC (.int 2)) lNil)))))) (eCall [some 0, none] g__law_next (lSlot 0 (lCons (eC (.int 5)) lNil))))))
    (sRet (eN (un1 tupleD) (lCons (eLc (.nm 3) (iRng rng1 (lCons (eVar 1) lNil)) (M.pur true) (eOp mulX (eCall [some 0, none] g__law_next (lSlot 0 (lCons (eOp addD (eVar 2) (eC (.int 1))) lNil))) (eN (un1 intD) (lCons (eOp (gBl gtB) (eCall [some 0, none] g__law_next (lSlot 0 (lCons (eC (.int 5)) lNil))) (eC (.int 0))) lNil)))) lNil))))
noncomputable def g__law_uses : List D → FR := runFn 4 [.m, .r] b__law_uses
/-! _law_fits -/
abbrev s__law_fits : Stmt := top 31
theorem sc__law_fits : FnScope ["state", "lots", "uses", "mine", "left", "day", "there", "need", "k", "take", "lot"] ["state", "lots", "uses"] (defScope s__law_fits) := ⟨rfl, rfl, rfl, by decide +kernel, rfl, by decide +kernel, by decide +kernel⟩
noncomputable def b__law_fits : M Fl :=
    (sSeq (sSet 3 (eN (un1 listD) (lCons (eVar 2) lNil)))
    (sSeq (sSet 4 (eLc (.nm 10) (iSeq (eVar 1)) (M.pur true) (eChk (eOp ixD (eVar 10) (eC (.int 2))))))
    (sSeq (M.bind (iRng rng1 (lCons (eN (un1 lenD) (lCons (eVar 3) lNil)) lNil)) (sFor (.nm 5) (sSeq (sSet 6 (eN (un1 sumX) (lCons (eLc (.nm 8) (iRng rng1 (lCons (eN (un1 lenD) (lCons (eVar 1) lNil)) lNil)) (cChain leB leB (eOp ixD (eOp ixD (eVar 1) (eVar 8)) (eC (.int 0))) (eVar 5) (eOp ixD (eOp ixD (eVar 1) (eVar 8)) (eC (.int 1)))) (eChk (eOp ixD (eVar 4) (eVar 8)))) lNil)))
    (sSeq (sSetL 3 (eOp ixD (eN dLst (lCons (eChk (eOp ixD (eVar 3) (eVar 5))) (lCons (eN minX (lCons (eOp ixD (eVar 3) (eVar 5)) (lCons (eVar 6) lNil))) (lCons (eChk (eVar 6)) lNil)))) (eCall [some 0, none] g__law_next (lSlot 0 (lCons (eC (.int 3)) lNil)))) (eVar 5))
    (sSeq (sSet 7 (eN minX (lCons (eOp ixD (eVar 3) (eVar 5)) (lCons (eVar 6) lNil))))
    (sSeq (sSetL 3 (eN minX (lCons (eC (.int 9999)) (lCons (eOp ixD (eVar 3) (eVar 5)) lNil))) (eVar 5))
    (M.bind (iRng rng1 (lCons (eN (un1 lenD) (lCons (eVar 1) lNil)) lNil)) (sFor (.nm 8) (sIf (cChain leB leB (eOp ixD (eOp ixD (eVar 1) (eVar 8)) (eC (.int 0))) (eVar 5) (eOp ixD (eOp ixD (eVar 1) (eVar 8)) (eC (.int 1)))) (sSeq (sSet 9 (eN minX (lCons (eVar 7) (lCons (eOp ixD (eVar 4) (eVar 8)) lNil))))
    (sSeq (sSetL 4 (eOp subD (eOp ixD (eVar 4) (eVar 8)) (eVar 9)) (eVar 8))
    (sSet 7 (eOp subD (eVar 7) (eVar 9))))) sNx)))))))))
    (sRet (eN (un1 tupleD) (lCons (eVar 3) lNil))))))
noncomputable def g__law_fits : List D → FR := runFn 11 [.m, .r, .r] b__law_fits
/-! _law_stock -/
abbrev s__law_stock : Stmt := top 32
theorem sc__law_stock : FnScope ["state", "days", "lots", "uses"] ["state"] (defScope s__law_stock) := ⟨rfl, rfl, rfl, by decide +kernel, rfl, by decide +kernel, by decide +kernel⟩
noncomputable def b__law_stock : M Fl :=
    (sSeq (sSet 1 (eOp ixD (eN dLst (lCons (eOp addD (eC (.int 1)) (eCall [some 0, none] g__law_next (lSlot 0 (lCons (eC (.int 7)) lNil)))) (lCons (eOp addD (eC (.int 1)) (eCall [some 0, none] g__law_next (lSlot 0 (lCons (eC (.int 60)) lNil)))) lNil))) (eN (un1 intD) (lCons (eOp (gBl eqB) (eCall [some 0, none] g__law_next (lSlot 0 (lCons (eC (.int 4)) lNil))) (eC (.int 0))) lNil))))
    (sSeq (sSet 2 (eCall [some 0, none, none] g__law_lots (lSlot 0 (lCons (eVar 1) (lCons (eOp ixD (eN dLst (lCons (eC (.int 5)) (lCons (eC (.int 30)) lNil))) (eN (un1 intD) (lCons (eOp (gBl eqB) (eCall [some 0, none] g__law_next (lSlot 0 (lCons (eC (.int 4)) lNil))) (eC (.int 0))) lNil))) lNil)))))
    (sSeq (sSet 3 (eCall [some 0, none] g__law_uses (lSlot 0 (lCons (eVar 1) lNil))))
    (sRet (eN dTup (lCons (eChk (eVar 2)) (lCons (eOp ixD (eN dLst (lCons (eChk (eVar 3)) (lCons (eCall [some 0, none, none] g__law_fits (lSlot 0 (lCons (eVar 2) (lCons (eVar 3) lNil)))) (lCons (eCall [some 0, none, none] g__law_fits (lSlot 0 (lCons (eVar 2) (lCons (eVar 3) lNil)))) lNil)))) (eCall [some 0, none] g__law_next (lSlot 0 (lCons (eC (.int 3)) lNil)))) lNil)))))))
noncomputable def g__law_stock : List D → FR := runFn 4 [.m] b__law_stock
/-! _law_told -/
abbrev s__law_told : Stmt := top 28
theorem sc__law_told : FnScope ["call", "e", "kinds", "names", "k"] ["call"] (defScope s__law_told) := ⟨rfl, rfl, rfl, by decide +kernel, rfl, by decide +kernel, by decide +kernel⟩

/-! _law_shown -/
abbrev s__law_shown : Stmt := top 38
theorem sc__law_shown : FnScope ["lots", "uses", "paper", "total", "first", "last", "grams", "price", "day"] ["lots", "uses", "paper"] (defScope s__law_shown) := ⟨rfl, rfl, rfl, by decide +kernel, rfl, by decide +kernel, by decide +kernel⟩
noncomputable def b__law_shown : M Fl :=
    (sSeq (sSet 3 (eN (un1 sumX) (lCons (eLc (.nm 8) (iRng rng1 (lCons (eN (un1 lenD) (lCons (eVar 1) lNil)) lNil)) (M.pur true) (eOp mulX (eOp ixD (eVar 2) (eVar 8)) (eOp ixD (eVar 1) (eVar 8)))) lNil)))
    (sSeq (M.bind (iSeq (eVar 0)) (sFor (.tp [(.nm 4), (.nm 5), (.nm 6), (.nm 7)]) (sSet 3 (eOp subD (eVar 3) (eOp mulX (eVar 6) (eN maxX (lCons (eOp addD (eN dLst (lCons (eC (.int 0)) lNil)) (eLc (.nm 8) (iRng rng1 (lCons (eN (un1 lenD) (lCons (eVar 1) lNil)) lNil)) (cChain leB leB (eVar 4) (eVar 8) (eVar 5)) (eOp subD (eOp ixD (eVar 2) (eVar 8)) (eVar 7)))) lNil)))))))
    (sRet (eChk (eVar 3)))))
noncomputable def g__law_shown : List D → FR := runFn 9 [.r, .r, .r] b__law_shown
/-! check_lots -/
abbrev s_check_lots : Stmt := top 13
theorem sc_check_lots : FnScope ["lots", "first", "last", "grams", "price"] ["lots"] (defScope s_check_lots) := ⟨rfl, rfl, rfl, by decide +kernel, rfl, by decide +kernel, by decide +kernel⟩
noncomputable def b_check_lots : M Fl :=
    (sSeq (sIf (cOp gtB (eN (un1 lenD) (lCons (eVar 0) lNil)) (eC (.int 30))) (sRaise "NotAllowed") sNx)
    (M.bind (iSeq (eVar 0)) (sFor (.tp [(.nm 1), (.nm 2), (.nm 3), (.nm 4)]) (sIf (cOr (cNot (cChain3 leB leB ltB (eC (.int 0)) (eVar 1) (eVar 2) (eC (.int 60)))) (cOr (cNot (cChain leB leB (eC (.int 1)) (eVar 3) (eC (.int 9999)))) (cNot (cChain leB leB (eC (.int 0)) (eVar 4) (eC (.int 999)))))) (sRaise "NotAllowed") sNx))))
noncomputable def g_check_lots : List D → FR := runFn 5 [.r] b_check_lots
/-! check_uses -/
abbrev s_check_uses : Stmt := top 14
theorem sc_check_uses : FnScope ["uses", "grams"] ["uses"] (defScope s_check_uses) := ⟨rfl, rfl, rfl, by decide +kernel, rfl, by decide +kernel, by decide +kernel⟩
noncomputable def b_check_uses : M Fl :=
    (sIf (cOr (cNot (cChain leB leB (eC (.int 1)) (eN (un1 lenD) (lCons (eVar 0) lNil)) (eC (.int 60)))) (cNot (cTru (eN (un1 allD) (lCons (eLc (.nm 1) (iSeq (eVar 0)) (M.pur true) (eChain leB leB (eC (.int 0)) (eVar 1) (eC (.int 9999)))) lNil))))) (sRaise "NotAllowed") sNx)
noncomputable def g_check_uses : List D → FR := runFn 2 [.r] b_check_uses
/-! check_stock -/
abbrev s_check_stock : Stmt := top 15
theorem sc_check_stock : FnScope ["lots", "uses"] ["lots", "uses"] (defScope s_check_stock) := ⟨rfl, rfl, rfl, by decide +kernel, rfl, by decide +kernel, by decide +kernel⟩
noncomputable def b_check_stock : M Fl :=
    (sSeq (sExpr (eCall [none] g_check_lots (lCons (eVar 0) lNil)))
    (sExpr (eCall [none] g_check_uses (lCons (eVar 1) lNil))))
noncomputable def g_check_stock : List D → FR := runFn 2 [.r, .r] b_check_stock
/-! drawn -/
abbrev s_drawn : Stmt := top 16
theorem sc_drawn : FnScope ["lots", "uses", "given", "left", "rows", "day", "need", "there", "row", "_", "k", "take", "lot"] ["lots", "uses", "given"] (defScope s_drawn) := ⟨rfl, rfl, rfl, by decide +kernel, rfl, by decide +kernel, by decide +kernel⟩
noncomputable def b_drawn : M Fl :=
    (sSeq (sSet 3 (eN (un1 listD) (lCons (eVar 2) lNil)))
    (sSeq (sSet 4 (eN dLst lNil))
    (sSeq (M.bind (iRng enum1 (lCons (eVar 1) lNil)) (sFor (.tp [(.nm 5), (.nm 6)]) (sSeq (sSet 7 (eLc (.tp [(.nm 10), (.nm 12)]) (iRng enum1 (lCons (eVar 0) lNil)) (cAnd (cChain leB leB (eOp ixD (eVar 12) (eC (.int 0))) (eVar 5) (eOp ixD (eVar 12) (eC (.int 1)))) (cOp gtB (eOp ixD (eVar 3) (eVar 10)) (eC (.int 0)))) (eChk (eVar 10))))
    (sSeq (sSet 8 (eN dLst lNil))
    (sSeq (M.bind (iSeq (eN (un1 sortX) (lCons (eLc (.nm 10) (iSeq (eVar 7)) (M.pur true) (eN dTup (lCons (eChk (eOp ixD (eOp ixD (eVar 0) (eVar 10)) (eC (.int 1)))) (lCons (eChk (eVar 10)) lNil)))) lNil))) (sFor (.tp [(.nm 9), (.nm 10)]) (sSeq (sSet 11 (eN minX (lCons (eVar 6) (lCons (eOp ixD (eVar 3) (eVar 10)) lNil))))
    (sIf (cOp gtB (eVar 11) (eC (.int 0))) (sSeq (sMeth 8 (eN dTup (lCons (eChk (eVar 10)) (lCons (eChk (eVar 11)) lNil))) appD)
    (sSeq (sAugL 3 subI (eVar 10) (eVar 11))
    (sAug 6 subI (eVar 11)))) sNx))))
    (sMeth 4 (eN (un1 tupleD) (lCons (eN (un1 sortX) (lCons (eVar 8) lNil)) lNil)) appD))))))
    (sRet (eN dTup (lCons (eN (un1 tupleD) (lCons (eVar 4) lNil)) (lCons (eTake 3) lNil)))))))
noncomputable def g_drawn : List D → FR := runFn 13 [.r, .r, .r] b_drawn
/-! most_served -/
abbrev s_most_served : Stmt := top 18
theorem sc_most_served : FnScope ["lots", "uses", "given"] ["lots", "uses", "given"] (defScope s_most_served) := ⟨rfl, rfl, rfl, by decide +kernel, rfl, by decide +kernel, by decide +kernel⟩
noncomputable def b_most_served : M Fl :=
    (sRet (eOp subD (eN (un1 sumX) (lCons (eVar 2) lNil)) (eN (un1 sumX) (lCons (eOp ixD (eCall [none, none, none] g_drawn (lCons (eVar 0) (lCons (eVar 1) (lCons (eVar 2) lNil)))) (eC (.int 1))) lNil))))
noncomputable def g_most_served : List D → FR := runFn 3 [.r, .r, .r] b_most_served
/-! given_of -/
abbrev s_given_of : Stmt := top 17
theorem sc_given_of : FnScope ["lots", "_", "grams"] ["lots"] (defScope s_given_of) := ⟨rfl, rfl, rfl, by decide +kernel, rfl, by decide +kernel, by decide +kernel⟩
noncomputable def b_given_of : M Fl :=
    (sRet (eLc (.tp [(.nm 1), (.nm 1), (.nm 2), (.nm 1)]) (iSeq (eVar 0)) (M.pur true) (eChk (eVar 2))))
noncomputable def g_given_of : List D → FR := runFn 3 [.r] b_given_of
/-! cheapest_grams -/
abbrev s_cheapest_grams : Stmt := top 20
theorem sc_cheapest_grams : FnScope ["lots", "uses", "given", "served", "_", "k", "more", "lot"] ["lots", "uses"] (defScope s_cheapest_grams) := ⟨rfl, rfl, rfl, by decide +kernel, rfl, by decide +kernel, by decide +kernel⟩
noncomputable def b_cheapest_grams : M Fl :=
    (sSeq (sExpr (eCall [none, none] g_check_stock (lCons (eVar 0) (lCons (eVar 1) lNil))))
    (sSeq (sIf (cOp ltB (eCall [none, none, none] g_most_served (lCons (eVar 0) (lCons (eVar 1) (lCons (eCall [none] g_given_of (lCons (eVar 0) lNil)) lNil)))) (eN (un1 sumX) (lCons (eVar 1) lNil))) (sRaise "Missing") sNx)
    (sSeq (sSet 2 (eOp mulX (eN dLst (lCons (eC (.int 0)) lNil)) (eN (un1 lenD) (lCons (eVar 0) lNil))))
    (sSeq (sSet 3 (eC (.int 0)))
    (sSeq (M.bind (iSeq (eN (un1 sortX) (lCons (eLc (.tp [(.nm 5), (.nm 7)]) (iRng enum1 (lCons (eVar 0) lNil)) (M.pur true) (eN dTup (lCons (eChk (eOp ixD (eVar 7) (eC (.int 3)))) (lCons (eChk (eVar 5)) lNil)))) lNil))) (sFor (.tp [(.nm 4), (.nm 5)]) (sSeq (sSetL 2 (eChk (eOp ixD (eOp ixD (eVar 0) (eVar 5)) (eC (.int 2)))) (eVar 5))
    (sSeq (sSet 6 (eCall [none, none, none] g_most_served (lCons (eVar 0) (lCons (eVar 1) (lCons (eVar 2) lNil)))))
    (sSeq (sSetL 2 (eOp subD (eVar 6) (eVar 3)) (eVar 5))
    (sSet 3 (eChk (eVar 6))))))))
    (sRet (eN (un1 tupleD) (lCons (eVar 2) lNil))))))))
noncomputable def g_cheapest_grams : List D → FR := runFn 8 [.r, .r] b_cheapest_grams
/-! short_days -/
abbrev s_short_days : Stmt := top 21
theorem sc_short_days : FnScope ["lots", "uses", "given", "base", "found", "day", "need", "fewer"] ["lots", "uses", "given"] (defScope s_short_days) := ⟨rfl, rfl, rfl, by decide +kernel, rfl, by decide +kernel, by decide +kernel⟩
noncomputable def b_short_days : M Fl :=
    (sSeq (sSet 3 (eCall [none, none, none] g_most_served (lCons (eVar 0) (lCons (eVar 1) (lCons (eVar 2) lNil)))))
    (sSeq (sSet 4 (eN dLst lNil))
    (sSeq (M.bind (iRng enum1 (lCons (eVar 1) lNil)) (sFor (.tp [(.nm 5), (.nm 6)]) (sIf (cOp gtB (eVar 6) (eC (.int 0))) (sSeq (sSet 7 (eN dLst (lStar (eSl (eVar 1) (M.pur none) (oPart (eVar 5))) (lCons (eOp subD (eVar 6) (eC (.int 1))) (lStar (eSl (eVar 1) (oPart (eOp addD (eVar 5) (eC (.int 1)))) (M.pur none)) lNil)))))
    (sIf (cOp eqB (eCall [none, none, none] g_most_served (lCons (eVar 0) (lCons (eVar 7) (lCons (eVar 2) lNil)))) (eVar 3)) (sMeth 4 (eChk (eVar 5)) appD) sNx)) sNx)))
    (sRet (eTake 4)))))
noncomputable def g_short_days : List D → FR := runFn 8 [.r, .r, .r] b_short_days
/-! price_paper -/
abbrev s_price_paper : Stmt := top 22
theorem sc_price_paper : FnScope ["lots", "uses", "prices", "price", "given", "day", "lot"] ["lots", "uses"] (defScope s_price_paper) := ⟨rfl, rfl, rfl, by decide +kernel, rfl, by decide +kernel, by decide +kernel⟩
noncomputable def b_price_paper : M Fl :=
    (sSeq (sExpr (eCall [none, none] g_cheapest_grams (lCons (eVar 0) (lCons (eVar 1) lNil))))
    (sSeq (sSet 2 (eOp mulX (eN dLst (lCons (eC (.int 0)) lNil)) (eN (un1 lenD) (lCons (eVar 1) lNil))))
    (sSeq (M.bind (iSeq (eUn sortSetD (eLc (.nm 6) (iSeq (eVar 0)) (M.pur true) (eChk (eOp ixD (eVar 6) (eC (.int 3))))))) (sFor (.nm 3) (sSeq (sSet 4 (eLc (.nm 6) (iSeq (eVar 0)) (M.pur true) (eIf (cOp ltB (eOp ixD (eVar 6) (eC (.int 3))) (eVar 3)) (eChk (eOp ixD (eVar 6) (eC (.int 2)))) (eC (.int 0)))))
    (M.bind (iSeq (eCall [none, none, none] g_short_days (lCons (eVar 0) (lCons (eVar 1) (lCons (eVar 4) lNil))))) (sFor (.nm 5) (sSetL 2 (eChk (eVar 3)) (eVar 5)))))))
    (sRet (eN (un1 tupleD) (lCons (eVar 2) lNil))))))
noncomputable def g_price_paper : List D → FR := runFn 7 [.r, .r] b_price_paper
/-! _law_same -/
abbrev s__law_same : Stmt := top 25
theorem sc__law_same : FnScope ["told", "due"] ["told", "due"] (defScope s__law_same) := ⟨rfl, rfl, rfl, by decide +kernel, rfl, by decide +kernel, by decide +kernel⟩
noncomputable def b__law_same : M Fl :=
    (sRet (eOp (gBl eqB) (eN (un1 reprD) (lCons (eN dLst (lCons (eVar 0) lNil)) lNil)) (eN (un1 reprD) (lCons (eN dLst (lCons (eVar 1) lNil)) lNil))))
noncomputable def g__law_same : List D → FR := runFn 2 [.r, .r] b__law_same
/-! judge_prices -/
abbrev s_judge_prices : Stmt := top 23
theorem sc_judge_prices : FnScope ["lots", "uses", "cost", "paper", "total", "first", "last", "grams", "price", "one"] ["lots", "uses", "cost", "paper"] (defScope s_judge_prices) := ⟨rfl, rfl, rfl, by decide +kernel, rfl, by decide +kernel, by decide +kernel⟩
noncomputable def b_judge_prices : M Fl :=
    (sSeq (sExpr (eCall [none, none] g_check_stock (lCons (eVar 0) (lCons (eVar 1) lNil))))
    (sSeq (sIf (cOr (cOp neB (eN (un1 lenD) (lCons (eVar 3) lNil)) (eN (un1 lenD) (lCons (eVar 1) lNil))) (cNot (cTru (eN (un1 allD) (lCons (eLc (.nm 8) (iSeq (eVar 3)) (M.pur true) (eOp (gBl geB) (eVar 8) (eC (.int 0)))) lNil))))) (sRet (eC (.bl false))) sNx)
    (sSeq (sSet 4 (eN (un1 sumX) (lCons (eLc (.tp [(.nm 8), (.nm 7)]) (iRng zip2 (lCons (eVar 3) (lCons (eVar 1) lNil))) (M.pur true) (eOp mulX (eVar 8) (eVar 7))) lNil)))
    (sSeq (M.bind (iSeq (eVar 0)) (sFor (.tp [(.nm 5), (.nm 6), (.nm 7), (.nm 8)]) (sAug 4 subI (eOp mulX (eVar 7) (eN maxX (lCons (eN dLst (lCons (eC (.int 0)) (lStar (eLc (.nm 9) (iSeq (eSl (eVar 3) (oPart (eVar 5)) (oPart (eOp addD (eVar 6) (eC (.int 1)))))) (M.pur true) (eOp subD (eVar 9) (eVar 8))) lNil))) lNil))))))
    (sRet (eOp (gBl geB) (eVar 4) (eVar 2)))))))
noncomputable def g_judge_prices : List D → FR := runFn 10 [.r, .r, .r, .r] b_judge_prices
/-! _law_shows -/
abbrev s__law_shows : Stmt := top 37
theorem sc__law_shows : FnScope ["lots", "uses", "cost", "paper", "total", "day", "first", "last", "grams", "price", "gain"] ["lots", "uses", "cost", "paper"] (defScope s__law_shows) := ⟨rfl, rfl, rfl, by decide +kernel, rfl, by decide +kernel, by decide +kernel⟩
noncomputable def b__law_shows : M Fl :=
    (sSeq (sIf (cOr (cOp neB (eN (un1 lenD) (lCons (eVar 3) lNil)) (eN (un1 lenD) (lCons (eVar 1) lNil))) (cOp gtB (eN (un1 lenD) (lCons (eLc (.nm 9) (iSeq (eVar 3)) (cOp ltB (eVar 9) (eC (.int 0))) (eChk (eVar 9))) lNil)) (eC (.int 0)))) (sRet (eC (.bl false))) sNx)
    (sSeq (sSet 4 (eC (.int 0)))
    (sSeq (M.bind (iRng rng1 (lCons (eN (un1 lenD) (lCons (eVar 1) lNil)) lNil)) (sFor (.nm 5) (sSet 4 (eOp addD (eVar 4) (eOp mulX (eOp ixD (eVar 3) (eVar 5)) (eOp ixD (eVar 1) (eVar 5)))))))
    (sSeq (M.bind (iSeq (eVar 0)) (sFor (.tp [(.nm 6), (.nm 7), (.nm 8), (.nm 9)]) (sSeq (sSet 10 (eC (.int 0)))
    (sSeq (M.bind (iRng rng2 (lCons (eVar 6) (lCons (eOp addD (eN minX (lCons (eVar 7) (lCons (eOp subD (eN (un1 lenD) (lCons (eVar 1) lNil)) (eC (.int 1))) lNil))) (eC (.int 1))) lNil))) (sFor (.nm 5) (sSet 10 (eN maxX (lCons (eVar 10) (lCons (eOp subD (eOp ixD (eVar 3) (eVar 5)) (eVar 9)) lNil))))))
    (sSet 4 (eOp subD (eVar 4) (eOp mulX (eVar 10) (eVar 8))))))))
    (sRet (eOp (gBl geB) (eVar 4) (eVar 2)))))))
noncomputable def g__law_shows : List D → FR := runFn 11 [.r, .r, .r, .r] b__law_shows
/-! law -/
abbrev s_law : Stmt := top 39
theorem sc_law : FnScope ["script", "state", "turn", "lots", "uses", "top", "papers", "told", "paper", "shown", "at", "rows", "one", "cost", "day"] ["script"] (defScope s_law) := ⟨rfl, rfl, rfl, by decide +kernel, rfl, by decide +kernel, by decide +kernel⟩
noncomputable def b_law : M Fl :=
    (sSeq (sSet 1 (eN dLst (lCons (eCall [none] g__law_stream (lCons (eVar 0) lNil)) (lCons (eC (.int 0)) lNil))))
    (sSeq (M.bind (iRng rng1 (lCons (eC (.int 5)) lNil)) (sFor (.nm 2) (sSeq (sAsg (.tp [(.nm 3), (.nm 4)]) (eCall [some 1] g__law_stock (lSlot 1 lNil)))
    (sSeq (sSet 5 (eOp ixD (eN dLst (lCons (eC (.int 4)) (lCons (eC (.int 1000)) (lCons (eC (.int 40000)) lNil)))) (eCall [some 1, none] g__law_next (lSlot 1 (lCons (eC (.int 3)) lNil)))))
    (sSeq (sSet 6 (eN dLst (lCons (eN (un1 tupleD) (lCons (eLc (.nm 14) (iSeq (eVar 4)) (M.pur true) (eCall [some 1, none] g__law_next (lSlot 1 (lCons (eVar 5) lNil)))) lNil)) (lCons (eOp mulX (eN dTup (lCons (eCall [some 1, none] g__law_next (lSlot 1 (lCons (eC (.int 9)) lNil))) lNil)) (eN (un1 lenD) (lCons (eVar 4) lNil))) (lCons (eOp mulX (eN dTup (lCons (eC (.int 0)) lNil)) (eN (un1 lenD) (lCons (eVar 4) lNil))) lNil)))))
    (sSeq (sSet 7 (eTold ncT (eCall [none, none] g_price_paper (lCons (eVar 3) (lCons (eVar 4) lNil)))))
    (sSeq (sIf (cOp eqB (eOp ixD (eVar 7) (eC (.int 0))) (eC (.str "told"))) (sMeth 6 (eChk (eOp ixD (eVar 7) (eC (.int 1)))) appD) sNx)
    (M.bind (iSeq (eVar 6)) (sFor (.nm 8) (sSeq (sSet 9 (eCall [none, none, none] g__law_shown (lCons (eVar 3) (lCons (eVar 4) (lCons (eVar 8) lNil)))))
    (sSeq (sSet 10 (eCall [some 1, none] g__law_next (lSlot 1 (lCons (eN (un1 lenD) (lCons (eVar 8) lNil)) lNil))))
    (sSeq (sSet 11 (eN dLst (lCons (eChk (eVar 8)) (lCons (eSl (eVar 8) (oPart (eC (.int 1))) (M.pur none)) (lCons (eOp addD (eVar 8) (eN dTup (lCons (eC (.int 0)) lNil))) (lCons (eOp addD (eOp addD (eSl (eVar 8) (M.pur none) (oPart (eVar 10))) (eN dTup (lCons (eOp addD (eOp ixD (eVar 8) (eVar 10)) (eC (.int 1))) lNil))) (eSl (eVar 8) (oPart (eOp addD (eVar 10) (eC (.int 1)))) (M.pur none))) (lCons (eOp addD (eOp addD (eSl (eVar 8) (M.pur none) (oPart (eVar 10))) (eN dTup (lCons (eOp subD (eOp ixD (eVar 8) (eVar 10)) (eC (.int 1))) lNil))) (eSl (eVar 8) (oPart (eOp addD (eVar 10) (eC (.int 1)))) (M.pur none))) (lCons (eUn revT (eVar 8)) (lCons (eOp addD (eOp addD (eSl (eVar 8) (M.pur none) (oPart (eVar 10))) (eN dTup (lCons (eUn negD (eC (.int 1))) lNil))) (eSl (eVar 8) (oPart (eOp addD (eVar 10) (eC (.int 1)))) (M.pur none))) lNil)))))))))
    (M.bind (iSeq (eVar 11)) (sFor (.nm 12) (M.bind (iSeq (eN dLst (lCons (eVar 9) (lCons (eOp addD (eVar 9) (eC (.int 1))) (lCons (eOp subD (eVar 9) (eC (.int 1))) (lCons (eC (.int 0)) (lCons (eUn negD (eC (.int 5))) lNil))))))) (sFor (.nm 13) (sIf (cNot (cTru (eCall [none, none] g__law_same (lCons (eCall [none, none, none, none] g_judge_prices (lCons (eVar 3) (lCons (eVar 4) (lCons (eVar 13) (lCons (eVar 12) lNil))))) (lCons (eCall [none, none, none, none] g__law_shows (lCons (eVar 3) (lCons (eVar 4) (lCons (eVar 13) (lCons (eVar 12) lNil))))) lNil))))) (sRet (eC (.bl false))) sNx)))))))))))))))))
    (sRet (eC (.bl true)))))
noncomputable def g_law : List D → FR := runFn 15 [.r] b_law
abbrev KL_law : Nat := 4
abbrev tf : List He.Defn := [("law", none)]
abbrev TT (K : PySem.W.Frag) : List (Addr × Str) := [tabP K "law"]
structure Bx (K : PySem.W.Frag) (mg : Str → Option Value) (base : Heap) : Prop where
  t_law : LamX.TabB base mg (He.cT K ("law", none)).1 (He.cT K ("law", none)).2
structure Cc (K : PySem.W.Frag) (mg : Str → Option Value) (base : Heap) : Prop where
  d__law_stream : FnP K "_law_stream" s__law_stream
  m__law_stream : mg "_law_stream" = some (.ref (He.ga K "_law_stream"))
  b__law_stream : Binds K (fdK K "_law_stream") ["script"] []
  d__law_next : FnP K "_law_next" s__law_next
  m__law_next : mg "_law_next" = some (.ref (He.ga K "_law_next"))
  b__law_next : Binds K (fdK K "_law_next") ["state", "many"] []
  d__law_lots : FnP K "_law_lots" s__law_lots
  m__law_lots : mg "_law_lots" = some (.ref (He.ga K "_law_lots"))
  b__law_lots : Binds K (fdK K "_law_lots") ["state", "days", "most"] []
  d__law_uses : FnP K "_law_uses" s__law_uses
  m__law_uses : mg "_law_uses" = some (.ref (He.ga K "_law_uses"))
  b__law_uses : Binds K (fdK K "_law_uses") ["state", "days"] []
  d__law_fits : FnP K "_law_fits" s__law_fits
  m__law_fits : mg "_law_fits" = some (.ref (He.ga K "_law_fits"))
  b__law_fits : Binds K (fdK K "_law_fits") ["state", "lots", "uses"] []
  d__law_stock : FnP K "_law_stock" s__law_stock
  m__law_stock : mg "_law_stock" = some (.ref (He.ga K "_law_stock"))
  b__law_stock : Binds K (fdK K "_law_stock") ["state"] []
  d__law_told : FnP K "_law_told" s__law_told
  m__law_told : mg "_law_told" = some (.ref (He.ga K "_law_told"))
  b__law_told : Binds K (fdK K "_law_told") ["call"] []
  d__law_shown : FnP K "_law_shown" s__law_shown
  m__law_shown : mg "_law_shown" = some (.ref (He.ga K "_law_shown"))
  b__law_shown : Binds K (fdK K "_law_shown") ["lots", "uses", "paper"] []
  d_check_lots : FnP K "check_lots" s_check_lots
  m_check_lots : mg "check_lots" = some (.ref (He.ga K "check_lots"))
  b_check_lots : Binds K (fdK K "check_lots") ["lots"] []
  d_check_uses : FnP K "check_uses" s_check_uses
  m_check_uses : mg "check_uses" = some (.ref (He.ga K "check_uses"))
  b_check_uses : Binds K (fdK K "check_uses") ["uses"] []
  d_check_stock : FnP K "check_stock" s_check_stock
  m_check_stock : mg "check_stock" = some (.ref (He.ga K "check_stock"))
  b_check_stock : Binds K (fdK K "check_stock") ["lots", "uses"] []
  d_drawn : FnP K "drawn" s_drawn
  m_drawn : mg "drawn" = some (.ref (He.ga K "drawn"))
  b_drawn : Binds K (fdK K "drawn") ["lots", "uses", "given"] []
  d_most_served : FnP K "most_served" s_most_served
  m_most_served : mg "most_served" = some (.ref (He.ga K "most_served"))
  b_most_served : Binds K (fdK K "most_served") ["lots", "uses", "given"] []
  d_given_of : FnP K "given_of" s_given_of
  m_given_of : mg "given_of" = some (.ref (He.ga K "given_of"))
  b_given_of : Binds K (fdK K "given_of") ["lots"] []
  d_cheapest_grams : FnP K "cheapest_grams" s_cheapest_grams
  m_cheapest_grams : mg "cheapest_grams" = some (.ref (He.ga K "cheapest_grams"))
  b_cheapest_grams : Binds K (fdK K "cheapest_grams") ["lots", "uses"] []
  d_short_days : FnP K "short_days" s_short_days
  m_short_days : mg "short_days" = some (.ref (He.ga K "short_days"))
  b_short_days : Binds K (fdK K "short_days") ["lots", "uses", "given"] []
  d_price_paper : FnP K "price_paper" s_price_paper
  m_price_paper : mg "price_paper" = some (.ref (He.ga K "price_paper"))
  b_price_paper : Binds K (fdK K "price_paper") ["lots", "uses"] []
  d__law_same : FnP K "_law_same" s__law_same
  m__law_same : mg "_law_same" = some (.ref (He.ga K "_law_same"))
  b__law_same : Binds K (fdK K "_law_same") ["told", "due"] []
  d_judge_prices : FnP K "judge_prices" s_judge_prices
  m_judge_prices : mg "judge_prices" = some (.ref (He.ga K "judge_prices"))
  b_judge_prices : Binds K (fdK K "judge_prices") ["lots", "uses", "cost", "paper"] []
  d__law_shows : FnP K "_law_shows" s__law_shows
  m__law_shows : mg "_law_shows" = some (.ref (He.ga K "_law_shows"))
  b__law_shows : Binds K (fdK K "_law_shows") ["lots", "uses", "cost", "paper"] []
  d_law : FnP K "law" s_law
  m_law : mg "law" = some (.ref (He.ga K "law"))
  b_law : Binds K (fdK K "law") ["script"] []
  n_abs : mg "abs" = none
  n_all : mg "all" = none
  n_enumerate : mg "enumerate" = none
  n_int : mg "int" = none
  n_isinstance : mg "isinstance" = none
  n_len : mg "len" = none
  n_list : mg "list" = none
  n_max : mg "max" = none
  n_min : mg "min" = none
  n_range : mg "range" = none
  n_repr : mg "repr" = none
  n_set : mg "set" = none
  n_sorted : mg "sorted" = none
  n_sum : mg "sum" = none
  n_tuple : mg "tuple" = none
  n_zip : mg "zip" = none
  i_MAX_DAYS : ∃ t, mg "MAX_DAYS" = some (.int 60 t)
  i_MAX_GRAMS : ∃ t, mg "MAX_GRAMS" = some (.int 9999 t)
  i_MAX_LOTS : ∃ t, mg "MAX_LOTS" = some (.int 30 t)
  i_MAX_PRICE : ∃ t, mg "MAX_PRICE" = some (.int 999 t)
  e_MealError : mg "MealError" = some (.ref (He.ga K "MealError"))
  e_NotAllowed : mg "NotAllowed" = some (.ref (He.ga K "NotAllowed"))
  e_TooLarge : mg "TooLarge" = some (.ref (He.ga K "TooLarge"))
  e_Missing : mg "Missing" = some (.ref (He.ga K "Missing"))
  e_BadPaper : mg "BadPaper" = some (.ref (He.ga K "BadPaper"))
  e_BadForm : mg "BadForm" = some (.ref (He.ga K "BadForm"))
  e_Broken : mg "Broken" = some (.ref (He.ga K "Broken"))
  x_Missing : XcOk K mg "Missing"
  x_NotAllowed : XcOk K mg "NotAllowed"
  kit : kitB K six = true
  tnd : ((TT K).map (·.1)).Nodup
  bx : Bx K mg base
theorem ok__law_stream {P : Program} {w : World} {K : PySem.W.Frag} {mg : Str → Option Value} {base : Heap} (c : Cc K mg base) : FnG P w K mg base 1 (He.ga K "_law_stream") (fdK K "_law_stream") ["script"] (spF K (TT K) (exNm K) [.r] g__law_stream) := by
  refine fnG c.d__law_stream sc__law_stream rfl fun cdv A outer s H vs E hgd hr hcd hci hlk => ?_
  exact ⟨_, (s_cons (s_set 1 (v_lst l_nil) (hN := sc__law_stream.nd))
      (s_cons (s_for PassesOwn.leaving rfl (i_seq (v_sl (v_var 0) p_none (p_some v_int))) (g_name 2 sc__law_stream.nd) (s_cons (s_set 3 (v_callB d_abs rfl c.n_abs boot_abs (l_cons (v_callT d_int rfl c.n_int boot_int (l_cons (v_var 2) l_nil)) l_nil)) (hN := sc__law_stream.nd))
      (s_one (s_if (t_cmp d_ge (v_var 3) (v_op d_pow v_int v_int)) (s_one (s_for PassesOwn.leaving rfl (i_range1 rfl c.n_range (l_cons v_int l_nil)) (g_name 4 sc__law_stream.nd) (s_cons (s_append 1 (v_op d_mod (v_callT d_int rfl c.n_int boot_int (l_cons (v_var 3) l_nil)) v_int))
      (s_cons (s_set 3 (v_op d_fdiv (v_var 3) v_int) (hN := sc__law_stream.nd))
      (s_one (s_if (t_cmp (d_eq hr.units) (v_var 3) v_int) (s_one s_break) s_nil)))))) (s_cons (s_set 5 (v_op d_mod (v_callT d_int rfl c.n_int boot_int (l_cons (v_var 3) l_nil)) v_int) (hN := sc__law_stream.nd))
      (s_one (s_for PassesOwn.leaving rfl (i_range1 rfl c.n_range (l_cons v_int l_nil)) (g_name 4 sc__law_stream.nd) (s_cons (s_set 5 (v_op d_mod (v_callT d_int rfl c.n_int boot_int (l_cons (v_op d_add (v_op d_add (v_op d_mul (v_var 5) v_int) (v_op d_mul v_int (v_var 4))) v_int) l_nil)) v_int) (hN := sc__law_stream.nd))
      (s_one (s_append 1 (v_op d_mod (v_op d_mod (v_callT d_int rfl c.n_int boot_int (l_cons (v_op d_add (v_op d_mul (v_var 5) v_int) (v_var 4)) l_nil)) v_int) v_int)))))))))))
      (s_cons (s_if (t_cmp (d_eq hr.units) (v_callB d_len rfl c.n_len boot_len (l_cons (v_var 1) l_nil)) v_int) (s_one (s_append 1 v_int)) s_nil)
      (s_one (s_ret (v_take 1))))))⟩

theorem ok__law_next {P : Program} {w : World} {K : PySem.W.Frag} {mg : Str → Option Value} {base : Heap} (c : Cc K mg base) : FnG P w K mg base 1 (He.ga K "_law_next") (fdK K "_law_next") ["state", "many"] (spF K (TT K) (exNm K) [.m, .r] g__law_next) := by
  refine fnG c.d__law_next sc__law_next rfl fun cdv A outer s H vs E hgd hr hcd hci hlk => ?_
  exact ⟨_, (s_cons (s_setL 0 (v_op d_add (v_ix d_ix (v_var 0) v_int) v_int) v_int (hm := pmd_nb (pk := [.m, .r]) (vs := vs) (i := 0) rfl))
      (s_cons (s_set 2 (v_op d_fdiv (v_ix d_ix (v_var 0) v_int) (v_callB d_len rfl c.n_len boot_len (l_cons (v_ix d_ix (v_var 0) v_int) l_nil))) (hN := sc__law_next.nd))
      (s_one (s_ret (v_op d_mod (v_callT d_int rfl c.n_int boot_int (l_cons (v_op d_add (v_op d_add (v_ix d_ix (v_ix d_ix (v_var 0) v_int) (v_op d_mod (v_ix d_ix (v_var 0) v_int) (v_callB d_len rfl c.n_len boot_len (l_cons (v_ix d_ix (v_var 0) v_int) l_nil)))) (v_op d_mul (v_var 2) v_int)) (v_op d_mul (v_op d_mul (v_ix d_ix (v_var 0) v_int) (v_var 2)) v_int)) l_nil)) (v_var 1))))))⟩

theorem ok__law_lots {P : Program} {w : World} {K : PySem.W.Frag} {mg : Str → Option Value} {base : Heap} (c : Cc K mg base) : FnG P w K mg base 2 (He.ga K "_law_lots") (fdK K "_law_lots") ["state", "days", "most"] (spF K (TT K) (exNm K) [.m, .r, .r] g__law_lots) := by
  refine fnG c.d__law_lots sc__law_lots rfl fun cdv A outer s H vs E hgd hr hcd hci hlk => ?_
  exact ⟨_, (s_cons (s_set 3 (v_lst l_nil) (hN := sc__law_lots.nd))
      (s_cons (s_for PassesOwn.leaving rfl (i_range1 rfl c.n_range (l_cons (v_call (ok__law_next c) hgd (hr.mono (by decide)) rfl c.m__law_next c.d__law_next.kp c.b__law_next (L2N.takes_of rfl rfl rfl rfl) (a_slot 0 (a_cons (v_op d_add (v_var 2) v_int) a_nil)) (hmd := pmd_allW (pk := [.m, .r, .r]) (vs := vs) (l := [0]) rfl)) l_nil)) (g_name 4 sc__law_lots.nd) (s_cons (s_set 5 (v_call (ok__law_next c) hgd (hr.mono (by decide)) rfl c.m__law_next c.d__law_next.kp c.b__law_next (L2N.takes_of rfl rfl rfl rfl) (a_slot 0 (a_cons (v_var 1) a_nil)) (hmd := pmd_allW (pk := [.m, .r, .r]) (vs := vs) (l := [0]) rfl)) (hN := sc__law_lots.nd))
      (s_cons (s_set 6 (v_ix d_ix (v_lst (l_cons (v_op d_add v_int (v_call (ok__law_next c) hgd (hr.mono (by decide)) rfl c.m__law_next c.d__law_next.kp c.b__law_next (L2N.takes_of rfl rfl rfl rfl) (a_slot 0 (a_cons v_int a_nil)) (hmd := pmd_allW (pk := [.m, .r, .r]) (vs := vs) (l := [0]) rfl))) (l_cons (v_op d_add v_int (v_call (ok__law_next c) hgd (hr.mono (by decide)) rfl c.m__law_next c.d__law_next.kp c.b__law_next (L2N.takes_of rfl rfl rfl rfl) (a_slot 0 (a_cons v_int a_nil)) (hmd := pmd_allW (pk := [.m, .r, .r]) (vs := vs) (l := [0]) rfl))) (l_cons v_int l_nil)))) (v_ix d_ix (v_lst (l_cons v_int (l_cons v_int (l_cons v_int (l_cons v_int (l_cons v_int l_nil)))))) (v_call (ok__law_next c) hgd (hr.mono (by decide)) rfl c.m__law_next c.d__law_next.kp c.b__law_next (L2N.takes_of rfl rfl rfl rfl) (a_slot 0 (a_cons v_int a_nil)) (hmd := pmd_allW (pk := [.m, .r, .r]) (vs := vs) (l := [0]) rfl)))) (hN := sc__law_lots.nd))
      (s_one (s_append 3 (v_tup (l_cons (v_chk (v_var 5)) (l_cons (v_callB (d_minX rfl hr.units) rfl c.n_min boot_min (l_cons v_int (l_cons (v_op d_add (v_var 5) (v_call (ok__law_next c) hgd (hr.mono (by decide)) rfl c.m__law_next c.d__law_next.kp c.b__law_next (L2N.takes_of rfl rfl rfl rfl) (a_slot 0 (a_cons (v_ix d_ix (v_lst (l_cons v_int (l_cons v_int (l_cons v_int l_nil)))) (v_call (ok__law_next c) hgd (hr.mono (by decide)) rfl c.m__law_next c.d__law_next.kp c.b__law_next (L2N.takes_of rfl rfl rfl rfl) (a_slot 0 (a_cons v_int a_nil)) (hmd := pmd_allW (pk := [.m, .r, .r]) (vs := vs) (l := [0]) rfl))) a_nil)) (hmd := pmd_allW (pk := [.m, .r, .r]) (vs := vs) (l := [0]) rfl))) l_nil))) (l_cons (v_chk (v_var 6)) (l_cons (v_ix d_ix (v_lst (l_cons (v_call (ok__law_next c) hgd (hr.mono (by decide)) rfl c.m__law_next c.d__law_next.kp c.b__law_next (L2N.takes_of rfl rfl rfl rfl) (a_slot 0 (a_cons v_int a_nil)) (hmd := pmd_allW (pk := [.m, .r, .r]) (vs := vs) (l := [0]) rfl)) (l_cons (v_call (ok__law_next c) hgd (hr.mono (by decide)) rfl c.m__law_next c.d__law_next.kp c.b__law_next (L2N.takes_of rfl rfl rfl rfl) (a_slot 0 (a_cons v_int a_nil)) (hmd := pmd_allW (pk := [.m, .r, .r]) (vs := vs) (l := [0]) rfl)) l_nil))) (v_call (ok__law_next c) hgd (hr.mono (by decide)) rfl c.m__law_next c.d__law_next.kp c.b__law_next (L2N.takes_of rfl rfl rfl rfl) (a_slot 0 (a_cons v_int a_nil)) (hmd := pmd_allW (pk := [.m, .r, .r]) (vs := vs) (l := [0]) rfl))) l_nil))))))))))
      (s_one (s_ret (v_callT d_tuple rfl c.n_tuple boot_tuple (l_cons (v_var 3) l_nil))))))⟩

theorem ok__law_uses {P : Program} {w : World} {K : PySem.W.Frag} {mg : Str → Option Value} {base : Heap} (c : Cc K mg base) : FnG P w K mg base 2 (He.ga K "_law_uses") (fdK K "_law_uses") ["state", "days"] (spF K (TT K) (exNm K) [.m, .r] g__law_uses) := by
  refine fnG c.d__law_uses sc__law_uses rfl fun cdv A outer s H vs E hgd hr hcd hci hlk => ?_
  exact ⟨_, (s_cons (s_set 2 (v_ix d_ix (v_lst (l_cons v_int (l_cons v_int (l_cons v_int l_nil)))) (v_ix d_ix (v_lst (l_cons v_int (l_cons v_int (l_cons v_int (l_cons v_int (l_cons v_int l_nil)))))) (v_call (ok__law_next c) hgd (hr.mono (by decide)) rfl c.m__law_next c.d__law_next.kp c.b__law_next (L2N.takes_of rfl rfl rfl rfl) (a_slot 0 (a_cons v_int a_nil)) (hmd := pmd_allW (pk := [.m, .r]) (vs := vs) (l := [0]) rfl)))) (hN := sc__law_uses.nd))
      (s_one (s_ret (v_callT d_tuple rfl c.n_tuple boot_tuple (l_cons (v_lc rfl sc__law_uses.nd (i_range1 rfl c.n_range (l_cons (v_var 1) l_nil)) (blkOk_by (own := [("k", 3)]) (by rfl)) rfl (fun _ _ _ _ _ => (g_name 3 sc__law_uses.nd)) (fun _ _ _ _ _ => ts_nil) (fun _ _ _ _ _ => (v_op d_mulX (v_call (ok__law_next c) hgd (hr.mono (by decide)) rfl c.m__law_next c.d__law_next.kp c.b__law_next takesN (a_slot 0 (a_cons (v_op d_add (v_var 2) v_int) a_nil)) (hmd := pmd_allW (pk := [.m, .r]) (vs := vs) (l := [0]) rfl)) (v_callT d_int rfl c.n_int boot_int (l_cons (v_cmp d_gt (v_call (ok__law_next c) hgd (hr.mono (by decide)) rfl c.m__law_next c.d__law_next.kp c.b__law_next takesN (a_slot 0 (a_cons v_int a_nil)) (hmd := pmd_allW (pk := [.m, .r]) (vs := vs) (l := [0]) rfl)) v_int) l_nil))))) l_nil)))))⟩

theorem ok__law_fits {P : Program} {w : World} {K : PySem.W.Frag} {mg : Str → Option Value} {base : Heap} (c : Cc K mg base) : FnG P w K mg base 2 (He.ga K "_law_fits") (fdK K "_law_fits") ["state", "lots", "uses"] (spF K (TT K) (exNm K) [.m, .r, .r] g__law_fits) := by
  refine fnG c.d__law_fits sc__law_fits rfl fun cdv A outer s H vs E hgd hr hcd hci hlk => ?_
  exact ⟨_, (s_cons (s_set 3 (v_callT d_list rfl c.n_list boot_list (l_cons (v_var 2) l_nil)) (hN := sc__law_fits.nd))
      (s_cons (s_set 4 (v_lc rfl sc__law_fits.nd (i_seq (v_var 1)) (blkOk_by (own := [("lot", 10)]) (by rfl)) rfl (fun _ _ _ _ _ => (g_name 10 sc__law_fits.nd)) (fun _ _ _ _ _ => ts_nil) (fun _ _ _ _ _ => (v_chk (v_ix d_ix (v_var 10) v_int)))) (hN := sc__law_fits.nd))
      (s_cons (s_for PassesOwn.leaving rfl (i_range1 rfl c.n_range (l_cons (v_callB d_len rfl c.n_len boot_len (l_cons (v_var 3) l_nil)) l_nil)) (g_name 5 sc__law_fits.nd) (s_cons (s_set 6 (v_callB (d_sumX rfl) rfl c.n_sum boot_sum (l_cons (v_lc rfl sc__law_fits.nd (i_range1 rfl c.n_range (l_cons (v_callB d_len rfl c.n_len boot_len (l_cons (v_var 1) l_nil)) l_nil)) (blkOk_by (own := [("k", 8)]) (by rfl)) rfl (fun _ _ _ _ _ => (g_name 8 sc__law_fits.nd)) (fun _ _ _ _ _ => (ts_one (t_chain d_le d_le (v_ix d_ix (v_ix d_ix (v_var 1) (v_var 8)) v_int) (v_var 5) (v_ix d_ix (v_ix d_ix (v_var 1) (v_var 8)) v_int)))) (fun _ _ _ _ _ => (v_chk (v_ix d_ix (v_var 4) (v_var 8))))) l_nil)) (hN := sc__law_fits.nd))
      (s_cons (s_setL 3 (v_ix d_ix (v_lst (l_cons (v_chk (v_ix d_ix (v_var 3) (v_var 5))) (l_cons (v_callB (d_minX rfl hr.units) rfl c.n_min boot_min (l_cons (v_ix d_ix (v_var 3) (v_var 5)) (l_cons (v_var 6) l_nil))) (l_cons (v_chk (v_var 6)) l_nil)))) (v_call (ok__law_next c) hgd (hr.mono (by decide)) rfl c.m__law_next c.d__law_next.kp c.b__law_next (L2N.takes_of rfl rfl rfl rfl) (a_slot 0 (a_cons v_int a_nil)) (hmd := pmd_allW (pk := [.m, .r, .r]) (vs := vs) (l := [0]) rfl))) (v_var 5))
      (s_cons (s_set 7 (v_callB (d_minX rfl hr.units) rfl c.n_min boot_min (l_cons (v_ix d_ix (v_var 3) (v_var 5)) (l_cons (v_var 6) l_nil))) (hN := sc__law_fits.nd))
      (s_cons (s_setL 3 (v_callB (d_minX rfl hr.units) rfl c.n_min boot_min (l_cons v_int (l_cons (v_ix d_ix (v_var 3) (v_var 5)) l_nil))) (v_var 5))
      (s_one (s_for PassesOwn.leaving rfl (i_range1 rfl c.n_range (l_cons (v_callB d_len rfl c.n_len boot_len (l_cons (v_var 1) l_nil)) l_nil)) (g_name 8 sc__law_fits.nd) (s_one (s_if (t_chain d_le d_le (v_ix d_ix (v_ix d_ix (v_var 1) (v_var 8)) v_int) (v_var 5) (v_ix d_ix (v_ix d_ix (v_var 1) (v_var 8)) v_int)) (s_cons (s_set 9 (v_callB (d_minX rfl hr.units) rfl c.n_min boot_min (l_cons (v_var 7) (l_cons (v_ix d_ix (v_var 4) (v_var 8)) l_nil))) (hN := sc__law_fits.nd))
      (s_cons (s_setL 4 (v_op d_sub (v_ix d_ix (v_var 4) (v_var 8)) (v_var 9)) (v_var 8))
      (s_one (s_set 7 (v_op d_sub (v_var 7) (v_var 9)) (hN := sc__law_fits.nd))))) s_nil)))))))))
      (s_one (s_ret (v_callT d_tuple rfl c.n_tuple boot_tuple (l_cons (v_var 3) l_nil)))))))⟩

theorem ok__law_stock {P : Program} {w : World} {K : PySem.W.Frag} {mg : Str → Option Value} {base : Heap} (c : Cc K mg base) : FnG P w K mg base 3 (He.ga K "_law_stock") (fdK K "_law_stock") ["state"] (spF K (TT K) (exNm K) [.m] g__law_stock) := by
  refine fnG c.d__law_stock sc__law_stock rfl fun cdv A outer s H vs E hgd hr hcd hci hlk => ?_
  exact ⟨_, (s_cons (s_set 1 (v_ix d_ix (v_lst (l_cons (v_op d_add v_int (v_call (ok__law_next c) hgd (hr.mono (by decide)) rfl c.m__law_next c.d__law_next.kp c.b__law_next (L2N.takes_of rfl rfl rfl rfl) (a_slot 0 (a_cons v_int a_nil)) (hmd := pmd_allW (pk := [.m]) (vs := vs) (l := [0]) rfl))) (l_cons (v_op d_add v_int (v_call (ok__law_next c) hgd (hr.mono (by decide)) rfl c.m__law_next c.d__law_next.kp c.b__law_next (L2N.takes_of rfl rfl rfl rfl) (a_slot 0 (a_cons v_int a_nil)) (hmd := pmd_allW (pk := [.m]) (vs := vs) (l := [0]) rfl))) l_nil))) (v_callT d_int rfl c.n_int boot_int (l_cons (v_cmp (d_eq hr.units) (v_call (ok__law_next c) hgd (hr.mono (by decide)) rfl c.m__law_next c.d__law_next.kp c.b__law_next (L2N.takes_of rfl rfl rfl rfl) (a_slot 0 (a_cons v_int a_nil)) (hmd := pmd_allW (pk := [.m]) (vs := vs) (l := [0]) rfl)) v_int) l_nil))) (hN := sc__law_stock.nd))
      (s_cons (s_set 2 (v_call (ok__law_lots c) hgd (hr.mono (by decide)) rfl c.m__law_lots c.d__law_lots.kp c.b__law_lots (L2N.takes_of rfl rfl rfl rfl) (a_slot 0 (a_cons (v_var 1) (a_cons (v_ix d_ix (v_lst (l_cons v_int (l_cons v_int l_nil))) (v_callT d_int rfl c.n_int boot_int (l_cons (v_cmp (d_eq hr.units) (v_call (ok__law_next c) hgd (hr.mono (by decide)) rfl c.m__law_next c.d__law_next.kp c.b__law_next (L2N.takes_of rfl rfl rfl rfl) (a_slot 0 (a_cons v_int a_nil)) (hmd := pmd_allW (pk := [.m]) (vs := vs) (l := [0]) rfl)) v_int) l_nil))) a_nil))) (hmd := pmd_allW (pk := [.m]) (vs := vs) (l := [0]) rfl)) (hN := sc__law_stock.nd))
      (s_cons (s_set 3 (v_call (ok__law_uses c) hgd (hr.mono (by decide)) rfl c.m__law_uses c.d__law_uses.kp c.b__law_uses (L2N.takes_of rfl rfl rfl rfl) (a_slot 0 (a_cons (v_var 1) a_nil)) (hmd := pmd_allW (pk := [.m]) (vs := vs) (l := [0]) rfl)) (hN := sc__law_stock.nd))
      (s_one (s_ret (v_tup (l_cons (v_chk (v_var 2)) (l_cons (v_ix d_ix (v_lst (l_cons (v_chk (v_var 3)) (l_cons (v_call (ok__law_fits c) hgd (hr.mono (by decide)) rfl c.m__law_fits c.d__law_fits.kp c.b__law_fits (L2N.takes_of rfl rfl rfl rfl) (a_slot 0 (a_cons (v_var 2) (a_cons (v_var 3) a_nil))) (hmd := pmd_allW (pk := [.m]) (vs := vs) (l := [0]) rfl)) (l_cons (v_call (ok__law_fits c) hgd (hr.mono (by decide)) rfl c.m__law_fits c.d__law_fits.kp c.b__law_fits (L2N.takes_of rfl rfl rfl rfl) (a_slot 0 (a_cons (v_var 2) (a_cons (v_var 3) a_nil))) (hmd := pmd_allW (pk := [.m]) (vs := vs) (l := [0]) rfl)) l_nil)))) (v_call (ok__law_next c) hgd (hr.mono (by decide)) rfl c.m__law_next c.d__law_next.kp c.b__law_next (L2N.takes_of rfl rfl rfl rfl) (a_slot 0 (a_cons v_int a_nil)) (hmd := pmd_allW (pk := [.m]) (vs := vs) (l := [0]) rfl))) l_nil))))))))⟩

theorem told_ok {X : Cx} {q : Str} {cdg : Value} (c : Cc X.K X.mg X.base) : GivesN X ["call", "e", "kinds", "names", "k"] "_law_told" (defScope s__law_told) (He.ga X.K "_law_told") cdg (defBody s__law_told) "call" q (toldT X.K (TT X.K) (nmK X.K)) := by
  refine told_gives (ex := exNm X.K) (cm := .ref (He.ga X.K "MealError")) sc__law_told.nd rfl rfl (fun _ => rfl) rfl c.e_MealError (by decide) rfl (fun D n h => ?_) (fun s H a' oe D n pn hu hn hz hf hot => ?_)
  · obtain ⟨x, hx, rfl, _⟩ := h
    exact (kitB_ok c.kit hx).2.1
  · obtain ⟨x, hx, rfl, hn⟩ := hn
    have kx := kitB_ok c.kit hx
    obtain ⟨ρ', e⟩ := toldS_ok (κ := fun C => PySem.W.kitOne X.K (.ref (He.ga X.K x)) (.ref C)) (a := a') hx hn (kx.2.2 "NotAllowed" (by simp [six])) (kx.2.2 "TooLarge" (by simp [six])) (kx.2.2 "Missing" (by simp [six])) (kx.2.2 "BadPaper" (by simp [six])) (kx.2.2 "BadForm" (by simp [six])) (kx.2.2 "Broken" (by simp [six]))
    apply Exists.intro
    refine ⟨toldS (fun C => PySem.W.kitOne X.K (.ref (He.ga X.K x)) (.ref C)) a' (He.ga X.K "NotAllowed") (He.ga X.K "TooLarge") (He.ga X.K "Missing") (He.ga X.K "BadPaper") (He.ga X.K "BadForm") (He.ga X.K "Broken"), ρ', ?_, e⟩
    exact s_cons (s_set 2 (v_lst (l_cons (v_isE (X := (cxOf C8.CX0 X.prog X.w X.K X.mg X.base ["call", "e", "kinds", "names", "k"] "_law_told" (defScope s__law_told) (He.ga X.K "_law_told") cdg X.A X.stack s H C8.E0).nox) (a := a') (pn := pn) kx.1 hz hf rfl c.n_isinstance boot_isinstance (l_cons (v_var 1) (l_cons (v_gref rfl c.e_NotAllowed) l_nil))) (l_cons (v_isE (X := (cxOf C8.CX0 X.prog X.w X.K X.mg X.base ["call", "e", "kinds", "names", "k"] "_law_told" (defScope s__law_told) (He.ga X.K "_law_told") cdg X.A X.stack s H C8.E0).nox) (a := a') (pn := pn) kx.1 hz hf rfl c.n_isinstance boot_isinstance (l_cons (v_var 1) (l_cons (v_gref rfl c.e_TooLarge) l_nil))) (l_cons (v_isE (X := (cxOf C8.CX0 X.prog X.w X.K X.mg X.base ["call", "e", "kinds", "names", "k"] "_law_told" (defScope s__law_told) (He.ga X.K "_law_told") cdg X.A X.stack s H C8.E0).nox) (a := a') (pn := pn) kx.1 hz hf rfl c.n_isinstance boot_isinstance (l_cons (v_var 1) (l_cons (v_gref rfl c.e_Missing) l_nil))) (l_cons (v_isE (X := (cxOf C8.CX0 X.prog X.w X.K X.mg X.base ["call", "e", "kinds", "names", "k"] "_law_told" (defScope s__law_told) (He.ga X.K "_law_told") cdg X.A X.stack s H C8.E0).nox) (a := a') (pn := pn) kx.1 hz hf rfl c.n_isinstance boot_isinstance (l_cons (v_var 1) (l_cons (v_gref rfl c.e_BadPaper) l_nil))) (l_cons (v_isE (X := (cxOf C8.CX0 X.prog X.w X.K X.mg X.base ["call", "e", "kinds", "names", "k"] "_law_told" (defScope s__law_told) (He.ga X.K "_law_told") cdg X.A X.stack s H C8.E0).nox) (a := a') (pn := pn) kx.1 hz hf rfl c.n_isinstance boot_isinstance (l_cons (v_var 1) (l_cons (v_gref rfl c.e_BadForm) l_nil))) (l_cons (v_isE (X := (cxOf C8.CX0 X.prog X.w X.K X.mg X.base ["call", "e", "kinds", "names", "k"] "_law_told" (defScope s__law_told) (He.ga X.K "_law_told") cdg X.A X.stack s H C8.E0).nox) (a := a') (pn := pn) kx.1 hz hf rfl c.n_isinstance boot_isinstance (l_cons (v_var 1) (l_cons (v_gref rfl c.e_Broken) l_nil))) l_nil))))))) (hN := sc__law_told.nd))
      (s_cons (s_setHot 3 hot List.mem_cons_self sc__law_told.nd rfl c.n_range (l_cons v_int l_nil) (blkOk_by (own := [("k", 4)]) (by rfl)) rfl (fun _ _ _ _ _ => g_name 4 sc__law_told.nd) (fun _ _ _ _ _ => ts_one (t_tru (v_ix d_ix (v_var 2) (v_var 4))))
          (fun _ _ _ _ _ => v_ix d_ix (v_lst (l_cons v_str (l_cons v_str (l_cons v_str (l_cons v_str (l_cons v_str (l_cons v_str l_nil))))))) (v_var 4)) (sw_true rfl rfl rfl rfl))
        (s_one (s_ret (v_tup (l_cons (v_ix d_ix (v_lst (l_cons v_str (l_cons (v_ix d_ix (v_op d_add (v_var 3) (v_lst (l_cons v_str l_nil))) v_int) l_nil)))
          (v_callT d_int rfl c.n_int boot_int (l_cons (v_cmp (d_eq hu) (v_callB d_len rfl c.n_len boot_len (l_cons (v_var 3) l_nil)) v_int) l_nil))) l_nil)))))

theorem ok__law_shown {P : Program} {w : World} {K : PySem.W.Frag} {mg : Str → Option Value} {base : Heap} (c : Cc K mg base) : FnG P w K mg base 1 (He.ga K "_law_shown") (fdK K "_law_shown") ["lots", "uses", "paper"] (spF K (TT K) (exNm K) [.r, .r, .r] g__law_shown) := by
  refine fnG c.d__law_shown sc__law_shown rfl fun cdv A outer s H vs E hgd hr hcd hci hlk => ?_
  exact ⟨_, (s_cons (s_set 3 (v_callB (d_sumX rfl) rfl c.n_sum boot_sum (l_cons (v_lc rfl sc__law_shown.nd (i_range1 rfl c.n_range (l_cons (v_callB d_len rfl c.n_len boot_len (l_cons (v_var 1) l_nil)) l_nil)) (blkOk_by (own := [("day", 8)]) (by rfl)) rfl (fun _ _ _ _ _ => (g_name 8 sc__law_shown.nd)) (fun _ _ _ _ _ => ts_nil) (fun _ _ _ _ _ => (v_op d_mulX (v_ix d_ix (v_var 2) (v_var 8)) (v_ix d_ix (v_var 1) (v_var 8))))) l_nil)) (hN := sc__law_shown.nd))
      (s_cons (s_for PassesOwn.leaving rfl (i_seq (v_var 0)) (g_tup rfl (g_cons (g_name 4 sc__law_shown.nd) (g_cons (g_name 5 sc__law_shown.nd) (g_cons (g_name 6 sc__law_shown.nd) (g_cons (g_name 7 sc__law_shown.nd) g_nil))))) (s_one (s_set 3 (v_op d_sub (v_var 3) (v_op d_mulX (v_var 6) (v_callB (d_maxX rfl hr.units) rfl c.n_max boot_max (l_cons (v_op d_add (v_lst (l_cons v_int l_nil)) (v_lc rfl sc__law_shown.nd (i_range1 rfl c.n_range (l_cons (v_callB d_len rfl c.n_len boot_len (l_cons (v_var 1) l_nil)) l_nil)) (blkOk_by (own := [("day", 8)]) (by rfl)) rfl (fun _ _ _ _ _ => (g_name 8 sc__law_shown.nd)) (fun _ _ _ _ _ => (ts_one (t_chain d_le d_le (v_var 4) (v_var 8) (v_var 5)))) (fun _ _ _ _ _ => (v_op d_sub (v_ix d_ix (v_var 2) (v_var 8)) (v_var 7))))) l_nil)))) (hN := sc__law_shown.nd))))
      (s_one (s_ret (v_chk (v_var 3))))))⟩

theorem ok_check_lots {P : Program} {w : World} {K : PySem.W.Frag} {mg : Str → Option Value} {base : Heap} (c : Cc K mg base) : FnG P w K mg base 1 (He.ga K "check_lots") (fdK K "check_lots") ["lots"] (spF K (TT K) (exNm K) [.r] g_check_lots) := by
  refine fnG c.d_check_lots sc_check_lots rfl fun cdv A outer s H vs E hgd hr hcd hci hlk => ?_
  exact ⟨_, (s_cons (s_if (t_cmp d_gt (v_callB d_len rfl c.n_len boot_len (l_cons (v_var 0) l_nil)) (v_gint rfl c.i_MAX_LOTS.choose_spec)) (s_one (s_raiseX rfl (L2N.takes_of rfl rfl rfl rfl) c.x_NotAllowed rfl rfl)) s_nil)
      (s_one (s_for PassesOwn.leaving rfl (i_seq (v_var 0)) (g_tup rfl (g_cons (g_name 1 sc_check_lots.nd) (g_cons (g_name 2 sc_check_lots.nd) (g_cons (g_name 3 sc_check_lots.nd) (g_cons (g_name 4 sc_check_lots.nd) g_nil))))) (s_one (s_if (t_pw (w_or (t_not (t_chain3 d_le d_le d_lt v_int (v_var 1) (v_var 2) (v_gint rfl c.i_MAX_DAYS.choose_spec))) (w_or (t_not (t_chain d_le d_le v_int (v_var 3) (v_gint rfl c.i_MAX_GRAMS.choose_spec))) (w_one_or (t_not (t_chain d_le d_le v_int (v_var 4) (v_gint rfl c.i_MAX_PRICE.choose_spec))))))) (s_one (s_raiseX rfl (L2N.takes_of rfl rfl rfl rfl) c.x_NotAllowed rfl rfl)) s_nil)))))⟩

theorem ok_check_uses {P : Program} {w : World} {K : PySem.W.Frag} {mg : Str → Option Value} {base : Heap} (c : Cc K mg base) : FnG P w K mg base 1 (He.ga K "check_uses") (fdK K "check_uses") ["uses"] (spF K (TT K) (exNm K) [.r] g_check_uses) := by
  refine fnG c.d_check_uses sc_check_uses rfl fun cdv A outer s H vs E hgd hr hcd hci hlk => ?_
  exact ⟨_, (s_one (s_if (t_pw (w_or (t_not (t_chain d_le d_le v_int (v_callB d_len rfl c.n_len boot_len (l_cons (v_var 0) l_nil)) (v_gint rfl c.i_MAX_DAYS.choose_spec))) (w_one_or (t_not (t_tru (v_callB (d_all rfl) rfl c.n_all boot_all (l_cons (v_lc rfl sc_check_uses.nd (i_seq (v_var 0)) (blkOk_by (own := [("grams", 1)]) (by rfl)) rfl (fun _ _ _ _ _ => (g_name 1 sc_check_uses.nd)) (fun _ _ _ _ _ => ts_nil) (fun _ _ _ _ _ => (v_chain d_le d_le v_int (v_var 1) (v_gint rfl c.i_MAX_GRAMS.choose_spec)))) l_nil))))))) (s_one (s_raiseX rfl (L2N.takes_of rfl rfl rfl rfl) c.x_NotAllowed rfl rfl)) s_nil))⟩

theorem ok_check_stock {P : Program} {w : World} {K : PySem.W.Frag} {mg : Str → Option Value} {base : Heap} (c : Cc K mg base) : FnG P w K mg base 2 (He.ga K "check_stock") (fdK K "check_stock") ["lots", "uses"] (spF K (TT K) (exNm K) [.r, .r] g_check_stock) := by
  refine fnG c.d_check_stock sc_check_stock rfl fun cdv A outer s H vs E hgd hr hcd hci hlk => ?_
  exact ⟨_, (s_cons (s_expr (v_call (ok_check_lots c) hgd (hr.mono (by decide)) rfl c.m_check_lots c.d_check_lots.kp c.b_check_lots (L2N.takes_of rfl rfl rfl rfl) (a_cons (v_var 0) a_nil)))
      (s_one (s_expr (v_call (ok_check_uses c) hgd (hr.mono (by decide)) rfl c.m_check_uses c.d_check_uses.kp c.b_check_uses (L2N.takes_of rfl rfl rfl rfl) (a_cons (v_var 1) a_nil)))))⟩

theorem ok_drawn {P : Program} {w : World} {K : PySem.W.Frag} {mg : Str → Option Value} {base : Heap} (c : Cc K mg base) : FnG P w K mg base 1 (He.ga K "drawn") (fdK K "drawn") ["lots", "uses", "given"] (spF K (TT K) (exNm K) [.r, .r, .r] g_drawn) := by
  refine fnG c.d_drawn sc_drawn rfl fun cdv A outer s H vs E hgd hr hcd hci hlk => ?_
  exact ⟨_, (s_cons (s_set 3 (v_callT d_list rfl c.n_list boot_list (l_cons (v_var 2) l_nil)) (hN := sc_drawn.nd))
      (s_cons (s_set 4 (v_lst l_nil) (hN := sc_drawn.nd))
      (s_cons (s_for PassesOwn.leaving rfl (i_enum rfl c.n_enumerate (l_cons (v_var 1) l_nil)) (g_tup rfl (g_cons (g_name 5 sc_drawn.nd) (g_cons (g_name 6 sc_drawn.nd) g_nil))) (s_cons (s_setLc 7 rfl sc_drawn.nd (i_enum rfl c.n_enumerate (l_cons (v_var 0) l_nil)) (blkOk_by (own := [("k", 10), ("lot", 12)]) (by rfl)) rfl (fun _ _ _ _ _ => (g_tup rfl (g_cons (g_name 10 sc_drawn.nd) (g_cons (g_name 12 sc_drawn.nd) g_nil)))) (fun _ _ _ _ _ => (ts_one (t_pw (w_and (t_chain d_le d_le (v_ix d_ix (v_var 12) v_int) (v_var 5) (v_ix d_ix (v_var 12) v_int)) (w_one_and (t_cmp d_gt (v_ix d_ix (v_var 3) (v_var 10)) v_int)))))) (fun _ _ _ _ _ => (v_chk (v_var 10))) (sw_true rfl rfl rfl rfl))
      (s_cons (s_set 8 (v_lst l_nil) (hN := sc_drawn.nd))
      (s_cons (s_for PassesOwn.leaving rfl (i_seq (v_callB (d_sortedX hr.units) rfl c.n_sorted boot_sorted (l_cons (v_lc rfl sc_drawn.nd (i_seq (v_var 7)) (blkOk_by (own := [("k", 10)]) (by rfl)) rfl (fun _ _ _ _ _ => (g_name 10 sc_drawn.nd)) (fun _ _ _ _ _ => ts_nil) (fun _ _ _ _ _ => (v_tup (l_cons (v_chk (v_ix d_ix (v_ix d_ix (v_var 0) (v_var 10)) v_int)) (l_cons (v_chk (v_var 10)) l_nil))))) l_nil))) (g_tup rfl (g_cons (g_name 9 sc_drawn.nd) (g_cons (g_name 10 sc_drawn.nd) g_nil))) (s_cons (s_set 11 (v_callB (d_minX rfl hr.units) rfl c.n_min boot_min (l_cons (v_var 6) (l_cons (v_ix d_ix (v_var 3) (v_var 10)) l_nil))) (hN := sc_drawn.nd))
      (s_one (s_if (t_cmp d_gt (v_var 11) v_int) (s_cons (s_append 8 (v_tup (l_cons (v_chk (v_var 10)) (l_cons (v_chk (v_var 11)) l_nil))))
      (s_cons (s_augL 3 ip_subI (v_var 10) (v_var 11))
      (s_one (s_aug 6 ip_subI (v_var 11) (hN := sc_drawn.nd))))) s_nil))))
      (s_one (s_append 4 (v_callT d_tuple rfl c.n_tuple boot_tuple (l_cons (v_callB (d_sortedX hr.units) rfl c.n_sorted boot_sorted (l_cons (v_var 8) l_nil)) l_nil))))))))
      (s_one (s_ret (v_tup (l_cons (v_callT d_tuple rfl c.n_tuple boot_tuple (l_cons (v_var 4) l_nil)) (l_cons (v_take 3) l_nil))))))))⟩

theorem ok_most_served {P : Program} {w : World} {K : PySem.W.Frag} {mg : Str → Option Value} {base : Heap} (c : Cc K mg base) : FnG P w K mg base 2 (He.ga K "most_served") (fdK K "most_served") ["lots", "uses", "given"] (spF K (TT K) (exNm K) [.r, .r, .r] g_most_served) := by
  refine fnG c.d_most_served sc_most_served rfl fun cdv A outer s H vs E hgd hr hcd hci hlk => ?_
  exact ⟨_, (s_one (s_ret (v_op d_sub (v_callB (d_sumX rfl) rfl c.n_sum boot_sum (l_cons (v_var 2) l_nil)) (v_callB (d_sumX rfl) rfl c.n_sum boot_sum (l_cons (v_ix d_ix (v_call (ok_drawn c) hgd (hr.mono (by decide)) rfl c.m_drawn c.d_drawn.kp c.b_drawn (L2N.takes_of rfl rfl rfl rfl) (a_cons (v_var 0) (a_cons (v_var 1) (a_cons (v_var 2) a_nil)))) v_int) l_nil)))))⟩

theorem ok_given_of {P : Program} {w : World} {K : PySem.W.Frag} {mg : Str → Option Value} {base : Heap} (c : Cc K mg base) : FnG P w K mg base 1 (He.ga K "given_of") (fdK K "given_of") ["lots"] (spF K (TT K) (exNm K) [.r] g_given_of) := by
  refine fnG c.d_given_of sc_given_of rfl fun cdv A outer s H vs E hgd hr hcd hci hlk => ?_
  exact ⟨_, (s_one (s_ret (v_lc rfl sc_given_of.nd (i_seq (v_var 0)) (blkOk_by (own := [("_", 1), ("_", 1), ("grams", 2), ("_", 1)]) (by rfl)) rfl (fun _ _ _ _ _ => (g_tup rfl (g_cons (g_name 1 sc_given_of.nd) (g_cons (g_name 1 sc_given_of.nd) (g_cons (g_name 2 sc_given_of.nd) (g_cons (g_name 1 sc_given_of.nd) g_nil)))))) (fun _ _ _ _ _ => ts_nil) (fun _ _ _ _ _ => (v_chk (v_var 2))))))⟩

theorem ok_cheapest_grams {P : Program} {w : World} {K : PySem.W.Frag} {mg : Str → Option Value} {base : Heap} (c : Cc K mg base) : FnG P w K mg base 3 (He.ga K "cheapest_grams") (fdK K "cheapest_grams") ["lots", "uses"] (spF K (TT K) (exNm K) [.r, .r] g_cheapest_grams) := by
  refine fnG c.d_cheapest_grams sc_cheapest_grams rfl fun cdv A outer s H vs E hgd hr hcd hci hlk => ?_
  exact ⟨_, (s_cons (s_expr (v_call (ok_check_stock c) hgd (hr.mono (by decide)) rfl c.m_check_stock c.d_check_stock.kp c.b_check_stock (L2N.takes_of rfl rfl rfl rfl) (a_cons (v_var 0) (a_cons (v_var 1) a_nil))))
      (s_cons (s_if (t_cmp d_lt (v_call (ok_most_served c) hgd (hr.mono (by decide)) rfl c.m_most_served c.d_most_served.kp c.b_most_served (L2N.takes_of rfl rfl rfl rfl) (a_cons (v_var 0) (a_cons (v_var 1) (a_cons (v_call (ok_given_of c) hgd (hr.mono (by decide)) rfl c.m_given_of c.d_given_of.kp c.b_given_of (L2N.takes_of rfl rfl rfl rfl) (a_cons (v_var 0) a_nil)) a_nil)))) (v_callB (d_sumX rfl) rfl c.n_sum boot_sum (l_cons (v_var 1) l_nil))) (s_one (s_raiseX rfl (L2N.takes_of rfl rfl rfl rfl) c.x_Missing rfl rfl)) s_nil)
      (s_cons (s_set 2 (v_op d_mulX (v_lst (l_cons v_int l_nil)) (v_callB d_len rfl c.n_len boot_len (l_cons (v_var 0) l_nil))) (hN := sc_cheapest_grams.nd))
      (s_cons (s_set 3 v_int (hN := sc_cheapest_grams.nd))
      (s_cons (s_for PassesOwn.leaving rfl (i_seq (v_callB (d_sortedX hr.units) rfl c.n_sorted boot_sorted (l_cons (v_lc rfl sc_cheapest_grams.nd (i_enum rfl c.n_enumerate (l_cons (v_var 0) l_nil)) (blkOk_by (own := [("k", 5), ("lot", 7)]) (by rfl)) rfl (fun _ _ _ _ _ => (g_tup rfl (g_cons (g_name 5 sc_cheapest_grams.nd) (g_cons (g_name 7 sc_cheapest_grams.nd) g_nil)))) (fun _ _ _ _ _ => ts_nil) (fun _ _ _ _ _ => (v_tup (l_cons (v_chk (v_ix d_ix (v_var 7) v_int)) (l_cons (v_chk (v_var 5)) l_nil))))) l_nil))) (g_tup rfl (g_cons (g_name 4 sc_cheapest_grams.nd) (g_cons (g_name 5 sc_cheapest_grams.nd) g_nil))) (s_cons (s_setL 2 (v_chk (v_ix d_ix (v_ix d_ix (v_var 0) (v_var 5)) v_int)) (v_var 5))
      (s_cons (s_set 6 (v_call (ok_most_served c) hgd (hr.mono (by decide)) rfl c.m_most_served c.d_most_served.kp c.b_most_served (L2N.takes_of rfl rfl rfl rfl) (a_cons (v_var 0) (a_cons (v_var 1) (a_cons (v_var 2) a_nil)))) (hN := sc_cheapest_grams.nd))
      (s_cons (s_setL 2 (v_op d_sub (v_var 6) (v_var 3)) (v_var 5))
      (s_one (s_set 3 (v_chk (v_var 6)) (hN := sc_cheapest_grams.nd)))))))
      (s_one (s_ret (v_callT d_tuple rfl c.n_tuple boot_tuple (l_cons (v_var 2) l_nil)))))))))⟩

theorem ok_short_days {P : Program} {w : World} {K : PySem.W.Frag} {mg : Str → Option Value} {base : Heap} (c : Cc K mg base) : FnG P w K mg base 3 (He.ga K "short_days") (fdK K "short_days") ["lots", "uses", "given"] (spF K (TT K) (exNm K) [.r, .r, .r] g_short_days) := by
  refine fnG c.d_short_days sc_short_days rfl fun cdv A outer s H vs E hgd hr hcd hci hlk => ?_
  exact ⟨_, (s_cons (s_set 3 (v_call (ok_most_served c) hgd (hr.mono (by decide)) rfl c.m_most_served c.d_most_served.kp c.b_most_served (L2N.takes_of rfl rfl rfl rfl) (a_cons (v_var 0) (a_cons (v_var 1) (a_cons (v_var 2) a_nil)))) (hN := sc_short_days.nd))
      (s_cons (s_set 4 (v_lst l_nil) (hN := sc_short_days.nd))
      (s_cons (s_for PassesOwn.leaving rfl (i_enum rfl c.n_enumerate (l_cons (v_var 1) l_nil)) (g_tup rfl (g_cons (g_name 5 sc_short_days.nd) (g_cons (g_name 6 sc_short_days.nd) g_nil))) (s_one (s_if (t_cmp d_gt (v_var 6) v_int) (s_cons (s_set 7 (v_lst (l_star (v_sl (v_var 1) p_none (p_some (v_var 5))) (l_cons (v_op d_sub (v_var 6) v_int) (l_star (v_sl (v_var 1) (p_some (v_op d_add (v_var 5) v_int)) p_none) l_nil)))) (hN := sc_short_days.nd))
      (s_one (s_if (t_cmp (d_eq hr.units) (v_call (ok_most_served c) hgd (hr.mono (by decide)) rfl c.m_most_served c.d_most_served.kp c.b_most_served (L2N.takes_of rfl rfl rfl rfl) (a_cons (v_var 0) (a_cons (v_var 7) (a_cons (v_var 2) a_nil)))) (v_var 3)) (s_one (s_append 4 (v_chk (v_var 5)))) s_nil))) s_nil)))
      (s_one (s_ret (v_take 4))))))⟩

theorem ok_price_paper {P : Program} {w : World} {K : PySem.W.Frag} {mg : Str → Option Value} {base : Heap} (c : Cc K mg base) : FnG P w K mg base 4 (He.ga K "price_paper") (fdK K "price_paper") ["lots", "uses"] (spF K (TT K) (exNm K) [.r, .r] g_price_paper) := by
  refine fnG c.d_price_paper sc_price_paper rfl fun cdv A outer s H vs E hgd hr hcd hci hlk => ?_
  exact ⟨_, (s_cons (s_expr (v_call (ok_cheapest_grams c) hgd (hr.mono (by decide)) rfl c.m_cheapest_grams c.d_cheapest_grams.kp c.b_cheapest_grams (L2N.takes_of rfl rfl rfl rfl) (a_cons (v_var 0) (a_cons (v_var 1) a_nil))))
      (s_cons (s_set 2 (v_op d_mulX (v_lst (l_cons v_int l_nil)) (v_callB d_len rfl c.n_len boot_len (l_cons (v_var 1) l_nil))) (hN := sc_price_paper.nd))
      (s_cons (s_for PassesOwn.leaving rfl (i_seq (v_sortSet rfl hr.units rfl c.n_sorted rfl c.n_set (v_lc rfl sc_price_paper.nd (i_seq (v_var 0)) (blkOk_by (own := [("lot", 6)]) (by rfl)) rfl (fun _ _ _ _ _ => (g_name 6 sc_price_paper.nd)) (fun _ _ _ _ _ => ts_nil) (fun _ _ _ _ _ => (v_chk (v_ix d_ix (v_var 6) v_int)))))) (g_name 3 sc_price_paper.nd) (s_cons (s_setLc 4 rfl sc_price_paper.nd (i_seq (v_var 0)) (blkOk_by (own := [("lot", 6)]) (by rfl)) rfl (fun _ _ _ _ _ => (g_name 6 sc_price_paper.nd)) (fun _ _ _ _ _ => ts_nil) (fun _ _ _ _ _ => (v_if (t_cmp d_lt (v_ix d_ix (v_var 6) v_int) (v_var 3)) (v_chk (v_ix d_ix (v_var 6) v_int)) v_int)) (sw_true rfl rfl rfl rfl))
      (s_one (s_for PassesOwn.leaving rfl (i_seq (v_call (ok_short_days c) hgd (hr.mono (by decide)) rfl c.m_short_days c.d_short_days.kp c.b_short_days (L2N.takes_of rfl rfl rfl rfl) (a_cons (v_var 0) (a_cons (v_var 1) (a_cons (v_var 4) a_nil))))) (g_name 5 sc_price_paper.nd) (s_one (s_setL 2 (v_chk (v_var 3)) (v_var 5)))))))
      (s_one (s_ret (v_callT d_tuple rfl c.n_tuple boot_tuple (l_cons (v_var 2) l_nil)))))))⟩

theorem ok__law_same {P : Program} {w : World} {K : PySem.W.Frag} {mg : Str → Option Value} {base : Heap} (c : Cc K mg base) : FnG P w K mg base 1 (He.ga K "_law_same") (fdK K "_law_same") ["told", "due"] (spF K (TT K) (exNm K) [.r, .r] g__law_same) := by
  refine fnG c.d__law_same sc__law_same rfl fun cdv A outer s H vs E hgd hr hcd hci hlk => ?_
  exact ⟨_, (s_one (s_ret (v_cmp (d_eq hr.units) (v_callB (d_repr hgd hr.units) rfl c.n_repr boot_repr (l_cons (v_lst (l_cons (v_var 0) l_nil)) l_nil)) (v_callB (d_repr hgd hr.units) rfl c.n_repr boot_repr (l_cons (v_lst (l_cons (v_var 1) l_nil)) l_nil)))))⟩

theorem ok_judge_prices {P : Program} {w : World} {K : PySem.W.Frag} {mg : Str → Option Value} {base : Heap} (c : Cc K mg base) : FnG P w K mg base 3 (He.ga K "judge_prices") (fdK K "judge_prices") ["lots", "uses", "cost", "paper"] (spF K (TT K) (exNm K) [.r, .r, .r, .r] g_judge_prices) := by
  refine fnG c.d_judge_prices sc_judge_prices rfl fun cdv A outer s H vs E hgd hr hcd hci hlk => ?_
  exact ⟨_, (s_cons (s_expr (v_call (ok_check_stock c) hgd (hr.mono (by decide)) rfl c.m_check_stock c.d_check_stock.kp c.b_check_stock (L2N.takes_of rfl rfl rfl rfl) (a_cons (v_var 0) (a_cons (v_var 1) a_nil))))
      (s_cons (s_if (t_pw (w_or (t_cmp (d_ne hr.units) (v_callB d_len rfl c.n_len boot_len (l_cons (v_var 3) l_nil)) (v_callB d_len rfl c.n_len boot_len (l_cons (v_var 1) l_nil))) (w_one_or (t_not (t_tru (v_callB (d_all rfl) rfl c.n_all boot_all (l_cons (v_lc rfl sc_judge_prices.nd (i_seq (v_var 3)) (blkOk_by (own := [("price", 8)]) (by rfl)) rfl (fun _ _ _ _ _ => (g_name 8 sc_judge_prices.nd)) (fun _ _ _ _ _ => ts_nil) (fun _ _ _ _ _ => (v_cmp d_ge (v_var 8) v_int))) l_nil))))))) (s_one (s_ret v_bl)) s_nil)
      (s_cons (s_set 4 (v_callB (d_sumX rfl) rfl c.n_sum boot_sum (l_cons (v_lc rfl sc_judge_prices.nd (i_zip rfl c.n_zip (l_cons (v_var 3) (l_cons (v_var 1) l_nil))) (blkOk_by (own := [("price", 8), ("grams", 7)]) (by rfl)) rfl (fun _ _ _ _ _ => (g_tup rfl (g_cons (g_name 8 sc_judge_prices.nd) (g_cons (g_name 7 sc_judge_prices.nd) g_nil)))) (fun _ _ _ _ _ => ts_nil) (fun _ _ _ _ _ => (v_op d_mulX (v_var 8) (v_var 7)))) l_nil)) (hN := sc_judge_prices.nd))
      (s_cons (s_for PassesOwn.leaving rfl (i_seq (v_var 0)) (g_tup rfl (g_cons (g_name 5 sc_judge_prices.nd) (g_cons (g_name 6 sc_judge_prices.nd) (g_cons (g_name 7 sc_judge_prices.nd) (g_cons (g_name 8 sc_judge_prices.nd) g_nil))))) (s_one (s_aug 4 ip_subI (v_op d_mulX (v_var 7) (v_callB (d_maxX rfl hr.units) rfl c.n_max boot_max (l_cons (v_lst (l_cons v_int (l_star (v_lc rfl sc_judge_prices.nd (i_seq (v_sl (v_var 3) (p_some (v_var 5)) (p_some (v_op d_add (v_var 6) v_int)))) (blkOk_by (own := [("one", 9)]) (by rfl)) rfl (fun _ _ _ _ _ => (g_name 9 sc_judge_prices.nd)) (fun _ _ _ _ _ => ts_nil) (fun _ _ _ _ _ => (v_op d_sub (v_var 9) (v_var 8)))) l_nil))) l_nil))) (hN := sc_judge_prices.nd))))
      (s_one (s_ret (v_cmp d_ge (v_var 4) (v_var 2))))))))⟩

theorem ok__law_shows {P : Program} {w : World} {K : PySem.W.Frag} {mg : Str → Option Value} {base : Heap} (c : Cc K mg base) : FnG P w K mg base 1 (He.ga K "_law_shows") (fdK K "_law_shows") ["lots", "uses", "cost", "paper"] (spF K (TT K) (exNm K) [.r, .r, .r, .r] g__law_shows) := by
  refine fnG c.d__law_shows sc__law_shows rfl fun cdv A outer s H vs E hgd hr hcd hci hlk => ?_
  exact ⟨_, (s_cons (s_if (t_pw (w_or (t_cmp (d_ne hr.units) (v_callB d_len rfl c.n_len boot_len (l_cons (v_var 3) l_nil)) (v_callB d_len rfl c.n_len boot_len (l_cons (v_var 1) l_nil))) (w_one_or (t_cmp d_gt (v_callB d_len rfl c.n_len boot_len (l_cons (v_lc rfl sc__law_shows.nd (i_seq (v_var 3)) (blkOk_by (own := [("price", 9)]) (by rfl)) rfl (fun _ _ _ _ _ => (g_name 9 sc__law_shows.nd)) (fun _ _ _ _ _ => (ts_one (t_cmp d_lt (v_var 9) v_int))) (fun _ _ _ _ _ => (v_chk (v_var 9)))) l_nil)) v_int)))) (s_one (s_ret v_bl)) s_nil)
      (s_cons (s_set 4 v_int (hN := sc__law_shows.nd))
      (s_cons (s_for PassesOwn.leaving rfl (i_range1 rfl c.n_range (l_cons (v_callB d_len rfl c.n_len boot_len (l_cons (v_var 1) l_nil)) l_nil)) (g_name 5 sc__law_shows.nd) (s_one (s_set 4 (v_op d_add (v_var 4) (v_op d_mulX (v_ix d_ix (v_var 3) (v_var 5)) (v_ix d_ix (v_var 1) (v_var 5)))) (hN := sc__law_shows.nd))))
      (s_cons (s_for PassesOwn.leaving rfl (i_seq (v_var 0)) (g_tup rfl (g_cons (g_name 6 sc__law_shows.nd) (g_cons (g_name 7 sc__law_shows.nd) (g_cons (g_name 8 sc__law_shows.nd) (g_cons (g_name 9 sc__law_shows.nd) g_nil))))) (s_cons (s_set 10 v_int (hN := sc__law_shows.nd))
      (s_cons (s_for PassesOwn.leaving rfl (i_range2 rfl c.n_range (l_cons (v_var 6) (l_cons (v_op d_add (v_callB (d_minX rfl hr.units) rfl c.n_min boot_min (l_cons (v_var 7) (l_cons (v_op d_sub (v_callB d_len rfl c.n_len boot_len (l_cons (v_var 1) l_nil)) v_int) l_nil))) v_int) l_nil))) (g_name 5 sc__law_shows.nd) (s_one (s_set 10 (v_callB (d_maxX rfl hr.units) rfl c.n_max boot_max (l_cons (v_var 10) (l_cons (v_op d_sub (v_ix d_ix (v_var 3) (v_var 5)) (v_var 9)) l_nil))) (hN := sc__law_shows.nd))))
      (s_one (s_set 4 (v_op d_sub (v_var 4) (v_op d_mulX (v_var 10) (v_var 8))) (hN := sc__law_shows.nd))))))
      (s_one (s_ret (v_cmp d_ge (v_var 4) (v_var 2))))))))⟩

theorem ok_law {P : Program} {w : World} {K : PySem.W.Frag} {mg : Str → Option Value} {base : Heap} (c : Cc K mg base) : FnG P w K mg base 7 (He.ga K "law") (fdK K "law") ["script"] (spF K (TT K) (exNm K) [.r] g_law) := by
  obtain ⟨oc0, od0, dV0, kV0, doc0, pm0, an0, cdv0, ct0, osl0, efd0, lk0, hc0, _, _⟩ := c.d__law_told.ex
  have hb0 := c.b__law_told
  rw [efd0] at lk0 hb0
  refine fnG c.d_law sc_law rfl fun cdv A outer s H vs E hgd hr hcd hci hlk => ?_
  have hcode := code_at hcd hci hlk
  exact ⟨_, (s_cons (s_set 1 (v_lst (l_cons (v_call (ok__law_stream c) hgd (hr.mono (by decide)) rfl c.m__law_stream c.d__law_stream.kp c.b__law_stream (L2N.takes_of rfl rfl rfl rfl) (a_cons (v_var 0) a_nil)) (l_cons v_int l_nil))) (hN := sc_law.nd))
      (s_cons (s_for PassesOwn.leaving rfl (i_range1 rfl c.n_range (l_cons v_int l_nil)) (g_name 2 sc_law.nd) (s_cons (s_asg (v_call (ok__law_stock c) hgd (hr.mono (by decide)) rfl c.m__law_stock c.d__law_stock.kp c.b__law_stock (L2N.takes_of rfl rfl rfl rfl) (a_slot 1 a_nil)) (g_tup rfl (g_cons (g_name 3 sc_law.nd) (g_cons (g_name 4 sc_law.nd) g_nil))))
      (s_cons (s_set 5 (v_ix d_ix (v_lst (l_cons v_int (l_cons v_int (l_cons v_int l_nil)))) (v_call (ok__law_next c) hgd (hr.mono (by decide)) rfl c.m__law_next c.d__law_next.kp c.b__law_next (L2N.takes_of rfl rfl rfl rfl) (a_slot 1 (a_cons v_int a_nil)))) (hN := sc_law.nd))
      (s_cons (s_set 6 (v_lst (l_cons (v_callT d_tuple rfl c.n_tuple boot_tuple (l_cons (v_lc rfl sc_law.nd (i_seq (v_var 4)) (blkOk_by (own := [("day", 14)]) (by rfl)) rfl (fun _ _ _ _ _ => (g_name 14 sc_law.nd)) (fun _ _ _ _ _ => ts_nil) (fun _ _ _ _ _ => (v_call (ok__law_next c) hgd (hr.mono (by decide)) rfl c.m__law_next c.d__law_next.kp c.b__law_next takesN (a_slot 1 (a_cons (v_var 5) a_nil))))) l_nil)) (l_cons (v_op d_mulX (v_tup (l_cons (v_call (ok__law_next c) hgd (hr.mono (by decide)) rfl c.m__law_next c.d__law_next.kp c.b__law_next (L2N.takes_of rfl rfl rfl rfl) (a_slot 1 (a_cons v_int a_nil))) l_nil)) (v_callB d_len rfl c.n_len boot_len (l_cons (v_var 4) l_nil))) (l_cons (v_op d_mulX (v_tup (l_cons v_int l_nil)) (v_callB d_len rfl c.n_len boot_len (l_cons (v_var 4) l_nil))) l_nil)))) (hN := sc_law.nd))
      (s_cons (s_set 7 (v_told (nc := ncT) (nm := nmK K) (k := KL_law) rfl c.m__law_told c.d__law_told.kp lk0 hc0 hb0 sc__law_told rfl (by first | exact Or.inl rfl | exact Or.inr (Or.inl rfl)) (told_ok c) nmK_of c.bx.t_law hcode (List.mem_of_getElem? (i := 0) rfl) (hu_of c.tnd (List.mem_of_getElem? (i := 0) rfl)) (hr.mono (by decide)) (LamX.lamS_by rfl) rfl (fun _ _ _ _ _ => rfl) (fun A outer s H E f' c' hgL hrL => (v_call (ok_price_paper c) (hgL.trans hgd) (hrL.mono (by decide)) rfl c.m_price_paper c.d_price_paper.kp c.b_price_paper lamN_takes (a_cons (v_var 3) (a_cons (v_var 4) a_nil))))) (hN := sc_law.nd))
      (s_cons (s_if (t_cmp (d_eq hr.units) (v_ix d_ix (v_var 7) v_int) v_str) (s_one (s_append 6 (v_chk (v_ix d_ix (v_var 7) v_int)))) s_nil)
      (s_one (s_for PassesOwn.leaving rfl (i_seq (v_var 6)) (g_name 8 sc_law.nd) (s_cons (s_set 9 (v_call (ok__law_shown c) hgd (hr.mono (by decide)) rfl c.m__law_shown c.d__law_shown.kp c.b__law_shown (L2N.takes_of rfl rfl rfl rfl) (a_cons (v_var 3) (a_cons (v_var 4) (a_cons (v_var 8) a_nil)))) (hN := sc_law.nd))
      (s_cons (s_set 10 (v_call (ok__law_next c) hgd (hr.mono (by decide)) rfl c.m__law_next c.d__law_next.kp c.b__law_next (L2N.takes_of rfl rfl rfl rfl) (a_slot 1 (a_cons (v_callB d_len rfl c.n_len boot_len (l_cons (v_var 8) l_nil)) a_nil))) (hN := sc_law.nd))
      (s_cons (s_set 11 (v_lst (l_cons (v_chk (v_var 8)) (l_cons (v_sl (v_var 8) (p_some v_int) p_none) (l_cons (v_op d_add (v_var 8) (v_tup (l_cons v_int l_nil))) (l_cons (v_op d_add (v_op d_add (v_sl (v_var 8) p_none (p_some (v_var 10))) (v_tup (l_cons (v_op d_add (v_ix d_ix (v_var 8) (v_var 10)) v_int) l_nil))) (v_sl (v_var 8) (p_some (v_op d_add (v_var 10) v_int)) p_none)) (l_cons (v_op d_add (v_op d_add (v_sl (v_var 8) p_none (p_some (v_var 10))) (v_tup (l_cons (v_op d_sub (v_ix d_ix (v_var 8) (v_var 10)) v_int) l_nil))) (v_sl (v_var 8) (p_some (v_op d_add (v_var 10) v_int)) p_none)) (l_cons (v_rv (v_var 8)) (l_cons (v_op d_add (v_op d_add (v_sl (v_var 8) p_none (p_some (v_var 10))) (v_tup (l_cons (v_un d_neg v_int) l_nil))) (v_sl (v_var 8) (p_some (v_op d_add (v_var 10) v_int)) p_none)) l_nil)))))))) (hN := sc_law.nd))
      (s_one (s_for PassesOwn.leaving rfl (i_seq (v_var 11)) (g_name 12 sc_law.nd) (s_one (s_for PassesOwn.leaving rfl (i_seq (v_lst (l_cons (v_var 9) (l_cons (v_op d_add (v_var 9) v_int) (l_cons (v_op d_sub (v_var 9) v_int) (l_cons v_int (l_cons (v_un d_neg v_int) l_nil))))))) (g_name 13 sc_law.nd) (s_one (s_if (t_not (t_tru (v_call (ok__law_same c) hgd (hr.mono (by decide)) rfl c.m__law_same c.d__law_same.kp c.b__law_same (L2N.takes_of rfl rfl rfl rfl) (a_cons (v_call (ok_judge_prices c) hgd (hr.mono (by decide)) rfl c.m_judge_prices c.d_judge_prices.kp c.b_judge_prices (L2N.takes_of rfl rfl rfl rfl) (a_cons (v_var 3) (a_cons (v_var 4) (a_cons (v_var 13) (a_cons (v_var 12) a_nil))))) (a_cons (v_call (ok__law_shows c) hgd (hr.mono (by decide)) rfl c.m__law_shows c.d__law_shows.kp c.b__law_shows (L2N.takes_of rfl rfl rfl rfl) (a_cons (v_var 3) (a_cons (v_var 4) (a_cons (v_var 13) (a_cons (v_var 12) a_nil))))) a_nil))))) (s_one (s_ret v_bl)) s_nil)))))))))))))))))
      (s_one (s_ret v_bl))))⟩

def fn : List He.DefD := [dOf "_law_stream" s__law_stream, dOf "_law_next" s__law_next, dOf "_law_lots" s__law_lots, dOf "_law_uses" s__law_uses, dOf "_law_fits" s__law_fits, dOf "_law_stock" s__law_stock, dOf "_law_told" s__law_told, dOf "_law_shown" s__law_shown, dOf "check_lots" s_check_lots, dOf "check_uses" s_check_uses, dOf "check_stock" s_check_stock, dOf "drawn" s_drawn, dOf "most_served" s_most_served, dOf "given_of" s_given_of, dOf "cheapest_grams" s_cheapest_grams, dOf "short_days" s_short_days, dOf "price_paper" s_price_paper, dOf "_law_same" s__law_same, dOf "judge_prices" s_judge_prices, dOf "_law_shows" s__law_shows, dOf "law" s_law]
def fa : List He.Fa := [.glo "_law_stream", .glo "_law_next", .glo "_law_lots", .glo "_law_uses", .glo "_law_fits", .glo "_law_stock", .glo "_law_told", .glo "_law_shown", .glo "check_lots", .glo "check_uses", .glo "check_stock", .glo "drawn", .glo "most_served", .glo "given_of", .glo "cheapest_grams", .glo "short_days", .glo "price_paper", .glo "_law_same", .glo "judge_prices", .glo "_law_shows", .glo "law", .free "abs", .free "all", .free "enumerate", .free "int", .free "isinstance", .free "len", .free "list", .free "max", .free "min", .free "range", .free "repr", .free "set", .free "sorted", .free "sum", .free "tuple", .free "zip", .int "MAX_DAYS" 60, .int "MAX_GRAMS" 9999, .int "MAX_LOTS" 30, .int "MAX_PRICE" 999, .glo "MealError", .glo "NotAllowed", .glo "TooLarge", .glo "Missing", .glo "BadPaper", .glo "BadForm", .glo "Broken", .exc "Missing", .exc "NotAllowed"]
def exq (K : PySem.W.Frag) : Bool := kitB K six && decide (((TT K).map (·.1)).Nodup)
abbrev R : PySem.W.OpenRow := PySem.W.OpenLaw.row PySem.Challenge.rw_mealward_k47_prices_of_days_judged
abbrev hk : PySem.W.Hook := He.hookX 6 fa fn [] tf exq
def ob (s : PySem.W.SharedT) : He.AlX := He.obsX 6 fa fn [] tf exq (HandSHeadRun.getT s)
theorem ob_eq (s : PySem.W.SharedT) : ob s = hk.obs s.abs := He.obsX_eq (HandSHeadRun.getT_eq s)
theorem cc_of {w : World} {K : PySem.W.Frag} {h base : Heap} {mg : Str → Option Value} (X : K.In h) (G : h.Ns mainGlobals mg) (c : He.SaysX fa fn [] tf exq w h K) (tb : ∀ p ∈ tf.map (He.cT K), LamX.TabB base mg p.1 p.2) : Cc K mg base :=
  {
    d__law_stream := fnP_of c.t.d 0 rfl
    m__law_stream := He.glo_ok X G (c.t.d.fact 0 rfl)
    b__law_stream := FunD.bindsN (fnP_of (x := "_law_stream") (st := s__law_stream) c.t.d 0 rfl) fun _ _ _ _ _ _ us hl => match us, hl with | [_], _ => rfl
    d__law_next := fnP_of c.t.d 1 rfl
    m__law_next := He.glo_ok X G (c.t.d.fact 1 rfl)
    b__law_next := FunD.bindsN (fnP_of (x := "_law_next") (st := s__law_next) c.t.d 1 rfl) fun _ _ _ _ _ _ us hl => match us, hl with | [_, _], _ => rfl
    d__law_lots := fnP_of c.t.d 2 rfl
    m__law_lots := He.glo_ok X G (c.t.d.fact 2 rfl)
    b__law_lots := FunD.bindsN (fnP_of (x := "_law_lots") (st := s__law_lots) c.t.d 2 rfl) fun _ _ _ _ _ _ us hl => match us, hl with | [_, _, _], _ => rfl
    d__law_uses := fnP_of c.t.d 3 rfl
    m__law_uses := He.glo_ok X G (c.t.d.fact 3 rfl)
    b__law_uses := FunD.bindsN (fnP_of (x := "_law_uses") (st := s__law_uses) c.t.d 3 rfl) fun _ _ _ _ _ _ us hl => match us, hl with | [_, _], _ => rfl
    d__law_fits := fnP_of c.t.d 4 rfl
    m__law_fits := He.glo_ok X G (c.t.d.fact 4 rfl)
    b__law_fits := FunD.bindsN (fnP_of (x := "_law_fits") (st := s__law_fits) c.t.d 4 rfl) fun _ _ _ _ _ _ us hl => match us, hl with | [_, _, _], _ => rfl
    d__law_stock := fnP_of c.t.d 5 rfl
    m__law_stock := He.glo_ok X G (c.t.d.fact 5 rfl)
    b__law_stock := FunD.bindsN (fnP_of (x := "_law_stock") (st := s__law_stock) c.t.d 5 rfl) fun _ _ _ _ _ _ us hl => match us, hl with | [_], _ => rfl
    d__law_told := fnP_of c.t.d 6 rfl
    m__law_told := He.glo_ok X G (c.t.d.fact 6 rfl)
    b__law_told := FunD.bindsN (fnP_of (x := "_law_told") (st := s__law_told) c.t.d 6 rfl) fun _ _ _ _ _ _ us hl => match us, hl with | [_], _ => rfl
    d__law_shown := fnP_of c.t.d 7 rfl
    m__law_shown := He.glo_ok X G (c.t.d.fact 7 rfl)
    b__law_shown := FunD.bindsN (fnP_of (x := "_law_shown") (st := s__law_shown) c.t.d 7 rfl) fun _ _ _ _ _ _ us hl => match us, hl with | [_, _, _], _ => rfl
    d_check_lots := fnP_of c.t.d 8 rfl
    m_check_lots := He.glo_ok X G (c.t.d.fact 8 rfl)
    b_check_lots := FunD.bindsN (fnP_of (x := "check_lots") (st := s_check_lots) c.t.d 8 rfl) fun _ _ _ _ _ _ us hl => match us, hl with | [_], _ => rfl
    d_check_uses := fnP_of c.t.d 9 rfl
    m_check_uses := He.glo_ok X G (c.t.d.fact 9 rfl)
    b_check_uses := FunD.bindsN (fnP_of (x := "check_uses") (st := s_check_uses) c.t.d 9 rfl) fun _ _ _ _ _ _ us hl => match us, hl with | [_], _ => rfl
    d_check_stock := fnP_of c.t.d 10 rfl
    m_check_stock := He.glo_ok X G (c.t.d.fact 10 rfl)
    b_check_stock := FunD.bindsN (fnP_of (x := "check_stock") (st := s_check_stock) c.t.d 10 rfl) fun _ _ _ _ _ _ us hl => match us, hl with | [_, _], _ => rfl
    d_drawn := fnP_of c.t.d 11 rfl
    m_drawn := He.glo_ok X G (c.t.d.fact 11 rfl)
    b_drawn := FunD.bindsN (fnP_of (x := "drawn") (st := s_drawn) c.t.d 11 rfl) fun _ _ _ _ _ _ us hl => match us, hl with | [_, _, _], _ => rfl
    d_most_served := fnP_of c.t.d 12 rfl
    m_most_served := He.glo_ok X G (c.t.d.fact 12 rfl)
    b_most_served := FunD.bindsN (fnP_of (x := "most_served") (st := s_most_served) c.t.d 12 rfl) fun _ _ _ _ _ _ us hl => match us, hl with | [_, _, _], _ => rfl
    d_given_of := fnP_of c.t.d 13 rfl
    m_given_of := He.glo_ok X G (c.t.d.fact 13 rfl)
    b_given_of := FunD.bindsN (fnP_of (x := "given_of") (st := s_given_of) c.t.d 13 rfl) fun _ _ _ _ _ _ us hl => match us, hl with | [_], _ => rfl
    d_cheapest_grams := fnP_of c.t.d 14 rfl
    m_cheapest_grams := He.glo_ok X G (c.t.d.fact 14 rfl)
    b_cheapest_grams := FunD.bindsN (fnP_of (x := "cheapest_grams") (st := s_cheapest_grams) c.t.d 14 rfl) fun _ _ _ _ _ _ us hl => match us, hl with | [_, _], _ => rfl
    d_short_days := fnP_of c.t.d 15 rfl
    m_short_days := He.glo_ok X G (c.t.d.fact 15 rfl)
    b_short_days := FunD.bindsN (fnP_of (x := "short_days") (st := s_short_days) c.t.d 15 rfl) fun _ _ _ _ _ _ us hl => match us, hl with | [_, _, _], _ => rfl
    d_price_paper := fnP_of c.t.d 16 rfl
    m_price_paper := He.glo_ok X G (c.t.d.fact 16 rfl)
    b_price_paper := FunD.bindsN (fnP_of (x := "price_paper") (st := s_price_paper) c.t.d 16 rfl) fun _ _ _ _ _ _ us hl => match us, hl with | [_, _], _ => rfl
    d__law_same := fnP_of c.t.d 17 rfl
    m__law_same := He.glo_ok X G (c.t.d.fact 17 rfl)
    b__law_same := FunD.bindsN (fnP_of (x := "_law_same") (st := s__law_same) c.t.d 17 rfl) fun _ _ _ _ _ _ us hl => match us, hl with | [_, _], _ => rfl
    d_judge_prices := fnP_of c.t.d 18 rfl
    m_judge_prices := He.glo_ok X G (c.t.d.fact 18 rfl)
    b_judge_prices := FunD.bindsN (fnP_of (x := "judge_prices") (st := s_judge_prices) c.t.d 18 rfl) fun _ _ _ _ _ _ us hl => match us, hl with | [_, _, _, _], _ => rfl
    d__law_shows := fnP_of c.t.d 19 rfl
    m__law_shows := He.glo_ok X G (c.t.d.fact 19 rfl)
    b__law_shows := FunD.bindsN (fnP_of (x := "_law_shows") (st := s__law_shows) c.t.d 19 rfl) fun _ _ _ _ _ _ us hl => match us, hl with | [_, _, _, _], _ => rfl
    d_law := fnP_of c.t.d 20 rfl
    m_law := He.glo_ok X G (c.t.d.fact 20 rfl)
    b_law := FunD.bindsN (fnP_of (x := "law") (st := s_law) c.t.d 20 rfl) fun _ _ _ _ _ _ us hl => match us, hl with | [_], _ => rfl
    n_abs := He.free_ok X G (c.t.d.fact 21 rfl)
    n_all := He.free_ok X G (c.t.d.fact 22 rfl)
    n_enumerate := He.free_ok X G (c.t.d.fact 23 rfl)
    n_int := He.free_ok X G (c.t.d.fact 24 rfl)
    n_isinstance := He.free_ok X G (c.t.d.fact 25 rfl)
    n_len := He.free_ok X G (c.t.d.fact 26 rfl)
    n_list := He.free_ok X G (c.t.d.fact 27 rfl)
    n_max := He.free_ok X G (c.t.d.fact 28 rfl)
    n_min := He.free_ok X G (c.t.d.fact 29 rfl)
    n_range := He.free_ok X G (c.t.d.fact 30 rfl)
    n_repr := He.free_ok X G (c.t.d.fact 31 rfl)
    n_set := He.free_ok X G (c.t.d.fact 32 rfl)
    n_sorted := He.free_ok X G (c.t.d.fact 33 rfl)
    n_sum := He.free_ok X G (c.t.d.fact 34 rfl)
    n_tuple := He.free_ok X G (c.t.d.fact 35 rfl)
    n_zip := He.free_ok X G (c.t.d.fact 36 rfl)
    i_MAX_DAYS := He.int_ok X G (c.t.d.fact 37 rfl)
    i_MAX_GRAMS := He.int_ok X G (c.t.d.fact 38 rfl)
    i_MAX_LOTS := He.int_ok X G (c.t.d.fact 39 rfl)
    i_MAX_PRICE := He.int_ok X G (c.t.d.fact 40 rfl)
    e_MealError := He.glo_ok X G (c.t.d.fact 41 rfl)
    e_NotAllowed := He.glo_ok X G (c.t.d.fact 42 rfl)
    e_TooLarge := He.glo_ok X G (c.t.d.fact 43 rfl)
    e_Missing := He.glo_ok X G (c.t.d.fact 44 rfl)
    e_BadPaper := He.glo_ok X G (c.t.d.fact 45 rfl)
    e_BadForm := He.glo_ok X G (c.t.d.fact 46 rfl)
    e_Broken := He.glo_ok X G (c.t.d.fact 47 rfl)
    x_Missing := xc_of X G (c.t.d.fact 44 rfl) (c.t.d.fact 48 rfl)
    x_NotAllowed := xc_of X G (c.t.d.fact 42 rfl) (c.t.d.fact 49 rfl)
    kit := (He.ba c.more).1
    tnd := of_decide_eq_true (He.ba c.more).2
    bx := { t_law := tb _ (List.mem_map.mpr ⟨("law", none), by simp [tf], rfl⟩) } }
def loose : List PySem.Str := (["MealError", "NotAllowed", "TooLarge", "Missing", "BadPaper", "BadForm", "Broken", "check_lots", "check_uses", "check_stock", "drawn", "given_of", "most_served", "cheapest_grams", "short_days", "price_paper", "judge_prices", "_law_same", "_law_stream", "_law_next", "_law_told", "_law_lots", "_law_uses", "_law_fits", "_law_stock", "_law_inside", "_law_is_plan", "_law_is_lack", "_law_bent_lots", "_law_shows"] : List PySem.Str) ++ (["_law_shown", "MAX_DAYS", "MAX_GRAMS", "MAX_LOTS", "MAX_PRICE"] : List PySem.Str)
abbrev qv : Program := PySem.W.view R.prog [39]
set_option maxHeartbeats 0 in
theorem run (w : World) : HandSHeadRun.RunEq R qv hk ob 200000 loose w := by
  intro os
  kernel_rfl
end Lw

set_option maxHeartbeats 2000000
set_option exponentiation.threshold 3000
namespace Lw
open PySem PySem.Spec L2 Mw
open PyProof.Rows hiding St
theorem same_is : g__law_same = gSame := rfl
theorem next_is : g__law_next = gNext := rfl
theorem stream_is : g__law_stream = gStream := rfl
theorem nx_ok {l : List Int} {p : Nat} {many : Int} (h : Nums l) (hp : p < 2 ^ 60) (hm : many ≠ 0) : g__law_next [stD l p, .int many] = .ok (.int (nextV l p many)) [stD l (p + 1)] := next_ok h hp hm
/-- a lot: its first day, its last one, grams, price -/
structure Lot where
  f : Int
  l : Int
  g : Int
  p : Int
def lD (t : Lot) : D := .tup [.int t.f, .int t.l, .int t.g, .int t.p]
def t0 : Lot := ⟨0, 0, 0, 0⟩
structure okL (t : Lot) : Prop where
  f0 : 0 ≤ t.f
  fl : t.f ≤ t.l
  l9 : t.l ≤ 59
  g1 : 1 ≤ t.g
  g9 : t.g ≤ 9999
  p0 : 0 ≤ t.p
  p9 : t.p ≤ 999
def lsD (L : List Lot) : D := .tup (L.map lD)
def usD (us : List Int) : D := .tup (us.map .int)
theorem imms_lD (l : List Lot) : D.imms (l.map lD) = true := imms_map fun p _ => by simp [lD]
structure Lots (L : List Lot) : Prop where
  len : L.length ≤ 30
  ok : ∀ t ∈ L, okL t
structure Uses (us : List Int) : Prop where
  ne : 1 ≤ us.length
  len : us.length ≤ 60
  le : ∀ u ∈ us, 0 ≤ u ∧ u ≤ 9999
theorem lots_ok {L : List Lot} (h : Lots L) : g_check_lots [lsD L] = .ok .non [] := by
  obtain ⟨ρ', ⟨x1, x2, x3, x4, hr⟩, e⟩ := sFor_find (t := .tp [.nm 1, .nm 2, .nm 3, .nm 4]) (b := (sIf (cOr (cNot (cChain3 leB leB ltB (eC (.int 0)) (eVar 1) (eVar 2) (eC (.int 60)))) (cOr (cNot (cChain leB leB (eC (.int 1)) (eVar 3) (eC (.int 9999)))) (cNot (cChain leB leB (eC (.int 0)) (eVar 4) (eC (.int 999)))))) (sRaise "NotAllowed") sNx)) lD (fun _ => false) (fun ρ => ∃ x1 x2 x3 x4, ρ = [some (lsD L), x1, x2, x3, x4]) (fun ρ => .err "NotAllowed" ρ) (fun ρ => .inr ⟨_, rfl⟩) L (fun t ht ρ hr => by
    obtain ⟨x1, x2, x3, x4, rfl⟩ := hr
    obtain ⟨a1, a2, a3, a4, a5, a6, a7⟩ := h.ok t ht
    have a8 : t.l < 60 := by omega
    refine ⟨_, rfl, ?_⟩
    unfold Fnd
    simp -implicitDefEqProofs only [seqD_l, seqD_t, seqD_c, Nx_nx, Nx_ct, unwipe, wipeE, Tg.ids, Tg.idss, Option.getD_some, Option.getD_none, cChain_app, eChain_app, cChain3_app, eChain3_app, sAug_app, addI_i, subI_i, ↓reduceIte, if_true, if_false, Bool.false_eq_true, List.map_cons, List.map_nil, List.length_cons, List.length_nil, Nat.reduceAdd, Nat.reduceSub, Nat.reduceLeDiff, List.replicate, List.cons_append, List.nil_append, sSeq_app, sSetL_app, sSet_app, sRet_app, bind_app, eOp_app, eUn_app, eN_app, lCons_app, lNil_app, lSlot_app, eVar_app, eC_app, eChk_app, eIf_app, eNot_app, eAnd_app, eOr_app, cTru_app, cOp_app, cNot_app, cAnd_app, cOr_app, sIf_app, sAsg_app, sPar_app, sRaise_app, sMeth_app, sNx_app, sExpr_app, iSeq_app, iRng_app, eSl_app, oPart_app, eFmt_app, jNil_app, eTold_app, eCall_app, asm, setMs, List.getElem?_cons_zero, List.getElem?_cons_succ, List.set, opt_some, opt_none, pur_app, un1_one, addD_i, subD_i, negD_i, ltB_i, leB_i, gtB_i, geB_i, eqB_i, neB_i, absD_i, intD_i, intD_b, lenD_l, lenD_t, gBl_app, imm_i, imm_s, imm_b, imm_n, imm_t, imms_nil, imms_cons, Bool.and_self, Bool.and_true, Bool.true_and, asg_nm, asg_tpt, asg_tpl, asgs_nil, asgs_cons, dTup, dLst, truD, dBl, Option.map_some, Mw.gLst, decide_true, decide_false, Bool.not_true, Bool.not_false, Bool.false_and, Bool.and_false, Bool.true_or, Bool.false_or, eq_self, Int.reduceEq, Int.reduceLT, Int.reduceLE, Int.reduceNeg, n2i_0, n2i_1, n2i_2, n2i_3, n2i_4, n2i_5, n2i_6, n2i_7, n2i_8, n2i_9, n2i_10, n2i_11, n2i_12, a1, a2, a4, a5, a6, a7, a8]
    exact ⟨_, _, _, _, rfl⟩) [some (lsD L), none, none, none, none] ⟨_, _, _, _, rfl⟩
  subst hr
  have na : (L.any fun _ => false) = false := by simp
  rw [na] at e
  have l3 : ¬ (30 : Int) < (L.length : Int) := by have := h.len; omega
  have ll : lenD (lsD L) = some (.int (L.length : Int)) := by unfold lsD; rw [lenD_t, List.length_map]
  have sq : seqD (lsD L) = some (L.map lD) := rfl
  refine runFn_nx (ρ' := [some (lsD L), x1, x2, x3, x4]) rfl ?_ rfl
  unfold b_check_lots
  simp -implicitDefEqProofs only [seqD_l, seqD_t, seqD_c, Nx_nx, Nx_ct, unwipe, wipeE, Tg.ids, Tg.idss, Option.getD_some, Option.getD_none, cChain_app, eChain_app, cChain3_app, eChain3_app, sAug_app, addI_i, subI_i, ↓reduceIte, if_true, if_false, Bool.false_eq_true, List.map_cons, List.map_nil, List.length_cons, List.length_nil, Nat.reduceAdd, Nat.reduceSub, Nat.reduceLeDiff, List.replicate, List.cons_append, List.nil_append, sSeq_app, sSetL_app, sSet_app, sRet_app, bind_app, eOp_app, eUn_app, eN_app, lCons_app, lNil_app, lSlot_app, eVar_app, eC_app, eChk_app, eIf_app, eNot_app, eAnd_app, eOr_app, cTru_app, cOp_app, cNot_app, cAnd_app, cOr_app, sIf_app, sAsg_app, sPar_app, sRaise_app, sMeth_app, sNx_app, sExpr_app, iSeq_app, iRng_app, eSl_app, oPart_app, eFmt_app, jNil_app, eTold_app, eCall_app, asm, setMs, List.getElem?_cons_zero, List.getElem?_cons_succ, List.set, opt_some, opt_none, pur_app, un1_one, addD_i, subD_i, negD_i, ltB_i, leB_i, gtB_i, geB_i, eqB_i, neB_i, absD_i, intD_i, intD_b, lenD_l, lenD_t, gBl_app, imm_i, imm_s, imm_b, imm_n, imm_t, imms_nil, imms_cons, Bool.and_self, Bool.and_true, Bool.true_and, asg_nm, asg_tpt, asg_tpl, asgs_nil, asgs_cons, dTup, dLst, truD, dBl, Option.map_some, Mw.gLst, decide_true, decide_false, Bool.not_true, Bool.not_false, Bool.false_and, Bool.and_false, Bool.true_or, Bool.false_or, eq_self, Int.reduceEq, Int.reduceLT, Int.reduceLE, Int.reduceNeg, n2i_0, n2i_1, n2i_2, n2i_3, n2i_4, n2i_5, n2i_6, n2i_7, n2i_8, n2i_9, n2i_10, n2i_11, n2i_12, ll, l3, sq, e]
theorem uses_ok {us : List Int} (h : Uses us) : g_check_uses [usD us] = .ok .non [] := by
  have h1 : (1 : Int) ≤ (us.length : Int) := by have := h.ne; omega
  have h2 : (us.length : Int) ≤ 60 := by have := h.len; omega
  have lc := eLc_map' (t := .nm 1) (fi := iSeq (eVar 0)) (te := (eChain leB leB (eC (.int 0)) (eVar 1) (eC (.int 9999)))) (ρ := [some (usD us), none]) (ρ1 := [some (usD us), none]) us D.int (fun _ => D.bl true) (fun u => [some (usD us), some (.int u)]) rfl rfl (by have := h.len; omega) (fun u hu => by
    obtain ⟨a1, a2⟩ := h.le u hu
    refine ⟨rfl, ?_, rfl⟩
    simp -implicitDefEqProofs only [seqD_l, seqD_t, seqD_c, Nx_nx, Nx_ct, unwipe, wipeE, Tg.ids, Tg.idss, Option.getD_some, Option.getD_none, cChain_app, eChain_app, cChain3_app, eChain3_app, sAug_app, addI_i, subI_i, ↓reduceIte, if_true, if_false, Bool.false_eq_true, List.map_cons, List.map_nil, List.length_cons, List.length_nil, Nat.reduceAdd, Nat.reduceSub, Nat.reduceLeDiff, List.replicate, List.cons_append, List.nil_append, sSeq_app, sSetL_app, sSet_app, sRet_app, bind_app, eOp_app, eUn_app, eN_app, lCons_app, lNil_app, lSlot_app, eVar_app, eC_app, eChk_app, eIf_app, eNot_app, eAnd_app, eOr_app, cTru_app, cOp_app, cNot_app, cAnd_app, cOr_app, sIf_app, sAsg_app, sPar_app, sRaise_app, sMeth_app, sNx_app, sExpr_app, iSeq_app, iRng_app, eSl_app, oPart_app, eFmt_app, jNil_app, eTold_app, eCall_app, asm, setMs, List.getElem?_cons_zero, List.getElem?_cons_succ, List.set, opt_some, opt_none, pur_app, un1_one, addD_i, subD_i, negD_i, ltB_i, leB_i, gtB_i, geB_i, eqB_i, neB_i, absD_i, intD_i, intD_b, lenD_l, lenD_t, gBl_app, imm_i, imm_s, imm_b, imm_n, imm_t, imms_nil, imms_cons, Bool.and_self, Bool.and_true, Bool.true_and, asg_nm, asg_tpt, asg_tpl, asgs_nil, asgs_cons, dTup, dLst, truD, dBl, Option.map_some, Mw.gLst, decide_true, decide_false, Bool.not_true, Bool.not_false, Bool.false_and, Bool.and_false, Bool.true_or, Bool.false_or, eq_self, Int.reduceEq, Int.reduceLT, Int.reduceLE, Int.reduceNeg, n2i_0, n2i_1, n2i_2, n2i_3, n2i_4, n2i_5, n2i_6, n2i_7, n2i_8, n2i_9, n2i_10, n2i_11, n2i_12, a1, a2])
  have al := allD_l (us.map fun _ => true)
  rw [List.map_map] at al
  have al : allD (.lst (us.map fun _ => D.bl true)) = some (.bl true) := by
    rw [show (us.map fun _ => D.bl true) = us.map (D.bl ∘ fun _ => true) from rfl, al]
    congr 2
    simp
  have ll : lenD (usD us) = some (.int (us.length : Int)) := by unfold usD; rw [lenD_t, List.length_map]
  refine runFn_nx (ρ' := [some (usD us), none]) rfl ?_ rfl
  unfold b_check_uses
  simp -implicitDefEqProofs only [seqD_l, seqD_t, seqD_c, Nx_nx, Nx_ct, unwipe, wipeE, Tg.ids, Tg.idss, Option.getD_some, Option.getD_none, cChain_app, eChain_app, cChain3_app, eChain3_app, sAug_app, addI_i, subI_i, ↓reduceIte, if_true, if_false, Bool.false_eq_true, List.map_cons, List.map_nil, List.length_cons, List.length_nil, Nat.reduceAdd, Nat.reduceSub, Nat.reduceLeDiff, List.replicate, List.cons_append, List.nil_append, sSeq_app, sSetL_app, sSet_app, sRet_app, bind_app, eOp_app, eUn_app, eN_app, lCons_app, lNil_app, lSlot_app, eVar_app, eC_app, eChk_app, eIf_app, eNot_app, eAnd_app, eOr_app, cTru_app, cOp_app, cNot_app, cAnd_app, cOr_app, sIf_app, sAsg_app, sPar_app, sRaise_app, sMeth_app, sNx_app, sExpr_app, iSeq_app, iRng_app, eSl_app, oPart_app, eFmt_app, jNil_app, eTold_app, eCall_app, asm, setMs, List.getElem?_cons_zero, List.getElem?_cons_succ, List.set, opt_some, opt_none, pur_app, un1_one, addD_i, subD_i, negD_i, ltB_i, leB_i, gtB_i, geB_i, eqB_i, neB_i, absD_i, intD_i, intD_b, lenD_l, lenD_t, gBl_app, imm_i, imm_s, imm_b, imm_n, imm_t, imms_nil, imms_cons, Bool.and_self, Bool.and_true, Bool.true_and, asg_nm, asg_tpt, asg_tpl, asgs_nil, asgs_cons, dTup, dLst, truD, dBl, Option.map_some, Mw.gLst, decide_true, decide_false, Bool.not_true, Bool.not_false, Bool.false_and, Bool.and_false, Bool.true_or, Bool.false_or, eq_self, Int.reduceEq, Int.reduceLT, Int.reduceLE, Int.reduceNeg, n2i_0, n2i_1, n2i_2, n2i_3, n2i_4, n2i_5, n2i_6, n2i_7, n2i_8, n2i_9, n2i_10, n2i_11, n2i_12, ll, h1, h2, lc, al]
theorem stock_ok {L : List Lot} (h : Lots L) {us : List Int} (hu : Uses us) : g_check_stock [lsD L, usD us] = .ok .non [] := by
  refine runFn_nx (ρ' := [some (lsD L), some (usD us)]) rfl ?_ rfl
  unfold b_check_stock
  simp -implicitDefEqProofs only [seqD_l, seqD_t, seqD_c, Nx_nx, Nx_ct, unwipe, wipeE, Tg.ids, Tg.idss, Option.getD_some, Option.getD_none, cChain_app, eChain_app, cChain3_app, eChain3_app, sAug_app, addI_i, subI_i, ↓reduceIte, if_true, if_false, Bool.false_eq_true, List.map_cons, List.map_nil, List.length_cons, List.length_nil, Nat.reduceAdd, Nat.reduceSub, Nat.reduceLeDiff, List.replicate, List.cons_append, List.nil_append, sSeq_app, sSetL_app, sSet_app, sRet_app, bind_app, eOp_app, eUn_app, eN_app, lCons_app, lNil_app, lSlot_app, eVar_app, eC_app, eChk_app, eIf_app, eNot_app, eAnd_app, eOr_app, cTru_app, cOp_app, cNot_app, cAnd_app, cOr_app, sIf_app, sAsg_app, sPar_app, sRaise_app, sMeth_app, sNx_app, sExpr_app, iSeq_app, iRng_app, eSl_app, oPart_app, eFmt_app, jNil_app, eTold_app, eCall_app, asm, setMs, List.getElem?_cons_zero, List.getElem?_cons_succ, List.set, opt_some, opt_none, pur_app, un1_one, addD_i, subD_i, negD_i, ltB_i, leB_i, gtB_i, geB_i, eqB_i, neB_i, absD_i, intD_i, intD_b, lenD_l, lenD_t, gBl_app, imm_i, imm_s, imm_b, imm_n, imm_t, imms_nil, imms_cons, Bool.and_self, Bool.and_true, Bool.true_and, asg_nm, asg_tpt, asg_tpl, asgs_nil, asgs_cons, dTup, dLst, truD, dBl, Option.map_some, Mw.gLst, decide_true, decide_false, Bool.not_true, Bool.not_false, Bool.false_and, Bool.and_false, Bool.true_or, Bool.false_or, eq_self, Int.reduceEq, Int.reduceLT, Int.reduceLE, Int.reduceNeg, n2i_0, n2i_1, n2i_2, n2i_3, n2i_4, n2i_5, n2i_6, n2i_7, n2i_8, n2i_9, n2i_10, n2i_11, n2i_12, lots_ok h, uses_ok hu]
/-! ### what is drawn out of the lots -/
theorem enum_range {α : Type} (f : α → D) (d0 : α) (l : List α) : enumL (l.map f) = (List.range l.length).map fun k => D.tup [nI k, f (l.getD k d0)] := by
  apply List.ext_getElem?
  intro i
  unfold enumL
  rw [List.getElem?_mapIdx, List.getElem?_map, List.getElem?_map]
  by_cases h : i < l.length
  · rw [List.getElem?_eq_getElem h, List.getElem?_range h, Option.map_some, Option.map_some, Option.map_some, List.getD_eq_getElem?_getD, List.getElem?_eq_getElem h]; rfl
  · rw [List.getElem?_eq_none (by omega), List.getElem?_eq_none (by rw [List.length_range]; omega)]; rfl
theorem setLD_ok {ds : List D} {k : Nat} (h : k < ds.length) (v : D) : setLD ds (.int (k : Int)) v = some (ds.set k v) := by
  have e : ixN ds.length (k : Int) = some k := by
    unfold ixN
    rw [if_pos (by omega), if_pos (by omega), Int.toNat_natCast]
  simp -implicitDefEqProofs only [setLD, e]
theorem drawn_in {P U G : D} {m : Nat} {rows : List D} {day : Int} {x7 x12 : Option D} : ∀ (qs : List (Int × Int)) (left : List Int) (row : List (Int × Int)) (need : Int) (x9 x10 x11 : Option D), okV x10 = true → (∀ q ∈ qs, ∃ k : Nat, k < m ∧ q.2 = (k : Int)) → left.length = m → row.length + qs.length ≤ 1000 →
    ∃ (left' : List Int) (row' : List (Int × Int)) (need' : Int) (y9 y10 y11 : Option D), (sFor (.tp [(.nm 9), (.nm 10)]) (sSeq (sSet 11 (eN minX (lCons (eVar 6) (lCons (eOp ixD (eVar 3) (eVar 10)) lNil))))
    (sIf (cOp gtB (eVar 11) (eC (.int 0))) (sSeq (sMeth 8 (eN dTup (lCons (eChk (eVar 10)) (lCons (eChk (eVar 11)) lNil))) appD)
    (sSeq (sAugL 3 subI (eVar 10) (eVar 11))
    (sAug 6 subI (eVar 11)))) sNx))) (qs.map p2D) [some P, some U, some G, some (.lst (left.map .int)), some (.lst rows), some (.int day), some (.int need), x7, some (.lst (row.map p2D)), x9, x10, x11, x12] =
      .ok .nx [some P, some U, some G, some (.lst (left'.map .int)), some (.lst rows), some (.int day), some (.int need'), x7, some (.lst (row'.map p2D)), y9, y10, y11, x12] ∧ okV y10 = true ∧ left'.length = m
  | [], left, row, need, x9, x10, x11, ho, _, hl, _ => ⟨left, row, need, x9, x10, x11, rfl, ho, hl⟩
  | q :: qs, left, row, need, x9, x10, x11, ho, hq, hl, hn => by
    obtain ⟨k, hk, ek⟩ := hq q List.mem_cons_self
    simp -implicitDefEqProofs only [List.length_cons] at hn
    have at_ := atI_int (l := left) (k := k) (by omega)
    obtain ⟨tk, htk⟩ : ∃ tk, tk = (if left.getD k 0 < need then left.getD k 0 else need) := ⟨_, rfl⟩
    have ge : (left.map D.int)[(k : Int).toNat]? = some (.int (left.getD k 0)) := by
      rw [Int.toNat_natCast, List.getElem?_map, List.getD_eq_getElem?_getD, List.getElem?_eq_getElem (by omega)]; rfl
    have k0 : (0 : Int) ≤ (k : Int) := by omega
    have st := setLD_ok (ds := left.map D.int) (k := k) (by rw [List.length_map]; omega) (.int (left.getD k 0 - tk))
    have sm : (left.map D.int).set k (.int (left.getD k 0 - tk)) = (left.set k (left.getD k 0 - tk)).map .int := by rw [List.map_set]
    rw [sm] at st
    have ap : appD (row.map p2D) (.tup [.int (k : Int), .int tk]) = some ((row ++ [((k : Int), tk)]).map p2D) := by
      rw [appD_ok (by rw [List.length_map]; omega), List.map_append]; rfl
    have next := fun (left : List Int) (row : List (Int × Int)) (need : Int) hl hn => drawn_in (P := P) (U := U) (G := G) (m := m) (rows := rows) (day := day) (x7 := x7) (x12 := x12) qs left row need (some (.int q.1)) (some (.int (k : Int))) (some (.int tk)) rfl (fun q' hq' => hq q' (List.mem_cons_of_mem _ hq')) hl hn
    by_cases z : 0 < tk
    · obtain ⟨l', r', n', y9, y10, y11, e, h1, h2⟩ := next (left.set k (left.getD k 0 - tk)) (row ++ [((k : Int), tk)]) (need - tk) (by rw [List.length_set, hl]) (by rw [List.length_append, List.length_singleton]; omega)
      refine ⟨l', r', n', y9, y10, y11, ?_, h1, h2⟩
      rw [← e, List.map_cons, sFor]
      simp -implicitDefEqProofs only [seqD_l, seqD_t, seqD_c, Nx_nx, Nx_ct, unwipe, wipeE, Tg.ids, Tg.idss, Option.getD_some, Option.getD_none, cChain_app, eChain_app, cChain3_app, eChain3_app, sAug_app, addI_i, subI_i, ↓reduceIte, if_true, if_false, Bool.false_eq_true, List.map_cons, List.map_nil, List.length_cons, List.length_nil, Nat.reduceAdd, Nat.reduceSub, Nat.reduceLeDiff, List.replicate, List.cons_append, List.nil_append, sSeq_app, sSetL_app, sSet_app, sRet_app, bind_app, eOp_app, eUn_app, eN_app, lCons_app, lNil_app, lSlot_app, eVar_app, eC_app, eChk_app, eIf_app, eNot_app, eAnd_app, eOr_app, cTru_app, cOp_app, cNot_app, cAnd_app, cOr_app, sIf_app, sAsg_app, sPar_app, sRaise_app, sMeth_app, sNx_app, sExpr_app, iSeq_app, iRng_app, eSl_app, oPart_app, eFmt_app, jNil_app, eTold_app, eCall_app, asm, setMs, List.getElem?_cons_zero, List.getElem?_cons_succ, List.set, opt_some, opt_none, pur_app, un1_one, addD_i, subD_i, negD_i, ltB_i, leB_i, gtB_i, geB_i, eqB_i, neB_i, absD_i, intD_i, intD_b, lenD_l, lenD_t, gBl_app, imm_i, imm_s, imm_b, imm_n, imm_t, imms_nil, imms_cons, Bool.and_self, Bool.and_true, Bool.true_and, asg_nm, asg_tpt, asg_tpl, asgs_nil, asgs_cons, dTup, dLst, truD, dBl, Option.map_some, Mw.gLst, decide_true, decide_false, Bool.not_true, Bool.not_false, Bool.false_and, Bool.and_false, Bool.true_or, Bool.false_or, eq_self, Int.reduceEq, Int.reduceLT, Int.reduceLE, Int.reduceNeg, n2i_0, n2i_1, n2i_2, n2i_3, n2i_4, n2i_5, n2i_6, n2i_7, n2i_8, n2i_9, n2i_10, n2i_11, n2i_12, p2D, ek, minX_i, ixD_l, at_, ← htk, z, ap, sAugL_app, ge, k0, st]
    · obtain ⟨l', r', n', y9, y10, y11, e, h1, h2⟩ := next left row need hl (by omega)
      refine ⟨l', r', n', y9, y10, y11, ?_, h1, h2⟩
      rw [← e, List.map_cons, sFor]
      simp -implicitDefEqProofs only [seqD_l, seqD_t, seqD_c, Nx_nx, Nx_ct, unwipe, wipeE, Tg.ids, Tg.idss, Option.getD_some, Option.getD_none, cChain_app, eChain_app, cChain3_app, eChain3_app, sAug_app, addI_i, subI_i, ↓reduceIte, if_true, if_false, Bool.false_eq_true, List.map_cons, List.map_nil, List.length_cons, List.length_nil, Nat.reduceAdd, Nat.reduceSub, Nat.reduceLeDiff, List.replicate, List.cons_append, List.nil_append, sSeq_app, sSetL_app, sSet_app, sRet_app, bind_app, eOp_app, eUn_app, eN_app, lCons_app, lNil_app, lSlot_app, eVar_app, eC_app, eChk_app, eIf_app, eNot_app, eAnd_app, eOr_app, cTru_app, cOp_app, cNot_app, cAnd_app, cOr_app, sIf_app, sAsg_app, sPar_app, sRaise_app, sMeth_app, sNx_app, sExpr_app, iSeq_app, iRng_app, eSl_app, oPart_app, eFmt_app, jNil_app, eTold_app, eCall_app, asm, setMs, List.getElem?_cons_zero, List.getElem?_cons_succ, List.set, opt_some, opt_none, pur_app, un1_one, addD_i, subD_i, negD_i, ltB_i, leB_i, gtB_i, geB_i, eqB_i, neB_i, absD_i, intD_i, intD_b, lenD_l, lenD_t, gBl_app, imm_i, imm_s, imm_b, imm_n, imm_t, imms_nil, imms_cons, Bool.and_self, Bool.and_true, Bool.true_and, asg_nm, asg_tpt, asg_tpl, asgs_nil, asgs_cons, dTup, dLst, truD, dBl, Option.map_some, Mw.gLst, decide_true, decide_false, Bool.not_true, Bool.not_false, Bool.false_and, Bool.and_false, Bool.true_or, Bool.false_or, eq_self, Int.reduceEq, Int.reduceLT, Int.reduceLE, Int.reduceNeg, n2i_0, n2i_1, n2i_2, n2i_3, n2i_4, n2i_5, n2i_6, n2i_7, n2i_8, n2i_9, n2i_10, n2i_11, n2i_12, p2D, ek, minX_i, ixD_l, at_, ← htk, z]
theorem enum_lots (L : List Lot) : enum1 [lsD L] = some ((List.range L.length).map fun k => D.tup [nI k, lD (L.getD k t0)]) := by
  have e := enum_range lD t0 L
  show some (enumL (L.map lD)) = _
  rw [e]
theorem enum_ints {U : D} {us : List Int} (hU : U = .tup (us.map .int) ∨ U = .lst (us.map .int)) : enum1 [U] = some ((List.range us.length).map fun k => D.tup [nI k, .int (us.getD k 0)]) := by
  have e := enum_range D.int 0 us
  rcases hU with rfl | rfl
  · show some (enumL (us.map .int)) = _
    rw [e]
  · show some (enumL (us.map .int)) = _
    rw [e]
theorem ix_lot {L : List Lot} {k : Nat} (h : k < L.length) : ixD (lsD L) (.int (k : Int)) = some (lD (L.getD k t0)) := by
  unfold lsD
  rw [ixD_t, atI_map lD (List.getElem?_eq_getElem h), List.getD_eq_getElem?_getD, List.getElem?_eq_getElem h]; rfl
theorem atI_3 {α : Type} (a b c d : α) (l : List α) : atI (a :: b :: c :: d :: l) 3 = some d := atI_nat (by decide) rfl
theorem drawn_ok {L : List Lot} (hL : L.length ≤ 30) {us : List Int} (hu : us.length ≤ 60) {U : D} (hU : U = .tup (us.map .int) ∨ U = .lst (us.map .int)) {gs : List Int} (hg : gs.length = L.length) :
    ∃ (rows : List D) (left : List Int), g_drawn [lsD L, U, .lst (gs.map .int)] = .ok (.tup [.tup rows, .lst (left.map .int)]) [] := by
  have en := enum_ints hU
  obtain ⟨ρ', e, rows, left, x5, x6, x7, x8, x9, x10, x11, hr, hlen, hleft, himm, ho⟩ := sFor_range (t := .tp [.nm 5, .nm 6]) (b := (sSeq (sSet 7 (eLc (.tp [(.nm 10), (.nm 12)]) (iRng enum1 (lCons (eVar 0) lNil)) (cAnd (cChain leB leB (eOp ixD (eVar 12) (eC (.int 0))) (eVar 5) (eOp ixD (eVar 12) (eC (.int 1)))) (cOp gtB (eOp ixD (eVar 3) (eVar 10)) (eC (.int 0)))) (eChk (eVar 10))))
    (sSeq (sSet 8 (eN dLst lNil))
    (sSeq (M.bind (iSeq (eN (un1 sortX) (lCons (eLc (.nm 10) (iSeq (eVar 7)) (M.pur true) (eN dTup (lCons (eChk (eOp ixD (eOp ixD (eVar 0) (eVar 10)) (eC (.int 1)))) (lCons (eChk (eVar 10)) lNil)))) lNil))) (sFor (.tp [(.nm 9), (.nm 10)]) (sSeq (sSet 11 (eN minX (lCons (eVar 6) (lCons (eOp ixD (eVar 3) (eVar 10)) lNil))))
    (sIf (cOp gtB (eVar 11) (eC (.int 0))) (sSeq (sMeth 8 (eN dTup (lCons (eChk (eVar 10)) (lCons (eChk (eVar 11)) lNil))) appD)
    (sSeq (sAugL 3 subI (eVar 10) (eVar 11))
    (sAug 6 subI (eVar 11)))) sNx))))
    (sMeth 4 (eN (un1 tupleD) (lCons (eN (un1 sortX) (lCons (eVar 8) lNil)) lNil)) appD))))) (fun i => D.tup [nI i, .int (us.getD i 0)]) (fun i ρ => ∃ (rows : List D) (left : List Int) (x5 x6 x7 x8 x9 x10 x11 : Option D), ρ = [some (lsD L), some U, some (.lst (gs.map .int)), some (.lst (left.map .int)), some (.lst rows), x5, x6, x7, x8, x9, x10, x11, none] ∧ rows.length = i ∧ left.length = L.length ∧ D.imms rows = true ∧ okV x10 = true) us.length (fun i hi ρ hr => by
    obtain ⟨rows, left, x5, x6, x7, x8, x9, x10, x11, rfl, h1, h2, h3, h4⟩ := hr
    refine ⟨_, rfl, ?_⟩
    have cl : clean [some (lsD L), some U, some (.lst (gs.map .int)), some (.lst (left.map .int)), some (.lst rows), some (nI i), some (.int (us.getD i 0)), x7, x8, x9, x10, x11, none] [10, 12] = true := by
      cases x10 <;> simp_all [okV, clean]
    have lc := eLc_map (t := .tp [.nm 10, .nm 12]) (fi := (iRng enum1 (lCons (eVar 0) lNil))) (tt := (cAnd (cChain leB leB (eOp ixD (eVar 12) (eC (.int 0))) (eVar 5) (eOp ixD (eVar 12) (eC (.int 1)))) (cOp gtB (eOp ixD (eVar 3) (eVar 10)) (eC (.int 0))))) (te := eChk (eVar 10)) (ρ := [some (lsD L), some U, some (.lst (gs.map .int)), some (.lst (left.map .int)), some (.lst rows), some (nI i), some (.int (us.getD i 0)), x7, x8, x9, x10, x11, none]) (ρ1 := [some (lsD L), some U, some (.lst (gs.map .int)), some (.lst (left.map .int)), some (.lst rows), some (nI i), some (.int (us.getD i 0)), x7, x8, x9, x10, x11, none])
      (List.range L.length) (fun k => D.tup [nI k, lD (L.getD k t0)]) (fun k => (decide ((L.getD k t0).f ≤ (i : Int)) && decide ((i : Int) ≤ (L.getD k t0).l)) && decide (0 < left.getD k 0)) nI (fun k => [some (lsD L), some U, some (.lst (gs.map .int)), some (.lst (left.map .int)), some (.lst rows), some (nI i), some (.int (us.getD i 0)), x7, x8, x9, some (nI k), x11, some (lD (L.getD k t0))])
      (by simp -implicitDefEqProofs only [seqD_l, seqD_t, seqD_c, Nx_nx, Nx_ct, unwipe, wipeE, Tg.ids, Tg.idss, Option.getD_some, Option.getD_none, cChain_app, eChain_app, cChain3_app, eChain3_app, sAug_app, addI_i, subI_i, ↓reduceIte, if_true, if_false, Bool.false_eq_true, List.map_cons, List.map_nil, List.length_cons, List.length_nil, Nat.reduceAdd, Nat.reduceSub, Nat.reduceLeDiff, List.replicate, List.cons_append, List.nil_append, sSeq_app, sSetL_app, sSet_app, sRet_app, bind_app, eOp_app, eUn_app, eN_app, lCons_app, lNil_app, lSlot_app, eVar_app, eC_app, eChk_app, eIf_app, eNot_app, eAnd_app, eOr_app, cTru_app, cOp_app, cNot_app, cAnd_app, cOr_app, sIf_app, sAsg_app, sPar_app, sRaise_app, sMeth_app, sNx_app, sExpr_app, iSeq_app, iRng_app, eSl_app, oPart_app, eFmt_app, jNil_app, eTold_app, eCall_app, asm, setMs, List.getElem?_cons_zero, List.getElem?_cons_succ, List.set, opt_some, opt_none, pur_app, un1_one, addD_i, subD_i, negD_i, ltB_i, leB_i, gtB_i, geB_i, eqB_i, neB_i, absD_i, intD_i, intD_b, lenD_l, lenD_t, gBl_app, imm_i, imm_s, imm_b, imm_n, imm_t, imms_nil, imms_cons, Bool.and_self, Bool.and_true, Bool.true_and, asg_nm, asg_tpt, asg_tpl, asgs_nil, asgs_cons, dTup, dLst, truD, dBl, Option.map_some, Mw.gLst, decide_true, decide_false, Bool.not_true, Bool.not_false, Bool.false_and, Bool.and_false, Bool.true_or, Bool.false_or, eq_self, Int.reduceEq, Int.reduceLT, Int.reduceLE, Int.reduceNeg, n2i_0, n2i_1, n2i_2, n2i_3, n2i_4, n2i_5, n2i_6, n2i_7, n2i_8, n2i_9, n2i_10, n2i_11, n2i_12, enum_lots]) cl (by rw [List.length_range]; omega) (fun k hk => by
        have hk := List.mem_range.mp hk
        have at_ := atI_int (l := left) (k := k) (by omega)
        refine ⟨by simp [asg, asgs, wipeE, Tg.ids, Tg.idss, nI, lD], ?_, fun _ => ?_, rfl⟩
        · by_cases a1 : (L.getD k t0).f ≤ (i : Int)
          · by_cases a2 : (i : Int) ≤ (L.getD k t0).l
            · simp -implicitDefEqProofs only [seqD_l, seqD_t, seqD_c, Nx_nx, Nx_ct, unwipe, wipeE, Tg.ids, Tg.idss, Option.getD_some, Option.getD_none, cChain_app, eChain_app, cChain3_app, eChain3_app, sAug_app, addI_i, subI_i, ↓reduceIte, if_true, if_false, Bool.false_eq_true, List.map_cons, List.map_nil, List.length_cons, List.length_nil, Nat.reduceAdd, Nat.reduceSub, Nat.reduceLeDiff, List.replicate, List.cons_append, List.nil_append, sSeq_app, sSetL_app, sSet_app, sRet_app, bind_app, eOp_app, eUn_app, eN_app, lCons_app, lNil_app, lSlot_app, eVar_app, eC_app, eChk_app, eIf_app, eNot_app, eAnd_app, eOr_app, cTru_app, cOp_app, cNot_app, cAnd_app, cOr_app, sIf_app, sAsg_app, sPar_app, sRaise_app, sMeth_app, sNx_app, sExpr_app, iSeq_app, iRng_app, eSl_app, oPart_app, eFmt_app, jNil_app, eTold_app, eCall_app, asm, setMs, List.getElem?_cons_zero, List.getElem?_cons_succ, List.set, opt_some, opt_none, pur_app, un1_one, addD_i, subD_i, negD_i, ltB_i, leB_i, gtB_i, geB_i, eqB_i, neB_i, absD_i, intD_i, intD_b, lenD_l, lenD_t, gBl_app, imm_i, imm_s, imm_b, imm_n, imm_t, imms_nil, imms_cons, Bool.and_self, Bool.and_true, Bool.true_and, asg_nm, asg_tpt, asg_tpl, asgs_nil, asgs_cons, dTup, dLst, truD, dBl, Option.map_some, Mw.gLst, decide_true, decide_false, Bool.not_true, Bool.not_false, Bool.false_and, Bool.and_false, Bool.true_or, Bool.false_or, eq_self, Int.reduceEq, Int.reduceLT, Int.reduceLE, Int.reduceNeg, n2i_0, n2i_1, n2i_2, n2i_3, n2i_4, n2i_5, n2i_6, n2i_7, n2i_8, n2i_9, n2i_10, n2i_11, n2i_12, nI, lD, ixD_t, ixD_l, atI_0, atI_1, a1, a2, at_]
            · simp -implicitDefEqProofs only [seqD_l, seqD_t, seqD_c, Nx_nx, Nx_ct, unwipe, wipeE, Tg.ids, Tg.idss, Option.getD_some, Option.getD_none, cChain_app, eChain_app, cChain3_app, eChain3_app, sAug_app, addI_i, subI_i, ↓reduceIte, if_true, if_false, Bool.false_eq_true, List.map_cons, List.map_nil, List.length_cons, List.length_nil, Nat.reduceAdd, Nat.reduceSub, Nat.reduceLeDiff, List.replicate, List.cons_append, List.nil_append, sSeq_app, sSetL_app, sSet_app, sRet_app, bind_app, eOp_app, eUn_app, eN_app, lCons_app, lNil_app, lSlot_app, eVar_app, eC_app, eChk_app, eIf_app, eNot_app, eAnd_app, eOr_app, cTru_app, cOp_app, cNot_app, cAnd_app, cOr_app, sIf_app, sAsg_app, sPar_app, sRaise_app, sMeth_app, sNx_app, sExpr_app, iSeq_app, iRng_app, eSl_app, oPart_app, eFmt_app, jNil_app, eTold_app, eCall_app, asm, setMs, List.getElem?_cons_zero, List.getElem?_cons_succ, List.set, opt_some, opt_none, pur_app, un1_one, addD_i, subD_i, negD_i, ltB_i, leB_i, gtB_i, geB_i, eqB_i, neB_i, absD_i, intD_i, intD_b, lenD_l, lenD_t, gBl_app, imm_i, imm_s, imm_b, imm_n, imm_t, imms_nil, imms_cons, Bool.and_self, Bool.and_true, Bool.true_and, asg_nm, asg_tpt, asg_tpl, asgs_nil, asgs_cons, dTup, dLst, truD, dBl, Option.map_some, Mw.gLst, decide_true, decide_false, Bool.not_true, Bool.not_false, Bool.false_and, Bool.and_false, Bool.true_or, Bool.false_or, eq_self, Int.reduceEq, Int.reduceLT, Int.reduceLE, Int.reduceNeg, n2i_0, n2i_1, n2i_2, n2i_3, n2i_4, n2i_5, n2i_6, n2i_7, n2i_8, n2i_9, n2i_10, n2i_11, n2i_12, nI, lD, ixD_t, ixD_l, atI_0, atI_1, a1, a2, at_]
          · simp -implicitDefEqProofs only [seqD_l, seqD_t, seqD_c, Nx_nx, Nx_ct, unwipe, wipeE, Tg.ids, Tg.idss, Option.getD_some, Option.getD_none, cChain_app, eChain_app, cChain3_app, eChain3_app, sAug_app, addI_i, subI_i, ↓reduceIte, if_true, if_false, Bool.false_eq_true, List.map_cons, List.map_nil, List.length_cons, List.length_nil, Nat.reduceAdd, Nat.reduceSub, Nat.reduceLeDiff, List.replicate, List.cons_append, List.nil_append, sSeq_app, sSetL_app, sSet_app, sRet_app, bind_app, eOp_app, eUn_app, eN_app, lCons_app, lNil_app, lSlot_app, eVar_app, eC_app, eChk_app, eIf_app, eNot_app, eAnd_app, eOr_app, cTru_app, cOp_app, cNot_app, cAnd_app, cOr_app, sIf_app, sAsg_app, sPar_app, sRaise_app, sMeth_app, sNx_app, sExpr_app, iSeq_app, iRng_app, eSl_app, oPart_app, eFmt_app, jNil_app, eTold_app, eCall_app, asm, setMs, List.getElem?_cons_zero, List.getElem?_cons_succ, List.set, opt_some, opt_none, pur_app, un1_one, addD_i, subD_i, negD_i, ltB_i, leB_i, gtB_i, geB_i, eqB_i, neB_i, absD_i, intD_i, intD_b, lenD_l, lenD_t, gBl_app, imm_i, imm_s, imm_b, imm_n, imm_t, imms_nil, imms_cons, Bool.and_self, Bool.and_true, Bool.true_and, asg_nm, asg_tpt, asg_tpl, asgs_nil, asgs_cons, dTup, dLst, truD, dBl, Option.map_some, Mw.gLst, decide_true, decide_false, Bool.not_true, Bool.not_false, Bool.false_and, Bool.and_false, Bool.true_or, Bool.false_or, eq_self, Int.reduceEq, Int.reduceLT, Int.reduceLE, Int.reduceNeg, n2i_0, n2i_1, n2i_2, n2i_3, n2i_4, n2i_5, n2i_6, n2i_7, n2i_8, n2i_9, n2i_10, n2i_11, n2i_12, nI, lD, ixD_t, ixD_l, atI_0, atI_1, a1, at_]
        · simp -implicitDefEqProofs only [seqD_l, seqD_t, seqD_c, Nx_nx, Nx_ct, unwipe, wipeE, Tg.ids, Tg.idss, Option.getD_some, Option.getD_none, cChain_app, eChain_app, cChain3_app, eChain3_app, sAug_app, addI_i, subI_i, ↓reduceIte, if_true, if_false, Bool.false_eq_true, List.map_cons, List.map_nil, List.length_cons, List.length_nil, Nat.reduceAdd, Nat.reduceSub, Nat.reduceLeDiff, List.replicate, List.cons_append, List.nil_append, sSeq_app, sSetL_app, sSet_app, sRet_app, bind_app, eOp_app, eUn_app, eN_app, lCons_app, lNil_app, lSlot_app, eVar_app, eC_app, eChk_app, eIf_app, eNot_app, eAnd_app, eOr_app, cTru_app, cOp_app, cNot_app, cAnd_app, cOr_app, sIf_app, sAsg_app, sPar_app, sRaise_app, sMeth_app, sNx_app, sExpr_app, iSeq_app, iRng_app, eSl_app, oPart_app, eFmt_app, jNil_app, eTold_app, eCall_app, asm, setMs, List.getElem?_cons_zero, List.getElem?_cons_succ, List.set, opt_some, opt_none, pur_app, un1_one, addD_i, subD_i, negD_i, ltB_i, leB_i, gtB_i, geB_i, eqB_i, neB_i, absD_i, intD_i, intD_b, lenD_l, lenD_t, gBl_app, imm_i, imm_s, imm_b, imm_n, imm_t, imms_nil, imms_cons, Bool.and_self, Bool.and_true, Bool.true_and, asg_nm, asg_tpt, asg_tpl, asgs_nil, asgs_cons, dTup, dLst, truD, dBl, Option.map_some, Mw.gLst, decide_true, decide_false, Bool.not_true, Bool.not_false, Bool.false_and, Bool.and_false, Bool.true_or, Bool.false_or, eq_self, Int.reduceEq, Int.reduceLT, Int.reduceLE, Int.reduceNeg, n2i_0, n2i_1, n2i_2, n2i_3, n2i_4, n2i_5, n2i_6, n2i_7, n2i_8, n2i_9, n2i_10, n2i_11, n2i_12, nI])
    obtain ⟨ts, hts⟩ : ∃ ts, ts = (List.range L.length).filter (fun k => (decide ((L.getD k t0).f ≤ (i : Int)) && decide ((i : Int) ≤ (L.getD k t0).l)) && decide (0 < left.getD k 0)) := ⟨_, rfl⟩
    rw [← hts] at lc
    have tlt : ∀ k ∈ ts, k < L.length := fun k hk => by
      rw [hts] at hk
      exact List.mem_range.mp (List.mem_filter.mp hk).1
    have tlen : ts.length ≤ L.length := by
      rw [hts]
      have := List.length_filter_le (fun k => (decide ((L.getD k t0).f ≤ (i : Int)) && decide ((i : Int) ≤ (L.getD k t0).l)) && decide (0 < left.getD k 0)) (List.range L.length)
      rwa [List.length_range] at this
    have cl2 : clean [some (lsD L), some U, some (.lst (gs.map .int)), some (.lst (left.map .int)), some (.lst rows), some (nI i), some (.int (us.getD i 0)), some (.lst (ts.map nI)), some (.lst []), x9, x10, x11, none] [10] = true := by
      cases x10 <;> simp_all [okV, clean]
    have lc2 := eLc_map' (t := .nm 10) (fi := iSeq (eVar 7)) (te := (eN dTup (lCons (eChk (eOp ixD (eOp ixD (eVar 0) (eVar 10)) (eC (.int 1)))) (lCons (eChk (eVar 10)) lNil)))) (ρ := [some (lsD L), some U, some (.lst (gs.map .int)), some (.lst (left.map .int)), some (.lst rows), some (nI i), some (.int (us.getD i 0)), some (.lst (ts.map nI)), some (.lst []), x9, x10, x11, none]) (ρ1 := [some (lsD L), some U, some (.lst (gs.map .int)), some (.lst (left.map .int)), some (.lst rows), some (nI i), some (.int (us.getD i 0)), some (.lst (ts.map nI)), some (.lst []), x9, x10, x11, none])
      ts nI (fun k => p2D ((L.getD k t0).l, (k : Int))) (fun k => [some (lsD L), some U, some (.lst (gs.map .int)), some (.lst (left.map .int)), some (.lst rows), some (nI i), some (.int (us.getD i 0)), some (.lst (ts.map nI)), some (.lst []), x9, some (nI k), x11, none])
      rfl cl2 (by omega) (fun k hk => by
        refine ⟨rfl, ?_, rfl⟩
        simp -implicitDefEqProofs only [seqD_l, seqD_t, seqD_c, Nx_nx, Nx_ct, unwipe, wipeE, Tg.ids, Tg.idss, Option.getD_some, Option.getD_none, cChain_app, eChain_app, cChain3_app, eChain3_app, sAug_app, addI_i, subI_i, ↓reduceIte, if_true, if_false, Bool.false_eq_true, List.map_cons, List.map_nil, List.length_cons, List.length_nil, Nat.reduceAdd, Nat.reduceSub, Nat.reduceLeDiff, List.replicate, List.cons_append, List.nil_append, sSeq_app, sSetL_app, sSet_app, sRet_app, bind_app, eOp_app, eUn_app, eN_app, lCons_app, lNil_app, lSlot_app, eVar_app, eC_app, eChk_app, eIf_app, eNot_app, eAnd_app, eOr_app, cTru_app, cOp_app, cNot_app, cAnd_app, cOr_app, sIf_app, sAsg_app, sPar_app, sRaise_app, sMeth_app, sNx_app, sExpr_app, iSeq_app, iRng_app, eSl_app, oPart_app, eFmt_app, jNil_app, eTold_app, eCall_app, asm, setMs, List.getElem?_cons_zero, List.getElem?_cons_succ, List.set, opt_some, opt_none, pur_app, un1_one, addD_i, subD_i, negD_i, ltB_i, leB_i, gtB_i, geB_i, eqB_i, neB_i, absD_i, intD_i, intD_b, lenD_l, lenD_t, gBl_app, imm_i, imm_s, imm_b, imm_n, imm_t, imms_nil, imms_cons, Bool.and_self, Bool.and_true, Bool.true_and, asg_nm, asg_tpt, asg_tpl, asgs_nil, asgs_cons, dTup, dLst, truD, dBl, Option.map_some, Mw.gLst, decide_true, decide_false, Bool.not_true, Bool.not_false, Bool.false_and, Bool.and_false, Bool.true_or, Bool.false_or, eq_self, Int.reduceEq, Int.reduceLT, Int.reduceLE, Int.reduceNeg, n2i_0, n2i_1, n2i_2, n2i_3, n2i_4, n2i_5, n2i_6, n2i_7, n2i_8, n2i_9, n2i_10, n2i_11, n2i_12, nI, ix_lot (tlt k hk), lD, ixD_t, atI_1, p2D])
    obtain ⟨qs, pq, sx⟩ := sortX_p2 (ts.map fun k => ((L.getD k t0).l, (k : Int)))
    rw [List.map_map] at sx
    have sx : sortX (.lst (ts.map fun k => p2D ((L.getD k t0).l, (k : Int)))) = some (.lst (qs.map p2D)) := sx
    obtain ⟨l', r', n', y9, y10, y11, ei, ho', hl'⟩ := drawn_in (P := lsD L) (U := U) (G := .lst (gs.map .int)) (m := L.length) (rows := rows) (day := (i : Int)) (x7 := some (.lst (ts.map nI))) (x12 := none) qs left [] (us.getD i 0) x9 x10 x11 h4 (fun q hq => by
      obtain ⟨k, hk, rfl⟩ := List.mem_map.mp (pq.mem_iff.mp hq)
      exact ⟨k, tlt k hk, rfl⟩) h2 (by
      have := pq.length_eq
      rw [List.length_map] at this
      rw [List.length_nil]; omega)
    obtain ⟨rs, _, sr⟩ := sortX_p2 r'
    have ap := appD_ok (ds := rows) (d := .tup (rs.map p2D)) (by omega)
    simp -implicitDefEqProofs only [seqD_l, seqD_t, seqD_c, Nx_nx, Nx_ct, unwipe, wipeE, Tg.ids, Tg.idss, Option.getD_some, Option.getD_none, cChain_app, eChain_app, cChain3_app, eChain3_app, sAug_app, addI_i, subI_i, ↓reduceIte, if_true, if_false, Bool.false_eq_true, List.map_cons, List.map_nil, List.length_cons, List.length_nil, Nat.reduceAdd, Nat.reduceSub, Nat.reduceLeDiff, List.replicate, List.cons_append, List.nil_append, sSeq_app, sSetL_app, sSet_app, sRet_app, bind_app, eOp_app, eUn_app, eN_app, lCons_app, lNil_app, lSlot_app, eVar_app, eC_app, eChk_app, eIf_app, eNot_app, eAnd_app, eOr_app, cTru_app, cOp_app, cNot_app, cAnd_app, cOr_app, sIf_app, sAsg_app, sPar_app, sRaise_app, sMeth_app, sNx_app, sExpr_app, iSeq_app, iRng_app, eSl_app, oPart_app, eFmt_app, jNil_app, eTold_app, eCall_app, asm, setMs, List.getElem?_cons_zero, List.getElem?_cons_succ, List.set, opt_some, opt_none, pur_app, un1_one, addD_i, subD_i, negD_i, ltB_i, leB_i, gtB_i, geB_i, eqB_i, neB_i, absD_i, intD_i, intD_b, lenD_l, lenD_t, gBl_app, imm_i, imm_s, imm_b, imm_n, imm_t, imms_nil, imms_cons, Bool.and_self, Bool.and_true, Bool.true_and, asg_nm, asg_tpt, asg_tpl, asgs_nil, asgs_cons, dTup, dLst, truD, dBl, Option.map_some, Mw.gLst, decide_true, decide_false, Bool.not_true, Bool.not_false, Bool.false_and, Bool.and_false, Bool.true_or, Bool.false_or, eq_self, Int.reduceEq, Int.reduceLT, Int.reduceLE, Int.reduceNeg, n2i_0, n2i_1, n2i_2, n2i_3, n2i_4, n2i_5, n2i_6, n2i_7, n2i_8, n2i_9, n2i_10, n2i_11, n2i_12, nI] at lc lc2 ⊢
    simp -implicitDefEqProofs only [seqD_l, seqD_t, seqD_c, Nx_nx, Nx_ct, unwipe, wipeE, Tg.ids, Tg.idss, Option.getD_some, Option.getD_none, cChain_app, eChain_app, cChain3_app, eChain3_app, sAug_app, addI_i, subI_i, ↓reduceIte, if_true, if_false, Bool.false_eq_true, List.map_cons, List.map_nil, List.length_cons, List.length_nil, Nat.reduceAdd, Nat.reduceSub, Nat.reduceLeDiff, List.replicate, List.cons_append, List.nil_append, sSeq_app, sSetL_app, sSet_app, sRet_app, bind_app, eOp_app, eUn_app, eN_app, lCons_app, lNil_app, lSlot_app, eVar_app, eC_app, eChk_app, eIf_app, eNot_app, eAnd_app, eOr_app, cTru_app, cOp_app, cNot_app, cAnd_app, cOr_app, sIf_app, sAsg_app, sPar_app, sRaise_app, sMeth_app, sNx_app, sExpr_app, iSeq_app, iRng_app, eSl_app, oPart_app, eFmt_app, jNil_app, eTold_app, eCall_app, asm, setMs, List.getElem?_cons_zero, List.getElem?_cons_succ, List.set, opt_some, opt_none, pur_app, un1_one, addD_i, subD_i, negD_i, ltB_i, leB_i, gtB_i, geB_i, eqB_i, neB_i, absD_i, intD_i, intD_b, lenD_l, lenD_t, gBl_app, imm_i, imm_s, imm_b, imm_n, imm_t, imms_nil, imms_cons, Bool.and_self, Bool.and_true, Bool.true_and, asg_nm, asg_tpt, asg_tpl, asgs_nil, asgs_cons, dTup, dLst, truD, dBl, Option.map_some, Mw.gLst, decide_true, decide_false, Bool.not_true, Bool.not_false, Bool.false_and, Bool.and_false, Bool.true_or, Bool.false_or, eq_self, Int.reduceEq, Int.reduceLT, Int.reduceLE, Int.reduceNeg, n2i_0, n2i_1, n2i_2, n2i_3, n2i_4, n2i_5, n2i_6, n2i_7, n2i_8, n2i_9, n2i_10, n2i_11, n2i_12, lc, lc2, sx]
    simp -implicitDefEqProofs only [List.map_nil] at ei
    simp -implicitDefEqProofs only [seqD_l, seqD_t, seqD_c, Nx_nx, Nx_ct, unwipe, wipeE, Tg.ids, Tg.idss, Option.getD_some, Option.getD_none, cChain_app, eChain_app, cChain3_app, eChain3_app, sAug_app, addI_i, subI_i, ↓reduceIte, if_true, if_false, Bool.false_eq_true, List.map_cons, List.map_nil, List.length_cons, List.length_nil, Nat.reduceAdd, Nat.reduceSub, Nat.reduceLeDiff, List.replicate, List.cons_append, List.nil_append, sSeq_app, sSetL_app, sSet_app, sRet_app, bind_app, eOp_app, eUn_app, eN_app, lCons_app, lNil_app, lSlot_app, eVar_app, eC_app, eChk_app, eIf_app, eNot_app, eAnd_app, eOr_app, cTru_app, cOp_app, cNot_app, cAnd_app, cOr_app, sIf_app, sAsg_app, sPar_app, sRaise_app, sMeth_app, sNx_app, sExpr_app, iSeq_app, iRng_app, eSl_app, oPart_app, eFmt_app, jNil_app, eTold_app, eCall_app, asm, setMs, List.getElem?_cons_zero, List.getElem?_cons_succ, List.set, opt_some, opt_none, pur_app, un1_one, addD_i, subD_i, negD_i, ltB_i, leB_i, gtB_i, geB_i, eqB_i, neB_i, absD_i, intD_i, intD_b, lenD_l, lenD_t, gBl_app, imm_i, imm_s, imm_b, imm_n, imm_t, imms_nil, imms_cons, Bool.and_self, Bool.and_true, Bool.true_and, asg_nm, asg_tpt, asg_tpl, asgs_nil, asgs_cons, dTup, dLst, truD, dBl, Option.map_some, Mw.gLst, decide_true, decide_false, Bool.not_true, Bool.not_false, Bool.false_and, Bool.and_false, Bool.true_or, Bool.false_or, eq_self, Int.reduceEq, Int.reduceLT, Int.reduceLE, Int.reduceNeg, n2i_0, n2i_1, n2i_2, n2i_3, n2i_4, n2i_5, n2i_6, n2i_7, n2i_8, n2i_9, n2i_10, n2i_11, n2i_12, ei, sr, tupleD_l (imms_p2 rs), imms_p2, ap]
    exact ⟨_, _, _, _, _, _, _, _, _, rfl, by rw [List.length_append, List.length_singleton, h1], hl', by rw [imms_append, h3]; simp [imms_p2], ho'⟩) (ρ := [some (lsD L), some U, some (.lst (gs.map .int)), some (.lst (gs.map .int)), some (.lst []), none, none, none, none, none, none, none, none]) ⟨[], gs, none, none, none, none, none, none, none, rfl, rfl, hg, rfl, rfl⟩
  subst hr
  refine ⟨rows, left, runFn_ret (ρ' := [some (lsD L), some U, some (.lst (gs.map .int)), none, some (.lst rows), x5, x6, x7, x8, x9, x10, x11, none]) rfl ?_ rfl⟩
  unfold b_drawn
  simp -implicitDefEqProofs only [seqD_l, seqD_t, seqD_c, Nx_nx, Nx_ct, unwipe, wipeE, Tg.ids, Tg.idss, Option.getD_some, Option.getD_none, cChain_app, eChain_app, cChain3_app, eChain3_app, sAug_app, addI_i, subI_i, ↓reduceIte, if_true, if_false, Bool.false_eq_true, List.map_cons, List.map_nil, List.length_cons, List.length_nil, Nat.reduceAdd, Nat.reduceSub, Nat.reduceLeDiff, List.replicate, List.cons_append, List.nil_append, sSeq_app, sSetL_app, sSet_app, sRet_app, bind_app, eOp_app, eUn_app, eN_app, lCons_app, lNil_app, lSlot_app, eVar_app, eC_app, eChk_app, eIf_app, eNot_app, eAnd_app, eOr_app, cTru_app, cOp_app, cNot_app, cAnd_app, cOr_app, sIf_app, sAsg_app, sPar_app, sRaise_app, sMeth_app, sNx_app, sExpr_app, iSeq_app, iRng_app, eSl_app, oPart_app, eFmt_app, jNil_app, eTold_app, eCall_app, asm, setMs, List.getElem?_cons_zero, List.getElem?_cons_succ, List.set, opt_some, opt_none, pur_app, un1_one, addD_i, subD_i, negD_i, ltB_i, leB_i, gtB_i, geB_i, eqB_i, neB_i, absD_i, intD_i, intD_b, lenD_l, lenD_t, gBl_app, imm_i, imm_s, imm_b, imm_n, imm_t, imms_nil, imms_cons, Bool.and_self, Bool.and_true, Bool.true_and, asg_nm, asg_tpt, asg_tpl, asgs_nil, asgs_cons, dTup, dLst, truD, dBl, Option.map_some, Mw.gLst, decide_true, decide_false, Bool.not_true, Bool.not_false, Bool.false_and, Bool.and_false, Bool.true_or, Bool.false_or, eq_self, Int.reduceEq, Int.reduceLT, Int.reduceLE, Int.reduceNeg, n2i_0, n2i_1, n2i_2, n2i_3, n2i_4, n2i_5, n2i_6, n2i_7, n2i_8, n2i_9, n2i_10, n2i_11, n2i_12, listD_l (imms_ints gs), en, e, tupleD_l himm, eTake_app, imm_l]
theorem served_ok {L : List Lot} (hL : L.length ≤ 30) {us : List Int} (hu : us.length ≤ 60) {U : D} (hU : U = .tup (us.map .int) ∨ U = .lst (us.map .int)) {gs : List Int} (hg : gs.length = L.length) :
    ∃ v : Int, g_most_served [lsD L, U, .lst (gs.map .int)] = .ok (.int v) [] := by
  obtain ⟨rows, left, e⟩ := drawn_ok hL hu hU hg
  refine ⟨gs.sum - left.sum, runFn_ret (ρ' := [some (lsD L), some U, some (.lst (gs.map .int))]) rfl ?_ rfl⟩
  unfold b_most_served
  simp -implicitDefEqProofs only [seqD_l, seqD_t, seqD_c, Nx_nx, Nx_ct, unwipe, wipeE, Tg.ids, Tg.idss, Option.getD_some, Option.getD_none, cChain_app, eChain_app, cChain3_app, eChain3_app, sAug_app, addI_i, subI_i, ↓reduceIte, if_true, if_false, Bool.false_eq_true, List.map_cons, List.map_nil, List.length_cons, List.length_nil, Nat.reduceAdd, Nat.reduceSub, Nat.reduceLeDiff, List.replicate, List.cons_append, List.nil_append, sSeq_app, sSetL_app, sSet_app, sRet_app, bind_app, eOp_app, eUn_app, eN_app, lCons_app, lNil_app, lSlot_app, eVar_app, eC_app, eChk_app, eIf_app, eNot_app, eAnd_app, eOr_app, cTru_app, cOp_app, cNot_app, cAnd_app, cOr_app, sIf_app, sAsg_app, sPar_app, sRaise_app, sMeth_app, sNx_app, sExpr_app, iSeq_app, iRng_app, eSl_app, oPart_app, eFmt_app, jNil_app, eTold_app, eCall_app, asm, setMs, List.getElem?_cons_zero, List.getElem?_cons_succ, List.set, opt_some, opt_none, pur_app, un1_one, addD_i, subD_i, negD_i, ltB_i, leB_i, gtB_i, geB_i, eqB_i, neB_i, absD_i, intD_i, intD_b, lenD_l, lenD_t, gBl_app, imm_i, imm_s, imm_b, imm_n, imm_t, imms_nil, imms_cons, Bool.and_self, Bool.and_true, Bool.true_and, asg_nm, asg_tpt, asg_tpl, asgs_nil, asgs_cons, dTup, dLst, truD, dBl, Option.map_some, Mw.gLst, decide_true, decide_false, Bool.not_true, Bool.not_false, Bool.false_and, Bool.and_false, Bool.true_or, Bool.false_or, eq_self, Int.reduceEq, Int.reduceLT, Int.reduceLE, Int.reduceNeg, n2i_0, n2i_1, n2i_2, n2i_3, n2i_4, n2i_5, n2i_6, n2i_7, n2i_8, n2i_9, n2i_10, n2i_11, n2i_12, sumX_l, e, ixD_t, atI_1]
theorem given_ok {L : List Lot} (hL : L.length ≤ 30) : g_given_of [lsD L] = .ok (.lst ((L.map (·.g)).map .int)) [] := by
  have lc := eLc_map' (t := .tp [.nm 1, .nm 1, .nm 2, .nm 1]) (fi := iSeq (eVar 0)) (te := eChk (eVar 2)) (ρ := [some (lsD L), none, none]) (ρ1 := [some (lsD L), none, none]) L lD (fun t => .int t.g) (fun t => [some (lsD L), some (.int t.p), some (.int t.g)]) rfl rfl (by omega) (fun t ht => ⟨by simp [asg, asgs, wipeE, Tg.ids, Tg.idss, lD], by simp -implicitDefEqProofs only [seqD_l, seqD_t, seqD_c, Nx_nx, Nx_ct, unwipe, wipeE, Tg.ids, Tg.idss, Option.getD_some, Option.getD_none, cChain_app, eChain_app, cChain3_app, eChain3_app, sAug_app, addI_i, subI_i, ↓reduceIte, if_true, if_false, Bool.false_eq_true, List.map_cons, List.map_nil, List.length_cons, List.length_nil, Nat.reduceAdd, Nat.reduceSub, Nat.reduceLeDiff, List.replicate, List.cons_append, List.nil_append, sSeq_app, sSetL_app, sSet_app, sRet_app, bind_app, eOp_app, eUn_app, eN_app, lCons_app, lNil_app, lSlot_app, eVar_app, eC_app, eChk_app, eIf_app, eNot_app, eAnd_app, eOr_app, cTru_app, cOp_app, cNot_app, cAnd_app, cOr_app, sIf_app, sAsg_app, sPar_app, sRaise_app, sMeth_app, sNx_app, sExpr_app, iSeq_app, iRng_app, eSl_app, oPart_app, eFmt_app, jNil_app, eTold_app, eCall_app, asm, setMs, List.getElem?_cons_zero, List.getElem?_cons_succ, List.set, opt_some, opt_none, pur_app, un1_one, addD_i, subD_i, negD_i, ltB_i, leB_i, gtB_i, geB_i, eqB_i, neB_i, absD_i, intD_i, intD_b, lenD_l, lenD_t, gBl_app, imm_i, imm_s, imm_b, imm_n, imm_t, imms_nil, imms_cons, Bool.and_self, Bool.and_true, Bool.true_and, asg_nm, asg_tpt, asg_tpl, asgs_nil, asgs_cons, dTup, dLst, truD, dBl, Option.map_some, Mw.gLst, decide_true, decide_false, Bool.not_true, Bool.not_false, Bool.false_and, Bool.and_false, Bool.true_or, Bool.false_or, eq_self, Int.reduceEq, Int.reduceLT, Int.reduceLE, Int.reduceNeg, n2i_0, n2i_1, n2i_2, n2i_3, n2i_4, n2i_5, n2i_6, n2i_7, n2i_8, n2i_9, n2i_10, n2i_11, n2i_12], rfl⟩)
  refine runFn_ret (ρ' := [some (lsD L), none, none]) rfl ?_ rfl
  unfold b_given_of
  rw [List.map_map]
  simp -implicitDefEqProofs only [seqD_l, seqD_t, seqD_c, Nx_nx, Nx_ct, unwipe, wipeE, Tg.ids, Tg.idss, Option.getD_some, Option.getD_none, cChain_app, eChain_app, cChain3_app, eChain3_app, sAug_app, addI_i, subI_i, ↓reduceIte, if_true, if_false, Bool.false_eq_true, List.map_cons, List.map_nil, List.length_cons, List.length_nil, Nat.reduceAdd, Nat.reduceSub, Nat.reduceLeDiff, List.replicate, List.cons_append, List.nil_append, sSeq_app, sSetL_app, sSet_app, sRet_app, bind_app, eOp_app, eUn_app, eN_app, lCons_app, lNil_app, lSlot_app, eVar_app, eC_app, eChk_app, eIf_app, eNot_app, eAnd_app, eOr_app, cTru_app, cOp_app, cNot_app, cAnd_app, cOr_app, sIf_app, sAsg_app, sPar_app, sRaise_app, sMeth_app, sNx_app, sExpr_app, iSeq_app, iRng_app, eSl_app, oPart_app, eFmt_app, jNil_app, eTold_app, eCall_app, asm, setMs, List.getElem?_cons_zero, List.getElem?_cons_succ, List.set, opt_some, opt_none, pur_app, un1_one, addD_i, subD_i, negD_i, ltB_i, leB_i, gtB_i, geB_i, eqB_i, neB_i, absD_i, intD_i, intD_b, lenD_l, lenD_t, gBl_app, imm_i, imm_s, imm_b, imm_n, imm_t, imms_nil, imms_cons, Bool.and_self, Bool.and_true, Bool.true_and, asg_nm, asg_tpt, asg_tpl, asgs_nil, asgs_cons, dTup, dLst, truD, dBl, Option.map_some, Mw.gLst, decide_true, decide_false, Bool.not_true, Bool.not_false, Bool.false_and, Bool.and_false, Bool.true_or, Bool.false_or, eq_self, Int.reduceEq, Int.reduceLT, Int.reduceLE, Int.reduceNeg, n2i_0, n2i_1, n2i_2, n2i_3, n2i_4, n2i_5, n2i_6, n2i_7, n2i_8, n2i_9, n2i_10, n2i_11, n2i_12, lc]
  rfl
theorem cheap_in {L : List Lot} (hL : L.length ≤ 30) {us : List Int} (hu : us.length ≤ 60) {x7 : Option D} : ∀ (qs : List (Int × Int)) (given : List Int) (served : Int) (x4 x5 x6 : Option D), (∀ q ∈ qs, ∃ k : Nat, k < L.length ∧ q.2 = (k : Int)) → given.length = L.length →
    ∃ (given' : List Int) (served' : Int) (y4 y5 y6 : Option D), (sFor (.tp [(.nm 4), (.nm 5)]) (sSeq (sSetL 2 (eChk (eOp ixD (eOp ixD (eVar 0) (eVar 5)) (eC (.int 2)))) (eVar 5))
    (sSeq (sSet 6 (eCall [none, none, none] g_most_served (lCons (eVar 0) (lCons (eVar 1) (lCons (eVar 2) lNil)))))
    (sSeq (sSetL 2 (eOp subD (eVar 6) (eVar 3)) (eVar 5))
    (sSet 3 (eChk (eVar 6))))))) (qs.map p2D) [some (lsD L), some (usD us), some (.lst (given.map .int)), some (.int served), x4, x5, x6, x7] = .ok .nx [some (lsD L), some (usD us), some (.lst (given'.map .int)), some (.int served'), y4, y5, y6, x7]
  | [], given, served, x4, x5, x6, _, _ => ⟨given, served, x4, x5, x6, rfl⟩
  | q :: qs, given, served, x4, x5, x6, hq, hg => by
    obtain ⟨k, hk, ek⟩ := hq q List.mem_cons_self
    have st := setLD_ok (ds := given.map D.int) (k := k) (by rw [List.length_map]; omega) (.int (L.getD k t0).g)
    have sm : (given.map D.int).set k (.int (L.getD k t0).g) = (given.set k (L.getD k t0).g).map .int := by rw [List.map_set]
    rw [sm] at st
    obtain ⟨v, ev⟩ := served_ok hL hu (U := usD us) (.inl rfl) (gs := given.set k (L.getD k t0).g) (by rw [List.length_set, hg])
    have st2 := setLD_ok (ds := (given.set k (L.getD k t0).g).map D.int) (k := k) (by rw [List.length_map, List.length_set]; omega) (.int (v - served))
    have sm2 : ((given.set k (L.getD k t0).g).map D.int).set k (.int (v - served)) = ((given.set k (L.getD k t0).g).set k (v - served)).map .int := by rw [← List.map_set]
    rw [sm2] at st2
    obtain ⟨g', s', y4, y5, y6, e⟩ := cheap_in hL hu (x7 := x7) qs ((given.set k (L.getD k t0).g).set k (v - served)) v (some (.int q.1)) (some (.int (k : Int))) (some (.int v)) (fun q' hq' => hq q' (List.mem_cons_of_mem _ hq')) (by rw [List.length_set, List.length_set, hg])
    refine ⟨g', s', y4, y5, y6, ?_⟩
    rw [← e, List.map_cons, sFor]
    simp -implicitDefEqProofs only [seqD_l, seqD_t, seqD_c, Nx_nx, Nx_ct, unwipe, wipeE, Tg.ids, Tg.idss, Option.getD_some, Option.getD_none, cChain_app, eChain_app, cChain3_app, eChain3_app, sAug_app, addI_i, subI_i, ↓reduceIte, if_true, if_false, Bool.false_eq_true, List.map_cons, List.map_nil, List.length_cons, List.length_nil, Nat.reduceAdd, Nat.reduceSub, Nat.reduceLeDiff, List.replicate, List.cons_append, List.nil_append, sSeq_app, sSetL_app, sSet_app, sRet_app, bind_app, eOp_app, eUn_app, eN_app, lCons_app, lNil_app, lSlot_app, eVar_app, eC_app, eChk_app, eIf_app, eNot_app, eAnd_app, eOr_app, cTru_app, cOp_app, cNot_app, cAnd_app, cOr_app, sIf_app, sAsg_app, sPar_app, sRaise_app, sMeth_app, sNx_app, sExpr_app, iSeq_app, iRng_app, eSl_app, oPart_app, eFmt_app, jNil_app, eTold_app, eCall_app, asm, setMs, List.getElem?_cons_zero, List.getElem?_cons_succ, List.set, opt_some, opt_none, pur_app, un1_one, addD_i, subD_i, negD_i, ltB_i, leB_i, gtB_i, geB_i, eqB_i, neB_i, absD_i, intD_i, intD_b, lenD_l, lenD_t, gBl_app, imm_i, imm_s, imm_b, imm_n, imm_t, imms_nil, imms_cons, Bool.and_self, Bool.and_true, Bool.true_and, asg_nm, asg_tpt, asg_tpl, asgs_nil, asgs_cons, dTup, dLst, truD, dBl, Option.map_some, Mw.gLst, decide_true, decide_false, Bool.not_true, Bool.not_false, Bool.false_and, Bool.and_false, Bool.true_or, Bool.false_or, eq_self, Int.reduceEq, Int.reduceLT, Int.reduceLE, Int.reduceNeg, n2i_0, n2i_1, n2i_2, n2i_3, n2i_4, n2i_5, n2i_6, n2i_7, n2i_8, n2i_9, n2i_10, n2i_11, n2i_12, p2D, ek, ix_lot hk, lD, ixD_t, atI_2, st, ev, st2]
theorem cheap_ok {L : List Lot} (h : Lots L) {us : List Int} (hu : Uses us) : g_cheapest_grams [lsD L, usD us] = .err "Missing" [] ∨ ∃ zs : List Int, g_cheapest_grams [lsD L, usD us] = .ok (.tup (zs.map .int)) [] := by
  have gv := given_ok h.len
  obtain ⟨v, ev⟩ := served_ok h.len hu.len (U := usD us) (.inl rfl) (gs := L.map (·.g)) (by rw [List.length_map])
  have sk := stock_ok h hu
  have su : sumX (usD us) = some (.int us.sum) := sumX_t us
  by_cases c : v < us.sum
  · left
    refine runFn_err (ρ' := [some (lsD L), some (usD us), none, none, none, none, none, none]) rfl ?_ rfl
    unfold b_cheapest_grams
    simp -implicitDefEqProofs only [seqD_l, seqD_t, seqD_c, Nx_nx, Nx_ct, unwipe, wipeE, Tg.ids, Tg.idss, Option.getD_some, Option.getD_none, cChain_app, eChain_app, cChain3_app, eChain3_app, sAug_app, addI_i, subI_i, ↓reduceIte, if_true, if_false, Bool.false_eq_true, List.map_cons, List.map_nil, List.length_cons, List.length_nil, Nat.reduceAdd, Nat.reduceSub, Nat.reduceLeDiff, List.replicate, List.cons_append, List.nil_append, sSeq_app, sSetL_app, sSet_app, sRet_app, bind_app, eOp_app, eUn_app, eN_app, lCons_app, lNil_app, lSlot_app, eVar_app, eC_app, eChk_app, eIf_app, eNot_app, eAnd_app, eOr_app, cTru_app, cOp_app, cNot_app, cAnd_app, cOr_app, sIf_app, sAsg_app, sPar_app, sRaise_app, sMeth_app, sNx_app, sExpr_app, iSeq_app, iRng_app, eSl_app, oPart_app, eFmt_app, jNil_app, eTold_app, eCall_app, asm, setMs, List.getElem?_cons_zero, List.getElem?_cons_succ, List.set, opt_some, opt_none, pur_app, un1_one, addD_i, subD_i, negD_i, ltB_i, leB_i, gtB_i, geB_i, eqB_i, neB_i, absD_i, intD_i, intD_b, lenD_l, lenD_t, gBl_app, imm_i, imm_s, imm_b, imm_n, imm_t, imms_nil, imms_cons, Bool.and_self, Bool.and_true, Bool.true_and, asg_nm, asg_tpt, asg_tpl, asgs_nil, asgs_cons, dTup, dLst, truD, dBl, Option.map_some, Mw.gLst, decide_true, decide_false, Bool.not_true, Bool.not_false, Bool.false_and, Bool.and_false, Bool.true_or, Bool.false_or, eq_self, Int.reduceEq, Int.reduceLT, Int.reduceLE, Int.reduceNeg, n2i_0, n2i_1, n2i_2, n2i_3, n2i_4, n2i_5, n2i_6, n2i_7, n2i_8, n2i_9, n2i_10, n2i_11, n2i_12, sk, gv, ev, su, c]
  · right
    have ll : lenD (lsD L) = some (.int (L.length : Int)) := by unfold lsD; rw [lenD_t, List.length_map]
    have ml := mulX_l 0 (n := L.length) (by have := h.len; omega)
    have lc := eLc_map' (t := .tp [.nm 5, .nm 7]) (fi := (iRng enum1 (lCons (eVar 0) lNil))) (te := (eN dTup (lCons (eChk (eOp ixD (eVar 7) (eC (.int 3)))) (lCons (eChk (eVar 5)) lNil)))) (ρ := [some (lsD L), some (usD us), some (.lst ((List.replicate L.length (0 : Int)).map .int)), some (.int 0), none, none, none, none]) (ρ1 := [some (lsD L), some (usD us), some (.lst ((List.replicate L.length (0 : Int)).map .int)), some (.int 0), none, none, none, none])
      (List.range L.length) (fun k => D.tup [nI k, lD (L.getD k t0)]) (fun k => p2D ((L.getD k t0).p, (k : Int))) (fun k => [some (lsD L), some (usD us), some (.lst ((List.replicate L.length (0 : Int)).map .int)), some (.int 0), none, some (nI k), none, some (lD (L.getD k t0))])
      (by simp -implicitDefEqProofs only [seqD_l, seqD_t, seqD_c, Nx_nx, Nx_ct, unwipe, wipeE, Tg.ids, Tg.idss, Option.getD_some, Option.getD_none, cChain_app, eChain_app, cChain3_app, eChain3_app, sAug_app, addI_i, subI_i, ↓reduceIte, if_true, if_false, Bool.false_eq_true, List.map_cons, List.map_nil, List.length_cons, List.length_nil, Nat.reduceAdd, Nat.reduceSub, Nat.reduceLeDiff, List.replicate, List.cons_append, List.nil_append, sSeq_app, sSetL_app, sSet_app, sRet_app, bind_app, eOp_app, eUn_app, eN_app, lCons_app, lNil_app, lSlot_app, eVar_app, eC_app, eChk_app, eIf_app, eNot_app, eAnd_app, eOr_app, cTru_app, cOp_app, cNot_app, cAnd_app, cOr_app, sIf_app, sAsg_app, sPar_app, sRaise_app, sMeth_app, sNx_app, sExpr_app, iSeq_app, iRng_app, eSl_app, oPart_app, eFmt_app, jNil_app, eTold_app, eCall_app, asm, setMs, List.getElem?_cons_zero, List.getElem?_cons_succ, List.set, opt_some, opt_none, pur_app, un1_one, addD_i, subD_i, negD_i, ltB_i, leB_i, gtB_i, geB_i, eqB_i, neB_i, absD_i, intD_i, intD_b, lenD_l, lenD_t, gBl_app, imm_i, imm_s, imm_b, imm_n, imm_t, imms_nil, imms_cons, Bool.and_self, Bool.and_true, Bool.true_and, asg_nm, asg_tpt, asg_tpl, asgs_nil, asgs_cons, dTup, dLst, truD, dBl, Option.map_some, Mw.gLst, decide_true, decide_false, Bool.not_true, Bool.not_false, Bool.false_and, Bool.and_false, Bool.true_or, Bool.false_or, eq_self, Int.reduceEq, Int.reduceLT, Int.reduceLE, Int.reduceNeg, n2i_0, n2i_1, n2i_2, n2i_3, n2i_4, n2i_5, n2i_6, n2i_7, n2i_8, n2i_9, n2i_10, n2i_11, n2i_12, enum_lots]) rfl (by rw [List.length_range]; have := h.len; omega) (fun k hk => by
        refine ⟨by simp [asg, asgs, wipeE, Tg.ids, Tg.idss, nI, lD], ?_, rfl⟩
        simp -implicitDefEqProofs only [seqD_l, seqD_t, seqD_c, Nx_nx, Nx_ct, unwipe, wipeE, Tg.ids, Tg.idss, Option.getD_some, Option.getD_none, cChain_app, eChain_app, cChain3_app, eChain3_app, sAug_app, addI_i, subI_i, ↓reduceIte, if_true, if_false, Bool.false_eq_true, List.map_cons, List.map_nil, List.length_cons, List.length_nil, Nat.reduceAdd, Nat.reduceSub, Nat.reduceLeDiff, List.replicate, List.cons_append, List.nil_append, sSeq_app, sSetL_app, sSet_app, sRet_app, bind_app, eOp_app, eUn_app, eN_app, lCons_app, lNil_app, lSlot_app, eVar_app, eC_app, eChk_app, eIf_app, eNot_app, eAnd_app, eOr_app, cTru_app, cOp_app, cNot_app, cAnd_app, cOr_app, sIf_app, sAsg_app, sPar_app, sRaise_app, sMeth_app, sNx_app, sExpr_app, iSeq_app, iRng_app, eSl_app, oPart_app, eFmt_app, jNil_app, eTold_app, eCall_app, asm, setMs, List.getElem?_cons_zero, List.getElem?_cons_succ, List.set, opt_some, opt_none, pur_app, un1_one, addD_i, subD_i, negD_i, ltB_i, leB_i, gtB_i, geB_i, eqB_i, neB_i, absD_i, intD_i, intD_b, lenD_l, lenD_t, gBl_app, imm_i, imm_s, imm_b, imm_n, imm_t, imms_nil, imms_cons, Bool.and_self, Bool.and_true, Bool.true_and, asg_nm, asg_tpt, asg_tpl, asgs_nil, asgs_cons, dTup, dLst, truD, dBl, Option.map_some, Mw.gLst, decide_true, decide_false, Bool.not_true, Bool.not_false, Bool.false_and, Bool.and_false, Bool.true_or, Bool.false_or, eq_self, Int.reduceEq, Int.reduceLT, Int.reduceLE, Int.reduceNeg, n2i_0, n2i_1, n2i_2, n2i_3, n2i_4, n2i_5, n2i_6, n2i_7, n2i_8, n2i_9, n2i_10, n2i_11, n2i_12, nI, lD, ixD_t, atI_3, p2D])
    obtain ⟨qs, pq, sx⟩ := sortX_p2 ((List.range L.length).map fun k => ((L.getD k t0).p, (k : Int)))
    rw [List.map_map] at sx
    have sx : sortX (.lst ((List.range L.length).map fun k => p2D ((L.getD k t0).p, (k : Int)))) = some (.lst (qs.map p2D)) := sx
    obtain ⟨g', s', y4, y5, y6, e⟩ := cheap_in h.len hu.len (x7 := none) qs (List.replicate L.length 0) 0 none none none (fun q hq => by
      obtain ⟨k, hk, rfl⟩ := List.mem_map.mp (pq.mem_iff.mp hq)
      exact ⟨k, List.mem_range.mp hk, rfl⟩) (by rw [List.length_replicate])
    refine ⟨g', runFn_ret (ρ' := [some (lsD L), some (usD us), some (.lst (g'.map .int)), some (.int s'), y4, y5, y6, none]) rfl ?_ rfl⟩
    obtain ⟨z0, hz0⟩ : ∃ z0, z0 = (List.replicate L.length (0 : Int)).map D.int := ⟨_, rfl⟩
    rw [← hz0] at ml lc e
    unfold b_cheapest_grams
    simp -implicitDefEqProofs only [seqD_l, seqD_t, seqD_c, Nx_nx, Nx_ct, unwipe, wipeE, Tg.ids, Tg.idss, Option.getD_some, Option.getD_none, cChain_app, eChain_app, cChain3_app, eChain3_app, sAug_app, addI_i, subI_i, ↓reduceIte, if_true, if_false, Bool.false_eq_true, List.map_cons, List.map_nil, List.length_cons, List.length_nil, Nat.reduceAdd, Nat.reduceSub, Nat.reduceLeDiff, List.replicate, List.cons_append, List.nil_append, sSeq_app, sSetL_app, sSet_app, sRet_app, bind_app, eOp_app, eUn_app, eN_app, lCons_app, lNil_app, lSlot_app, eVar_app, eC_app, eChk_app, eIf_app, eNot_app, eAnd_app, eOr_app, cTru_app, cOp_app, cNot_app, cAnd_app, cOr_app, sIf_app, sAsg_app, sPar_app, sRaise_app, sMeth_app, sNx_app, sExpr_app, iSeq_app, iRng_app, eSl_app, oPart_app, eFmt_app, jNil_app, eTold_app, eCall_app, asm, setMs, List.getElem?_cons_zero, List.getElem?_cons_succ, List.set, opt_some, opt_none, pur_app, un1_one, addD_i, subD_i, negD_i, ltB_i, leB_i, gtB_i, geB_i, eqB_i, neB_i, absD_i, intD_i, intD_b, lenD_l, lenD_t, gBl_app, imm_i, imm_s, imm_b, imm_n, imm_t, imms_nil, imms_cons, Bool.and_self, Bool.and_true, Bool.true_and, asg_nm, asg_tpt, asg_tpl, asgs_nil, asgs_cons, dTup, dLst, truD, dBl, Option.map_some, Mw.gLst, decide_true, decide_false, Bool.not_true, Bool.not_false, Bool.false_and, Bool.and_false, Bool.true_or, Bool.false_or, eq_self, Int.reduceEq, Int.reduceLT, Int.reduceLE, Int.reduceNeg, n2i_0, n2i_1, n2i_2, n2i_3, n2i_4, n2i_5, n2i_6, n2i_7, n2i_8, n2i_9, n2i_10, n2i_11, n2i_12, sk, gv, ev, su, c, ll, ml, lc, sx, e, tupleD_l (imms_ints g')]
theorem star_t (l : List Int) : immsOf (.tup (l.map .int)) = some (l.map .int) := by
  unfold immsOf
  show (if D.imms (l.map .int) then _ else _) = _
  rw [if_pos (imms_ints l)]
theorem star_l (l : List Int) : immsOf (.lst (l.map .int)) = some (l.map .int) := by
  unfold immsOf
  show (if D.imms (l.map .int) then _ else _) = _
  rw [if_pos (imms_ints l)]
theorem short_ok {L : List Lot} (hL : L.length ≤ 30) {us : List Int} (hu : us.length ≤ 60) {gs : List Int} (hg : gs.length = L.length) :
    ∃ ds : List Nat, g_short_days [lsD L, usD us, .lst (gs.map .int)] = .ok (.lst (ds.map nI)) [] ∧ ∀ d ∈ ds, d < us.length := by
  obtain ⟨v, ev⟩ := served_ok hL hu (U := usD us) (.inl rfl) hg
  have en := enum_ints (U := usD us) (us := us) (.inl rfl)
  obtain ⟨ρ', e, ds, x5, x6, x7, hr, hd, hlen⟩ := sFor_range (t := .tp [.nm 5, .nm 6]) (b := (sIf (cOp gtB (eVar 6) (eC (.int 0))) (sSeq (sSet 7 (eN dLst (lStar (eSl (eVar 1) (M.pur none) (oPart (eVar 5))) (lCons (eOp subD (eVar 6) (eC (.int 1))) (lStar (eSl (eVar 1) (oPart (eOp addD (eVar 5) (eC (.int 1)))) (M.pur none)) lNil)))))
    (sIf (cOp eqB (eCall [none, none, none] g_most_served (lCons (eVar 0) (lCons (eVar 7) (lCons (eVar 2) lNil)))) (eVar 3)) (sMeth 4 (eChk (eVar 5)) appD) sNx)) sNx)) (fun i => D.tup [nI i, .int (us.getD i 0)]) (fun i ρ => ∃ (ds : List Nat) (x5 x6 x7 : Option D), ρ = [some (lsD L), some (usD us), some (.lst (gs.map .int)), some (.int v), some (.lst (ds.map nI)), x5, x6, x7] ∧ (∀ d ∈ ds, d < us.length) ∧ ds.length ≤ i) us.length (fun i hi ρ hr => by
    obtain ⟨ds, x5, x6, x7, rfl, h1, h2⟩ := hr
    refine ⟨_, rfl, ?_⟩
    by_cases c : 0 < us.getD i 0
    · have s1 : slD (usD us) none (some (i : Int)) = some (.tup ((us.take i).map .int)) := by
        unfold usD
        rw [slT_to (imms_ints us), List.map_take]
      have s2 : slD (usD us) (some ((i : Int) + 1)) none = some (.tup ((us.drop (i + 1)).map .int)) := by
        have := slT_from (imms_ints us) (i + 1)
        simp -implicitDefEqProofs only [Int.natCast_add, Int.natCast_one] at this
        unfold usD
        rw [this, List.map_drop]
      obtain ⟨fs, hfs⟩ : ∃ fs, fs = us.take i ++ (us.getD i 0 - 1) :: us.drop (i + 1) := ⟨_, rfl⟩
      have lf : fs.length ≤ 60 := by rw [hfs, List.length_append, List.length_cons, List.length_take, List.length_drop]; omega
      have ef : (us.take i).map D.int ++ D.int (us.getD i 0 - 1) :: ((us.drop (i + 1)).map D.int ++ []) = fs.map .int := by rw [hfs, List.map_append, List.map_cons, List.append_nil]
      have lz : (fs.map D.int).length ≤ 16777216 := by rw [List.length_map]; omega
      obtain ⟨v2, ev2⟩ := served_ok hL lf (U := .lst (fs.map .int)) (.inr rfl) hg
      by_cases q : v2 = v
      · have ap : appD (ds.map nI) (.int (i : Int)) = some ((ds ++ [i]).map nI) := by
          rw [appD_ok (by rw [List.length_map]; omega), List.map_append]; rfl
        simp -implicitDefEqProofs only [seqD_l, seqD_t, seqD_c, Nx_nx, Nx_ct, unwipe, wipeE, Tg.ids, Tg.idss, Option.getD_some, Option.getD_none, cChain_app, eChain_app, cChain3_app, eChain3_app, sAug_app, addI_i, subI_i, ↓reduceIte, if_true, if_false, Bool.false_eq_true, List.map_cons, List.map_nil, List.length_cons, List.length_nil, Nat.reduceAdd, Nat.reduceSub, Nat.reduceLeDiff, List.replicate, List.cons_append, List.nil_append, sSeq_app, sSetL_app, sSet_app, sRet_app, bind_app, eOp_app, eUn_app, eN_app, lCons_app, lNil_app, lSlot_app, eVar_app, eC_app, eChk_app, eIf_app, eNot_app, eAnd_app, eOr_app, cTru_app, cOp_app, cNot_app, cAnd_app, cOr_app, sIf_app, sAsg_app, sPar_app, sRaise_app, sMeth_app, sNx_app, sExpr_app, iSeq_app, iRng_app, eSl_app, oPart_app, eFmt_app, jNil_app, eTold_app, eCall_app, asm, setMs, List.getElem?_cons_zero, List.getElem?_cons_succ, List.set, opt_some, opt_none, pur_app, un1_one, addD_i, subD_i, negD_i, ltB_i, leB_i, gtB_i, geB_i, eqB_i, neB_i, absD_i, intD_i, intD_b, lenD_l, lenD_t, gBl_app, imm_i, imm_s, imm_b, imm_n, imm_t, imms_nil, imms_cons, Bool.and_self, Bool.and_true, Bool.true_and, asg_nm, asg_tpt, asg_tpl, asgs_nil, asgs_cons, dTup, dLst, truD, dBl, Option.map_some, Mw.gLst, decide_true, decide_false, Bool.not_true, Bool.not_false, Bool.false_and, Bool.and_false, Bool.true_or, Bool.false_or, eq_self, Int.reduceEq, Int.reduceLT, Int.reduceLE, Int.reduceNeg, n2i_0, n2i_1, n2i_2, n2i_3, n2i_4, n2i_5, n2i_6, n2i_7, n2i_8, n2i_9, n2i_10, n2i_11, n2i_12, nI, c, lStar_app, s1, s2, intO, star_t]
        rw [ef]
        simp -implicitDefEqProofs only [seqD_l, seqD_t, seqD_c, Nx_nx, Nx_ct, unwipe, wipeE, Tg.ids, Tg.idss, Option.getD_some, Option.getD_none, cChain_app, eChain_app, cChain3_app, eChain3_app, sAug_app, addI_i, subI_i, ↓reduceIte, if_true, if_false, Bool.false_eq_true, List.map_cons, List.map_nil, List.length_cons, List.length_nil, Nat.reduceAdd, Nat.reduceSub, Nat.reduceLeDiff, List.replicate, List.cons_append, List.nil_append, sSeq_app, sSetL_app, sSet_app, sRet_app, bind_app, eOp_app, eUn_app, eN_app, lCons_app, lNil_app, lSlot_app, eVar_app, eC_app, eChk_app, eIf_app, eNot_app, eAnd_app, eOr_app, cTru_app, cOp_app, cNot_app, cAnd_app, cOr_app, sIf_app, sAsg_app, sPar_app, sRaise_app, sMeth_app, sNx_app, sExpr_app, iSeq_app, iRng_app, eSl_app, oPart_app, eFmt_app, jNil_app, eTold_app, eCall_app, asm, setMs, List.getElem?_cons_zero, List.getElem?_cons_succ, List.set, opt_some, opt_none, pur_app, un1_one, addD_i, subD_i, negD_i, ltB_i, leB_i, gtB_i, geB_i, eqB_i, neB_i, absD_i, intD_i, intD_b, lenD_l, lenD_t, gBl_app, imm_i, imm_s, imm_b, imm_n, imm_t, imms_nil, imms_cons, Bool.and_self, Bool.and_true, Bool.true_and, asg_nm, asg_tpt, asg_tpl, asgs_nil, asgs_cons, dTup, dLst, truD, dBl, Option.map_some, Mw.gLst, decide_true, decide_false, Bool.not_true, Bool.not_false, Bool.false_and, Bool.and_false, Bool.true_or, Bool.false_or, eq_self, Int.reduceEq, Int.reduceLT, Int.reduceLE, Int.reduceNeg, n2i_0, n2i_1, n2i_2, n2i_3, n2i_4, n2i_5, n2i_6, n2i_7, n2i_8, n2i_9, n2i_10, n2i_11, n2i_12, lz, ev2, q, ap]
        exact ⟨_, _, _, _, rfl, fun d hd => by
          rcases List.mem_append.mp hd with hd | hd
          · exact h1 d hd
          · rw [List.mem_singleton.mp hd]; exact hi, by rw [List.length_append, List.length_singleton]; omega⟩
      · simp -implicitDefEqProofs only [seqD_l, seqD_t, seqD_c, Nx_nx, Nx_ct, unwipe, wipeE, Tg.ids, Tg.idss, Option.getD_some, Option.getD_none, cChain_app, eChain_app, cChain3_app, eChain3_app, sAug_app, addI_i, subI_i, ↓reduceIte, if_true, if_false, Bool.false_eq_true, List.map_cons, List.map_nil, List.length_cons, List.length_nil, Nat.reduceAdd, Nat.reduceSub, Nat.reduceLeDiff, List.replicate, List.cons_append, List.nil_append, sSeq_app, sSetL_app, sSet_app, sRet_app, bind_app, eOp_app, eUn_app, eN_app, lCons_app, lNil_app, lSlot_app, eVar_app, eC_app, eChk_app, eIf_app, eNot_app, eAnd_app, eOr_app, cTru_app, cOp_app, cNot_app, cAnd_app, cOr_app, sIf_app, sAsg_app, sPar_app, sRaise_app, sMeth_app, sNx_app, sExpr_app, iSeq_app, iRng_app, eSl_app, oPart_app, eFmt_app, jNil_app, eTold_app, eCall_app, asm, setMs, List.getElem?_cons_zero, List.getElem?_cons_succ, List.set, opt_some, opt_none, pur_app, un1_one, addD_i, subD_i, negD_i, ltB_i, leB_i, gtB_i, geB_i, eqB_i, neB_i, absD_i, intD_i, intD_b, lenD_l, lenD_t, gBl_app, imm_i, imm_s, imm_b, imm_n, imm_t, imms_nil, imms_cons, Bool.and_self, Bool.and_true, Bool.true_and, asg_nm, asg_tpt, asg_tpl, asgs_nil, asgs_cons, dTup, dLst, truD, dBl, Option.map_some, Mw.gLst, decide_true, decide_false, Bool.not_true, Bool.not_false, Bool.false_and, Bool.and_false, Bool.true_or, Bool.false_or, eq_self, Int.reduceEq, Int.reduceLT, Int.reduceLE, Int.reduceNeg, n2i_0, n2i_1, n2i_2, n2i_3, n2i_4, n2i_5, n2i_6, n2i_7, n2i_8, n2i_9, n2i_10, n2i_11, n2i_12, nI, c, lStar_app, s1, s2, intO, star_t]
        rw [ef]
        simp -implicitDefEqProofs only [seqD_l, seqD_t, seqD_c, Nx_nx, Nx_ct, unwipe, wipeE, Tg.ids, Tg.idss, Option.getD_some, Option.getD_none, cChain_app, eChain_app, cChain3_app, eChain3_app, sAug_app, addI_i, subI_i, ↓reduceIte, if_true, if_false, Bool.false_eq_true, List.map_cons, List.map_nil, List.length_cons, List.length_nil, Nat.reduceAdd, Nat.reduceSub, Nat.reduceLeDiff, List.replicate, List.cons_append, List.nil_append, sSeq_app, sSetL_app, sSet_app, sRet_app, bind_app, eOp_app, eUn_app, eN_app, lCons_app, lNil_app, lSlot_app, eVar_app, eC_app, eChk_app, eIf_app, eNot_app, eAnd_app, eOr_app, cTru_app, cOp_app, cNot_app, cAnd_app, cOr_app, sIf_app, sAsg_app, sPar_app, sRaise_app, sMeth_app, sNx_app, sExpr_app, iSeq_app, iRng_app, eSl_app, oPart_app, eFmt_app, jNil_app, eTold_app, eCall_app, asm, setMs, List.getElem?_cons_zero, List.getElem?_cons_succ, List.set, opt_some, opt_none, pur_app, un1_one, addD_i, subD_i, negD_i, ltB_i, leB_i, gtB_i, geB_i, eqB_i, neB_i, absD_i, intD_i, intD_b, lenD_l, lenD_t, gBl_app, imm_i, imm_s, imm_b, imm_n, imm_t, imms_nil, imms_cons, Bool.and_self, Bool.and_true, Bool.true_and, asg_nm, asg_tpt, asg_tpl, asgs_nil, asgs_cons, dTup, dLst, truD, dBl, Option.map_some, Mw.gLst, decide_true, decide_false, Bool.not_true, Bool.not_false, Bool.false_and, Bool.and_false, Bool.true_or, Bool.false_or, eq_self, Int.reduceEq, Int.reduceLT, Int.reduceLE, Int.reduceNeg, n2i_0, n2i_1, n2i_2, n2i_3, n2i_4, n2i_5, n2i_6, n2i_7, n2i_8, n2i_9, n2i_10, n2i_11, n2i_12, lz, ev2, q]
        exact ⟨_, _, _, _, rfl, h1, by omega⟩
    · simp -implicitDefEqProofs only [seqD_l, seqD_t, seqD_c, Nx_nx, Nx_ct, unwipe, wipeE, Tg.ids, Tg.idss, Option.getD_some, Option.getD_none, cChain_app, eChain_app, cChain3_app, eChain3_app, sAug_app, addI_i, subI_i, ↓reduceIte, if_true, if_false, Bool.false_eq_true, List.map_cons, List.map_nil, List.length_cons, List.length_nil, Nat.reduceAdd, Nat.reduceSub, Nat.reduceLeDiff, List.replicate, List.cons_append, List.nil_append, sSeq_app, sSetL_app, sSet_app, sRet_app, bind_app, eOp_app, eUn_app, eN_app, lCons_app, lNil_app, lSlot_app, eVar_app, eC_app, eChk_app, eIf_app, eNot_app, eAnd_app, eOr_app, cTru_app, cOp_app, cNot_app, cAnd_app, cOr_app, sIf_app, sAsg_app, sPar_app, sRaise_app, sMeth_app, sNx_app, sExpr_app, iSeq_app, iRng_app, eSl_app, oPart_app, eFmt_app, jNil_app, eTold_app, eCall_app, asm, setMs, List.getElem?_cons_zero, List.getElem?_cons_succ, List.set, opt_some, opt_none, pur_app, un1_one, addD_i, subD_i, negD_i, ltB_i, leB_i, gtB_i, geB_i, eqB_i, neB_i, absD_i, intD_i, intD_b, lenD_l, lenD_t, gBl_app, imm_i, imm_s, imm_b, imm_n, imm_t, imms_nil, imms_cons, Bool.and_self, Bool.and_true, Bool.true_and, asg_nm, asg_tpt, asg_tpl, asgs_nil, asgs_cons, dTup, dLst, truD, dBl, Option.map_some, Mw.gLst, decide_true, decide_false, Bool.not_true, Bool.not_false, Bool.false_and, Bool.and_false, Bool.true_or, Bool.false_or, eq_self, Int.reduceEq, Int.reduceLT, Int.reduceLE, Int.reduceNeg, n2i_0, n2i_1, n2i_2, n2i_3, n2i_4, n2i_5, n2i_6, n2i_7, n2i_8, n2i_9, n2i_10, n2i_11, n2i_12, nI, c]
      exact ⟨_, _, _, _, rfl, h1, by omega⟩) (ρ := [some (lsD L), some (usD us), some (.lst (gs.map .int)), some (.int v), some (.lst []), none, none, none]) ⟨[], none, none, none, rfl, ⟨(fun _ h => by cases h), Nat.le_refl _⟩⟩
  subst hr
  refine ⟨ds, runFn_ret (ρ' := [some (lsD L), some (usD us), some (.lst (gs.map .int)), some (.int v), none, x5, x6, x7]) rfl ?_ rfl, hd⟩
  unfold b_short_days
  simp -implicitDefEqProofs only [seqD_l, seqD_t, seqD_c, Nx_nx, Nx_ct, unwipe, wipeE, Tg.ids, Tg.idss, Option.getD_some, Option.getD_none, cChain_app, eChain_app, cChain3_app, eChain3_app, sAug_app, addI_i, subI_i, ↓reduceIte, if_true, if_false, Bool.false_eq_true, List.map_cons, List.map_nil, List.length_cons, List.length_nil, Nat.reduceAdd, Nat.reduceSub, Nat.reduceLeDiff, List.replicate, List.cons_append, List.nil_append, sSeq_app, sSetL_app, sSet_app, sRet_app, bind_app, eOp_app, eUn_app, eN_app, lCons_app, lNil_app, lSlot_app, eVar_app, eC_app, eChk_app, eIf_app, eNot_app, eAnd_app, eOr_app, cTru_app, cOp_app, cNot_app, cAnd_app, cOr_app, sIf_app, sAsg_app, sPar_app, sRaise_app, sMeth_app, sNx_app, sExpr_app, iSeq_app, iRng_app, eSl_app, oPart_app, eFmt_app, jNil_app, eTold_app, eCall_app, asm, setMs, List.getElem?_cons_zero, List.getElem?_cons_succ, List.set, opt_some, opt_none, pur_app, un1_one, addD_i, subD_i, negD_i, ltB_i, leB_i, gtB_i, geB_i, eqB_i, neB_i, absD_i, intD_i, intD_b, lenD_l, lenD_t, gBl_app, imm_i, imm_s, imm_b, imm_n, imm_t, imms_nil, imms_cons, Bool.and_self, Bool.and_true, Bool.true_and, asg_nm, asg_tpt, asg_tpl, asgs_nil, asgs_cons, dTup, dLst, truD, dBl, Option.map_some, Mw.gLst, decide_true, decide_false, Bool.not_true, Bool.not_false, Bool.false_and, Bool.and_false, Bool.true_or, Bool.false_or, eq_self, Int.reduceEq, Int.reduceLT, Int.reduceLE, Int.reduceNeg, n2i_0, n2i_1, n2i_2, n2i_3, n2i_4, n2i_5, n2i_6, n2i_7, n2i_8, n2i_9, n2i_10, n2i_11, n2i_12, ev, en, e, eTake_app, imm_l]
def Sm9 (zs : List Int) : Prop := ∀ z ∈ zs, z.natAbs < 2 ^ 90
theorem Sm9.set {zs : List Int} (h : Sm9 zs) (k : Nat) {v : Int} (hv : v.natAbs < 2 ^ 90) : Sm9 (zs.set k v) := fun z hz => by
  rcases List.mem_or_eq_of_mem_set hz with h1 | h1
  · exact h z h1
  · rw [h1]; exact hv
theorem days_in {P U : D} {price : Int} (hp : price.natAbs < 2 ^ 90) {x4 x6 : Option D} : ∀ (ds : List Nat) (zs : List Int) (x5 : Option D), (∀ d ∈ ds, d < zs.length) → Sm9 zs →
    ∃ (zs' : List Int) (y5 : Option D), (sFor (.nm 5) (sSetL 2 (eChk (eVar 3)) (eVar 5))) (ds.map nI) [some P, some U, some (.lst (zs.map .int)), some (.int price), x4, x5, x6] = .ok .nx [some P, some U, some (.lst (zs'.map .int)), some (.int price), x4, y5, x6] ∧ zs'.length = zs.length ∧ Sm9 zs'
  | [], zs, x5, _, hz => ⟨zs, x5, rfl, rfl, hz⟩
  | d :: ds, zs, x5, hd, hz => by
    have hd0 := hd d List.mem_cons_self
    have st := setLD_ok (ds := zs.map D.int) (k := d) (by rw [List.length_map]; exact hd0) (.int price)
    have sm : (zs.map D.int).set d (.int price) = (zs.set d price).map .int := by rw [List.map_set]
    rw [sm] at st
    obtain ⟨zs', y5, e, h1, h2⟩ := days_in hp (P := P) (U := U) (x4 := x4) (x6 := x6) ds (zs.set d price) (some (nI d)) (fun k hk => by rw [List.length_set]; exact hd k (List.mem_cons_of_mem _ hk)) (hz.set d hp)
    refine ⟨zs', y5, ?_, by rw [h1, List.length_set], h2⟩
    rw [← e, List.map_cons, sFor]
    simp -implicitDefEqProofs only [seqD_l, seqD_t, seqD_c, Nx_nx, Nx_ct, unwipe, wipeE, Tg.ids, Tg.idss, Option.getD_some, Option.getD_none, cChain_app, eChain_app, cChain3_app, eChain3_app, sAug_app, addI_i, subI_i, ↓reduceIte, if_true, if_false, Bool.false_eq_true, List.map_cons, List.map_nil, List.length_cons, List.length_nil, Nat.reduceAdd, Nat.reduceSub, Nat.reduceLeDiff, List.replicate, List.cons_append, List.nil_append, sSeq_app, sSetL_app, sSet_app, sRet_app, bind_app, eOp_app, eUn_app, eN_app, lCons_app, lNil_app, lSlot_app, eVar_app, eC_app, eChk_app, eIf_app, eNot_app, eAnd_app, eOr_app, cTru_app, cOp_app, cNot_app, cAnd_app, cOr_app, sIf_app, sAsg_app, sPar_app, sRaise_app, sMeth_app, sNx_app, sExpr_app, iSeq_app, iRng_app, eSl_app, oPart_app, eFmt_app, jNil_app, eTold_app, eCall_app, asm, setMs, List.getElem?_cons_zero, List.getElem?_cons_succ, List.set, opt_some, opt_none, pur_app, un1_one, addD_i, subD_i, negD_i, ltB_i, leB_i, gtB_i, geB_i, eqB_i, neB_i, absD_i, intD_i, intD_b, lenD_l, lenD_t, gBl_app, imm_i, imm_s, imm_b, imm_n, imm_t, imms_nil, imms_cons, Bool.and_self, Bool.and_true, Bool.true_and, asg_nm, asg_tpt, asg_tpl, asgs_nil, asgs_cons, dTup, dLst, truD, dBl, Option.map_some, Mw.gLst, decide_true, decide_false, Bool.not_true, Bool.not_false, Bool.false_and, Bool.and_false, Bool.true_or, Bool.false_or, eq_self, Int.reduceEq, Int.reduceLT, Int.reduceLE, Int.reduceNeg, n2i_0, n2i_1, n2i_2, n2i_3, n2i_4, n2i_5, n2i_6, n2i_7, n2i_8, n2i_9, n2i_10, n2i_11, n2i_12, nI, st]
theorem prices_in {L : List Lot} (hL : L.length ≤ 30) {us : List Int} (hu : us.length ≤ 60) : ∀ (ps : List Int) (zs : List Int) (x3 x4 x5 : Option D), (∀ p ∈ ps, p.natAbs < 2 ^ 90) → zs.length = us.length → Sm9 zs →
    ∃ (zs' : List Int) (y3 y4 y5 : Option D), (sFor (.nm 3) (sSeq (sSet 4 (eLc (.nm 6) (iSeq (eVar 0)) (M.pur true) (eIf (cOp ltB (eOp ixD (eVar 6) (eC (.int 3))) (eVar 3)) (eChk (eOp ixD (eVar 6) (eC (.int 2)))) (eC (.int 0)))))
    (M.bind (iSeq (eCall [none, none, none] g_short_days (lCons (eVar 0) (lCons (eVar 1) (lCons (eVar 4) lNil))))) (sFor (.nm 5) (sSetL 2 (eChk (eVar 3)) (eVar 5)))))) (ps.map .int) [some (lsD L), some (usD us), some (.lst (zs.map .int)), x3, x4, x5, none] = .ok .nx [some (lsD L), some (usD us), some (.lst (zs'.map .int)), y3, y4, y5, none] ∧ zs'.length = us.length ∧ Sm9 zs'
  | [], zs, x3, x4, x5, _, hl, hz => ⟨zs, x3, x4, x5, rfl, hl, hz⟩
  | p :: ps, zs, x3, x4, x5, hp, hl, hz => by
    have lc := eLc_map' (t := .nm 6) (fi := iSeq (eVar 0)) (te := (eIf (cOp ltB (eOp ixD (eVar 6) (eC (.int 3))) (eVar 3)) (eChk (eOp ixD (eVar 6) (eC (.int 2)))) (eC (.int 0)))) (ρ := [some (lsD L), some (usD us), some (.lst (zs.map .int)), some (.int p), x4, x5, none]) (ρ1 := [some (lsD L), some (usD us), some (.lst (zs.map .int)), some (.int p), x4, x5, none]) L lD (fun t => .int (if t.p < p then t.g else 0)) (fun t => [some (lsD L), some (usD us), some (.lst (zs.map .int)), some (.int p), x4, x5, some (lD t)]) rfl rfl (by omega) (fun t ht => by
      refine ⟨by simp [asg, wipeE, Tg.ids, lD], ?_, rfl⟩
      by_cases c : t.p < p
      · simp -implicitDefEqProofs only [seqD_l, seqD_t, seqD_c, Nx_nx, Nx_ct, unwipe, wipeE, Tg.ids, Tg.idss, Option.getD_some, Option.getD_none, cChain_app, eChain_app, cChain3_app, eChain3_app, sAug_app, addI_i, subI_i, ↓reduceIte, if_true, if_false, Bool.false_eq_true, List.map_cons, List.map_nil, List.length_cons, List.length_nil, Nat.reduceAdd, Nat.reduceSub, Nat.reduceLeDiff, List.replicate, List.cons_append, List.nil_append, sSeq_app, sSetL_app, sSet_app, sRet_app, bind_app, eOp_app, eUn_app, eN_app, lCons_app, lNil_app, lSlot_app, eVar_app, eC_app, eChk_app, eIf_app, eNot_app, eAnd_app, eOr_app, cTru_app, cOp_app, cNot_app, cAnd_app, cOr_app, sIf_app, sAsg_app, sPar_app, sRaise_app, sMeth_app, sNx_app, sExpr_app, iSeq_app, iRng_app, eSl_app, oPart_app, eFmt_app, jNil_app, eTold_app, eCall_app, asm, setMs, List.getElem?_cons_zero, List.getElem?_cons_succ, List.set, opt_some, opt_none, pur_app, un1_one, addD_i, subD_i, negD_i, ltB_i, leB_i, gtB_i, geB_i, eqB_i, neB_i, absD_i, intD_i, intD_b, lenD_l, lenD_t, gBl_app, imm_i, imm_s, imm_b, imm_n, imm_t, imms_nil, imms_cons, Bool.and_self, Bool.and_true, Bool.true_and, asg_nm, asg_tpt, asg_tpl, asgs_nil, asgs_cons, dTup, dLst, truD, dBl, Option.map_some, Mw.gLst, decide_true, decide_false, Bool.not_true, Bool.not_false, Bool.false_and, Bool.and_false, Bool.true_or, Bool.false_or, eq_self, Int.reduceEq, Int.reduceLT, Int.reduceLE, Int.reduceNeg, n2i_0, n2i_1, n2i_2, n2i_3, n2i_4, n2i_5, n2i_6, n2i_7, n2i_8, n2i_9, n2i_10, n2i_11, n2i_12, lD, ixD_t, atI_3, atI_2, c]
      · simp -implicitDefEqProofs only [seqD_l, seqD_t, seqD_c, Nx_nx, Nx_ct, unwipe, wipeE, Tg.ids, Tg.idss, Option.getD_some, Option.getD_none, cChain_app, eChain_app, cChain3_app, eChain3_app, sAug_app, addI_i, subI_i, ↓reduceIte, if_true, if_false, Bool.false_eq_true, List.map_cons, List.map_nil, List.length_cons, List.length_nil, Nat.reduceAdd, Nat.reduceSub, Nat.reduceLeDiff, List.replicate, List.cons_append, List.nil_append, sSeq_app, sSetL_app, sSet_app, sRet_app, bind_app, eOp_app, eUn_app, eN_app, lCons_app, lNil_app, lSlot_app, eVar_app, eC_app, eChk_app, eIf_app, eNot_app, eAnd_app, eOr_app, cTru_app, cOp_app, cNot_app, cAnd_app, cOr_app, sIf_app, sAsg_app, sPar_app, sRaise_app, sMeth_app, sNx_app, sExpr_app, iSeq_app, iRng_app, eSl_app, oPart_app, eFmt_app, jNil_app, eTold_app, eCall_app, asm, setMs, List.getElem?_cons_zero, List.getElem?_cons_succ, List.set, opt_some, opt_none, pur_app, un1_one, addD_i, subD_i, negD_i, ltB_i, leB_i, gtB_i, geB_i, eqB_i, neB_i, absD_i, intD_i, intD_b, lenD_l, lenD_t, gBl_app, imm_i, imm_s, imm_b, imm_n, imm_t, imms_nil, imms_cons, Bool.and_self, Bool.and_true, Bool.true_and, asg_nm, asg_tpt, asg_tpl, asgs_nil, asgs_cons, dTup, dLst, truD, dBl, Option.map_some, Mw.gLst, decide_true, decide_false, Bool.not_true, Bool.not_false, Bool.false_and, Bool.and_false, Bool.true_or, Bool.false_or, eq_self, Int.reduceEq, Int.reduceLT, Int.reduceLE, Int.reduceNeg, n2i_0, n2i_1, n2i_2, n2i_3, n2i_4, n2i_5, n2i_6, n2i_7, n2i_8, n2i_9, n2i_10, n2i_11, n2i_12, lD, ixD_t, atI_3, c])
    have em : (L.map fun t => D.int (if t.p < p then t.g else 0)) = (L.map fun t => if t.p < p then t.g else 0).map .int := by rw [List.map_map]; rfl
    rw [em] at lc
    obtain ⟨ds, es, hd⟩ := short_ok hL hu (gs := L.map fun t => if t.p < p then t.g else 0) (by rw [List.length_map])
    obtain ⟨z1, y5, e1, h1, h2⟩ := days_in (P := lsD L) (U := usD us) (price := p) (hp p List.mem_cons_self) (x4 := some (.lst ((L.map fun t => if t.p < p then t.g else 0).map .int))) (x6 := none) ds zs x5 (fun d hd' => by rw [hl]; exact hd d hd') hz
    obtain ⟨z2, w3, w4, w5, e2, h3, h4⟩ := prices_in hL hu ps z1 (some (.int p)) (some (.lst ((L.map fun t => if t.p < p then t.g else 0).map .int))) y5 (fun q hq => hp q (List.mem_cons_of_mem _ hq)) (by rw [h1, hl]) h2
    refine ⟨z2, w3, w4, w5, ?_, h3, h4⟩
    rw [← e2, List.map_cons, sFor]
    generalize hgg : (L.map fun t => if t.p < p then t.g else 0) = gg at *
    simp -implicitDefEqProofs only [seqD_l, seqD_t, seqD_c, Nx_nx, Nx_ct, unwipe, wipeE, Tg.ids, Tg.idss, Option.getD_some, Option.getD_none, cChain_app, eChain_app, cChain3_app, eChain3_app, sAug_app, addI_i, subI_i, ↓reduceIte, if_true, if_false, Bool.false_eq_true, List.map_cons, List.map_nil, List.length_cons, List.length_nil, Nat.reduceAdd, Nat.reduceSub, Nat.reduceLeDiff, List.replicate, List.cons_append, List.nil_append, sSeq_app, sSetL_app, sSet_app, sRet_app, bind_app, eOp_app, eUn_app, eN_app, lCons_app, lNil_app, lSlot_app, eVar_app, eC_app, eChk_app, eIf_app, eNot_app, eAnd_app, eOr_app, cTru_app, cOp_app, cNot_app, cAnd_app, cOr_app, sIf_app, sAsg_app, sPar_app, sRaise_app, sMeth_app, sNx_app, sExpr_app, iSeq_app, iRng_app, eSl_app, oPart_app, eFmt_app, jNil_app, eTold_app, eCall_app, asm, setMs, List.getElem?_cons_zero, List.getElem?_cons_succ, List.set, opt_some, opt_none, pur_app, un1_one, addD_i, subD_i, negD_i, ltB_i, leB_i, gtB_i, geB_i, eqB_i, neB_i, absD_i, intD_i, intD_b, lenD_l, lenD_t, gBl_app, imm_i, imm_s, imm_b, imm_n, imm_t, imms_nil, imms_cons, Bool.and_self, Bool.and_true, Bool.true_and, asg_nm, asg_tpt, asg_tpl, asgs_nil, asgs_cons, dTup, dLst, truD, dBl, Option.map_some, Mw.gLst, decide_true, decide_false, Bool.not_true, Bool.not_false, Bool.false_and, Bool.and_false, Bool.true_or, Bool.false_or, eq_self, Int.reduceEq, Int.reduceLT, Int.reduceLE, Int.reduceNeg, n2i_0, n2i_1, n2i_2, n2i_3, n2i_4, n2i_5, n2i_6, n2i_7, n2i_8, n2i_9, n2i_10, n2i_11, n2i_12, lc, es, e1]
theorem paper_ok {L : List Lot} (h : Lots L) {us : List Int} (hu : Uses us) : g_price_paper [lsD L, usD us] = .err "Missing" [] ∨ ∃ zs : List Int, g_price_paper [lsD L, usD us] = .ok (.tup (zs.map .int)) [] ∧ zs.length = us.length ∧ Sm9 zs := by
  rcases cheap_ok h hu with c | ⟨ws, c⟩
  · left
    refine runFn_err (ρ' := [some (lsD L), some (usD us), none, none, none, none, none]) rfl ?_ rfl
    unfold b_price_paper
    simp -implicitDefEqProofs only [seqD_l, seqD_t, seqD_c, Nx_nx, Nx_ct, unwipe, wipeE, Tg.ids, Tg.idss, Option.getD_some, Option.getD_none, cChain_app, eChain_app, cChain3_app, eChain3_app, sAug_app, addI_i, subI_i, ↓reduceIte, if_true, if_false, Bool.false_eq_true, List.map_cons, List.map_nil, List.length_cons, List.length_nil, Nat.reduceAdd, Nat.reduceSub, Nat.reduceLeDiff, List.replicate, List.cons_append, List.nil_append, sSeq_app, sSetL_app, sSet_app, sRet_app, bind_app, eOp_app, eUn_app, eN_app, lCons_app, lNil_app, lSlot_app, eVar_app, eC_app, eChk_app, eIf_app, eNot_app, eAnd_app, eOr_app, cTru_app, cOp_app, cNot_app, cAnd_app, cOr_app, sIf_app, sAsg_app, sPar_app, sRaise_app, sMeth_app, sNx_app, sExpr_app, iSeq_app, iRng_app, eSl_app, oPart_app, eFmt_app, jNil_app, eTold_app, eCall_app, asm, setMs, List.getElem?_cons_zero, List.getElem?_cons_succ, List.set, opt_some, opt_none, pur_app, un1_one, addD_i, subD_i, negD_i, ltB_i, leB_i, gtB_i, geB_i, eqB_i, neB_i, absD_i, intD_i, intD_b, lenD_l, lenD_t, gBl_app, imm_i, imm_s, imm_b, imm_n, imm_t, imms_nil, imms_cons, Bool.and_self, Bool.and_true, Bool.true_and, asg_nm, asg_tpt, asg_tpl, asgs_nil, asgs_cons, dTup, dLst, truD, dBl, Option.map_some, Mw.gLst, decide_true, decide_false, Bool.not_true, Bool.not_false, Bool.false_and, Bool.and_false, Bool.true_or, Bool.false_or, eq_self, Int.reduceEq, Int.reduceLT, Int.reduceLE, Int.reduceNeg, n2i_0, n2i_1, n2i_2, n2i_3, n2i_4, n2i_5, n2i_6, n2i_7, n2i_8, n2i_9, n2i_10, n2i_11, n2i_12, c]
  · right
    have ll : lenD (usD us) = some (.int (us.length : Int)) := by unfold usD; rw [lenD_t, List.length_map]
    obtain ⟨z0, hz0⟩ : ∃ z0, z0 = List.replicate us.length (0 : Int) := ⟨_, rfl⟩
    have ml := mulX_l 0 (n := us.length) (by have := hu.len; omega)
    rw [← hz0] at ml
    have lc := eLc_map' (t := .nm 6) (fi := iSeq (eVar 0)) (te := eChk (eOp ixD (eVar 6) (eC (.int 3)))) (ρ := [some (lsD L), some (usD us), some (.lst (z0.map .int)), none, none, none, none]) (ρ1 := [some (lsD L), some (usD us), some (.lst (z0.map .int)), none, none, none, none]) L lD (fun t => .int t.p) (fun t => [some (lsD L), some (usD us), some (.lst (z0.map .int)), none, none, none, some (lD t)]) rfl rfl (by have := h.len; omega) (fun t ht => by
      refine ⟨by simp [asg, wipeE, Tg.ids, lD], ?_, rfl⟩
      simp -implicitDefEqProofs only [seqD_l, seqD_t, seqD_c, Nx_nx, Nx_ct, unwipe, wipeE, Tg.ids, Tg.idss, Option.getD_some, Option.getD_none, cChain_app, eChain_app, cChain3_app, eChain3_app, sAug_app, addI_i, subI_i, ↓reduceIte, if_true, if_false, Bool.false_eq_true, List.map_cons, List.map_nil, List.length_cons, List.length_nil, Nat.reduceAdd, Nat.reduceSub, Nat.reduceLeDiff, List.replicate, List.cons_append, List.nil_append, sSeq_app, sSetL_app, sSet_app, sRet_app, bind_app, eOp_app, eUn_app, eN_app, lCons_app, lNil_app, lSlot_app, eVar_app, eC_app, eChk_app, eIf_app, eNot_app, eAnd_app, eOr_app, cTru_app, cOp_app, cNot_app, cAnd_app, cOr_app, sIf_app, sAsg_app, sPar_app, sRaise_app, sMeth_app, sNx_app, sExpr_app, iSeq_app, iRng_app, eSl_app, oPart_app, eFmt_app, jNil_app, eTold_app, eCall_app, asm, setMs, List.getElem?_cons_zero, List.getElem?_cons_succ, List.set, opt_some, opt_none, pur_app, un1_one, addD_i, subD_i, negD_i, ltB_i, leB_i, gtB_i, geB_i, eqB_i, neB_i, absD_i, intD_i, intD_b, lenD_l, lenD_t, gBl_app, imm_i, imm_s, imm_b, imm_n, imm_t, imms_nil, imms_cons, Bool.and_self, Bool.and_true, Bool.true_and, asg_nm, asg_tpt, asg_tpl, asgs_nil, asgs_cons, dTup, dLst, truD, dBl, Option.map_some, Mw.gLst, decide_true, decide_false, Bool.not_true, Bool.not_false, Bool.false_and, Bool.and_false, Bool.true_or, Bool.false_or, eq_self, Int.reduceEq, Int.reduceLT, Int.reduceLE, Int.reduceNeg, n2i_0, n2i_1, n2i_2, n2i_3, n2i_4, n2i_5, n2i_6, n2i_7, n2i_8, n2i_9, n2i_10, n2i_11, n2i_12, lD, ixD_t, atI_3])
    have em : (L.map fun t => D.int t.p) = (L.map (·.p)).map .int := by rw [List.map_map]; rfl
    rw [em] at lc
    obtain ⟨ps, hps, es⟩ := sortSetD_l (L.map (·.p)) (by rw [List.length_map]; have := h.len; omega)
    obtain ⟨zs, y3, y4, y5, e, h1, h2⟩ := prices_in h.len hu.len ps z0 none none none (fun p hp => by
      obtain ⟨t, ht, rfl⟩ := List.mem_map.mp ((hps p).mp hp)
      have a := (h.ok t ht).p0
      have b := (h.ok t ht).p9
      omega) (by rw [hz0, List.length_replicate]) (fun z hz => by rw [hz0] at hz; rw [List.eq_of_mem_replicate hz]; decide)
    refine ⟨zs, runFn_ret (ρ' := [some (lsD L), some (usD us), some (.lst (zs.map .int)), y3, y4, y5, none]) rfl ?_ rfl, h1, h2⟩
    unfold b_price_paper
    simp -implicitDefEqProofs only [seqD_l, seqD_t, seqD_c, Nx_nx, Nx_ct, unwipe, wipeE, Tg.ids, Tg.idss, Option.getD_some, Option.getD_none, cChain_app, eChain_app, cChain3_app, eChain3_app, sAug_app, addI_i, subI_i, ↓reduceIte, if_true, if_false, Bool.false_eq_true, List.map_cons, List.map_nil, List.length_cons, List.length_nil, Nat.reduceAdd, Nat.reduceSub, Nat.reduceLeDiff, List.replicate, List.cons_append, List.nil_append, sSeq_app, sSetL_app, sSet_app, sRet_app, bind_app, eOp_app, eUn_app, eN_app, lCons_app, lNil_app, lSlot_app, eVar_app, eC_app, eChk_app, eIf_app, eNot_app, eAnd_app, eOr_app, cTru_app, cOp_app, cNot_app, cAnd_app, cOr_app, sIf_app, sAsg_app, sPar_app, sRaise_app, sMeth_app, sNx_app, sExpr_app, iSeq_app, iRng_app, eSl_app, oPart_app, eFmt_app, jNil_app, eTold_app, eCall_app, asm, setMs, List.getElem?_cons_zero, List.getElem?_cons_succ, List.set, opt_some, opt_none, pur_app, un1_one, addD_i, subD_i, negD_i, ltB_i, leB_i, gtB_i, geB_i, eqB_i, neB_i, absD_i, intD_i, intD_b, lenD_l, lenD_t, gBl_app, imm_i, imm_s, imm_b, imm_n, imm_t, imms_nil, imms_cons, Bool.and_self, Bool.and_true, Bool.true_and, asg_nm, asg_tpt, asg_tpl, asgs_nil, asgs_cons, dTup, dLst, truD, dBl, Option.map_some, Mw.gLst, decide_true, decide_false, Bool.not_true, Bool.not_false, Bool.false_and, Bool.and_false, Bool.true_or, Bool.false_or, eq_self, Int.reduceEq, Int.reduceLT, Int.reduceLE, Int.reduceNeg, n2i_0, n2i_1, n2i_2, n2i_3, n2i_4, n2i_5, n2i_6, n2i_7, n2i_8, n2i_9, n2i_10, n2i_11, n2i_12, c, ll, ml, lc, es, e, tupleD_l (imms_ints zs)]
def Sml (zs : List Int) : Prop := ∀ z ∈ zs, z.natAbs < 2 ^ 100
theorem Sm9.sml {zs : List Int} (h : Sm9 zs) : Sml zs := fun z hz => Nat.lt_trans (h z hz) (by decide)
/-! ### the judge, and the law's own reading -/
theorem slT_mid {ds : List D} (h : D.imms ds = true) (a b : Nat) : slD (.tup ds) (some (a : Int)) (some (b : Int)) = some (.tup ((ds.drop a).take (b - a))) := by
  show (if D.imms ds = true then some (D.tup (slD.cutV' ds (some (a : Int)) (some (b : Int)))) else none) = _
  rw [if_pos h]
  unfold slD.cutV'
  rw [HT.sIx_nat, HT.sIx_nat]
  congr 2
  by_cases q : a ≤ ds.length
  · rw [Nat.min_eq_left q]
    by_cases q2 : b ≤ ds.length
    · rw [Nat.min_eq_left q2]
    · rw [Nat.min_eq_right (by omega), List.take_of_length_le (by rw [List.length_drop]; omega), List.take_of_length_le (by rw [List.length_drop]; omega)]
  · have e1 : min a ds.length = ds.length := Nat.min_eq_right (by omega)
    rw [e1, List.drop_eq_nil_of_le (Nat.le_refl _), List.drop_eq_nil_of_le (by omega), List.take_nil, List.take_nil]
theorem clean1 {ρ : Mw.Env} {i : Nat} {x : Option D} (hx : ρ[i]? = some x) (ho : okV x = true) : clean ρ [i] = true := by
  unfold clean
  rw [List.all_cons, List.all_nil, hx, Bool.and_true]
  cases x with
  | none => rfl
  | some d => exact ho
def mxF (a b : Int) : Int := if b > a then b else a
theorem maxX_l (i : Int) (r : List Int) : maxX [.lst ((i :: r).map .int)] = some (.int (r.foldl mxF i)) := by
  have e2 : maxD [D.lst ((i :: r).map .int)] = some (.int (r.foldl mxF i)) := by
    show ((lstOf (.lst ((i :: r).map .int))).bind fun ds => (intsD ds).bind fun bs => (maxI bs).map D.int) = _
    simp -implicitDefEqProofs only [lstOf, Option.bind_some, intsD_map, maxI, Option.map_some]
    rfl
  unfold maxX
  rw [e2]
def gains (zs : List Int) (t : Lot) : List Int := ((zs.drop t.f.toNat).take (t.l.toNat + 1 - t.f.toNat)).map (· - t.p)
def gain (zs : List Int) (t : Lot) : Int := (gains zs t).foldl mxF 0
theorem gain_bd {zs : List Int} {t : Lot} {B : Nat} (hB : 0 < B) (h : ∀ z ∈ zs, (z - t.p).natAbs < B) : (gain zs t).natAbs < B := by
  have m := (foldmax (gains zs t) 0).1
  have e : gain zs t = (gains zs t).foldl (fun a b => if b > a then b else a) 0 := rfl
  rw [← e] at m
  rcases List.mem_cons.mp m with z | z
  · rw [z]; exact hB
  · unfold gains at z
    obtain ⟨y, hy, q⟩ := List.mem_map.mp z
    rw [← q]
    exact h y (List.mem_of_mem_drop (List.mem_of_mem_take hy))
def dot (zs us : List Int) : Int := ((zs.zip us).map fun p => p.1 * p.2).sum
def tot (L : List Lot) (us zs : List Int) : Int := L.foldl (fun a t => a - t.g * gain zs t) (dot zs us)
def showsB (L : List Lot) (us : List Int) (cost : Int) (zs : List Int) : Bool := if zs.length = us.length ∧ (∀ z ∈ zs, 0 ≤ z) then decide (cost ≤ tot L us zs) else false
theorem zip2_is (zs us : List Int) : zip2 [.tup (zs.map .int), usD us] = some ((zs.zip us).map p2D) := by
  show some (zipL (zs.map .int) (us.map .int)) = _
  congr 1
  unfold zipL
  rw [List.zipWith_map, List.zip, List.map_zipWith]
  rfl
theorem lot_nat {t : Lot} (h : okL t) : t.f = ((t.f.toNat : Nat) : Int) ∧ t.l = ((t.l.toNat : Nat) : Int) := ⟨(Int.toNat_of_nonneg h.f0).symm, (Int.toNat_of_nonneg (by have := h.fl; have := h.f0; omega)).symm⟩
theorem judge_ok {L : List Lot} (h : Lots L) {us : List Int} (hu : Uses us) (cost : Int) {zs : List Int} (hz : zs.length ≤ 70) (hs : Sml zs) : g_judge_prices [lsD L, usD us, .int cost, .tup (zs.map .int)] = .ok (.bl (showsB L us cost zs)) [] := by
  have sk := stock_ok h hu
  have ll : lenD (usD us) = some (.int (us.length : Int)) := by unfold usD; rw [lenD_t, List.length_map]
  have lz : lenD (.tup (zs.map .int)) = some (.int (zs.length : Int)) := by rw [lenD_t, List.length_map]
  by_cases c : (zs.length : Int) = (us.length : Int)
  · have c' : zs.length = us.length := by omega
    have lc := eLc_map' (t := .nm 8) (fi := iSeq (eVar 3)) (te := (eOp (gBl geB) (eVar 8) (eC (.int 0)))) (ρ := [some (lsD L), some (usD us), some (.int cost), some (.tup (zs.map .int)), none, none, none, none, none, none]) (ρ1 := [some (lsD L), some (usD us), some (.int cost), some (.tup (zs.map .int)), none, none, none, none, none, none]) zs D.int (fun z => D.bl (decide (0 ≤ z))) (fun z => [some (lsD L), some (usD us), some (.int cost), some (.tup (zs.map .int)), none, none, none, none, some (.int z), none]) rfl rfl (by omega) (fun z hz' => by
      refine ⟨rfl, ?_, rfl⟩
      simp -implicitDefEqProofs only [seqD_l, seqD_t, seqD_c, Nx_nx, Nx_ct, unwipe, wipeE, Tg.ids, Tg.idss, Option.getD_some, Option.getD_none, cChain_app, eChain_app, cChain3_app, eChain3_app, sAug_app, addI_i, subI_i, ↓reduceIte, if_true, if_false, Bool.false_eq_true, List.map_cons, List.map_nil, List.length_cons, List.length_nil, Nat.reduceAdd, Nat.reduceSub, Nat.reduceLeDiff, List.replicate, List.cons_append, List.nil_append, sSeq_app, sSetL_app, sSet_app, sRet_app, bind_app, eOp_app, eUn_app, eN_app, lCons_app, lNil_app, lSlot_app, eVar_app, eC_app, eChk_app, eIf_app, eNot_app, eAnd_app, eOr_app, cTru_app, cOp_app, cNot_app, cAnd_app, cOr_app, sIf_app, sAsg_app, sPar_app, sRaise_app, sMeth_app, sNx_app, sExpr_app, iSeq_app, iRng_app, eSl_app, oPart_app, eFmt_app, jNil_app, eTold_app, eCall_app, asm, setMs, List.getElem?_cons_zero, List.getElem?_cons_succ, List.set, opt_some, opt_none, pur_app, un1_one, addD_i, subD_i, negD_i, ltB_i, leB_i, gtB_i, geB_i, eqB_i, neB_i, absD_i, intD_i, intD_b, lenD_l, lenD_t, gBl_app, imm_i, imm_s, imm_b, imm_n, imm_t, imms_nil, imms_cons, Bool.and_self, Bool.and_true, Bool.true_and, asg_nm, asg_tpt, asg_tpl, asgs_nil, asgs_cons, dTup, dLst, truD, dBl, Option.map_some, Mw.gLst, decide_true, decide_false, Bool.not_true, Bool.not_false, Bool.false_and, Bool.and_false, Bool.true_or, Bool.false_or, eq_self, Int.reduceEq, Int.reduceLT, Int.reduceLE, Int.reduceNeg, n2i_0, n2i_1, n2i_2, n2i_3, n2i_4, n2i_5, n2i_6, n2i_7, n2i_8, n2i_9, n2i_10, n2i_11, n2i_12])
    have al := allD_l (zs.map fun z => decide (0 ≤ z))
    rw [List.map_map] at al
    have al : allD (.lst (zs.map fun z => D.bl (decide (0 ≤ z)))) = some (.bl (zs.all fun z => decide (0 ≤ z))) := by
      rw [show (zs.map fun z => D.bl (decide (0 ≤ z))) = zs.map (D.bl ∘ fun z => decide (0 ≤ z)) from rfl, al]
      congr 2
      rw [List.all_map]; rfl
    by_cases p : (zs.all fun z => decide (0 ≤ z)) = true
    · have pa : ∀ z ∈ zs, 0 ≤ z := fun z hz' => of_decide_eq_true (List.all_eq_true.mp p z hz')
      have sb : showsB L us cost zs = decide (cost ≤ tot L us zs) := if_pos ⟨c', pa⟩
      rw [p] at al
      have smU : ∀ u ∈ us, Sm u := fun u hu' => sm_of (by have := hu.le u hu'; omega)
      have smZ : ∀ z ∈ zs, Sm z := fun z hz' => sm_of (Nat.lt_trans (hs z hz') (by decide))
      have lc2 := eLc_map' (t := .tp [.nm 8, .nm 7]) (fi := (iRng zip2 (lCons (eVar 3) (lCons (eVar 1) lNil)))) (te := eOp mulX (eVar 8) (eVar 7)) (ρ := [some (lsD L), some (usD us), some (.int cost), some (.tup (zs.map .int)), none, none, none, none, none, none]) (ρ1 := [some (lsD L), some (usD us), some (.int cost), some (.tup (zs.map .int)), none, none, none, none, none, none]) (zs.zip us) p2D (fun q => .int (q.1 * q.2)) (fun q => [some (lsD L), some (usD us), some (.int cost), some (.tup (zs.map .int)), none, none, none, some (.int q.2), some (.int q.1), none]) (by simp -implicitDefEqProofs only [seqD_l, seqD_t, seqD_c, Nx_nx, Nx_ct, unwipe, wipeE, Tg.ids, Tg.idss, Option.getD_some, Option.getD_none, cChain_app, eChain_app, cChain3_app, eChain3_app, sAug_app, addI_i, subI_i, ↓reduceIte, if_true, if_false, Bool.false_eq_true, List.map_cons, List.map_nil, List.length_cons, List.length_nil, Nat.reduceAdd, Nat.reduceSub, Nat.reduceLeDiff, List.replicate, List.cons_append, List.nil_append, sSeq_app, sSetL_app, sSet_app, sRet_app, bind_app, eOp_app, eUn_app, eN_app, lCons_app, lNil_app, lSlot_app, eVar_app, eC_app, eChk_app, eIf_app, eNot_app, eAnd_app, eOr_app, cTru_app, cOp_app, cNot_app, cAnd_app, cOr_app, sIf_app, sAsg_app, sPar_app, sRaise_app, sMeth_app, sNx_app, sExpr_app, iSeq_app, iRng_app, eSl_app, oPart_app, eFmt_app, jNil_app, eTold_app, eCall_app, asm, setMs, List.getElem?_cons_zero, List.getElem?_cons_succ, List.set, opt_some, opt_none, pur_app, un1_one, addD_i, subD_i, negD_i, ltB_i, leB_i, gtB_i, geB_i, eqB_i, neB_i, absD_i, intD_i, intD_b, lenD_l, lenD_t, gBl_app, imm_i, imm_s, imm_b, imm_n, imm_t, imms_nil, imms_cons, Bool.and_self, Bool.and_true, Bool.true_and, asg_nm, asg_tpt, asg_tpl, asgs_nil, asgs_cons, dTup, dLst, truD, dBl, Option.map_some, Mw.gLst, decide_true, decide_false, Bool.not_true, Bool.not_false, Bool.false_and, Bool.and_false, Bool.true_or, Bool.false_or, eq_self, Int.reduceEq, Int.reduceLT, Int.reduceLE, Int.reduceNeg, n2i_0, n2i_1, n2i_2, n2i_3, n2i_4, n2i_5, n2i_6, n2i_7, n2i_8, n2i_9, n2i_10, n2i_11, n2i_12, zip2_is]) rfl (by rw [List.length_zip]; omega) (fun q hq => by
        refine ⟨by simp [asg, asgs, wipeE, Tg.ids, Tg.idss, p2D], ?_, rfl⟩
        have h1 := smZ q.1 (List.of_mem_zip hq).1
        have h2 := smU q.2 (List.of_mem_zip hq).2
        simp -implicitDefEqProofs only [seqD_l, seqD_t, seqD_c, Nx_nx, Nx_ct, unwipe, wipeE, Tg.ids, Tg.idss, Option.getD_some, Option.getD_none, cChain_app, eChain_app, cChain3_app, eChain3_app, sAug_app, addI_i, subI_i, ↓reduceIte, if_true, if_false, Bool.false_eq_true, List.map_cons, List.map_nil, List.length_cons, List.length_nil, Nat.reduceAdd, Nat.reduceSub, Nat.reduceLeDiff, List.replicate, List.cons_append, List.nil_append, sSeq_app, sSetL_app, sSet_app, sRet_app, bind_app, eOp_app, eUn_app, eN_app, lCons_app, lNil_app, lSlot_app, eVar_app, eC_app, eChk_app, eIf_app, eNot_app, eAnd_app, eOr_app, cTru_app, cOp_app, cNot_app, cAnd_app, cOr_app, sIf_app, sAsg_app, sPar_app, sRaise_app, sMeth_app, sNx_app, sExpr_app, iSeq_app, iRng_app, eSl_app, oPart_app, eFmt_app, jNil_app, eTold_app, eCall_app, asm, setMs, List.getElem?_cons_zero, List.getElem?_cons_succ, List.set, opt_some, opt_none, pur_app, un1_one, addD_i, subD_i, negD_i, ltB_i, leB_i, gtB_i, geB_i, eqB_i, neB_i, absD_i, intD_i, intD_b, lenD_l, lenD_t, gBl_app, imm_i, imm_s, imm_b, imm_n, imm_t, imms_nil, imms_cons, Bool.and_self, Bool.and_true, Bool.true_and, asg_nm, asg_tpt, asg_tpl, asgs_nil, asgs_cons, dTup, dLst, truD, dBl, Option.map_some, Mw.gLst, decide_true, decide_false, Bool.not_true, Bool.not_false, Bool.false_and, Bool.and_false, Bool.true_or, Bool.false_or, eq_self, Int.reduceEq, Int.reduceLT, Int.reduceLE, Int.reduceNeg, n2i_0, n2i_1, n2i_2, n2i_3, n2i_4, n2i_5, n2i_6, n2i_7, n2i_8, n2i_9, n2i_10, n2i_11, n2i_12, mulX_i h1 h2])
      have em : ((zs.zip us).map fun q => D.int (q.1 * q.2)) = ((zs.zip us).map fun q => q.1 * q.2).map .int := by rw [List.map_map]; rfl
      rw [em] at lc2
      have su := sumX_l ((zs.zip us).map fun q => q.1 * q.2)
      obtain ⟨ρ', e, y5, y6, y7, y8, y9, hr⟩ := sFor_fold (t := .tp [.nm 5, .nm 6, .nm 7, .nm 8]) (b := (sAug 4 subI (eOp mulX (eVar 7) (eN maxX (lCons (eN dLst (lCons (eC (.int 0)) (lStar (eLc (.nm 9) (iSeq (eSl (eVar 3) (oPart (eVar 5)) (oPart (eOp addD (eVar 6) (eC (.int 1)))))) (M.pur true) (eOp subD (eVar 9) (eVar 8))) lNil))) lNil))))) lD (fun (a : Int) t => a - t.g * gain zs t) (fun a ρ => ∃ y5 y6 y7 y8 y9, ρ = [some (lsD L), some (usD us), some (.int cost), some (.tup (zs.map .int)), some (.int a), y5, y6, y7, y8, y9] ∧ okV y9 = true) L (fun t ht a ρ hr => by
        obtain ⟨y5, y6, y7, y8, y9, rfl, o9⟩ := hr
        obtain ⟨n1, n2⟩ := lot_nat (h.ok t ht)
        have okt := h.ok t ht
        refine ⟨_, rfl, ?_⟩
        have sl := slT_mid (imms_ints zs) t.f.toNat (t.l.toNat + 1)
        simp -implicitDefEqProofs only [Int.natCast_add, Int.natCast_one, ← n1, ← n2] at sl
        have ci : (((zs.map D.int).drop t.f.toNat).take (t.l.toNat + 1 - t.f.toNat)) = ((zs.drop t.f.toNat).take (t.l.toNat + 1 - t.f.toNat)).map .int := by rw [List.map_take, List.map_drop]
        rw [ci] at sl
        have lc3 := eLc_map' (t := .nm 9) (fi := (iSeq (eSl (eVar 3) (oPart (eVar 5)) (oPart (eOp addD (eVar 6) (eC (.int 1))))))) (te := (eOp subD (eVar 9) (eVar 8))) (ρ := [some (lsD L), some (usD us), some (.int cost), some (.tup (zs.map .int)), some (.int a), some (.int t.f), some (.int t.l), some (.int t.g), some (.int t.p), y9]) (ρ1 := [some (lsD L), some (usD us), some (.int cost), some (.tup (zs.map .int)), some (.int a), some (.int t.f), some (.int t.l), some (.int t.g), some (.int t.p), y9]) ((zs.drop t.f.toNat).take (t.l.toNat + 1 - t.f.toNat)) D.int (fun z => .int (z - t.p)) (fun z => [some (lsD L), some (usD us), some (.int cost), some (.tup (zs.map .int)), some (.int a), some (.int t.f), some (.int t.l), some (.int t.g), some (.int t.p), some (.int z)])
          (by simp -implicitDefEqProofs only [seqD_l, seqD_t, seqD_c, Nx_nx, Nx_ct, unwipe, wipeE, Tg.ids, Tg.idss, Option.getD_some, Option.getD_none, cChain_app, eChain_app, cChain3_app, eChain3_app, sAug_app, addI_i, subI_i, ↓reduceIte, if_true, if_false, Bool.false_eq_true, List.map_cons, List.map_nil, List.length_cons, List.length_nil, Nat.reduceAdd, Nat.reduceSub, Nat.reduceLeDiff, List.replicate, List.cons_append, List.nil_append, sSeq_app, sSetL_app, sSet_app, sRet_app, bind_app, eOp_app, eUn_app, eN_app, lCons_app, lNil_app, lSlot_app, eVar_app, eC_app, eChk_app, eIf_app, eNot_app, eAnd_app, eOr_app, cTru_app, cOp_app, cNot_app, cAnd_app, cOr_app, sIf_app, sAsg_app, sPar_app, sRaise_app, sMeth_app, sNx_app, sExpr_app, iSeq_app, iRng_app, eSl_app, oPart_app, eFmt_app, jNil_app, eTold_app, eCall_app, asm, setMs, List.getElem?_cons_zero, List.getElem?_cons_succ, List.set, opt_some, opt_none, pur_app, un1_one, addD_i, subD_i, negD_i, ltB_i, leB_i, gtB_i, geB_i, eqB_i, neB_i, absD_i, intD_i, intD_b, lenD_l, lenD_t, gBl_app, imm_i, imm_s, imm_b, imm_n, imm_t, imms_nil, imms_cons, Bool.and_self, Bool.and_true, Bool.true_and, asg_nm, asg_tpt, asg_tpl, asgs_nil, asgs_cons, dTup, dLst, truD, dBl, Option.map_some, Mw.gLst, decide_true, decide_false, Bool.not_true, Bool.not_false, Bool.false_and, Bool.and_false, Bool.true_or, Bool.false_or, eq_self, Int.reduceEq, Int.reduceLT, Int.reduceLE, Int.reduceNeg, n2i_0, n2i_1, n2i_2, n2i_3, n2i_4, n2i_5, n2i_6, n2i_7, n2i_8, n2i_9, n2i_10, n2i_11, n2i_12, intO, sl]) (clean1 (x := y9) rfl o9) (by rw [List.length_take, List.length_drop]; omega) (fun z _ => ⟨rfl, rfl, rfl⟩)
        have em3 : (((zs.drop t.f.toNat).take (t.l.toNat + 1 - t.f.toNat)).map fun z => D.int (z - t.p)) = (gains zs t).map .int := by unfold gains; rw [List.map_map]; rfl
        rw [em3] at lc3
        have mx : maxX [.lst (D.int 0 :: (gains zs t).map D.int)] = some (.int (gain zs t)) := maxX_l 0 (gains zs t)
        have gb := gain_bd (zs := zs) (t := t) (B := 2 ^ 120) (by decide) (fun z hz' => by have := hs z hz'; have := okt.p9; have := okt.p0; omega)
        have s1 : Sm (gain zs t) := sm_of (Nat.lt_trans gb (by decide))
        have s2 : Sm t.g := sm_of (by have := okt.g1; have := okt.g9; omega)
        have gl : ((gains zs t).map D.int).length + 1 ≤ 16777216 := by
          rw [List.length_map]
          unfold gains
          rw [List.length_map, List.length_take, List.length_drop]; omega
        simp -implicitDefEqProofs only [seqD_l, seqD_t, seqD_c, Nx_nx, Nx_ct, unwipe, wipeE, Tg.ids, Tg.idss, Option.getD_some, Option.getD_none, cChain_app, eChain_app, cChain3_app, eChain3_app, sAug_app, addI_i, subI_i, ↓reduceIte, if_true, if_false, Bool.false_eq_true, List.map_cons, List.map_nil, List.length_cons, List.length_nil, Nat.reduceAdd, Nat.reduceSub, Nat.reduceLeDiff, List.replicate, List.cons_append, List.nil_append, sSeq_app, sSetL_app, sSet_app, sRet_app, bind_app, eOp_app, eUn_app, eN_app, lCons_app, lNil_app, lSlot_app, eVar_app, eC_app, eChk_app, eIf_app, eNot_app, eAnd_app, eOr_app, cTru_app, cOp_app, cNot_app, cAnd_app, cOr_app, sIf_app, sAsg_app, sPar_app, sRaise_app, sMeth_app, sNx_app, sExpr_app, iSeq_app, iRng_app, eSl_app, oPart_app, eFmt_app, jNil_app, eTold_app, eCall_app, asm, setMs, List.getElem?_cons_zero, List.getElem?_cons_succ, List.set, opt_some, opt_none, pur_app, un1_one, addD_i, subD_i, negD_i, ltB_i, leB_i, gtB_i, geB_i, eqB_i, neB_i, absD_i, intD_i, intD_b, lenD_l, lenD_t, gBl_app, imm_i, imm_s, imm_b, imm_n, imm_t, imms_nil, imms_cons, Bool.and_self, Bool.and_true, Bool.true_and, asg_nm, asg_tpt, asg_tpl, asgs_nil, asgs_cons, dTup, dLst, truD, dBl, Option.map_some, Mw.gLst, decide_true, decide_false, Bool.not_true, Bool.not_false, Bool.false_and, Bool.and_false, Bool.true_or, Bool.false_or, eq_self, Int.reduceEq, Int.reduceLT, Int.reduceLE, Int.reduceNeg, n2i_0, n2i_1, n2i_2, n2i_3, n2i_4, n2i_5, n2i_6, n2i_7, n2i_8, n2i_9, n2i_10, n2i_11, n2i_12, lD, lStar_app, lc3, star_l, List.append_nil, gl, mx, mulX_i s2 s1]
        exact ⟨_, _, _, _, _, rfl, o9⟩) (dot zs us) [some (lsD L), some (usD us), some (.int cost), some (.tup (zs.map .int)), some (.int (dot zs us)), none, none, none, none, none] ⟨none, none, none, none, none, rfl, rfl⟩
      obtain ⟨hr, _⟩ := hr
      subst hr
      rw [sb]
      refine runFn_ret (ρ' := [some (lsD L), some (usD us), some (.int cost), some (.tup (zs.map .int)), some (.int (tot L us zs)), y5, y6, y7, y8, y9]) rfl ?_ rfl
      have sq : seqD (lsD L) = some (L.map lD) := rfl
      have su' : sumX (.lst (((zs.zip us).map fun q => q.1 * q.2).map .int)) = some (.int (dot zs us)) := su
      unfold b_judge_prices
      simp -implicitDefEqProofs only [seqD_l, seqD_t, seqD_c, Nx_nx, Nx_ct, unwipe, wipeE, Tg.ids, Tg.idss, Option.getD_some, Option.getD_none, cChain_app, eChain_app, cChain3_app, eChain3_app, sAug_app, addI_i, subI_i, ↓reduceIte, if_true, if_false, Bool.false_eq_true, List.map_cons, List.map_nil, List.length_cons, List.length_nil, Nat.reduceAdd, Nat.reduceSub, Nat.reduceLeDiff, List.replicate, List.cons_append, List.nil_append, sSeq_app, sSetL_app, sSet_app, sRet_app, bind_app, eOp_app, eUn_app, eN_app, lCons_app, lNil_app, lSlot_app, eVar_app, eC_app, eChk_app, eIf_app, eNot_app, eAnd_app, eOr_app, cTru_app, cOp_app, cNot_app, cAnd_app, cOr_app, sIf_app, sAsg_app, sPar_app, sRaise_app, sMeth_app, sNx_app, sExpr_app, iSeq_app, iRng_app, eSl_app, oPart_app, eFmt_app, jNil_app, eTold_app, eCall_app, asm, setMs, List.getElem?_cons_zero, List.getElem?_cons_succ, List.set, opt_some, opt_none, pur_app, un1_one, addD_i, subD_i, negD_i, ltB_i, leB_i, gtB_i, geB_i, eqB_i, neB_i, absD_i, intD_i, intD_b, lenD_l, lenD_t, gBl_app, imm_i, imm_s, imm_b, imm_n, imm_t, imms_nil, imms_cons, Bool.and_self, Bool.and_true, Bool.true_and, asg_nm, asg_tpt, asg_tpl, asgs_nil, asgs_cons, dTup, dLst, truD, dBl, Option.map_some, Mw.gLst, decide_true, decide_false, Bool.not_true, Bool.not_false, Bool.false_and, Bool.and_false, Bool.true_or, Bool.false_or, eq_self, Int.reduceEq, Int.reduceLT, Int.reduceLE, Int.reduceNeg, n2i_0, n2i_1, n2i_2, n2i_3, n2i_4, n2i_5, n2i_6, n2i_7, n2i_8, n2i_9, n2i_10, n2i_11, n2i_12, sk, ll, lz, c, lc, al, lc2, su', sq, e]
      rfl
    · rw [Bool.not_eq_true] at p
      rw [p] at al
      have sb : showsB L us cost zs = false := if_neg (fun w => by
        rw [List.all_eq_false] at p
        obtain ⟨z, hz', n⟩ := p
        exact n (decide_eq_true (w.2 z hz')))
      rw [sb]
      refine runFn_ret (ρ' := [some (lsD L), some (usD us), some (.int cost), some (.tup (zs.map .int)), none, none, none, none, none, none]) rfl ?_ rfl
      unfold b_judge_prices
      simp -implicitDefEqProofs only [seqD_l, seqD_t, seqD_c, Nx_nx, Nx_ct, unwipe, wipeE, Tg.ids, Tg.idss, Option.getD_some, Option.getD_none, cChain_app, eChain_app, cChain3_app, eChain3_app, sAug_app, addI_i, subI_i, ↓reduceIte, if_true, if_false, Bool.false_eq_true, List.map_cons, List.map_nil, List.length_cons, List.length_nil, Nat.reduceAdd, Nat.reduceSub, Nat.reduceLeDiff, List.replicate, List.cons_append, List.nil_append, sSeq_app, sSetL_app, sSet_app, sRet_app, bind_app, eOp_app, eUn_app, eN_app, lCons_app, lNil_app, lSlot_app, eVar_app, eC_app, eChk_app, eIf_app, eNot_app, eAnd_app, eOr_app, cTru_app, cOp_app, cNot_app, cAnd_app, cOr_app, sIf_app, sAsg_app, sPar_app, sRaise_app, sMeth_app, sNx_app, sExpr_app, iSeq_app, iRng_app, eSl_app, oPart_app, eFmt_app, jNil_app, eTold_app, eCall_app, asm, setMs, List.getElem?_cons_zero, List.getElem?_cons_succ, List.set, opt_some, opt_none, pur_app, un1_one, addD_i, subD_i, negD_i, ltB_i, leB_i, gtB_i, geB_i, eqB_i, neB_i, absD_i, intD_i, intD_b, lenD_l, lenD_t, gBl_app, imm_i, imm_s, imm_b, imm_n, imm_t, imms_nil, imms_cons, Bool.and_self, Bool.and_true, Bool.true_and, asg_nm, asg_tpt, asg_tpl, asgs_nil, asgs_cons, dTup, dLst, truD, dBl, Option.map_some, Mw.gLst, decide_true, decide_false, Bool.not_true, Bool.not_false, Bool.false_and, Bool.and_false, Bool.true_or, Bool.false_or, eq_self, Int.reduceEq, Int.reduceLT, Int.reduceLE, Int.reduceNeg, n2i_0, n2i_1, n2i_2, n2i_3, n2i_4, n2i_5, n2i_6, n2i_7, n2i_8, n2i_9, n2i_10, n2i_11, n2i_12, sk, ll, lz, c, lc, al]
  · have sb : showsB L us cost zs = false := if_neg (fun z => c (by omega))
    rw [sb]
    refine runFn_ret (ρ' := [some (lsD L), some (usD us), some (.int cost), some (.tup (zs.map .int)), none, none, none, none, none, none]) rfl ?_ rfl
    unfold b_judge_prices
    simp -implicitDefEqProofs only [seqD_l, seqD_t, seqD_c, Nx_nx, Nx_ct, unwipe, wipeE, Tg.ids, Tg.idss, Option.getD_some, Option.getD_none, cChain_app, eChain_app, cChain3_app, eChain3_app, sAug_app, addI_i, subI_i, ↓reduceIte, if_true, if_false, Bool.false_eq_true, List.map_cons, List.map_nil, List.length_cons, List.length_nil, Nat.reduceAdd, Nat.reduceSub, Nat.reduceLeDiff, List.replicate, List.cons_append, List.nil_append, sSeq_app, sSetL_app, sSet_app, sRet_app, bind_app, eOp_app, eUn_app, eN_app, lCons_app, lNil_app, lSlot_app, eVar_app, eC_app, eChk_app, eIf_app, eNot_app, eAnd_app, eOr_app, cTru_app, cOp_app, cNot_app, cAnd_app, cOr_app, sIf_app, sAsg_app, sPar_app, sRaise_app, sMeth_app, sNx_app, sExpr_app, iSeq_app, iRng_app, eSl_app, oPart_app, eFmt_app, jNil_app, eTold_app, eCall_app, asm, setMs, List.getElem?_cons_zero, List.getElem?_cons_succ, List.set, opt_some, opt_none, pur_app, un1_one, addD_i, subD_i, negD_i, ltB_i, leB_i, gtB_i, geB_i, eqB_i, neB_i, absD_i, intD_i, intD_b, lenD_l, lenD_t, gBl_app, imm_i, imm_s, imm_b, imm_n, imm_t, imms_nil, imms_cons, Bool.and_self, Bool.and_true, Bool.true_and, asg_nm, asg_tpt, asg_tpl, asgs_nil, asgs_cons, dTup, dLst, truD, dBl, Option.map_some, Mw.gLst, decide_true, decide_false, Bool.not_true, Bool.not_false, Bool.false_and, Bool.and_false, Bool.true_or, Bool.false_or, eq_self, Int.reduceEq, Int.reduceLT, Int.reduceLE, Int.reduceNeg, n2i_0, n2i_1, n2i_2, n2i_3, n2i_4, n2i_5, n2i_6, n2i_7, n2i_8, n2i_9, n2i_10, n2i_11, n2i_12, sk, ll, lz, c]
theorem range_slice (zs : List Int) (F T : Nat) (hn : 1 ≤ zs.length) : (zs.drop F).take (T + 1 - F) = (List.range' F (min T (zs.length - 1) + 1 - F)).map fun d => zs.getD d 0 := by
  apply List.ext_getElem?
  intro i
  rw [List.getElem?_take, List.getElem?_drop, List.getElem?_map]
  have mn : min T (zs.length - 1) ≤ T ∧ min T (zs.length - 1) ≤ zs.length - 1 ∧ (min T (zs.length - 1) = T ∨ min T (zs.length - 1) = zs.length - 1) := by omega
  by_cases h : i < min T (zs.length - 1) + 1 - F
  · have h1 : i < T + 1 - F := by omega
    have h2 : F + i < zs.length := by omega
    have e : (List.range' F (min T (zs.length - 1) + 1 - F))[i]? = some (F + i) := by
      rw [List.getElem?_range' h, Nat.one_mul]
    rw [if_pos h1, e, List.getElem?_eq_getElem h2, Option.map_some, List.getD_eq_getElem?_getD, List.getElem?_eq_getElem h2]; rfl
  · have e : (List.range' F (min T (zs.length - 1) + 1 - F))[i]? = none := by
      rw [List.getElem?_eq_none]
      rw [List.length_range']; omega
    rw [e, Option.map_none]
    split
    · exact List.getElem?_eq_none (by omega)
    · rfl
theorem dot_succ {zs us : List Int} {i : Nat} (h : i < zs.length) (h2 : i < us.length) : dot (zs.take (i + 1)) (us.take (i + 1)) = dot (zs.take i) (us.take i) + zs.getD i 0 * us.getD i 0 := by
  unfold dot
  rw [List.take_add_one, List.take_add_one, List.getElem?_eq_getElem h, List.getElem?_eq_getElem h2, Option.toList_some, Option.toList_some, List.zip_append (by rw [List.length_take, List.length_take]; omega), List.map_append, List.sum_append, List.getD_eq_getElem?_getD, List.getD_eq_getElem?_getD, List.getElem?_eq_getElem h, List.getElem?_eq_getElem h2]
  simp
theorem getD_mem {l : List Int} {i : Nat} (h : i < l.length) : l.getD i 0 ∈ l := by
  rw [List.getD_eq_getElem?_getD, List.getElem?_eq_getElem h]
  exact List.getElem_mem h
theorem shows_ok {L : List Lot} (h : Lots L) {us : List Int} (hu : Uses us) (cost : Int) {zs : List Int} (hz : zs.length ≤ 70) (hs : Sml zs) : g__law_shows [lsD L, usD us, .int cost, .tup (zs.map .int)] = .ok (.bl (showsB L us cost zs)) [] := by
  have ll : lenD (usD us) = some (.int (us.length : Int)) := by unfold usD; rw [lenD_t, List.length_map]
  have lz : lenD (.tup (zs.map .int)) = some (.int (zs.length : Int)) := by rw [lenD_t, List.length_map]
  have lu1 := hu.ne
  have lu2 := hu.len
  by_cases c : (zs.length : Int) = (us.length : Int)
  · have c' : zs.length = us.length := by omega
    have lc := eLc_map (t := .nm 9) (fi := iSeq (eVar 3)) (tt := (cOp ltB (eVar 9) (eC (.int 0)))) (te := eChk (eVar 9)) (ρ := [some (lsD L), some (usD us), some (.int cost), some (.tup (zs.map .int)), none, none, none, none, none, none, none]) (ρ1 := [some (lsD L), some (usD us), some (.int cost), some (.tup (zs.map .int)), none, none, none, none, none, none, none]) zs D.int (fun z => decide (z < 0)) D.int (fun z => [some (lsD L), some (usD us), some (.int cost), some (.tup (zs.map .int)), none, none, none, none, none, some (.int z), none]) rfl rfl (by omega) (fun z hz' => ⟨rfl, rfl, fun _ => rfl, rfl⟩)
    by_cases p : ∀ z ∈ zs, 0 ≤ z
    · have sb : showsB L us cost zs = decide (cost ≤ tot L us zs) := if_pos ⟨c', p⟩
      have nf : zs.filter (fun z => decide (z < 0)) = [] := by
        rw [List.filter_eq_nil_iff]
        intro z hz'
        have := p z hz'
        simp; omega
      rw [nf] at lc
      have smU : ∀ u ∈ us, Sm u := fun u hu' => sm_of (by have := hu.le u hu'; omega)
      have smZ : ∀ z ∈ zs, Sm z := fun z hz' => sm_of (Nat.lt_trans (hs z hz') (by decide))
      have rg : rng1 [.int (us.length : Int)] = some ((List.range us.length).map nI) := rng1_nat (by omega)
      obtain ⟨ρ1, e1, y5, hr1⟩ := sFor_range (t := .nm 5) (b := (sSet 4 (eOp addD (eVar 4) (eOp mulX (eOp ixD (eVar 3) (eVar 5)) (eOp ixD (eVar 1) (eVar 5)))))) nI (fun i ρ => ∃ y5, ρ = [some (lsD L), some (usD us), some (.int cost), some (.tup (zs.map .int)), some (.int (dot (zs.take i) (us.take i))), y5, none, none, none, none, none]) us.length (fun i hi ρ hr => by
        obtain ⟨y5, rfl⟩ := hr
        refine ⟨_, rfl, ?_⟩
        have a1 := atI_int (l := zs) (k := i) (by omega)
        have a2 := atI_int (l := us) (k := i) hi
        have m := mulX_i (smZ _ (getD_mem (l := zs) (i := i) (by omega))) (smU _ (getD_mem hi))
        have ds := dot_succ (zs := zs) (us := us) (i := i) (by omega) hi
        simp -implicitDefEqProofs only [seqD_l, seqD_t, seqD_c, Nx_nx, Nx_ct, unwipe, wipeE, Tg.ids, Tg.idss, Option.getD_some, Option.getD_none, cChain_app, eChain_app, cChain3_app, eChain3_app, sAug_app, addI_i, subI_i, ↓reduceIte, if_true, if_false, Bool.false_eq_true, List.map_cons, List.map_nil, List.length_cons, List.length_nil, Nat.reduceAdd, Nat.reduceSub, Nat.reduceLeDiff, List.replicate, List.cons_append, List.nil_append, sSeq_app, sSetL_app, sSet_app, sRet_app, bind_app, eOp_app, eUn_app, eN_app, lCons_app, lNil_app, lSlot_app, eVar_app, eC_app, eChk_app, eIf_app, eNot_app, eAnd_app, eOr_app, cTru_app, cOp_app, cNot_app, cAnd_app, cOr_app, sIf_app, sAsg_app, sPar_app, sRaise_app, sMeth_app, sNx_app, sExpr_app, iSeq_app, iRng_app, eSl_app, oPart_app, eFmt_app, jNil_app, eTold_app, eCall_app, asm, setMs, List.getElem?_cons_zero, List.getElem?_cons_succ, List.set, opt_some, opt_none, pur_app, un1_one, addD_i, subD_i, negD_i, ltB_i, leB_i, gtB_i, geB_i, eqB_i, neB_i, absD_i, intD_i, intD_b, lenD_l, lenD_t, gBl_app, imm_i, imm_s, imm_b, imm_n, imm_t, imms_nil, imms_cons, Bool.and_self, Bool.and_true, Bool.true_and, asg_nm, asg_tpt, asg_tpl, asgs_nil, asgs_cons, dTup, dLst, truD, dBl, Option.map_some, Mw.gLst, decide_true, decide_false, Bool.not_true, Bool.not_false, Bool.false_and, Bool.and_false, Bool.true_or, Bool.false_or, eq_self, Int.reduceEq, Int.reduceLT, Int.reduceLE, Int.reduceNeg, n2i_0, n2i_1, n2i_2, n2i_3, n2i_4, n2i_5, n2i_6, n2i_7, n2i_8, n2i_9, n2i_10, n2i_11, n2i_12, nI, usD, ixD_t, a1, a2, m, ← ds]
        exact ⟨_, rfl⟩) (ρ := [some (lsD L), some (usD us), some (.int cost), some (.tup (zs.map .int)), some (.int 0), none, none, none, none, none, none]) ⟨none, rfl⟩
      have tk : dot (zs.take us.length) (us.take us.length) = dot zs us := by rw [List.take_of_length_le (by omega), List.take_of_length_le (by omega)]
      rw [tk] at hr1
      subst hr1
      obtain ⟨ρ2, e2, w5, w6, w7, w8, w9, w10, hr2⟩ := sFor_fold (t := .tp [.nm 6, .nm 7, .nm 8, .nm 9]) (b := (sSeq (sSet 10 (eC (.int 0)))
    (sSeq (M.bind (iRng rng2 (lCons (eVar 6) (lCons (eOp addD (eN minX (lCons (eVar 7) (lCons (eOp subD (eN (un1 lenD) (lCons (eVar 1) lNil)) (eC (.int 1))) lNil))) (eC (.int 1))) lNil))) (sFor (.nm 5) (sSet 10 (eN maxX (lCons (eVar 10) (lCons (eOp subD (eOp ixD (eVar 3) (eVar 5)) (eVar 9)) lNil))))))
    (sSet 4 (eOp subD (eVar 4) (eOp mulX (eVar 10) (eVar 8))))))) lD (fun (a : Int) t => a - t.g * gain zs t) (fun a ρ => ∃ y5 y6 y7 y8 y9 y10, ρ = [some (lsD L), some (usD us), some (.int cost), some (.tup (zs.map .int)), some (.int a), y5, y6, y7, y8, y9, y10]) L (fun t ht a ρ hr => by
        obtain ⟨y5, y6, y7, y8, y9, y10, rfl⟩ := hr
        obtain ⟨n1, n2⟩ := lot_nat (h.ok t ht)
        have okt := h.ok t ht
        refine ⟨_, rfl, ?_⟩
        have mi : minX [.int t.l, .int ((us.length : Int) - 1)] = some (.int ((min t.l.toNat (us.length - 1) : Nat) : Int)) := by
          rw [minX_i]
          congr 2
          have := okt.f0
          have := okt.fl
          split <;> omega
        have rg2 := rng2_nat (m := t.f.toNat) (n := min t.l.toNat (us.length - 1) + 1) (by have := okt.l9; have := okt.fl; have := okt.f0; omega) (by omega)
        simp -implicitDefEqProofs only [Int.natCast_add, Int.natCast_one, ← n1] at rg2
        obtain ⟨ρ3, e3, v5, hr3⟩ := sFor_fold (t := .nm 5) (b := (sSet 10 (eN maxX (lCons (eVar 10) (lCons (eOp subD (eOp ixD (eVar 3) (eVar 5)) (eVar 9)) lNil))))) nI (fun (g : Int) d => mxF g (zs.getD d 0 - t.p)) (fun g ρ => ∃ y5, ρ = [some (lsD L), some (usD us), some (.int cost), some (.tup (zs.map .int)), some (.int a), y5, some (.int t.f), some (.int t.l), some (.int t.g), some (.int t.p), some (.int g)]) (List.range' t.f.toNat (min t.l.toNat (us.length - 1) + 1 - t.f.toNat)) (fun d hd g ρ hr => by
          obtain ⟨y5, rfl⟩ := hr
          obtain ⟨i, hi, rfl⟩ := List.mem_range'.mp hd
          have dl : t.f.toNat + 1 * i < zs.length := by omega
          have a1 := atI_int (l := zs) (k := t.f.toNat + 1 * i) dl
          refine ⟨_, rfl, ?_⟩
          simp -implicitDefEqProofs only [seqD_l, seqD_t, seqD_c, Nx_nx, Nx_ct, unwipe, wipeE, Tg.ids, Tg.idss, Option.getD_some, Option.getD_none, cChain_app, eChain_app, cChain3_app, eChain3_app, sAug_app, addI_i, subI_i, ↓reduceIte, if_true, if_false, Bool.false_eq_true, List.map_cons, List.map_nil, List.length_cons, List.length_nil, Nat.reduceAdd, Nat.reduceSub, Nat.reduceLeDiff, List.replicate, List.cons_append, List.nil_append, sSeq_app, sSetL_app, sSet_app, sRet_app, bind_app, eOp_app, eUn_app, eN_app, lCons_app, lNil_app, lSlot_app, eVar_app, eC_app, eChk_app, eIf_app, eNot_app, eAnd_app, eOr_app, cTru_app, cOp_app, cNot_app, cAnd_app, cOr_app, sIf_app, sAsg_app, sPar_app, sRaise_app, sMeth_app, sNx_app, sExpr_app, iSeq_app, iRng_app, eSl_app, oPart_app, eFmt_app, jNil_app, eTold_app, eCall_app, asm, setMs, List.getElem?_cons_zero, List.getElem?_cons_succ, List.set, opt_some, opt_none, pur_app, un1_one, addD_i, subD_i, negD_i, ltB_i, leB_i, gtB_i, geB_i, eqB_i, neB_i, absD_i, intD_i, intD_b, lenD_l, lenD_t, gBl_app, imm_i, imm_s, imm_b, imm_n, imm_t, imms_nil, imms_cons, Bool.and_self, Bool.and_true, Bool.true_and, asg_nm, asg_tpt, asg_tpl, asgs_nil, asgs_cons, dTup, dLst, truD, dBl, Option.map_some, Mw.gLst, decide_true, decide_false, Bool.not_true, Bool.not_false, Bool.false_and, Bool.and_false, Bool.true_or, Bool.false_or, eq_self, Int.reduceEq, Int.reduceLT, Int.reduceLE, Int.reduceNeg, n2i_0, n2i_1, n2i_2, n2i_3, n2i_4, n2i_5, n2i_6, n2i_7, n2i_8, n2i_9, n2i_10, n2i_11, n2i_12, nI, ixD_t, a1, maxX_i]
          exact ⟨_, rfl⟩) 0 [some (lsD L), some (usD us), some (.int cost), some (.tup (zs.map .int)), some (.int a), y5, some (.int t.f), some (.int t.l), some (.int t.g), some (.int t.p), some (.int 0)] ⟨_, rfl⟩
        have ge : (List.range' t.f.toNat (min t.l.toNat (us.length - 1) + 1 - t.f.toNat)).foldl (fun (g : Int) d => mxF g (zs.getD d 0 - t.p)) 0 = gain zs t := by
          unfold gain gains
          rw [range_slice zs _ _ (by omega), c', List.map_map, List.foldl_map]
          rfl
        rw [ge] at hr3
        subst hr3
        have gb := gain_bd (zs := zs) (t := t) (B := 2 ^ 120) (by decide) (fun z hz' => by have := hs z hz'; have := okt.p9; have := okt.p0; omega)
        have s1 : Sm (gain zs t) := sm_of (Nat.lt_trans gb (by decide))
        have s2 : Sm t.g := sm_of (by have := okt.g1; have := okt.g9; omega)
        simp -implicitDefEqProofs only [seqD_l, seqD_t, seqD_c, Nx_nx, Nx_ct, unwipe, wipeE, Tg.ids, Tg.idss, Option.getD_some, Option.getD_none, cChain_app, eChain_app, cChain3_app, eChain3_app, sAug_app, addI_i, subI_i, ↓reduceIte, if_true, if_false, Bool.false_eq_true, List.map_cons, List.map_nil, List.length_cons, List.length_nil, Nat.reduceAdd, Nat.reduceSub, Nat.reduceLeDiff, List.replicate, List.cons_append, List.nil_append, sSeq_app, sSetL_app, sSet_app, sRet_app, bind_app, eOp_app, eUn_app, eN_app, lCons_app, lNil_app, lSlot_app, eVar_app, eC_app, eChk_app, eIf_app, eNot_app, eAnd_app, eOr_app, cTru_app, cOp_app, cNot_app, cAnd_app, cOr_app, sIf_app, sAsg_app, sPar_app, sRaise_app, sMeth_app, sNx_app, sExpr_app, iSeq_app, iRng_app, eSl_app, oPart_app, eFmt_app, jNil_app, eTold_app, eCall_app, asm, setMs, List.getElem?_cons_zero, List.getElem?_cons_succ, List.set, opt_some, opt_none, pur_app, un1_one, addD_i, subD_i, negD_i, ltB_i, leB_i, gtB_i, geB_i, eqB_i, neB_i, absD_i, intD_i, intD_b, lenD_l, lenD_t, gBl_app, imm_i, imm_s, imm_b, imm_n, imm_t, imms_nil, imms_cons, Bool.and_self, Bool.and_true, Bool.true_and, asg_nm, asg_tpt, asg_tpl, asgs_nil, asgs_cons, dTup, dLst, truD, dBl, Option.map_some, Mw.gLst, decide_true, decide_false, Bool.not_true, Bool.not_false, Bool.false_and, Bool.and_false, Bool.true_or, Bool.false_or, eq_self, Int.reduceEq, Int.reduceLT, Int.reduceLE, Int.reduceNeg, n2i_0, n2i_1, n2i_2, n2i_3, n2i_4, n2i_5, n2i_6, n2i_7, n2i_8, n2i_9, n2i_10, n2i_11, n2i_12, lD, ll, mi, rg2, e3, mulX_i s1 s2, Int.mul_comm (gain zs t)]
        exact ⟨_, _, _, _, _, _, rfl⟩) (dot zs us) [some (lsD L), some (usD us), some (.int cost), some (.tup (zs.map .int)), some (.int (dot zs us)), y5, none, none, none, none, none] ⟨_, _, _, _, _, _, rfl⟩
      subst hr2
      rw [sb]
      refine runFn_ret (ρ' := [some (lsD L), some (usD us), some (.int cost), some (.tup (zs.map .int)), some (.int (tot L us zs)), w5, w6, w7, w8, w9, w10]) rfl ?_ rfl
      have sq : seqD (lsD L) = some (L.map lD) := rfl
      have zz : ¬ ((0 : Int) < ((0 : Nat) : Int)) := by decide
      rw [List.map_nil] at lc
      unfold b__law_shows
      simp -implicitDefEqProofs only [seqD_l, seqD_t, seqD_c, Nx_nx, Nx_ct, unwipe, wipeE, Tg.ids, Tg.idss, Option.getD_some, Option.getD_none, cChain_app, eChain_app, cChain3_app, eChain3_app, sAug_app, addI_i, subI_i, ↓reduceIte, if_true, if_false, Bool.false_eq_true, List.map_cons, List.map_nil, List.length_cons, List.length_nil, Nat.reduceAdd, Nat.reduceSub, Nat.reduceLeDiff, List.replicate, List.cons_append, List.nil_append, sSeq_app, sSetL_app, sSet_app, sRet_app, bind_app, eOp_app, eUn_app, eN_app, lCons_app, lNil_app, lSlot_app, eVar_app, eC_app, eChk_app, eIf_app, eNot_app, eAnd_app, eOr_app, cTru_app, cOp_app, cNot_app, cAnd_app, cOr_app, sIf_app, sAsg_app, sPar_app, sRaise_app, sMeth_app, sNx_app, sExpr_app, iSeq_app, iRng_app, eSl_app, oPart_app, eFmt_app, jNil_app, eTold_app, eCall_app, asm, setMs, List.getElem?_cons_zero, List.getElem?_cons_succ, List.set, opt_some, opt_none, pur_app, un1_one, addD_i, subD_i, negD_i, ltB_i, leB_i, gtB_i, geB_i, eqB_i, neB_i, absD_i, intD_i, intD_b, lenD_l, lenD_t, gBl_app, imm_i, imm_s, imm_b, imm_n, imm_t, imms_nil, imms_cons, Bool.and_self, Bool.and_true, Bool.true_and, asg_nm, asg_tpt, asg_tpl, asgs_nil, asgs_cons, dTup, dLst, truD, dBl, Option.map_some, Mw.gLst, decide_true, decide_false, Bool.not_true, Bool.not_false, Bool.false_and, Bool.and_false, Bool.true_or, Bool.false_or, eq_self, Int.reduceEq, Int.reduceLT, Int.reduceLE, Int.reduceNeg, n2i_0, n2i_1, n2i_2, n2i_3, n2i_4, n2i_5, n2i_6, n2i_7, n2i_8, n2i_9, n2i_10, n2i_11, n2i_12, ll, lz, c, lc, zz, rg, e1, sq, e2, Int.lt_irrefl]
      rfl
    · have sb : showsB L us cost zs = false := if_neg (fun w => p w.2)
      obtain ⟨z, hz', zn⟩ : ∃ z, z ∈ zs ∧ z < 0 := by
        have : ¬ ∀ z ∈ zs, 0 ≤ z := p
        simp -implicitDefEqProofs only [Classical.not_forall] at this
        obtain ⟨z, a, b⟩ := this
        exact ⟨z, a, by omega⟩
      have nf : 0 < (zs.filter (fun z => decide (z < 0))).length := List.length_pos_of_mem (List.mem_filter.mpr ⟨hz', decide_eq_true zn⟩)
      have nfi : (0 : Int) < (((zs.filter (fun z => decide (z < 0))).length : Nat) : Int) := by omega
      rw [sb]
      refine runFn_ret (ρ' := [some (lsD L), some (usD us), some (.int cost), some (.tup (zs.map .int)), none, none, none, none, none, none, none]) rfl ?_ rfl
      unfold b__law_shows
      simp -implicitDefEqProofs only [seqD_l, seqD_t, seqD_c, Nx_nx, Nx_ct, unwipe, wipeE, Tg.ids, Tg.idss, Option.getD_some, Option.getD_none, cChain_app, eChain_app, cChain3_app, eChain3_app, sAug_app, addI_i, subI_i, ↓reduceIte, if_true, if_false, Bool.false_eq_true, List.map_cons, List.map_nil, List.length_cons, List.length_nil, Nat.reduceAdd, Nat.reduceSub, Nat.reduceLeDiff, List.replicate, List.cons_append, List.nil_append, sSeq_app, sSetL_app, sSet_app, sRet_app, bind_app, eOp_app, eUn_app, eN_app, lCons_app, lNil_app, lSlot_app, eVar_app, eC_app, eChk_app, eIf_app, eNot_app, eAnd_app, eOr_app, cTru_app, cOp_app, cNot_app, cAnd_app, cOr_app, sIf_app, sAsg_app, sPar_app, sRaise_app, sMeth_app, sNx_app, sExpr_app, iSeq_app, iRng_app, eSl_app, oPart_app, eFmt_app, jNil_app, eTold_app, eCall_app, asm, setMs, List.getElem?_cons_zero, List.getElem?_cons_succ, List.set, opt_some, opt_none, pur_app, un1_one, addD_i, subD_i, negD_i, ltB_i, leB_i, gtB_i, geB_i, eqB_i, neB_i, absD_i, intD_i, intD_b, lenD_l, lenD_t, gBl_app, imm_i, imm_s, imm_b, imm_n, imm_t, imms_nil, imms_cons, Bool.and_self, Bool.and_true, Bool.true_and, asg_nm, asg_tpt, asg_tpl, asgs_nil, asgs_cons, dTup, dLst, truD, dBl, Option.map_some, Mw.gLst, decide_true, decide_false, Bool.not_true, Bool.not_false, Bool.false_and, Bool.and_false, Bool.true_or, Bool.false_or, eq_self, Int.reduceEq, Int.reduceLT, Int.reduceLE, Int.reduceNeg, n2i_0, n2i_1, n2i_2, n2i_3, n2i_4, n2i_5, n2i_6, n2i_7, n2i_8, n2i_9, n2i_10, n2i_11, n2i_12, ll, lz, c, lc, List.length_map, nfi]
  · have sb : showsB L us cost zs = false := if_neg (fun z => c (by omega))
    rw [sb]
    refine runFn_ret (ρ' := [some (lsD L), some (usD us), some (.int cost), some (.tup (zs.map .int)), none, none, none, none, none, none, none]) rfl ?_ rfl
    unfold b__law_shows
    simp -implicitDefEqProofs only [seqD_l, seqD_t, seqD_c, Nx_nx, Nx_ct, unwipe, wipeE, Tg.ids, Tg.idss, Option.getD_some, Option.getD_none, cChain_app, eChain_app, cChain3_app, eChain3_app, sAug_app, addI_i, subI_i, ↓reduceIte, if_true, if_false, Bool.false_eq_true, List.map_cons, List.map_nil, List.length_cons, List.length_nil, Nat.reduceAdd, Nat.reduceSub, Nat.reduceLeDiff, List.replicate, List.cons_append, List.nil_append, sSeq_app, sSetL_app, sSet_app, sRet_app, bind_app, eOp_app, eUn_app, eN_app, lCons_app, lNil_app, lSlot_app, eVar_app, eC_app, eChk_app, eIf_app, eNot_app, eAnd_app, eOr_app, cTru_app, cOp_app, cNot_app, cAnd_app, cOr_app, sIf_app, sAsg_app, sPar_app, sRaise_app, sMeth_app, sNx_app, sExpr_app, iSeq_app, iRng_app, eSl_app, oPart_app, eFmt_app, jNil_app, eTold_app, eCall_app, asm, setMs, List.getElem?_cons_zero, List.getElem?_cons_succ, List.set, opt_some, opt_none, pur_app, un1_one, addD_i, subD_i, negD_i, ltB_i, leB_i, gtB_i, geB_i, eqB_i, neB_i, absD_i, intD_i, intD_b, lenD_l, lenD_t, gBl_app, imm_i, imm_s, imm_b, imm_n, imm_t, imms_nil, imms_cons, Bool.and_self, Bool.and_true, Bool.true_and, asg_nm, asg_tpt, asg_tpl, asgs_nil, asgs_cons, dTup, dLst, truD, dBl, Option.map_some, Mw.gLst, decide_true, decide_false, Bool.not_true, Bool.not_false, Bool.false_and, Bool.and_false, Bool.true_or, Bool.false_or, eq_self, Int.reduceEq, Int.reduceLT, Int.reduceLE, Int.reduceNeg, n2i_0, n2i_1, n2i_2, n2i_3, n2i_4, n2i_5, n2i_6, n2i_7, n2i_8, n2i_9, n2i_10, n2i_11, n2i_12, ll, lz, c]
theorem fold_bd {r : List Int} {B : Nat} (hB : 0 < B) (h : ∀ z ∈ r, z.natAbs < B) : (r.foldl mxF 0).natAbs < B := by
  have m := (foldmax r 0).1
  have e : r.foldl mxF 0 = r.foldl (fun a b => if b > a then b else a) 0 := rfl
  rw [← e] at m
  rcases List.mem_cons.mp m with z | z
  · rw [z]; exact hB
  · exact h _ z
theorem shown_ok {L : List Lot} (h : Lots L) {us : List Int} (hu : Uses us) {zs : List Int} (hz : zs.length = us.length) (hs : Sml zs) : ∃ v : Int, g__law_shown [lsD L, usD us, .tup (zs.map .int)] = .ok (.int v) [] := by
  have ll : lenD (usD us) = some (.int (us.length : Int)) := by unfold usD; rw [lenD_t, List.length_map]
  have lu2 := hu.len
  have smU : ∀ u ∈ us, Sm u := fun u hu' => sm_of (by have := hu.le u hu'; omega)
  have smZ : ∀ z ∈ zs, Sm z := fun z hz' => sm_of (Nat.lt_trans (hs z hz') (by decide))
  have rg : rng1 [.int (us.length : Int)] = some ((List.range us.length).map nI) := rng1_nat (by omega)
  have lc := eLc_map' (t := .nm 8) (fi := (iRng rng1 (lCons (eN (un1 lenD) (lCons (eVar 1) lNil)) lNil))) (te := (eOp mulX (eOp ixD (eVar 2) (eVar 8)) (eOp ixD (eVar 1) (eVar 8)))) (ρ := [some (lsD L), some (usD us), some (.tup (zs.map .int)), none, none, none, none, none, none]) (ρ1 := [some (lsD L), some (usD us), some (.tup (zs.map .int)), none, none, none, none, none, none]) (List.range us.length) nI (fun k => .int (zs.getD k 0 * us.getD k 0)) (fun k => [some (lsD L), some (usD us), some (.tup (zs.map .int)), none, none, none, none, none, some (nI k)]) (by simp -implicitDefEqProofs only [seqD_l, seqD_t, seqD_c, Nx_nx, Nx_ct, unwipe, wipeE, Tg.ids, Tg.idss, Option.getD_some, Option.getD_none, cChain_app, eChain_app, cChain3_app, eChain3_app, sAug_app, addI_i, subI_i, ↓reduceIte, if_true, if_false, Bool.false_eq_true, List.map_cons, List.map_nil, List.length_cons, List.length_nil, Nat.reduceAdd, Nat.reduceSub, Nat.reduceLeDiff, List.replicate, List.cons_append, List.nil_append, sSeq_app, sSetL_app, sSet_app, sRet_app, bind_app, eOp_app, eUn_app, eN_app, lCons_app, lNil_app, lSlot_app, eVar_app, eC_app, eChk_app, eIf_app, eNot_app, eAnd_app, eOr_app, cTru_app, cOp_app, cNot_app, cAnd_app, cOr_app, sIf_app, sAsg_app, sPar_app, sRaise_app, sMeth_app, sNx_app, sExpr_app, iSeq_app, iRng_app, eSl_app, oPart_app, eFmt_app, jNil_app, eTold_app, eCall_app, asm, setMs, List.getElem?_cons_zero, List.getElem?_cons_succ, List.set, opt_some, opt_none, pur_app, un1_one, addD_i, subD_i, negD_i, ltB_i, leB_i, gtB_i, geB_i, eqB_i, neB_i, absD_i, intD_i, intD_b, lenD_l, lenD_t, gBl_app, imm_i, imm_s, imm_b, imm_n, imm_t, imms_nil, imms_cons, Bool.and_self, Bool.and_true, Bool.true_and, asg_nm, asg_tpt, asg_tpl, asgs_nil, asgs_cons, dTup, dLst, truD, dBl, Option.map_some, Mw.gLst, decide_true, decide_false, Bool.not_true, Bool.not_false, Bool.false_and, Bool.and_false, Bool.true_or, Bool.false_or, eq_self, Int.reduceEq, Int.reduceLT, Int.reduceLE, Int.reduceNeg, n2i_0, n2i_1, n2i_2, n2i_3, n2i_4, n2i_5, n2i_6, n2i_7, n2i_8, n2i_9, n2i_10, n2i_11, n2i_12, ll, rg]) rfl (by rw [List.length_range]; omega) (fun k hk => by
    have hk := List.mem_range.mp hk
    have a1 := atI_int (l := zs) (k := k) (by omega)
    have a2 := atI_int (l := us) (k := k) hk
    have m := mulX_i (smZ _ (getD_mem (l := zs) (i := k) (by omega))) (smU _ (getD_mem hk))
    refine ⟨rfl, ?_, rfl⟩
    simp -implicitDefEqProofs only [seqD_l, seqD_t, seqD_c, Nx_nx, Nx_ct, unwipe, wipeE, Tg.ids, Tg.idss, Option.getD_some, Option.getD_none, cChain_app, eChain_app, cChain3_app, eChain3_app, sAug_app, addI_i, subI_i, ↓reduceIte, if_true, if_false, Bool.false_eq_true, List.map_cons, List.map_nil, List.length_cons, List.length_nil, Nat.reduceAdd, Nat.reduceSub, Nat.reduceLeDiff, List.replicate, List.cons_append, List.nil_append, sSeq_app, sSetL_app, sSet_app, sRet_app, bind_app, eOp_app, eUn_app, eN_app, lCons_app, lNil_app, lSlot_app, eVar_app, eC_app, eChk_app, eIf_app, eNot_app, eAnd_app, eOr_app, cTru_app, cOp_app, cNot_app, cAnd_app, cOr_app, sIf_app, sAsg_app, sPar_app, sRaise_app, sMeth_app, sNx_app, sExpr_app, iSeq_app, iRng_app, eSl_app, oPart_app, eFmt_app, jNil_app, eTold_app, eCall_app, asm, setMs, List.getElem?_cons_zero, List.getElem?_cons_succ, List.set, opt_some, opt_none, pur_app, un1_one, addD_i, subD_i, negD_i, ltB_i, leB_i, gtB_i, geB_i, eqB_i, neB_i, absD_i, intD_i, intD_b, lenD_l, lenD_t, gBl_app, imm_i, imm_s, imm_b, imm_n, imm_t, imms_nil, imms_cons, Bool.and_self, Bool.and_true, Bool.true_and, asg_nm, asg_tpt, asg_tpl, asgs_nil, asgs_cons, dTup, dLst, truD, dBl, Option.map_some, Mw.gLst, decide_true, decide_false, Bool.not_true, Bool.not_false, Bool.false_and, Bool.and_false, Bool.true_or, Bool.false_or, eq_self, Int.reduceEq, Int.reduceLT, Int.reduceLE, Int.reduceNeg, n2i_0, n2i_1, n2i_2, n2i_3, n2i_4, n2i_5, n2i_6, n2i_7, n2i_8, n2i_9, n2i_10, n2i_11, n2i_12, nI, usD, ixD_t, a1, a2, m])
  have em : ((List.range us.length).map fun k => D.int (zs.getD k 0 * us.getD k 0)) = ((List.range us.length).map fun k => zs.getD k 0 * us.getD k 0).map .int := by rw [List.map_map]; rfl
  rw [em] at lc
  have su := sumX_l ((List.range us.length).map fun k => zs.getD k 0 * us.getD k 0)
  generalize ((List.range us.length).map fun k => zs.getD k 0 * us.getD k 0) = ws at lc su
  obtain ⟨ρ2, e2, v, w4, w5, w6, w7, w8, hr2, _⟩ := sFor_fold (t := .tp [.nm 4, .nm 5, .nm 6, .nm 7]) (b := (sSet 3 (eOp subD (eVar 3) (eOp mulX (eVar 6) (eN maxX (lCons (eOp addD (eN dLst (lCons (eC (.int 0)) lNil)) (eLc (.nm 8) (iRng rng1 (lCons (eN (un1 lenD) (lCons (eVar 1) lNil)) lNil)) (cChain leB leB (eVar 4) (eVar 8) (eVar 5)) (eOp subD (eOp ixD (eVar 2) (eVar 8)) (eVar 7)))) lNil)))))) lD (fun (a : Unit) t => a) (fun _ ρ => ∃ (v : Int) (y4 y5 y6 y7 y8 : Option D), ρ = [some (lsD L), some (usD us), some (.tup (zs.map .int)), some (.int v), y4, y5, y6, y7, y8] ∧ okV y8 = true) L (fun t ht a ρ hr => by
    obtain ⟨v, y4, y5, y6, y7, y8, rfl, o8⟩ := hr
    have okt := h.ok t ht
    refine ⟨_, rfl, ?_⟩
    have lc3 := eLc_map (t := .nm 8) (fi := (iRng rng1 (lCons (eN (un1 lenD) (lCons (eVar 1) lNil)) lNil))) (tt := (cChain leB leB (eVar 4) (eVar 8) (eVar 5))) (te := (eOp subD (eOp ixD (eVar 2) (eVar 8)) (eVar 7))) (ρ := [some (lsD L), some (usD us), some (.tup (zs.map .int)), some (.int v), some (.int t.f), some (.int t.l), some (.int t.g), some (.int t.p), y8]) (ρ1 := [some (lsD L), some (usD us), some (.tup (zs.map .int)), some (.int v), some (.int t.f), some (.int t.l), some (.int t.g), some (.int t.p), y8]) (List.range us.length) nI (fun k => decide (t.f ≤ (k : Int)) && decide ((k : Int) ≤ t.l)) (fun k => .int (zs.getD k 0 - t.p)) (fun k => [some (lsD L), some (usD us), some (.tup (zs.map .int)), some (.int v), some (.int t.f), some (.int t.l), some (.int t.g), some (.int t.p), some (nI k)])
      (by simp -implicitDefEqProofs only [seqD_l, seqD_t, seqD_c, Nx_nx, Nx_ct, unwipe, wipeE, Tg.ids, Tg.idss, Option.getD_some, Option.getD_none, cChain_app, eChain_app, cChain3_app, eChain3_app, sAug_app, addI_i, subI_i, ↓reduceIte, if_true, if_false, Bool.false_eq_true, List.map_cons, List.map_nil, List.length_cons, List.length_nil, Nat.reduceAdd, Nat.reduceSub, Nat.reduceLeDiff, List.replicate, List.cons_append, List.nil_append, sSeq_app, sSetL_app, sSet_app, sRet_app, bind_app, eOp_app, eUn_app, eN_app, lCons_app, lNil_app, lSlot_app, eVar_app, eC_app, eChk_app, eIf_app, eNot_app, eAnd_app, eOr_app, cTru_app, cOp_app, cNot_app, cAnd_app, cOr_app, sIf_app, sAsg_app, sPar_app, sRaise_app, sMeth_app, sNx_app, sExpr_app, iSeq_app, iRng_app, eSl_app, oPart_app, eFmt_app, jNil_app, eTold_app, eCall_app, asm, setMs, List.getElem?_cons_zero, List.getElem?_cons_succ, List.set, opt_some, opt_none, pur_app, un1_one, addD_i, subD_i, negD_i, ltB_i, leB_i, gtB_i, geB_i, eqB_i, neB_i, absD_i, intD_i, intD_b, lenD_l, lenD_t, gBl_app, imm_i, imm_s, imm_b, imm_n, imm_t, imms_nil, imms_cons, Bool.and_self, Bool.and_true, Bool.true_and, asg_nm, asg_tpt, asg_tpl, asgs_nil, asgs_cons, dTup, dLst, truD, dBl, Option.map_some, Mw.gLst, decide_true, decide_false, Bool.not_true, Bool.not_false, Bool.false_and, Bool.and_false, Bool.true_or, Bool.false_or, eq_self, Int.reduceEq, Int.reduceLT, Int.reduceLE, Int.reduceNeg, n2i_0, n2i_1, n2i_2, n2i_3, n2i_4, n2i_5, n2i_6, n2i_7, n2i_8, n2i_9, n2i_10, n2i_11, n2i_12, ll, rg]) (clean1 (x := y8) rfl o8) (by rw [List.length_range]; omega) (fun k hk => by
        have hk := List.mem_range.mp hk
        have a1 := atI_int (l := zs) (k := k) (by omega)
        refine ⟨rfl, ?_, fun _ => ?_, rfl⟩
        · by_cases q : t.f ≤ (k : Int)
          · simp -implicitDefEqProofs only [seqD_l, seqD_t, seqD_c, Nx_nx, Nx_ct, unwipe, wipeE, Tg.ids, Tg.idss, Option.getD_some, Option.getD_none, cChain_app, eChain_app, cChain3_app, eChain3_app, sAug_app, addI_i, subI_i, ↓reduceIte, if_true, if_false, Bool.false_eq_true, List.map_cons, List.map_nil, List.length_cons, List.length_nil, Nat.reduceAdd, Nat.reduceSub, Nat.reduceLeDiff, List.replicate, List.cons_append, List.nil_append, sSeq_app, sSetL_app, sSet_app, sRet_app, bind_app, eOp_app, eUn_app, eN_app, lCons_app, lNil_app, lSlot_app, eVar_app, eC_app, eChk_app, eIf_app, eNot_app, eAnd_app, eOr_app, cTru_app, cOp_app, cNot_app, cAnd_app, cOr_app, sIf_app, sAsg_app, sPar_app, sRaise_app, sMeth_app, sNx_app, sExpr_app, iSeq_app, iRng_app, eSl_app, oPart_app, eFmt_app, jNil_app, eTold_app, eCall_app, asm, setMs, List.getElem?_cons_zero, List.getElem?_cons_succ, List.set, opt_some, opt_none, pur_app, un1_one, addD_i, subD_i, negD_i, ltB_i, leB_i, gtB_i, geB_i, eqB_i, neB_i, absD_i, intD_i, intD_b, lenD_l, lenD_t, gBl_app, imm_i, imm_s, imm_b, imm_n, imm_t, imms_nil, imms_cons, Bool.and_self, Bool.and_true, Bool.true_and, asg_nm, asg_tpt, asg_tpl, asgs_nil, asgs_cons, dTup, dLst, truD, dBl, Option.map_some, Mw.gLst, decide_true, decide_false, Bool.not_true, Bool.not_false, Bool.false_and, Bool.and_false, Bool.true_or, Bool.false_or, eq_self, Int.reduceEq, Int.reduceLT, Int.reduceLE, Int.reduceNeg, n2i_0, n2i_1, n2i_2, n2i_3, n2i_4, n2i_5, n2i_6, n2i_7, n2i_8, n2i_9, n2i_10, n2i_11, n2i_12, nI, q]
          · simp -implicitDefEqProofs only [seqD_l, seqD_t, seqD_c, Nx_nx, Nx_ct, unwipe, wipeE, Tg.ids, Tg.idss, Option.getD_some, Option.getD_none, cChain_app, eChain_app, cChain3_app, eChain3_app, sAug_app, addI_i, subI_i, ↓reduceIte, if_true, if_false, Bool.false_eq_true, List.map_cons, List.map_nil, List.length_cons, List.length_nil, Nat.reduceAdd, Nat.reduceSub, Nat.reduceLeDiff, List.replicate, List.cons_append, List.nil_append, sSeq_app, sSetL_app, sSet_app, sRet_app, bind_app, eOp_app, eUn_app, eN_app, lCons_app, lNil_app, lSlot_app, eVar_app, eC_app, eChk_app, eIf_app, eNot_app, eAnd_app, eOr_app, cTru_app, cOp_app, cNot_app, cAnd_app, cOr_app, sIf_app, sAsg_app, sPar_app, sRaise_app, sMeth_app, sNx_app, sExpr_app, iSeq_app, iRng_app, eSl_app, oPart_app, eFmt_app, jNil_app, eTold_app, eCall_app, asm, setMs, List.getElem?_cons_zero, List.getElem?_cons_succ, List.set, opt_some, opt_none, pur_app, un1_one, addD_i, subD_i, negD_i, ltB_i, leB_i, gtB_i, geB_i, eqB_i, neB_i, absD_i, intD_i, intD_b, lenD_l, lenD_t, gBl_app, imm_i, imm_s, imm_b, imm_n, imm_t, imms_nil, imms_cons, Bool.and_self, Bool.and_true, Bool.true_and, asg_nm, asg_tpt, asg_tpl, asgs_nil, asgs_cons, dTup, dLst, truD, dBl, Option.map_some, Mw.gLst, decide_true, decide_false, Bool.not_true, Bool.not_false, Bool.false_and, Bool.and_false, Bool.true_or, Bool.false_or, eq_self, Int.reduceEq, Int.reduceLT, Int.reduceLE, Int.reduceNeg, n2i_0, n2i_1, n2i_2, n2i_3, n2i_4, n2i_5, n2i_6, n2i_7, n2i_8, n2i_9, n2i_10, n2i_11, n2i_12, nI, q]
        · simp -implicitDefEqProofs only [seqD_l, seqD_t, seqD_c, Nx_nx, Nx_ct, unwipe, wipeE, Tg.ids, Tg.idss, Option.getD_some, Option.getD_none, cChain_app, eChain_app, cChain3_app, eChain3_app, sAug_app, addI_i, subI_i, ↓reduceIte, if_true, if_false, Bool.false_eq_true, List.map_cons, List.map_nil, List.length_cons, List.length_nil, Nat.reduceAdd, Nat.reduceSub, Nat.reduceLeDiff, List.replicate, List.cons_append, List.nil_append, sSeq_app, sSetL_app, sSet_app, sRet_app, bind_app, eOp_app, eUn_app, eN_app, lCons_app, lNil_app, lSlot_app, eVar_app, eC_app, eChk_app, eIf_app, eNot_app, eAnd_app, eOr_app, cTru_app, cOp_app, cNot_app, cAnd_app, cOr_app, sIf_app, sAsg_app, sPar_app, sRaise_app, sMeth_app, sNx_app, sExpr_app, iSeq_app, iRng_app, eSl_app, oPart_app, eFmt_app, jNil_app, eTold_app, eCall_app, asm, setMs, List.getElem?_cons_zero, List.getElem?_cons_succ, List.set, opt_some, opt_none, pur_app, un1_one, addD_i, subD_i, negD_i, ltB_i, leB_i, gtB_i, geB_i, eqB_i, neB_i, absD_i, intD_i, intD_b, lenD_l, lenD_t, gBl_app, imm_i, imm_s, imm_b, imm_n, imm_t, imms_nil, imms_cons, Bool.and_self, Bool.and_true, Bool.true_and, asg_nm, asg_tpt, asg_tpl, asgs_nil, asgs_cons, dTup, dLst, truD, dBl, Option.map_some, Mw.gLst, decide_true, decide_false, Bool.not_true, Bool.not_false, Bool.false_and, Bool.and_false, Bool.true_or, Bool.false_or, eq_self, Int.reduceEq, Int.reduceLT, Int.reduceLE, Int.reduceNeg, n2i_0, n2i_1, n2i_2, n2i_3, n2i_4, n2i_5, n2i_6, n2i_7, n2i_8, n2i_9, n2i_10, n2i_11, n2i_12, nI, ixD_t, a1])
    obtain ⟨gs, hgs⟩ : ∃ gs, gs = ((List.range us.length).filter (fun k : Nat => decide (t.f ≤ (k : Int)) && decide ((k : Int) ≤ t.l))).map fun k => zs.getD k 0 - t.p := ⟨_, rfl⟩
    have em3 : (((List.range us.length).filter (fun k : Nat => decide (t.f ≤ (k : Int)) && decide ((k : Int) ≤ t.l))).map fun k => D.int (zs.getD k 0 - t.p)) = gs.map .int := by rw [hgs, List.map_map]; rfl
    rw [em3] at lc3
    have gl : gs.length ≤ 60 := by
      rw [hgs, List.length_map]
      have := List.length_filter_le (fun k : Nat => decide (t.f ≤ (k : Int)) && decide ((k : Int) ≤ t.l)) (List.range us.length)
      rw [List.length_range] at this; omega
    have gb : (gs.foldl mxF 0).natAbs < 2 ^ 120 := fold_bd (by decide) (fun z hz' => by
      rw [hgs] at hz'
      obtain ⟨k, hk, rfl⟩ := List.mem_map.mp hz'
      have hk := List.mem_range.mp (List.mem_filter.mp hk).1
      have := hs _ (getD_mem (l := zs) (i := k) (by omega))
      have := okt.p9
      have := okt.p0
      omega)
    have s1 : Sm (gs.foldl mxF 0) := sm_of (Nat.lt_trans gb (by decide))
    have s2 : Sm t.g := sm_of (by have := okt.g1; have := okt.g9; omega)
    have ad := addL (a := [D.int 0]) (b := gs.map .int) (by simp) (imms_ints gs) (by rw [List.length_map, List.length_singleton]; omega)
    have mx : maxX [.lst ([D.int 0] ++ gs.map .int)] = some (.int (gs.foldl mxF 0)) := maxX_l 0 gs
    rw [List.singleton_append] at ad mx
    simp -implicitDefEqProofs only [seqD_l, seqD_t, seqD_c, Nx_nx, Nx_ct, unwipe, wipeE, Tg.ids, Tg.idss, Option.getD_some, Option.getD_none, cChain_app, eChain_app, cChain3_app, eChain3_app, sAug_app, addI_i, subI_i, ↓reduceIte, if_true, if_false, Bool.false_eq_true, List.map_cons, List.map_nil, List.length_cons, List.length_nil, Nat.reduceAdd, Nat.reduceSub, Nat.reduceLeDiff, List.replicate, List.cons_append, List.nil_append, sSeq_app, sSetL_app, sSet_app, sRet_app, bind_app, eOp_app, eUn_app, eN_app, lCons_app, lNil_app, lSlot_app, eVar_app, eC_app, eChk_app, eIf_app, eNot_app, eAnd_app, eOr_app, cTru_app, cOp_app, cNot_app, cAnd_app, cOr_app, sIf_app, sAsg_app, sPar_app, sRaise_app, sMeth_app, sNx_app, sExpr_app, iSeq_app, iRng_app, eSl_app, oPart_app, eFmt_app, jNil_app, eTold_app, eCall_app, asm, setMs, List.getElem?_cons_zero, List.getElem?_cons_succ, List.set, opt_some, opt_none, pur_app, un1_one, addD_i, subD_i, negD_i, ltB_i, leB_i, gtB_i, geB_i, eqB_i, neB_i, absD_i, intD_i, intD_b, lenD_l, lenD_t, gBl_app, imm_i, imm_s, imm_b, imm_n, imm_t, imms_nil, imms_cons, Bool.and_self, Bool.and_true, Bool.true_and, asg_nm, asg_tpt, asg_tpl, asgs_nil, asgs_cons, dTup, dLst, truD, dBl, Option.map_some, Mw.gLst, decide_true, decide_false, Bool.not_true, Bool.not_false, Bool.false_and, Bool.and_false, Bool.true_or, Bool.false_or, eq_self, Int.reduceEq, Int.reduceLT, Int.reduceLE, Int.reduceNeg, n2i_0, n2i_1, n2i_2, n2i_3, n2i_4, n2i_5, n2i_6, n2i_7, n2i_8, n2i_9, n2i_10, n2i_11, n2i_12, lD, lc3, ad, mx, mulX_i s2 s1]
    exact ⟨_, _, _, _, _, _, rfl, o8⟩) () [some (lsD L), some (usD us), some (.tup (zs.map .int)), some (.int ws.sum), none, none, none, none, none] ⟨_, none, none, none, none, none, rfl, rfl⟩
  subst hr2
  refine ⟨v, runFn_ret (ρ' := [some (lsD L), some (usD us), some (.tup (zs.map .int)), some (.int v), w4, w5, w6, w7, w8]) rfl ?_ rfl⟩
  have sq : seqD (lsD L) = some (L.map lD) := rfl
  unfold b__law_shown
  simp -implicitDefEqProofs only [seqD_l, seqD_t, seqD_c, Nx_nx, Nx_ct, unwipe, wipeE, Tg.ids, Tg.idss, Option.getD_some, Option.getD_none, cChain_app, eChain_app, cChain3_app, eChain3_app, sAug_app, addI_i, subI_i, ↓reduceIte, if_true, if_false, Bool.false_eq_true, List.map_cons, List.map_nil, List.length_cons, List.length_nil, Nat.reduceAdd, Nat.reduceSub, Nat.reduceLeDiff, List.replicate, List.cons_append, List.nil_append, sSeq_app, sSetL_app, sSet_app, sRet_app, bind_app, eOp_app, eUn_app, eN_app, lCons_app, lNil_app, lSlot_app, eVar_app, eC_app, eChk_app, eIf_app, eNot_app, eAnd_app, eOr_app, cTru_app, cOp_app, cNot_app, cAnd_app, cOr_app, sIf_app, sAsg_app, sPar_app, sRaise_app, sMeth_app, sNx_app, sExpr_app, iSeq_app, iRng_app, eSl_app, oPart_app, eFmt_app, jNil_app, eTold_app, eCall_app, asm, setMs, List.getElem?_cons_zero, List.getElem?_cons_succ, List.set, opt_some, opt_none, pur_app, un1_one, addD_i, subD_i, negD_i, ltB_i, leB_i, gtB_i, geB_i, eqB_i, neB_i, absD_i, intD_i, intD_b, lenD_l, lenD_t, gBl_app, imm_i, imm_s, imm_b, imm_n, imm_t, imms_nil, imms_cons, Bool.and_self, Bool.and_true, Bool.true_and, asg_nm, asg_tpt, asg_tpl, asgs_nil, asgs_cons, dTup, dLst, truD, dBl, Option.map_some, Mw.gLst, decide_true, decide_false, Bool.not_true, Bool.not_false, Bool.false_and, Bool.and_false, Bool.true_or, Bool.false_or, eq_self, Int.reduceEq, Int.reduceLT, Int.reduceLE, Int.reduceNeg, n2i_0, n2i_1, n2i_2, n2i_3, n2i_4, n2i_5, n2i_6, n2i_7, n2i_8, n2i_9, n2i_10, n2i_11, n2i_12, lc, su, sq, e2]
/-! ### the drawn lots and uses -/
theorem lots_in {l : List Int} (hl : Nums l) {days : Int} (hd0 : 1 ≤ days) (hd1 : days ≤ 60) {M : D} : ∀ (ds : List D) (L : List Lot) (p : Nat) (x4 x5 x6 : Option D), (∀ d ∈ ds, ∃ i, d = .int i) → L.length + ds.length ≤ 30 → p + 9 * ds.length < 2 ^ 40 → (∀ t ∈ L, okL t) →
    ∃ (L' : List Lot) (y4 y5 y6 : Option D), (sFor (.nm 4) (sSeq (sSet 5 (eCall [some 0, none] g__law_next (lSlot 0 (lCons (eVar 1) lNil))))
    (sSeq (sSet 6 (eOp ixD (eN dLst (lCons (eOp addD (eC (.int 1)) (eCall [some 0, none] g__law_next (lSlot 0 (lCons (eC (.int 9)) lNil)))) (lCons (eOp addD (eC (.int 1)) (eCall [some 0, none] g__law_next (lSlot 0 (lCons (eC (.int 60)) lNil)))) (lCons (eC (.int 9999)) lNil)))) (eOp ixD (eN dLst (lCons (eC (.int 0)) (lCons (eC (.int 0)) (lCons (eC (.int 1)) (lCons (eC (.int 1)) (lCons (eC (.int 2)) lNil)))))) (eCall [some 0, none] g__law_next (lSlot 0 (lCons (eC (.int 5)) lNil))))))
    (sMeth 3 (eN dTup (lCons (eChk (eVar 5)) (lCons (eN minX (lCons (eC (.int 59)) (lCons (eOp addD (eVar 5) (eCall [some 0, none] g__law_next (lSlot 0 (lCons (eOp ixD (eN dLst (lCons (eC (.int 2)) (lCons (eC (.int 5)) (lCons (eC (.int 60)) lNil)))) (eCall [some 0, none] g__law_next (lSlot 0 (lCons (eC (.int 3)) lNil)))) lNil)))) lNil))) (lCons (eChk (eVar 6)) (lCons (eOp ixD (eN dLst (lCons (eCall [some 0, none] g__law_next (lSlot 0 (lCons (eC (.int 4)) lNil))) (lCons (eCall [some 0, none] g__law_next (lSlot 0 (lCons (eC (.int 1000)) lNil))) lNil))) (eCall [some 0, none] g__law_next (lSlot 0 (lCons (eC (.int 2)) lNil)))) lNil))))) appD)))) ds [some (stD l p), some (.int days), some M, some (.lst (L.map lD)), x4, x5, x6] = .ok .nx [some (stD l (p + 9 * ds.length)), some (.int days), some M, some (.lst (L'.map lD)), y4, y5, y6] ∧ L'.length = L.length + ds.length ∧ ∀ t ∈ L', okL t
  | [], L, p, x4, x5, x6, _, _, _, hL => ⟨L, x4, x5, x6, rfl, rfl, hL⟩
  | d :: ds, L, p, x4, x5, x6, hd, hn, hp, hL => by
    obtain ⟨i, rfl⟩ := hd d List.mem_cons_self
    simp -implicitDefEqProofs only [List.length_cons] at hn hp
    have n1 := nx_ok (many := days) hl (p := p) (by omega) (by omega)
    obtain ⟨a1, b1⟩ := nextV_lt (l := l) (p := p) (many := days) (by omega)
    generalize nextV l p days = v1 at *
    have n2 := nx_ok (many := 9) hl (p := p + 1) (by omega) (by decide)
    obtain ⟨a2, b2⟩ := nextV_lt (l := l) (p := p + 1) (many := 9) (by decide)
    generalize nextV l (p + 1) 9 = v2 at *
    have n3 := nx_ok (many := 60) hl (p := p + 1 + 1) (by omega) (by decide)
    obtain ⟨a3, b3⟩ := nextV_lt (l := l) (p := p + 1 + 1) (many := 60) (by decide)
    generalize nextV l (p + 1 + 1) 60 = v3 at *
    have n4 := nx_ok (many := 5) hl (p := p + 1 + 1 + 1) (by omega) (by decide)
    obtain ⟨a4, b4⟩ := nextV_lt (l := l) (p := p + 1 + 1 + 1) (many := 5) (by decide)
    generalize nextV l (p + 1 + 1 + 1) 5 = v4 at *
    have n5 := nx_ok (many := 3) hl (p := p + 1 + 1 + 1 + 1) (by omega) (by decide)
    obtain ⟨a5, b5⟩ := nextV_lt (l := l) (p := p + 1 + 1 + 1 + 1) (many := 3) (by decide)
    generalize nextV l (p + 1 + 1 + 1 + 1) 3 = v5 at *
    obtain ⟨m, e5, m0, m1⟩ := pick_in (lo := 2) (hi := 60) (l := [.int 2, .int 5, .int 60]) a5 (by simpa using b5) (by
      intro d hd; simp -implicitDefEqProofs only [List.mem_cons, List.not_mem_nil, or_false] at hd
      rcases hd with rfl | rfl | rfl <;> exact in_i (by decide) (by decide))
    have n6 := nx_ok (many := m) hl (p := p + 1 + 1 + 1 + 1 + 1) (by omega) (by omega)
    obtain ⟨a6, b6⟩ := nextV_lt (l := l) (p := p + 1 + 1 + 1 + 1 + 1) (many := m) (by omega)
    generalize nextV l (p + 1 + 1 + 1 + 1 + 1) m = v6 at *
    have n7 := nx_ok (many := 4) hl (p := p + 1 + 1 + 1 + 1 + 1 + 1) (by omega) (by decide)
    obtain ⟨a7, b7⟩ := nextV_lt (l := l) (p := p + 1 + 1 + 1 + 1 + 1 + 1) (many := 4) (by decide)
    generalize nextV l (p + 1 + 1 + 1 + 1 + 1 + 1) 4 = v7 at *
    have n8 := nx_ok (many := 1000) hl (p := p + 1 + 1 + 1 + 1 + 1 + 1 + 1) (by omega) (by decide)
    obtain ⟨a8, b8⟩ := nextV_lt (l := l) (p := p + 1 + 1 + 1 + 1 + 1 + 1 + 1) (many := 1000) (by decide)
    generalize nextV l (p + 1 + 1 + 1 + 1 + 1 + 1 + 1) 1000 = v8 at *
    have n9 := nx_ok (many := 2) hl (p := p + 1 + 1 + 1 + 1 + 1 + 1 + 1 + 1) (by omega) (by decide)
    obtain ⟨a9, b9⟩ := nextV_lt (l := l) (p := p + 1 + 1 + 1 + 1 + 1 + 1 + 1 + 1) (many := 2) (by decide)
    generalize nextV l (p + 1 + 1 + 1 + 1 + 1 + 1 + 1 + 1) 2 = v9 at *
    obtain ⟨j, e1, j0, j1⟩ := pick_in (lo := 0) (hi := 2) (l := [.int 0, .int 0, .int 1, .int 1, .int 2]) a4 (by simpa using b4) (by
      intro d hd; simp -implicitDefEqProofs only [List.mem_cons, List.not_mem_nil, or_false] at hd
      rcases hd with rfl | rfl | rfl | rfl | rfl <;> exact in_i (by decide) (by decide))
    obtain ⟨g, e2, g0, g1⟩ := pick_in (lo := 1) (hi := 9999) (l := [.int (1 + v2), .int (1 + v3), .int 9999]) j0 (by simp; omega) (by
      intro d hd; simp -implicitDefEqProofs only [List.mem_cons, List.not_mem_nil, or_false] at hd
      rcases hd with rfl | rfl | rfl <;> exact in_i (by omega) (by omega))
    obtain ⟨c, e4, c0, c1⟩ := pick_in (lo := 0) (hi := 999) (l := [.int v7, .int v8]) a9 (by simpa using b9) (by
      intro d hd; simp -implicitDefEqProofs only [List.mem_cons, List.not_mem_nil, or_false] at hd
      rcases hd with rfl | rfl <;> exact in_i (by omega) (by omega))
    obtain ⟨lst, hlst⟩ : ∃ lst : Int, lst = (if v1 + v6 < 59 then v1 + v6 else 59) := ⟨_, rfl⟩
    have mi : minX [.int 59, .int (v1 + v6)] = some (.int lst) := by rw [minX_i, hlst]
    have okt : okL (Lot.mk v1 lst g c) := ⟨a1, by show v1 ≤ lst; rw [hlst]; split <;> omega, by show lst ≤ 59; rw [hlst]; split <;> omega, g0, g1, c0, c1⟩
    obtain ⟨L', y4, y5, y6, e, h1, h2⟩ := lots_in hl hd0 hd1 (M := M) ds (L ++ [(Lot.mk v1 lst g c)]) (p + 9) (some (.int i)) (some (.int v1)) (some (.int g)) (fun d' hd' => hd d' (List.mem_cons_of_mem _ hd')) (by rw [List.length_append, List.length_singleton]; omega) (by omega) (fun t ht => by
      rcases List.mem_append.mp ht with z | z
      · exact hL t z
      · rw [List.mem_singleton.mp z]; exact okt)
    have ap : appD (L.map lD) (.tup [.int v1, .int lst, .int g, .int c]) = some ((L ++ [(Lot.mk v1 lst g c)]).map lD) := by
      rw [appD_ok (by rw [List.length_map]; omega), List.map_append]; rfl
    refine ⟨L', y4, y5, y6, ?_, by rw [h1, List.length_append, List.length_singleton, List.length_cons]; omega, h2⟩
    rw [sFor]
    simp -implicitDefEqProofs only [seqD_l, seqD_t, seqD_c, Nx_nx, Nx_ct, unwipe, wipeE, Tg.ids, Tg.idss, Option.getD_some, Option.getD_none, cChain_app, eChain_app, cChain3_app, eChain3_app, sAug_app, addI_i, subI_i, ↓reduceIte, if_true, if_false, Bool.false_eq_true, List.map_cons, List.map_nil, List.length_cons, List.length_nil, Nat.reduceAdd, Nat.reduceSub, Nat.reduceLeDiff, List.replicate, List.cons_append, List.nil_append, sSeq_app, sSetL_app, sSet_app, sRet_app, bind_app, eOp_app, eUn_app, eN_app, lCons_app, lNil_app, lSlot_app, eVar_app, eC_app, eChk_app, eIf_app, eNot_app, eAnd_app, eOr_app, cTru_app, cOp_app, cNot_app, cAnd_app, cOr_app, sIf_app, sAsg_app, sPar_app, sRaise_app, sMeth_app, sNx_app, sExpr_app, iSeq_app, iRng_app, eSl_app, oPart_app, eFmt_app, jNil_app, eTold_app, eCall_app, asm, setMs, List.getElem?_cons_zero, List.getElem?_cons_succ, List.set, opt_some, opt_none, pur_app, un1_one, addD_i, subD_i, negD_i, ltB_i, leB_i, gtB_i, geB_i, eqB_i, neB_i, absD_i, intD_i, intD_b, lenD_l, lenD_t, gBl_app, imm_i, imm_s, imm_b, imm_n, imm_t, imms_nil, imms_cons, Bool.and_self, Bool.and_true, Bool.true_and, asg_nm, asg_tpt, asg_tpl, asgs_nil, asgs_cons, dTup, dLst, truD, dBl, Option.map_some, Mw.gLst, decide_true, decide_false, Bool.not_true, Bool.not_false, Bool.false_and, Bool.and_false, Bool.true_or, Bool.false_or, eq_self, Int.reduceEq, Int.reduceLT, Int.reduceLE, Int.reduceNeg, n2i_0, n2i_1, n2i_2, n2i_3, n2i_4, n2i_5, n2i_6, n2i_7, n2i_8, n2i_9, n2i_10, n2i_11, n2i_12, n1, n2, n3, n4, n5, n6, n7, n8, n9, ixD_l, e1, e2, e4, e5, mi, ap]
    rw [show p + 9 * (ds.length + 1) = p + 9 + 9 * ds.length from by omega]
    exact e
theorem lots_draw {l : List Int} (hl : Nums l) {days most : Int} (hd0 : 1 ≤ days) (hd1 : days ≤ 60) (hm0 : 1 ≤ most) (hm1 : most ≤ 30) {p : Nat} (hp : p < 2 ^ 30) : ∃ (L : List Lot) (p' : Nat), g__law_lots [stD l p, .int days, .int most] = .ok (lsD L) [stD l p'] ∧ Lots L ∧ p' ≤ p + 300 := by
  have n1 := nx_ok (many := most + 1) hl (p := p) (by omega) (by omega)
  obtain ⟨a1, b1⟩ := nextV_lt (l := l) (p := p) (many := most + 1) (by omega)
  generalize nextV l p (most + 1) = v1 at *
  obtain ⟨k, rfl⟩ : ∃ k : Nat, v1 = (k : Int) := ⟨v1.toNat, by omega⟩
  have rg : rng1 [.int (k : Int)] = some ((List.range k).map nI) := rng1_nat (by omega)
  obtain ⟨L, y4, y5, y6, e, h1, h2⟩ := lots_in hl hd0 hd1 (M := .int most) ((List.range k).map nI) [] (p + 1) none none none (fun d hd => by obtain ⟨i, _, rfl⟩ := List.mem_map.mp hd; exact ⟨_, rfl⟩) (by rw [List.length_map, List.length_range, List.length_nil]; omega) (by rw [List.length_map, List.length_range]; omega) (fun _ h => nomatch h)
  rw [List.length_map, List.length_range] at h1 e
  rw [List.length_nil, Nat.zero_add] at h1
  refine ⟨L, p + 1 + 9 * k, runFn_ret (ρ' := [some (stD l (p + 1 + 9 * k)), some (.int days), some (.int most), some (.lst (L.map lD)), y4, y5, y6]) rfl ?_ rfl, ⟨by omega, h2⟩, by omega⟩
  unfold b__law_lots
  rw [List.map_nil] at e
  simp -implicitDefEqProofs only [seqD_l, seqD_t, seqD_c, Nx_nx, Nx_ct, unwipe, wipeE, Tg.ids, Tg.idss, Option.getD_some, Option.getD_none, cChain_app, eChain_app, cChain3_app, eChain3_app, sAug_app, addI_i, subI_i, ↓reduceIte, if_true, if_false, Bool.false_eq_true, List.map_cons, List.map_nil, List.length_cons, List.length_nil, Nat.reduceAdd, Nat.reduceSub, Nat.reduceLeDiff, List.replicate, List.cons_append, List.nil_append, sSeq_app, sSetL_app, sSet_app, sRet_app, bind_app, eOp_app, eUn_app, eN_app, lCons_app, lNil_app, lSlot_app, eVar_app, eC_app, eChk_app, eIf_app, eNot_app, eAnd_app, eOr_app, cTru_app, cOp_app, cNot_app, cAnd_app, cOr_app, sIf_app, sAsg_app, sPar_app, sRaise_app, sMeth_app, sNx_app, sExpr_app, iSeq_app, iRng_app, eSl_app, oPart_app, eFmt_app, jNil_app, eTold_app, eCall_app, asm, setMs, List.getElem?_cons_zero, List.getElem?_cons_succ, List.set, opt_some, opt_none, pur_app, un1_one, addD_i, subD_i, negD_i, ltB_i, leB_i, gtB_i, geB_i, eqB_i, neB_i, absD_i, intD_i, intD_b, lenD_l, lenD_t, gBl_app, imm_i, imm_s, imm_b, imm_n, imm_t, imms_nil, imms_cons, Bool.and_self, Bool.and_true, Bool.true_and, asg_nm, asg_tpt, asg_tpl, asgs_nil, asgs_cons, dTup, dLst, truD, dBl, Option.map_some, Mw.gLst, decide_true, decide_false, Bool.not_true, Bool.not_false, Bool.false_and, Bool.and_false, Bool.true_or, Bool.false_or, eq_self, Int.reduceEq, Int.reduceLT, Int.reduceLE, Int.reduceNeg, n2i_0, n2i_1, n2i_2, n2i_3, n2i_4, n2i_5, n2i_6, n2i_7, n2i_8, n2i_9, n2i_10, n2i_11, n2i_12, n1, rg, e, tupleD_l (imms_lD L), lsD]
theorem uses_draw {l : List Int} (hl : Nums l) {n : Nat} (hn0 : 1 ≤ n) (hn1 : n ≤ 60) {p : Nat} (hp : p < 2 ^ 30) : ∃ (us : List Int) (p' : Nat), g__law_uses [stD l p, .int n] = .ok (usD us) [stD l p'] ∧ Uses us ∧ us.length = n ∧ p' ≤ p + 200 := by
  have n1 := nx_ok (many := 5) hl (p := p) (by omega) (by decide)
  obtain ⟨a1, b1⟩ := nextV_lt (l := l) (p := p) (many := 5) (by decide)
  generalize nextV l (p) 5 = v1 at *
  obtain ⟨j, e1, j0, j1⟩ := pick_in (lo := 0) (hi := 2) (l := [.int 0, .int 0, .int 1, .int 1, .int 2]) a1 (by simpa using b1) (by
    intro d hd; simp -implicitDefEqProofs only [List.mem_cons, List.not_mem_nil, or_false] at hd
    rcases hd with rfl | rfl | rfl | rfl | rfl <;> exact in_i (by decide) (by decide))
  obtain ⟨g, e2, g0, g1⟩ := pick_in (lo := 6) (hi := 9999) (l := [.int 6, .int 40, .int 9999]) j0 (by simp; omega) (by
    intro d hd; simp -implicitDefEqProofs only [List.mem_cons, List.not_mem_nil, or_false] at hd
    rcases hd with rfl | rfl | rfl <;> exact in_i (by decide) (by decide))
  have rg : rng1 [.int (n : Int)] = some ((List.range n).map nI) := rng1_nat (by omega)
  obtain ⟨V, hV⟩ : ∃ V : Nat → Int, ∀ k, V k = nextV l (p + 1 + 2 * k) (g + 1) * (if 0 < nextV l (p + 1 + 2 * k + 1) 5 then 1 else 0) := ⟨_, fun _ => rfl⟩
  have vb : ∀ k, 0 ≤ V k ∧ V k ≤ 9999 := fun k => by
    rw [hV]
    obtain ⟨x1, x2⟩ := nextV_lt (l := l) (p := p + 1 + 2 * k) (many := g + 1) (by omega)
    split
    · omega
    · omega
  have st := eLc_steps (t := .nm 3) (fi := (iRng rng1 (lCons (eVar 1) lNil))) (tt := M.pur true) (te := (eOp mulX (eCall [some 0, none] g__law_next (lSlot 0 (lCons (eOp addD (eVar 2) (eC (.int 1))) lNil))) (eN (un1 intD) (lCons (eOp (gBl gtB) (eCall [some 0, none] g__law_next (lSlot 0 (lCons (eC (.int 5)) lNil))) (eC (.int 0))) lNil)))) (ρ := [some (stD l (p + 1)), some (.int n), some (.int g), none]) (ρ1 := [some (stD l (p + 1)), some (.int n), some (.int g), none]) (xs := (List.range n).map nI) (fun k => .int (V k)) (fun k => [some (stD l (p + 1 + 2 * k)), some (.int n), some (.int g), none])
    (by simp -implicitDefEqProofs only [seqD_l, seqD_t, seqD_c, Nx_nx, Nx_ct, unwipe, wipeE, Tg.ids, Tg.idss, Option.getD_some, Option.getD_none, cChain_app, eChain_app, cChain3_app, eChain3_app, sAug_app, addI_i, subI_i, ↓reduceIte, if_true, if_false, Bool.false_eq_true, List.map_cons, List.map_nil, List.length_cons, List.length_nil, Nat.reduceAdd, Nat.reduceSub, Nat.reduceLeDiff, List.replicate, List.cons_append, List.nil_append, sSeq_app, sSetL_app, sSet_app, sRet_app, bind_app, eOp_app, eUn_app, eN_app, lCons_app, lNil_app, lSlot_app, eVar_app, eC_app, eChk_app, eIf_app, eNot_app, eAnd_app, eOr_app, cTru_app, cOp_app, cNot_app, cAnd_app, cOr_app, sIf_app, sAsg_app, sPar_app, sRaise_app, sMeth_app, sNx_app, sExpr_app, iSeq_app, iRng_app, eSl_app, oPart_app, eFmt_app, jNil_app, eTold_app, eCall_app, asm, setMs, List.getElem?_cons_zero, List.getElem?_cons_succ, List.set, opt_some, opt_none, pur_app, un1_one, addD_i, subD_i, negD_i, ltB_i, leB_i, gtB_i, geB_i, eqB_i, neB_i, absD_i, intD_i, intD_b, lenD_l, lenD_t, gBl_app, imm_i, imm_s, imm_b, imm_n, imm_t, imms_nil, imms_cons, Bool.and_self, Bool.and_true, Bool.true_and, asg_nm, asg_tpt, asg_tpl, asgs_nil, asgs_cons, dTup, dLst, truD, dBl, Option.map_some, Mw.gLst, decide_true, decide_false, Bool.not_true, Bool.not_false, Bool.false_and, Bool.and_false, Bool.true_or, Bool.false_or, eq_self, Int.reduceEq, Int.reduceLT, Int.reduceLE, Int.reduceNeg, n2i_0, n2i_1, n2i_2, n2i_3, n2i_4, n2i_5, n2i_6, n2i_7, n2i_8, n2i_9, n2i_10, n2i_11, n2i_12, rg]) rfl (by rw [List.length_map, List.length_range]; omega) rfl (fun k x hx => by
      have hk : k < n := by
        have := (List.getElem?_eq_some_iff.mp hx).1
        rwa [List.length_map, List.length_range] at this
      have q1 := nx_ok (many := g + 1) hl (p := p + 1 + 2 * k) (by omega) (by omega)
      have q2 := nx_ok (many := 5) hl (p := p + 1 + 2 * k + 1) (by omega) (by decide)
      obtain ⟨x1, x2⟩ := nextV_lt (l := l) (p := p + 1 + 2 * k) (many := g + 1) (by omega)
      have hx' : x = nI k := by
        rw [List.getElem?_map, List.getElem?_range hk] at hx
        cases hx; rfl
      subst hx'
      have s1 : Sm (nextV l (p + 1 + 2 * k) (g + 1)) := sm_of (by omega)
      refine ⟨[some (stD l (p + 1 + 2 * k)), some (.int n), some (.int g), some (nI k)], [some (stD l (p + 1 + 2 * k + 1 + 1)), some (.int n), some (.int g), some (nI k)], rfl, rfl, ?_, rfl⟩
      have e := hV k
      generalize nextV l (p + 1 + 2 * k) (g + 1) = u1 at *
      generalize nextV l (p + 1 + 2 * k + 1) 5 = u2 at *
      have s0 : Sm 0 := sm_of (by decide)
      have s9 : Sm 1 := sm_of (by decide)
      by_cases c : 0 < u2
      · rw [if_pos c] at e
        simp -implicitDefEqProofs only [seqD_l, seqD_t, seqD_c, Nx_nx, Nx_ct, unwipe, wipeE, Tg.ids, Tg.idss, Option.getD_some, Option.getD_none, cChain_app, eChain_app, cChain3_app, eChain3_app, sAug_app, addI_i, subI_i, ↓reduceIte, if_true, if_false, Bool.false_eq_true, List.map_cons, List.map_nil, List.length_cons, List.length_nil, Nat.reduceAdd, Nat.reduceSub, Nat.reduceLeDiff, List.replicate, List.cons_append, List.nil_append, sSeq_app, sSetL_app, sSet_app, sRet_app, bind_app, eOp_app, eUn_app, eN_app, lCons_app, lNil_app, lSlot_app, eVar_app, eC_app, eChk_app, eIf_app, eNot_app, eAnd_app, eOr_app, cTru_app, cOp_app, cNot_app, cAnd_app, cOr_app, sIf_app, sAsg_app, sPar_app, sRaise_app, sMeth_app, sNx_app, sExpr_app, iSeq_app, iRng_app, eSl_app, oPart_app, eFmt_app, jNil_app, eTold_app, eCall_app, asm, setMs, List.getElem?_cons_zero, List.getElem?_cons_succ, List.set, opt_some, opt_none, pur_app, un1_one, addD_i, subD_i, negD_i, ltB_i, leB_i, gtB_i, geB_i, eqB_i, neB_i, absD_i, intD_i, intD_b, lenD_l, lenD_t, gBl_app, imm_i, imm_s, imm_b, imm_n, imm_t, imms_nil, imms_cons, Bool.and_self, Bool.and_true, Bool.true_and, asg_nm, asg_tpt, asg_tpl, asgs_nil, asgs_cons, dTup, dLst, truD, dBl, Option.map_some, Mw.gLst, decide_true, decide_false, Bool.not_true, Bool.not_false, Bool.false_and, Bool.and_false, Bool.true_or, Bool.false_or, eq_self, Int.reduceEq, Int.reduceLT, Int.reduceLE, Int.reduceNeg, n2i_0, n2i_1, n2i_2, n2i_3, n2i_4, n2i_5, n2i_6, n2i_7, n2i_8, n2i_9, n2i_10, n2i_11, n2i_12, q1, q2, c, mulX_i s1 s9, e]
      · rw [if_neg c] at e
        simp -implicitDefEqProofs only [seqD_l, seqD_t, seqD_c, Nx_nx, Nx_ct, unwipe, wipeE, Tg.ids, Tg.idss, Option.getD_some, Option.getD_none, cChain_app, eChain_app, cChain3_app, eChain3_app, sAug_app, addI_i, subI_i, ↓reduceIte, if_true, if_false, Bool.false_eq_true, List.map_cons, List.map_nil, List.length_cons, List.length_nil, Nat.reduceAdd, Nat.reduceSub, Nat.reduceLeDiff, List.replicate, List.cons_append, List.nil_append, sSeq_app, sSetL_app, sSet_app, sRet_app, bind_app, eOp_app, eUn_app, eN_app, lCons_app, lNil_app, lSlot_app, eVar_app, eC_app, eChk_app, eIf_app, eNot_app, eAnd_app, eOr_app, cTru_app, cOp_app, cNot_app, cAnd_app, cOr_app, sIf_app, sAsg_app, sPar_app, sRaise_app, sMeth_app, sNx_app, sExpr_app, iSeq_app, iRng_app, eSl_app, oPart_app, eFmt_app, jNil_app, eTold_app, eCall_app, asm, setMs, List.getElem?_cons_zero, List.getElem?_cons_succ, List.set, opt_some, opt_none, pur_app, un1_one, addD_i, subD_i, negD_i, ltB_i, leB_i, gtB_i, geB_i, eqB_i, neB_i, absD_i, intD_i, intD_b, lenD_l, lenD_t, gBl_app, imm_i, imm_s, imm_b, imm_n, imm_t, imms_nil, imms_cons, Bool.and_self, Bool.and_true, Bool.true_and, asg_nm, asg_tpt, asg_tpl, asgs_nil, asgs_cons, dTup, dLst, truD, dBl, Option.map_some, Mw.gLst, decide_true, decide_false, Bool.not_true, Bool.not_false, Bool.false_and, Bool.and_false, Bool.true_or, Bool.false_or, eq_self, Int.reduceEq, Int.reduceLT, Int.reduceLE, Int.reduceNeg, n2i_0, n2i_1, n2i_2, n2i_3, n2i_4, n2i_5, n2i_6, n2i_7, n2i_8, n2i_9, n2i_10, n2i_11, n2i_12, q1, q2, c, mulX_i s1 s0, e])
  rw [List.length_map, List.length_range] at st
  have em : (List.range' 0 n).map (fun k => D.int (V k)) = ((List.range' 0 n).map V).map .int := by rw [List.map_map]; rfl
  rw [em] at st
  refine ⟨(List.range' 0 n).map V, p + 1 + 2 * n, runFn_ret (ρ' := [some (stD l (p + 1 + 2 * n)), some (.int n), some (.int g), none]) rfl ?_ rfl, ⟨by rw [List.length_map, List.length_range']; omega, by rw [List.length_map, List.length_range']; omega, fun u hu => by obtain ⟨k, _, rfl⟩ := List.mem_map.mp hu; exact vb k⟩, by rw [List.length_map, List.length_range'], by omega⟩
  unfold b__law_uses
  simp -implicitDefEqProofs only [seqD_l, seqD_t, seqD_c, Nx_nx, Nx_ct, unwipe, wipeE, Tg.ids, Tg.idss, Option.getD_some, Option.getD_none, cChain_app, eChain_app, cChain3_app, eChain3_app, sAug_app, addI_i, subI_i, ↓reduceIte, if_true, if_false, Bool.false_eq_true, List.map_cons, List.map_nil, List.length_cons, List.length_nil, Nat.reduceAdd, Nat.reduceSub, Nat.reduceLeDiff, List.replicate, List.cons_append, List.nil_append, sSeq_app, sSetL_app, sSet_app, sRet_app, bind_app, eOp_app, eUn_app, eN_app, lCons_app, lNil_app, lSlot_app, eVar_app, eC_app, eChk_app, eIf_app, eNot_app, eAnd_app, eOr_app, cTru_app, cOp_app, cNot_app, cAnd_app, cOr_app, sIf_app, sAsg_app, sPar_app, sRaise_app, sMeth_app, sNx_app, sExpr_app, iSeq_app, iRng_app, eSl_app, oPart_app, eFmt_app, jNil_app, eTold_app, eCall_app, asm, setMs, List.getElem?_cons_zero, List.getElem?_cons_succ, List.set, opt_some, opt_none, pur_app, un1_one, addD_i, subD_i, negD_i, ltB_i, leB_i, gtB_i, geB_i, eqB_i, neB_i, absD_i, intD_i, intD_b, lenD_l, lenD_t, gBl_app, imm_i, imm_s, imm_b, imm_n, imm_t, imms_nil, imms_cons, Bool.and_self, Bool.and_true, Bool.true_and, asg_nm, asg_tpt, asg_tpl, asgs_nil, asgs_cons, dTup, dLst, truD, dBl, Option.map_some, Mw.gLst, decide_true, decide_false, Bool.not_true, Bool.not_false, Bool.false_and, Bool.and_false, Bool.true_or, Bool.false_or, eq_self, Int.reduceEq, Int.reduceLT, Int.reduceLE, Int.reduceNeg, n2i_0, n2i_1, n2i_2, n2i_3, n2i_4, n2i_5, n2i_6, n2i_7, n2i_8, n2i_9, n2i_10, n2i_11, n2i_12, n1, ixD_l, e1, e2, st, tupleD_l (imms_ints _), usD]
def Nn (zs : List Int) : Prop := ∀ z ∈ zs, 0 ≤ z
theorem Nn.set {zs : List Int} (h : Nn zs) (k : Nat) {v : Int} (hv : 0 ≤ v) : Nn (zs.set k v) := fun z hz => by
  rcases List.mem_or_eq_of_mem_set hz with h1 | h1
  · exact h z h1
  · rw [h1]; exact hv
theorem sum_nn : ∀ {zs : List Int}, Nn zs → 0 ≤ zs.sum
  | [], _ => by simp
  | z :: zs, h => by
    have a := h z List.mem_cons_self
    have b := sum_nn (zs := zs) fun y hy => h y (List.mem_cons_of_mem _ hy)
    rw [List.sum_cons]; omega
theorem set_get {zs : List Int} {k : Nat} (h : k < zs.length) (v : Int) : atI ((zs.set k v).map D.int) (k : Int) = some (.int v) := by
  have e := atI_int (l := zs.set k v) (k := k) (by rw [List.length_set]; exact h)
  rw [e, List.getD_eq_getElem?_getD, List.getElem?_set_self h]; rfl
theorem fits_in {L : List Lot} (hL : L.length ≤ 30) {S U Mi : D} {day : Int} {x6 x10 : Option D} (left : List Int) (need : Int) (x8 x9 : Option D) (hl : left.length = L.length) (h1 : Nn left) (h2 : 0 ≤ need) (o8 : okV x8 = true) :
    ∃ (left' : List Int) (need' : Int) (y8 y9 : Option D), (sFor (.nm 8) (sIf (cChain leB leB (eOp ixD (eOp ixD (eVar 1) (eVar 8)) (eC (.int 0))) (eVar 5) (eOp ixD (eOp ixD (eVar 1) (eVar 8)) (eC (.int 1)))) (sSeq (sSet 9 (eN minX (lCons (eVar 7) (lCons (eOp ixD (eVar 4) (eVar 8)) lNil))))
    (sSeq (sSetL 4 (eOp subD (eOp ixD (eVar 4) (eVar 8)) (eVar 9)) (eVar 8))
    (sSet 7 (eOp subD (eVar 7) (eVar 9))))) sNx)) ((List.range L.length).map nI) [some S, some (lsD L), some U, some Mi, some (.lst (left.map .int)), some (.int day), x6, some (.int need), x8, x9, x10] = .ok .nx [some S, some (lsD L), some U, some Mi, some (.lst (left'.map .int)), some (.int day), x6, some (.int need'), y8, y9, x10] ∧ left'.length = L.length ∧ Nn left' ∧ okV y8 = true := by
  obtain ⟨ρ', e, l', n', y8, y9, hr, a1, a2, a3, a4⟩ := sFor_range (t := .nm 8) (b := (sIf (cChain leB leB (eOp ixD (eOp ixD (eVar 1) (eVar 8)) (eC (.int 0))) (eVar 5) (eOp ixD (eOp ixD (eVar 1) (eVar 8)) (eC (.int 1)))) (sSeq (sSet 9 (eN minX (lCons (eVar 7) (lCons (eOp ixD (eVar 4) (eVar 8)) lNil))))
    (sSeq (sSetL 4 (eOp subD (eOp ixD (eVar 4) (eVar 8)) (eVar 9)) (eVar 8))
    (sSet 7 (eOp subD (eVar 7) (eVar 9))))) sNx)) nI (fun i ρ => ∃ (left : List Int) (need : Int) (x8 x9 : Option D), ρ = [some S, some (lsD L), some U, some Mi, some (.lst (left.map .int)), some (.int day), x6, some (.int need), x8, x9, x10] ∧ left.length = L.length ∧ Nn left ∧ 0 ≤ need ∧ okV x8 = true) L.length (fun k hk ρ hr => by
    obtain ⟨left, need, x8, x9, rfl, h1, h2, h3, _⟩ := hr
    refine ⟨_, rfl, ?_⟩
    have at_ := atI_int (l := left) (k := k) (by omega)
    obtain ⟨tk, htk⟩ : ∃ tk, tk = (if left.getD k 0 < need then left.getD k 0 else need) := ⟨_, rfl⟩
    have l0 := h2 _ (getD_mem (l := left) (i := k) (by omega))
    have st := setLD_ok (ds := left.map D.int) (k := k) (by rw [List.length_map]; omega) (.int (left.getD k 0 - tk))
    have sm : (left.map D.int).set k (.int (left.getD k 0 - tk)) = (left.set k (left.getD k 0 - tk)).map .int := by rw [List.map_set]
    rw [sm] at st
    by_cases c1 : (L.getD k t0).f ≤ day
    · by_cases c2 : day ≤ (L.getD k t0).l
      · simp -implicitDefEqProofs only [seqD_l, seqD_t, seqD_c, Nx_nx, Nx_ct, unwipe, wipeE, Tg.ids, Tg.idss, Option.getD_some, Option.getD_none, cChain_app, eChain_app, cChain3_app, eChain3_app, sAug_app, addI_i, subI_i, ↓reduceIte, if_true, if_false, Bool.false_eq_true, List.map_cons, List.map_nil, List.length_cons, List.length_nil, Nat.reduceAdd, Nat.reduceSub, Nat.reduceLeDiff, List.replicate, List.cons_append, List.nil_append, sSeq_app, sSetL_app, sSet_app, sRet_app, bind_app, eOp_app, eUn_app, eN_app, lCons_app, lNil_app, lSlot_app, eVar_app, eC_app, eChk_app, eIf_app, eNot_app, eAnd_app, eOr_app, cTru_app, cOp_app, cNot_app, cAnd_app, cOr_app, sIf_app, sAsg_app, sPar_app, sRaise_app, sMeth_app, sNx_app, sExpr_app, iSeq_app, iRng_app, eSl_app, oPart_app, eFmt_app, jNil_app, eTold_app, eCall_app, asm, setMs, List.getElem?_cons_zero, List.getElem?_cons_succ, List.set, opt_some, opt_none, pur_app, un1_one, addD_i, subD_i, negD_i, ltB_i, leB_i, gtB_i, geB_i, eqB_i, neB_i, absD_i, intD_i, intD_b, lenD_l, lenD_t, gBl_app, imm_i, imm_s, imm_b, imm_n, imm_t, imms_nil, imms_cons, Bool.and_self, Bool.and_true, Bool.true_and, asg_nm, asg_tpt, asg_tpl, asgs_nil, asgs_cons, dTup, dLst, truD, dBl, Option.map_some, Mw.gLst, decide_true, decide_false, Bool.not_true, Bool.not_false, Bool.false_and, Bool.and_false, Bool.true_or, Bool.false_or, eq_self, Int.reduceEq, Int.reduceLT, Int.reduceLE, Int.reduceNeg, n2i_0, n2i_1, n2i_2, n2i_3, n2i_4, n2i_5, n2i_6, n2i_7, n2i_8, n2i_9, n2i_10, n2i_11, n2i_12, nI, ix_lot hk, lD, ixD_t, ixD_l, atI_0, atI_1, c1, c2, at_, minX_i, ← htk, st]
        exact ⟨_, _, _, _, rfl, by rw [List.length_set, h1], h2.set k (by rw [htk]; split <;> omega), by rw [htk]; split <;> omega, rfl⟩
      · simp -implicitDefEqProofs only [seqD_l, seqD_t, seqD_c, Nx_nx, Nx_ct, unwipe, wipeE, Tg.ids, Tg.idss, Option.getD_some, Option.getD_none, cChain_app, eChain_app, cChain3_app, eChain3_app, sAug_app, addI_i, subI_i, ↓reduceIte, if_true, if_false, Bool.false_eq_true, List.map_cons, List.map_nil, List.length_cons, List.length_nil, Nat.reduceAdd, Nat.reduceSub, Nat.reduceLeDiff, List.replicate, List.cons_append, List.nil_append, sSeq_app, sSetL_app, sSet_app, sRet_app, bind_app, eOp_app, eUn_app, eN_app, lCons_app, lNil_app, lSlot_app, eVar_app, eC_app, eChk_app, eIf_app, eNot_app, eAnd_app, eOr_app, cTru_app, cOp_app, cNot_app, cAnd_app, cOr_app, sIf_app, sAsg_app, sPar_app, sRaise_app, sMeth_app, sNx_app, sExpr_app, iSeq_app, iRng_app, eSl_app, oPart_app, eFmt_app, jNil_app, eTold_app, eCall_app, asm, setMs, List.getElem?_cons_zero, List.getElem?_cons_succ, List.set, opt_some, opt_none, pur_app, un1_one, addD_i, subD_i, negD_i, ltB_i, leB_i, gtB_i, geB_i, eqB_i, neB_i, absD_i, intD_i, intD_b, lenD_l, lenD_t, gBl_app, imm_i, imm_s, imm_b, imm_n, imm_t, imms_nil, imms_cons, Bool.and_self, Bool.and_true, Bool.true_and, asg_nm, asg_tpt, asg_tpl, asgs_nil, asgs_cons, dTup, dLst, truD, dBl, Option.map_some, Mw.gLst, decide_true, decide_false, Bool.not_true, Bool.not_false, Bool.false_and, Bool.and_false, Bool.true_or, Bool.false_or, eq_self, Int.reduceEq, Int.reduceLT, Int.reduceLE, Int.reduceNeg, n2i_0, n2i_1, n2i_2, n2i_3, n2i_4, n2i_5, n2i_6, n2i_7, n2i_8, n2i_9, n2i_10, n2i_11, n2i_12, nI, ix_lot hk, lD, ixD_t, ixD_l, atI_0, atI_1, c1, c2]
        exact ⟨_, _, _, _, rfl, h1, h2, h3, rfl⟩
    · simp -implicitDefEqProofs only [seqD_l, seqD_t, seqD_c, Nx_nx, Nx_ct, unwipe, wipeE, Tg.ids, Tg.idss, Option.getD_some, Option.getD_none, cChain_app, eChain_app, cChain3_app, eChain3_app, sAug_app, addI_i, subI_i, ↓reduceIte, if_true, if_false, Bool.false_eq_true, List.map_cons, List.map_nil, List.length_cons, List.length_nil, Nat.reduceAdd, Nat.reduceSub, Nat.reduceLeDiff, List.replicate, List.cons_append, List.nil_append, sSeq_app, sSetL_app, sSet_app, sRet_app, bind_app, eOp_app, eUn_app, eN_app, lCons_app, lNil_app, lSlot_app, eVar_app, eC_app, eChk_app, eIf_app, eNot_app, eAnd_app, eOr_app, cTru_app, cOp_app, cNot_app, cAnd_app, cOr_app, sIf_app, sAsg_app, sPar_app, sRaise_app, sMeth_app, sNx_app, sExpr_app, iSeq_app, iRng_app, eSl_app, oPart_app, eFmt_app, jNil_app, eTold_app, eCall_app, asm, setMs, List.getElem?_cons_zero, List.getElem?_cons_succ, List.set, opt_some, opt_none, pur_app, un1_one, addD_i, subD_i, negD_i, ltB_i, leB_i, gtB_i, geB_i, eqB_i, neB_i, absD_i, intD_i, intD_b, lenD_l, lenD_t, gBl_app, imm_i, imm_s, imm_b, imm_n, imm_t, imms_nil, imms_cons, Bool.and_self, Bool.and_true, Bool.true_and, asg_nm, asg_tpt, asg_tpl, asgs_nil, asgs_cons, dTup, dLst, truD, dBl, Option.map_some, Mw.gLst, decide_true, decide_false, Bool.not_true, Bool.not_false, Bool.false_and, Bool.and_false, Bool.true_or, Bool.false_or, eq_self, Int.reduceEq, Int.reduceLT, Int.reduceLE, Int.reduceNeg, n2i_0, n2i_1, n2i_2, n2i_3, n2i_4, n2i_5, n2i_6, n2i_7, n2i_8, n2i_9, n2i_10, n2i_11, n2i_12, nI, ix_lot hk, lD, ixD_t, ixD_l, atI_0, atI_1, c1]
      exact ⟨_, _, _, _, rfl, h1, h2, h3, rfl⟩) (ρ := [some S, some (lsD L), some U, some Mi, some (.lst (left.map .int)), some (.int day), x6, some (.int need), x8, x9, x10]) ⟨left, need, x8, x9, rfl, hl, h1, h2, o8⟩
  exact ⟨l', n', y8, y9, by rw [e, hr], a1, a2, a4⟩
theorem fits_draw {l : List Int} (hl : Nums l) {L : List Lot} (hL : Lots L) {us : List Int} (hu : Uses us) {p : Nat} (hp : p < 2 ^ 30) : ∃ (vs : List Int) (p' : Nat), g__law_fits [stD l p, lsD L, usD us] = .ok (usD vs) [stD l p'] ∧ Uses vs ∧ vs.length = us.length ∧ p' ≤ p + 100 := by
  have ll : lenD (lsD L) = some (.int (L.length : Int)) := by unfold lsD; rw [lenD_t, List.length_map]
  have hL30 := hL.len
  have rgL : rng1 [.int (L.length : Int)] = some ((List.range L.length).map nI) := rng1_nat (by omega)
  have lu1 := hu.ne
  have lu2 := hu.len
  have rgU : rng1 [.int (us.length : Int)] = some ((List.range us.length).map nI) := rng1_nat (by omega)
  have lc0 := eLc_map' (t := .nm 10) (fi := iSeq (eVar 1)) (te := eChk (eOp ixD (eVar 10) (eC (.int 2)))) (ρ := [some (stD l p), some (lsD L), some (usD us), some (.lst (us.map .int)), none, none, none, none, none, none, none]) (ρ1 := [some (stD l p), some (lsD L), some (usD us), some (.lst (us.map .int)), none, none, none, none, none, none, none]) L lD (fun t => .int t.g) (fun t => [some (stD l p), some (lsD L), some (usD us), some (.lst (us.map .int)), none, none, none, none, none, none, some (lD t)]) rfl rfl (by omega) (fun t ht => by
    refine ⟨by simp [asg, wipeE, Tg.ids, lD], ?_, rfl⟩
    simp -implicitDefEqProofs only [seqD_l, seqD_t, seqD_c, Nx_nx, Nx_ct, unwipe, wipeE, Tg.ids, Tg.idss, Option.getD_some, Option.getD_none, cChain_app, eChain_app, cChain3_app, eChain3_app, sAug_app, addI_i, subI_i, ↓reduceIte, if_true, if_false, Bool.false_eq_true, List.map_cons, List.map_nil, List.length_cons, List.length_nil, Nat.reduceAdd, Nat.reduceSub, Nat.reduceLeDiff, List.replicate, List.cons_append, List.nil_append, sSeq_app, sSetL_app, sSet_app, sRet_app, bind_app, eOp_app, eUn_app, eN_app, lCons_app, lNil_app, lSlot_app, eVar_app, eC_app, eChk_app, eIf_app, eNot_app, eAnd_app, eOr_app, cTru_app, cOp_app, cNot_app, cAnd_app, cOr_app, sIf_app, sAsg_app, sPar_app, sRaise_app, sMeth_app, sNx_app, sExpr_app, iSeq_app, iRng_app, eSl_app, oPart_app, eFmt_app, jNil_app, eTold_app, eCall_app, asm, setMs, List.getElem?_cons_zero, List.getElem?_cons_succ, List.set, opt_some, opt_none, pur_app, un1_one, addD_i, subD_i, negD_i, ltB_i, leB_i, gtB_i, geB_i, eqB_i, neB_i, absD_i, intD_i, intD_b, lenD_l, lenD_t, gBl_app, imm_i, imm_s, imm_b, imm_n, imm_t, imms_nil, imms_cons, Bool.and_self, Bool.and_true, Bool.true_and, asg_nm, asg_tpt, asg_tpl, asgs_nil, asgs_cons, dTup, dLst, truD, dBl, Option.map_some, Mw.gLst, decide_true, decide_false, Bool.not_true, Bool.not_false, Bool.false_and, Bool.and_false, Bool.true_or, Bool.false_or, eq_self, Int.reduceEq, Int.reduceLT, Int.reduceLE, Int.reduceNeg, n2i_0, n2i_1, n2i_2, n2i_3, n2i_4, n2i_5, n2i_6, n2i_7, n2i_8, n2i_9, n2i_10, n2i_11, n2i_12, lD, ixD_t, atI_2])
  have em0 : (L.map fun t => D.int t.g) = (L.map (·.g)).map .int := by rw [List.map_map]; rfl
  rw [em0] at lc0
  obtain ⟨ρ', e, ms, left, x5, x6, x7, x8, x9, hr, h1, h2, _, _, _⟩ := sFor_range (t := .nm 5) (b := (sSeq (sSet 6 (eN (un1 sumX) (lCons (eLc (.nm 8) (iRng rng1 (lCons (eN (un1 lenD) (lCons (eVar 1) lNil)) lNil)) (cChain leB leB (eOp ixD (eOp ixD (eVar 1) (eVar 8)) (eC (.int 0))) (eVar 5) (eOp ixD (eOp ixD (eVar 1) (eVar 8)) (eC (.int 1)))) (eChk (eOp ixD (eVar 4) (eVar 8)))) lNil)))
    (sSeq (sSetL 3 (eOp ixD (eN dLst (lCons (eChk (eOp ixD (eVar 3) (eVar 5))) (lCons (eN minX (lCons (eOp ixD (eVar 3) (eVar 5)) (lCons (eVar 6) lNil))) (lCons (eChk (eVar 6)) lNil)))) (eCall [some 0, none] g__law_next (lSlot 0 (lCons (eC (.int 3)) lNil)))) (eVar 5))
    (sSeq (sSet 7 (eN minX (lCons (eOp ixD (eVar 3) (eVar 5)) (lCons (eVar 6) lNil))))
    (sSeq (sSetL 3 (eN minX (lCons (eC (.int 9999)) (lCons (eOp ixD (eVar 3) (eVar 5)) lNil))) (eVar 5))
    (M.bind (iRng rng1 (lCons (eN (un1 lenD) (lCons (eVar 1) lNil)) lNil)) (sFor (.nm 8) (sIf (cChain leB leB (eOp ixD (eOp ixD (eVar 1) (eVar 8)) (eC (.int 0))) (eVar 5) (eOp ixD (eOp ixD (eVar 1) (eVar 8)) (eC (.int 1)))) (sSeq (sSet 9 (eN minX (lCons (eVar 7) (lCons (eOp ixD (eVar 4) (eVar 8)) lNil))))
    (sSeq (sSetL 4 (eOp subD (eOp ixD (eVar 4) (eVar 8)) (eVar 9)) (eVar 8))
    (sSet 7 (eOp subD (eVar 7) (eVar 9))))) sNx)))))))) nI (fun i ρ => ∃ (ms left : List Int) (x5 x6 x7 x8 x9 : Option D), ρ = [some (stD l (p + i)), some (lsD L), some (usD us), some (.lst (ms.map .int)), some (.lst (left.map .int)), x5, x6, x7, x8, x9, none] ∧ ms.length = us.length ∧ (∀ u ∈ ms, 0 ≤ u ∧ u ≤ 9999) ∧ left.length = L.length ∧ Nn left ∧ okV x8 = true) us.length (fun i hi ρ hr => by
    obtain ⟨ms, left, x5, x6, x7, x8, x9, rfl, h1, h2, h3, h4, h5⟩ := hr
    refine ⟨_, rfl, ?_⟩
    have him : i < ms.length := by omega
    have atm := atI_int (l := ms) (k := i) him
    obtain ⟨m0, m9⟩ := h2 _ (getD_mem (l := ms) (i := i) him)
    have n1 := nx_ok (many := 3) hl (p := p + i) (by omega) (by decide)
    obtain ⟨a1, b1⟩ := nextV_lt (l := l) (p := p + i) (many := 3) (by decide)
    generalize nextV l (p + i) 3 = v1 at *
    have lc := eLc_map (t := .nm 8) (fi := (iRng rng1 (lCons (eN (un1 lenD) (lCons (eVar 1) lNil)) lNil))) (tt := (cChain leB leB (eOp ixD (eOp ixD (eVar 1) (eVar 8)) (eC (.int 0))) (eVar 5) (eOp ixD (eOp ixD (eVar 1) (eVar 8)) (eC (.int 1))))) (te := eChk (eOp ixD (eVar 4) (eVar 8))) (ρ := [some (stD l (p + i)), some (lsD L), some (usD us), some (.lst (ms.map .int)), some (.lst (left.map .int)), some (nI i), x6, x7, x8, x9, none]) (ρ1 := [some (stD l (p + i)), some (lsD L), some (usD us), some (.lst (ms.map .int)), some (.lst (left.map .int)), some (nI i), x6, x7, x8, x9, none]) (List.range L.length) nI (fun k => decide ((L.getD k t0).f ≤ (i : Int)) && decide ((i : Int) ≤ (L.getD k t0).l)) (fun k => .int (left.getD k 0)) (fun k => [some (stD l (p + i)), some (lsD L), some (usD us), some (.lst (ms.map .int)), some (.lst (left.map .int)), some (nI i), x6, x7, some (nI k), x9, none])
      (by simp -implicitDefEqProofs only [seqD_l, seqD_t, seqD_c, Nx_nx, Nx_ct, unwipe, wipeE, Tg.ids, Tg.idss, Option.getD_some, Option.getD_none, cChain_app, eChain_app, cChain3_app, eChain3_app, sAug_app, addI_i, subI_i, ↓reduceIte, if_true, if_false, Bool.false_eq_true, List.map_cons, List.map_nil, List.length_cons, List.length_nil, Nat.reduceAdd, Nat.reduceSub, Nat.reduceLeDiff, List.replicate, List.cons_append, List.nil_append, sSeq_app, sSetL_app, sSet_app, sRet_app, bind_app, eOp_app, eUn_app, eN_app, lCons_app, lNil_app, lSlot_app, eVar_app, eC_app, eChk_app, eIf_app, eNot_app, eAnd_app, eOr_app, cTru_app, cOp_app, cNot_app, cAnd_app, cOr_app, sIf_app, sAsg_app, sPar_app, sRaise_app, sMeth_app, sNx_app, sExpr_app, iSeq_app, iRng_app, eSl_app, oPart_app, eFmt_app, jNil_app, eTold_app, eCall_app, asm, setMs, List.getElem?_cons_zero, List.getElem?_cons_succ, List.set, opt_some, opt_none, pur_app, un1_one, addD_i, subD_i, negD_i, ltB_i, leB_i, gtB_i, geB_i, eqB_i, neB_i, absD_i, intD_i, intD_b, lenD_l, lenD_t, gBl_app, imm_i, imm_s, imm_b, imm_n, imm_t, imms_nil, imms_cons, Bool.and_self, Bool.and_true, Bool.true_and, asg_nm, asg_tpt, asg_tpl, asgs_nil, asgs_cons, dTup, dLst, truD, dBl, Option.map_some, Mw.gLst, decide_true, decide_false, Bool.not_true, Bool.not_false, Bool.false_and, Bool.and_false, Bool.true_or, Bool.false_or, eq_self, Int.reduceEq, Int.reduceLT, Int.reduceLE, Int.reduceNeg, n2i_0, n2i_1, n2i_2, n2i_3, n2i_4, n2i_5, n2i_6, n2i_7, n2i_8, n2i_9, n2i_10, n2i_11, n2i_12, ll, rgL]) (clean1 (x := x8) rfl h5) (by rw [List.length_range]; omega) (fun k hk => by
        have hk := List.mem_range.mp hk
        have a1 := atI_int (l := left) (k := k) (by omega)
        refine ⟨rfl, ?_, fun _ => ?_, rfl⟩
        · by_cases q : (L.getD k t0).f ≤ (i : Int)
          · simp -implicitDefEqProofs only [seqD_l, seqD_t, seqD_c, Nx_nx, Nx_ct, unwipe, wipeE, Tg.ids, Tg.idss, Option.getD_some, Option.getD_none, cChain_app, eChain_app, cChain3_app, eChain3_app, sAug_app, addI_i, subI_i, ↓reduceIte, if_true, if_false, Bool.false_eq_true, List.map_cons, List.map_nil, List.length_cons, List.length_nil, Nat.reduceAdd, Nat.reduceSub, Nat.reduceLeDiff, List.replicate, List.cons_append, List.nil_append, sSeq_app, sSetL_app, sSet_app, sRet_app, bind_app, eOp_app, eUn_app, eN_app, lCons_app, lNil_app, lSlot_app, eVar_app, eC_app, eChk_app, eIf_app, eNot_app, eAnd_app, eOr_app, cTru_app, cOp_app, cNot_app, cAnd_app, cOr_app, sIf_app, sAsg_app, sPar_app, sRaise_app, sMeth_app, sNx_app, sExpr_app, iSeq_app, iRng_app, eSl_app, oPart_app, eFmt_app, jNil_app, eTold_app, eCall_app, asm, setMs, List.getElem?_cons_zero, List.getElem?_cons_succ, List.set, opt_some, opt_none, pur_app, un1_one, addD_i, subD_i, negD_i, ltB_i, leB_i, gtB_i, geB_i, eqB_i, neB_i, absD_i, intD_i, intD_b, lenD_l, lenD_t, gBl_app, imm_i, imm_s, imm_b, imm_n, imm_t, imms_nil, imms_cons, Bool.and_self, Bool.and_true, Bool.true_and, asg_nm, asg_tpt, asg_tpl, asgs_nil, asgs_cons, dTup, dLst, truD, dBl, Option.map_some, Mw.gLst, decide_true, decide_false, Bool.not_true, Bool.not_false, Bool.false_and, Bool.and_false, Bool.true_or, Bool.false_or, eq_self, Int.reduceEq, Int.reduceLT, Int.reduceLE, Int.reduceNeg, n2i_0, n2i_1, n2i_2, n2i_3, n2i_4, n2i_5, n2i_6, n2i_7, n2i_8, n2i_9, n2i_10, n2i_11, n2i_12, nI, ix_lot hk, lD, ixD_t, atI_0, atI_1, q]
          · simp -implicitDefEqProofs only [seqD_l, seqD_t, seqD_c, Nx_nx, Nx_ct, unwipe, wipeE, Tg.ids, Tg.idss, Option.getD_some, Option.getD_none, cChain_app, eChain_app, cChain3_app, eChain3_app, sAug_app, addI_i, subI_i, ↓reduceIte, if_true, if_false, Bool.false_eq_true, List.map_cons, List.map_nil, List.length_cons, List.length_nil, Nat.reduceAdd, Nat.reduceSub, Nat.reduceLeDiff, List.replicate, List.cons_append, List.nil_append, sSeq_app, sSetL_app, sSet_app, sRet_app, bind_app, eOp_app, eUn_app, eN_app, lCons_app, lNil_app, lSlot_app, eVar_app, eC_app, eChk_app, eIf_app, eNot_app, eAnd_app, eOr_app, cTru_app, cOp_app, cNot_app, cAnd_app, cOr_app, sIf_app, sAsg_app, sPar_app, sRaise_app, sMeth_app, sNx_app, sExpr_app, iSeq_app, iRng_app, eSl_app, oPart_app, eFmt_app, jNil_app, eTold_app, eCall_app, asm, setMs, List.getElem?_cons_zero, List.getElem?_cons_succ, List.set, opt_some, opt_none, pur_app, un1_one, addD_i, subD_i, negD_i, ltB_i, leB_i, gtB_i, geB_i, eqB_i, neB_i, absD_i, intD_i, intD_b, lenD_l, lenD_t, gBl_app, imm_i, imm_s, imm_b, imm_n, imm_t, imms_nil, imms_cons, Bool.and_self, Bool.and_true, Bool.true_and, asg_nm, asg_tpt, asg_tpl, asgs_nil, asgs_cons, dTup, dLst, truD, dBl, Option.map_some, Mw.gLst, decide_true, decide_false, Bool.not_true, Bool.not_false, Bool.false_and, Bool.and_false, Bool.true_or, Bool.false_or, eq_self, Int.reduceEq, Int.reduceLT, Int.reduceLE, Int.reduceNeg, n2i_0, n2i_1, n2i_2, n2i_3, n2i_4, n2i_5, n2i_6, n2i_7, n2i_8, n2i_9, n2i_10, n2i_11, n2i_12, nI, ix_lot hk, lD, ixD_t, atI_0, q]
        · simp -implicitDefEqProofs only [seqD_l, seqD_t, seqD_c, Nx_nx, Nx_ct, unwipe, wipeE, Tg.ids, Tg.idss, Option.getD_some, Option.getD_none, cChain_app, eChain_app, cChain3_app, eChain3_app, sAug_app, addI_i, subI_i, ↓reduceIte, if_true, if_false, Bool.false_eq_true, List.map_cons, List.map_nil, List.length_cons, List.length_nil, Nat.reduceAdd, Nat.reduceSub, Nat.reduceLeDiff, List.replicate, List.cons_append, List.nil_append, sSeq_app, sSetL_app, sSet_app, sRet_app, bind_app, eOp_app, eUn_app, eN_app, lCons_app, lNil_app, lSlot_app, eVar_app, eC_app, eChk_app, eIf_app, eNot_app, eAnd_app, eOr_app, cTru_app, cOp_app, cNot_app, cAnd_app, cOr_app, sIf_app, sAsg_app, sPar_app, sRaise_app, sMeth_app, sNx_app, sExpr_app, iSeq_app, iRng_app, eSl_app, oPart_app, eFmt_app, jNil_app, eTold_app, eCall_app, asm, setMs, List.getElem?_cons_zero, List.getElem?_cons_succ, List.set, opt_some, opt_none, pur_app, un1_one, addD_i, subD_i, negD_i, ltB_i, leB_i, gtB_i, geB_i, eqB_i, neB_i, absD_i, intD_i, intD_b, lenD_l, lenD_t, gBl_app, imm_i, imm_s, imm_b, imm_n, imm_t, imms_nil, imms_cons, Bool.and_self, Bool.and_true, Bool.true_and, asg_nm, asg_tpt, asg_tpl, asgs_nil, asgs_cons, dTup, dLst, truD, dBl, Option.map_some, Mw.gLst, decide_true, decide_false, Bool.not_true, Bool.not_false, Bool.false_and, Bool.and_false, Bool.true_or, Bool.false_or, eq_self, Int.reduceEq, Int.reduceLT, Int.reduceLE, Int.reduceNeg, n2i_0, n2i_1, n2i_2, n2i_3, n2i_4, n2i_5, n2i_6, n2i_7, n2i_8, n2i_9, n2i_10, n2i_11, n2i_12, nI, ixD_l, a1])
    obtain ⟨gs, hgs⟩ : ∃ gs, gs = ((List.range L.length).filter (fun k => decide ((L.getD k t0).f ≤ (i : Int)) && decide ((i : Int) ≤ (L.getD k t0).l))).map fun k => left.getD k 0 := ⟨_, rfl⟩
    have em : (((List.range L.length).filter (fun k => decide ((L.getD k t0).f ≤ (i : Int)) && decide ((i : Int) ≤ (L.getD k t0).l))).map fun k => D.int (left.getD k 0)) = gs.map .int := by rw [hgs, List.map_map]; rfl
    rw [em] at lc
    have gn : Nn gs := fun z hz => by
      rw [hgs] at hz
      obtain ⟨k, hk, rfl⟩ := List.mem_map.mp hz
      have hk := List.mem_range.mp (List.mem_filter.mp hk).1
      exact h4 _ (getD_mem (l := left) (i := k) (by omega))
    have sn := sum_nn gn
    have su := sumX_l gs
    generalize gs.sum = S at su sn
    obtain ⟨mn, hmn⟩ : ∃ mn : Int, mn = (if S < ms.getD i 0 then S else ms.getD i 0) := ⟨_, rfl⟩
    obtain ⟨v, e1, v0, _⟩ := pick_in (lo := 0) (hi := S + 9999) (l := [.int (ms.getD i 0), .int mn, .int S]) a1 (by simpa using b1) (by
      intro d hd; simp -implicitDefEqProofs only [List.mem_cons, List.not_mem_nil, or_false] at hd
      rcases hd with rfl | rfl | rfl
      · exact in_i m0 (by omega)
      · exact in_i (by rw [hmn]; split <;> omega) (by rw [hmn]; split <;> omega)
      · exact in_i sn (by omega))
    have st1 := setLD_ok (ds := ms.map D.int) (k := i) (by rw [List.length_map]; omega) (.int v)
    have sm1 : (ms.map D.int).set i (.int v) = (ms.set i v).map .int := by rw [List.map_set]
    rw [sm1] at st1
    have g1 := set_get him v
    obtain ⟨nd, hnd⟩ : ∃ nd : Int, nd = (if S < v then S else v) := ⟨_, rfl⟩
    obtain ⟨w, hw⟩ : ∃ w : Int, w = (if v < 9999 then v else 9999) := ⟨_, rfl⟩
    have st2 := setLD_ok (ds := (ms.set i v).map D.int) (k := i) (by rw [List.length_map, List.length_set]; omega) (.int w)
    have sm2 : ((ms.set i v).map D.int).set i (.int w) = (ms.set i w).map .int := by rw [← List.map_set, List.set_set]
    rw [sm2] at st2
    obtain ⟨left', need', y8, y9, ei, q1, q2, q3⟩ := fits_in hL30 (S := stD l (p + i + 1)) (U := usD us) (Mi := .lst ((ms.set i w).map .int)) (day := (i : Int)) (x6 := some (.int S)) (x10 := none) left nd x8 x9 h3 h4 (by rw [hnd]; split <;> omega) h5
    simp -implicitDefEqProofs only [nI] at lc
    simp -implicitDefEqProofs only [seqD_l, seqD_t, seqD_c, Nx_nx, Nx_ct, unwipe, wipeE, Tg.ids, Tg.idss, Option.getD_some, Option.getD_none, cChain_app, eChain_app, cChain3_app, eChain3_app, sAug_app, addI_i, subI_i, ↓reduceIte, if_true, if_false, Bool.false_eq_true, List.map_cons, List.map_nil, List.length_cons, List.length_nil, Nat.reduceAdd, Nat.reduceSub, Nat.reduceLeDiff, List.replicate, List.cons_append, List.nil_append, sSeq_app, sSetL_app, sSet_app, sRet_app, bind_app, eOp_app, eUn_app, eN_app, lCons_app, lNil_app, lSlot_app, eVar_app, eC_app, eChk_app, eIf_app, eNot_app, eAnd_app, eOr_app, cTru_app, cOp_app, cNot_app, cAnd_app, cOr_app, sIf_app, sAsg_app, sPar_app, sRaise_app, sMeth_app, sNx_app, sExpr_app, iSeq_app, iRng_app, eSl_app, oPart_app, eFmt_app, jNil_app, eTold_app, eCall_app, asm, setMs, List.getElem?_cons_zero, List.getElem?_cons_succ, List.set, opt_some, opt_none, pur_app, un1_one, addD_i, subD_i, negD_i, ltB_i, leB_i, gtB_i, geB_i, eqB_i, neB_i, absD_i, intD_i, intD_b, lenD_l, lenD_t, gBl_app, imm_i, imm_s, imm_b, imm_n, imm_t, imms_nil, imms_cons, Bool.and_self, Bool.and_true, Bool.true_and, asg_nm, asg_tpt, asg_tpl, asgs_nil, asgs_cons, dTup, dLst, truD, dBl, Option.map_some, Mw.gLst, decide_true, decide_false, Bool.not_true, Bool.not_false, Bool.false_and, Bool.and_false, Bool.true_or, Bool.false_or, eq_self, Int.reduceEq, Int.reduceLT, Int.reduceLE, Int.reduceNeg, n2i_0, n2i_1, n2i_2, n2i_3, n2i_4, n2i_5, n2i_6, n2i_7, n2i_8, n2i_9, n2i_10, n2i_11, n2i_12, nI, lc, su, ixD_l, atm, minX_i, ← hmn, n1, e1, st1, g1, ← hnd, ← hw, st2, ll, rgL, ei]
    exact ⟨_, _, _, _, _, _, _, rfl, by rw [List.length_set, h1], fun u hu' => by
      rcases List.mem_or_eq_of_mem_set hu' with z | z
      · exact h2 u z
      · rw [z, hw]; split <;> omega, q1, q2, q3⟩) (ρ := [some (stD l p), some (lsD L), some (usD us), some (.lst (us.map .int)), some (.lst ((L.map (·.g)).map .int)), none, none, none, none, none, none]) ⟨us, L.map (·.g), none, none, none, none, none, rfl, rfl, hu.le, by rw [List.length_map], fun z hz => by obtain ⟨t, ht, rfl⟩ := List.mem_map.mp hz; have := (hL.ok t ht).g1; omega, rfl⟩
  subst hr
  refine ⟨ms, p + us.length, runFn_ret (ρ' := [some (stD l (p + us.length)), some (lsD L), some (usD us), some (.lst (ms.map .int)), some (.lst (left.map .int)), x5, x6, x7, x8, x9, none]) rfl ?_ rfl, ⟨by omega, by omega, h2⟩, h1, by omega⟩
  have ls : listD (usD us) = some (.lst (us.map .int)) := listD_t (imms_ints us)
  have tu : tupleD (.lst (ms.map .int)) = some (usD ms) := tupleD_l (imms_ints ms)
  unfold b__law_fits
  simp -implicitDefEqProofs only [seqD_l, seqD_t, seqD_c, Nx_nx, Nx_ct, unwipe, wipeE, Tg.ids, Tg.idss, Option.getD_some, Option.getD_none, cChain_app, eChain_app, cChain3_app, eChain3_app, sAug_app, addI_i, subI_i, ↓reduceIte, if_true, if_false, Bool.false_eq_true, List.map_cons, List.map_nil, List.length_cons, List.length_nil, Nat.reduceAdd, Nat.reduceSub, Nat.reduceLeDiff, List.replicate, List.cons_append, List.nil_append, sSeq_app, sSetL_app, sSet_app, sRet_app, bind_app, eOp_app, eUn_app, eN_app, lCons_app, lNil_app, lSlot_app, eVar_app, eC_app, eChk_app, eIf_app, eNot_app, eAnd_app, eOr_app, cTru_app, cOp_app, cNot_app, cAnd_app, cOr_app, sIf_app, sAsg_app, sPar_app, sRaise_app, sMeth_app, sNx_app, sExpr_app, iSeq_app, iRng_app, eSl_app, oPart_app, eFmt_app, jNil_app, eTold_app, eCall_app, asm, setMs, List.getElem?_cons_zero, List.getElem?_cons_succ, List.set, opt_some, opt_none, pur_app, un1_one, addD_i, subD_i, negD_i, ltB_i, leB_i, gtB_i, geB_i, eqB_i, neB_i, absD_i, intD_i, intD_b, lenD_l, lenD_t, gBl_app, imm_i, imm_s, imm_b, imm_n, imm_t, imms_nil, imms_cons, Bool.and_self, Bool.and_true, Bool.true_and, asg_nm, asg_tpt, asg_tpl, asgs_nil, asgs_cons, dTup, dLst, truD, dBl, Option.map_some, Mw.gLst, decide_true, decide_false, Bool.not_true, Bool.not_false, Bool.false_and, Bool.and_false, Bool.true_or, Bool.false_or, eq_self, Int.reduceEq, Int.reduceLT, Int.reduceLE, Int.reduceNeg, n2i_0, n2i_1, n2i_2, n2i_3, n2i_4, n2i_5, n2i_6, n2i_7, n2i_8, n2i_9, n2i_10, n2i_11, n2i_12, ls, lc0, List.length_map, rgU, e, tu]
theorem stock_draw {l : List Int} (hl : Nums l) {p : Nat} (hp : p < 2 ^ 28) : ∃ (L : List Lot) (us : List Int) (p' : Nat), g__law_stock [stD l p] = .ok (.tup [lsD L, usD us]) [stD l p'] ∧ Lots L ∧ Uses us ∧ p' ≤ p + 1000 := by
  have n1 := nx_ok (many := 7) hl (p := p) (by omega) (by decide)
  obtain ⟨a1, b1⟩ := nextV_lt (l := l) (p := p) (many := 7) (by decide)
  generalize nextV l (p) 7 = v1 at *
  have n2 := nx_ok (many := 60) hl (p := p + 1) (by omega) (by decide)
  obtain ⟨a2, b2⟩ := nextV_lt (l := l) (p := p + 1) (many := 60) (by decide)
  generalize nextV l (p + 1) 60 = v2 at *
  have n3 := nx_ok (many := 4) hl (p := p + 1 + 1) (by omega) (by decide)
  obtain ⟨a3, b3⟩ := nextV_lt (l := l) (p := p + 1 + 1) (many := 4) (by decide)
  generalize nextV l (p + 1 + 1) 4 = v3 at *
  have pk : ∀ (c : Bool), ∃ n : Int, atI [D.int (1 + v1), D.int (1 + v2)] (if c then 1 else 0) = some (.int n) ∧ 1 ≤ n ∧ n ≤ 60 := fun c => by
    cases c
    · exact ⟨1 + v1, rfl, by omega, by omega⟩
    · exact ⟨1 + v2, atI_1 _ _ _, by omega, by omega⟩
  have pk2 : ∀ (c : Bool), ∃ n : Int, atI [D.int 5, D.int 30] (if c then 1 else 0) = some (.int n) ∧ 1 ≤ n ∧ n ≤ 30 := fun c => by
    cases c
    · exact ⟨5, rfl, by omega, by omega⟩
    · exact ⟨30, atI_1 _ _ _, by omega, by omega⟩
  obtain ⟨dd, e1, d1, d2⟩ := pk (decide (v3 = 0))
  obtain ⟨n, rfl⟩ : ∃ n : Nat, dd = (n : Int) := ⟨dd.toNat, by omega⟩
  have n4 := nx_ok (many := 4) hl (p := p + 1 + 1 + 1) (by omega) (by decide)
  obtain ⟨a4, b4⟩ := nextV_lt (l := l) (p := p + 1 + 1 + 1) (many := 4) (by decide)
  generalize nextV l (p + 1 + 1 + 1) 4 = v4 at *
  obtain ⟨mm, e2, m1, m2⟩ := pk2 (decide (v4 = 0))
  obtain ⟨L, p1, eL, hL, hp1⟩ := lots_draw hl d1 d2 m1 m2 (p := p + 1 + 1 + 1 + 1) (by omega)
  obtain ⟨us, p2, eU, hU, hlu, hp2⟩ := uses_draw hl (n := n) (by omega) (by omega) (p := p1) (by omega)
  obtain ⟨f1, p3, eF1, hF1, hl1, hp3⟩ := fits_draw hl hL hU (p := p2) (by omega)
  obtain ⟨f2, p4, eF2, hF2, hl2, hp4⟩ := fits_draw hl hL hU (p := p3) (by omega)
  have n5 := nx_ok (many := 3) hl (p := p4) (by omega) (by decide)
  obtain ⟨a5, b5⟩ := nextV_lt (l := l) (p := p4) (many := 3) (by decide)
  generalize nextV l (p4) 3 = v5 at *
  obtain ⟨d, e5, vs, hd, hvs⟩ := pick (P := fun d => ∃ vs, d = usD vs ∧ Uses vs) (l := [usD us, usD f1, usD f2]) a5 (by simpa using b5) (by
    intro d hd; simp -implicitDefEqProofs only [List.mem_cons, List.not_mem_nil, or_false] at hd
    rcases hd with rfl | rfl | rfl
    · exact ⟨us, rfl, hU⟩
    · exact ⟨f1, rfl, hF1⟩
    · exact ⟨f2, rfl, hF2⟩)
  subst hd
  have iL : (lsD L).imm = true := by unfold lsD; rw [imm_t]; exact imms_lD L
  have iU : ∀ us, (usD us).imm = true := fun us => by unfold usD; rw [imm_t]; exact imms_ints us
  refine ⟨L, vs, p4 + 1, runFn_ret (ρ' := [some (stD l (p4 + 1)), some (.int n), some (lsD L), some (usD us)]) rfl ?_ rfl, hL, hvs, by omega⟩
  unfold b__law_stock
  simp -implicitDefEqProofs only [seqD_l, seqD_t, seqD_c, Nx_nx, Nx_ct, unwipe, wipeE, Tg.ids, Tg.idss, Option.getD_some, Option.getD_none, cChain_app, eChain_app, cChain3_app, eChain3_app, sAug_app, addI_i, subI_i, ↓reduceIte, if_true, if_false, Bool.false_eq_true, List.map_cons, List.map_nil, List.length_cons, List.length_nil, Nat.reduceAdd, Nat.reduceSub, Nat.reduceLeDiff, List.replicate, List.cons_append, List.nil_append, sSeq_app, sSetL_app, sSet_app, sRet_app, bind_app, eOp_app, eUn_app, eN_app, lCons_app, lNil_app, lSlot_app, eVar_app, eC_app, eChk_app, eIf_app, eNot_app, eAnd_app, eOr_app, cTru_app, cOp_app, cNot_app, cAnd_app, cOr_app, sIf_app, sAsg_app, sPar_app, sRaise_app, sMeth_app, sNx_app, sExpr_app, iSeq_app, iRng_app, eSl_app, oPart_app, eFmt_app, jNil_app, eTold_app, eCall_app, asm, setMs, List.getElem?_cons_zero, List.getElem?_cons_succ, List.set, opt_some, opt_none, pur_app, un1_one, addD_i, subD_i, negD_i, ltB_i, leB_i, gtB_i, geB_i, eqB_i, neB_i, absD_i, intD_i, intD_b, lenD_l, lenD_t, gBl_app, imm_i, imm_s, imm_b, imm_n, imm_t, imms_nil, imms_cons, Bool.and_self, Bool.and_true, Bool.true_and, asg_nm, asg_tpt, asg_tpl, asgs_nil, asgs_cons, dTup, dLst, truD, dBl, Option.map_some, Mw.gLst, decide_true, decide_false, Bool.not_true, Bool.not_false, Bool.false_and, Bool.and_false, Bool.true_or, Bool.false_or, eq_self, Int.reduceEq, Int.reduceLT, Int.reduceLE, Int.reduceNeg, n2i_0, n2i_1, n2i_2, n2i_3, n2i_4, n2i_5, n2i_6, n2i_7, n2i_8, n2i_9, n2i_10, n2i_11, n2i_12, n1, n2, n3, ixD_l, e1, n4, e2, eL, eU, iL, iU, eF1, eF2, n5, e5]
/-! ### the law -/
def isP (d : D) : Prop := ∃ zs : List Int, d = .tup (zs.map .int) ∧ zs.length ≤ 70 ∧ Sml zs
theorem same_b (b : Bool) : g__law_same [.bl b, .bl b] = .ok (.bl true) [] := same_okD (okD_b b)
theorem ones_loop {L : List Lot} (h : Lots L) {us : List Int} (hu : Uses us) {x0 x1 x2 x5 x6 x7 x8 x10 x11 x14 : Option D} {v : Int} : ∀ (ds : List D) (x12 x13 : Option D), (∀ d ∈ ds, isP d) → ∃ y12 y13, (sFor (.nm 12) (M.bind (iSeq (eN dLst (lCons (eVar 9) (lCons (eOp addD (eVar 9) (eC (.int 1))) (lCons (eOp subD (eVar 9) (eC (.int 1))) (lCons (eC (.int 0)) (lCons (eUn negD (eC (.int 5))) lNil))))))) (sFor (.nm 13) (sIf (cNot (cTru (eCall [none, none] g__law_same (lCons (eCall [none, none, none, none] g_judge_prices (lCons (eVar 3) (lCons (eVar 4) (lCons (eVar 13) (lCons (eVar 12) lNil))))) (lCons (eCall [none, none, none, none] g__law_shows (lCons (eVar 3) (lCons (eVar 4) (lCons (eVar 13) (lCons (eVar 12) lNil))))) lNil))))) (sRet (eC (.bl false))) sNx)))) ds [x0, x1, x2, some (lsD L), some (usD us), x5, x6, x7, x8, some (.int v), x10, x11, x12, x13, x14] = .ok .nx [x0, x1, x2, some (lsD L), some (usD us), x5, x6, x7, x8, some (.int v), x10, x11, y12, y13, x14]
  | [], x12, x13, _ => ⟨x12, x13, rfl⟩
  | d :: ds, x12, x13, hd => by
    obtain ⟨zs, rfl, hz, hs⟩ := hd d List.mem_cons_self
    have jd := fun c => judge_ok h hu c hz hs
    have sh := fun c => shows_ok h hu c hz hs
    obtain ⟨y12, y13, e⟩ := ones_loop h hu (x0 := x0) (x1 := x1) (x2 := x2) (x5 := x5) (x6 := x6) (x7 := x7) (x8 := x8) (x10 := x10) (x11 := x11) (x14 := x14) (v := v) ds (some (.tup (zs.map .int))) (some (.int (-5))) (fun d hd' => hd d (List.mem_cons_of_mem _ hd'))
    refine ⟨y12, y13, ?_⟩
    rw [← e, sFor]
    simp -implicitDefEqProofs only [seqD_l, seqD_t, seqD_c, Nx_nx, Nx_ct, unwipe, wipeE, Tg.ids, Tg.idss, Option.getD_some, Option.getD_none, cChain_app, eChain_app, cChain3_app, eChain3_app, sAug_app, addI_i, subI_i, ↓reduceIte, if_true, if_false, Bool.false_eq_true, List.map_cons, List.map_nil, List.length_cons, List.length_nil, Nat.reduceAdd, Nat.reduceSub, Nat.reduceLeDiff, List.replicate, List.cons_append, List.nil_append, sSeq_app, sSetL_app, sSet_app, sRet_app, bind_app, eOp_app, eUn_app, eN_app, lCons_app, lNil_app, lSlot_app, eVar_app, eC_app, eChk_app, eIf_app, eNot_app, eAnd_app, eOr_app, cTru_app, cOp_app, cNot_app, cAnd_app, cOr_app, sIf_app, sAsg_app, sPar_app, sRaise_app, sMeth_app, sNx_app, sExpr_app, iSeq_app, iRng_app, eSl_app, oPart_app, eFmt_app, jNil_app, eTold_app, eCall_app, asm, setMs, List.getElem?_cons_zero, List.getElem?_cons_succ, List.set, opt_some, opt_none, pur_app, un1_one, addD_i, subD_i, negD_i, ltB_i, leB_i, gtB_i, geB_i, eqB_i, neB_i, absD_i, intD_i, intD_b, lenD_l, lenD_t, gBl_app, imm_i, imm_s, imm_b, imm_n, imm_t, imms_nil, imms_cons, Bool.and_self, Bool.and_true, Bool.true_and, asg_nm, asg_tpt, asg_tpl, asgs_nil, asgs_cons, dTup, dLst, truD, dBl, Option.map_some, Mw.gLst, decide_true, decide_false, Bool.not_true, Bool.not_false, Bool.false_and, Bool.and_false, Bool.true_or, Bool.false_or, eq_self, Int.reduceEq, Int.reduceLT, Int.reduceLE, Int.reduceNeg, n2i_0, n2i_1, n2i_2, n2i_3, n2i_4, n2i_5, n2i_6, n2i_7, n2i_8, n2i_9, n2i_10, n2i_11, n2i_12, imms_ints, sFor, jd, sh, same_b]
theorem Sml.app {a b : List Int} (ha : Sml a) (hb : Sml b) : Sml (a ++ b) := fun z hz => (List.mem_append.mp hz).elim (ha z) (hb z)
theorem Sml.take {a : List Int} (ha : Sml a) (k : Nat) : Sml (a.take k) := fun z hz => ha z (List.mem_of_mem_take hz)
theorem Sml.drop {a : List Int} (ha : Sml a) (k : Nat) : Sml (a.drop k) := fun z hz => ha z (List.mem_of_mem_drop hz)
theorem Sml.one {v : Int} (h : v.natAbs < 2 ^ 100) : Sml [v] := fun z hz => by rw [List.mem_singleton.mp hz]; exact h
theorem put_ok {zs : List Int} (h : zs.length ≤ 60) (hs : Sml zs) {k : Nat} (hk : k < zs.length) {v : Int} (hv : v.natAbs < 2 ^ 100) :
    addD (.tup ((zs.map D.int).take k)) (.tup [.int v]) = some (.tup ((zs.map D.int).take k ++ [.int v])) ∧ addD (.tup ((zs.map D.int).take k ++ [.int v])) (.tup ((zs.map D.int).drop (k + 1))) = some (.tup ((zs.map D.int).take k ++ [.int v] ++ (zs.map D.int).drop (k + 1))) ∧ isP (.tup ((zs.map D.int).take k ++ [.int v] ++ (zs.map D.int).drop (k + 1))) := by
  have im := imms_ints zs
  have i1 : D.imms ((zs.map D.int).take k) = true := imms_sub im fun d hd => List.mem_of_mem_take hd
  have i2 : D.imms ((zs.map D.int).drop (k + 1)) = true := imms_sub im fun d hd => List.mem_of_mem_drop hd
  have i4 : D.imms [D.int v] = true := by simp
  have i5 : D.imms ((zs.map D.int).take k ++ [D.int v]) = true := by rw [imms_append, i1, i4]; rfl
  refine ⟨addT i1 i4 (by simp -implicitDefEqProofs only [List.length_take, List.length_map, List.length_singleton]; omega), addT i5 i2 (by simp -implicitDefEqProofs only [List.length_append, List.length_take, List.length_drop, List.length_map, List.length_singleton]; omega), zs.take k ++ [v] ++ zs.drop (k + 1), by simp -implicitDefEqProofs only [List.map_append, List.map_take, List.map_drop, List.map_cons, List.map_nil], by simp -implicitDefEqProofs only [List.length_append, List.length_take, List.length_drop, List.length_singleton]; omega, ((hs.take k).app (Sml.one hv)).app (hs.drop _)⟩
def isQ (n : Nat) (d : D) : Prop := ∃ zs : List Int, d = .tup (zs.map .int) ∧ zs.length = n ∧ Sm9 zs
theorem papers_loop {l : List Int} (hl : Nums l) {L : List Lot} (h : Lots L) {us : List Int} (hu : Uses us) {x0 x2 x5 x6 x7 x14 : Option D} : ∀ (ds : List D) (p : Nat) (x8 x9 x10 x11 x12 x13 : Option D), (∀ d ∈ ds, isQ us.length d) → p + ds.length < 2 ^ 40 →
    ∃ y8 y9 y10 y11 y12 y13, (sFor (.nm 8) (sSeq (sSet 9 (eCall [none, none, none] g__law_shown (lCons (eVar 3) (lCons (eVar 4) (lCons (eVar 8) lNil)))))
    (sSeq (sSet 10 (eCall [some 1, none] g__law_next (lSlot 1 (lCons (eN (un1 lenD) (lCons (eVar 8) lNil)) lNil))))
    (sSeq (sSet 11 (eN dLst (lCons (eChk (eVar 8)) (lCons (eSl (eVar 8) (oPart (eC (.int 1))) (M.pur none)) (lCons (eOp addD (eVar 8) (eN dTup (lCons (eC (.int 0)) lNil))) (lCons (eOp addD (eOp addD (eSl (eVar 8) (M.pur none) (oPart (eVar 10))) (eN dTup (lCons (eOp addD (eOp ixD (eVar 8) (eVar 10)) (eC (.int 1))) lNil))) (eSl (eVar 8) (oPart (eOp addD (eVar 10) (eC (.int 1)))) (M.pur none))) (lCons (eOp addD (eOp addD (eSl (eVar 8) (M.pur none) (oPart (eVar 10))) (eN dTup (lCons (eOp subD (eOp ixD (eVar 8) (eVar 10)) (eC (.int 1))) lNil))) (eSl (eVar 8) (oPart (eOp addD (eVar 10) (eC (.int 1)))) (M.pur none))) (lCons (eUn revT (eVar 8)) (lCons (eOp addD (eOp addD (eSl (eVar 8) (M.pur none) (oPart (eVar 10))) (eN dTup (lCons (eUn negD (eC (.int 1))) lNil))) (eSl (eVar 8) (oPart (eOp addD (eVar 10) (eC (.int 1)))) (M.pur none))) lNil)))))))))
    (M.bind (iSeq (eVar 11)) (sFor (.nm 12) (M.bind (iSeq (eN dLst (lCons (eVar 9) (lCons (eOp addD (eVar 9) (eC (.int 1))) (lCons (eOp subD (eVar 9) (eC (.int 1))) (lCons (eC (.int 0)) (lCons (eUn negD (eC (.int 5))) lNil))))))) (sFor (.nm 13) (sIf (cNot (cTru (eCall [none, none] g__law_same (lCons (eCall [none, none, none, none] g_judge_prices (lCons (eVar 3) (lCons (eVar 4) (lCons (eVar 13) (lCons (eVar 12) lNil))))) (lCons (eCall [none, none, none, none] g__law_shows (lCons (eVar 3) (lCons (eVar 4) (lCons (eVar 13) (lCons (eVar 12) lNil))))) lNil))))) (sRet (eC (.bl false))) sNx))))))))) ds [x0, some (stD l p), x2, some (lsD L), some (usD us), x5, x6, x7, x8, x9, x10, x11, x12, x13, x14] = .ok .nx [x0, some (stD l (p + ds.length)), x2, some (lsD L), some (usD us), x5, x6, x7, y8, y9, y10, y11, y12, y13, x14]
  | [], p, x8, x9, x10, x11, x12, x13, _, _ => ⟨_, _, _, _, _, _, rfl⟩
  | d :: ds, p, x8, x9, x10, x11, x12, x13, hd, hp => by
    obtain ⟨zs, rfl, hz, h9⟩ := hd d List.mem_cons_self
    simp -implicitDefEqProofs only [List.length_cons] at hp
    have hs := h9.sml
    have u1 := hu.ne
    have u2 := hu.len
    obtain ⟨v, ev⟩ := shown_ok h hu hz hs
    have n1 := nx_ok (many := (zs.length : Int)) hl (p := p) (by omega) (by omega)
    obtain ⟨a1, b1⟩ := nextV_lt (l := l) (p := p) (many := (zs.length : Int)) (by omega)
    generalize nextV l p (zs.length : Int) = v1 at *
    obtain ⟨k, rfl⟩ : ∃ k : Nat, v1 = (k : Int) := ⟨v1.toNat, by omega⟩
    have hk : k < zs.length := by omega
    have im := imms_ints zs
    have s1 := slT_to im k
    have s2 := slT_from im (k + 1)
    have s3 := slT_from im 1
    simp -implicitDefEqProofs only [Int.natCast_add, Int.natCast_one] at s2 s3
    have atk := atI_int (l := zs) (k := k) hk
    have kb := h9 _ (getD_mem hk)
    obtain ⟨q1, q2, q3⟩ := put_ok (by omega) hs hk (v := zs.getD k 0 + 1) (by omega)
    obtain ⟨r1, r2, r3⟩ := put_ok (by omega) hs hk (v := zs.getD k 0 - 1) (by omega)
    obtain ⟨t1, t2, t3⟩ := put_ok (by omega) hs hk (v := -1) (by omega)
    have ad := addT (a := zs.map D.int) (b := [D.int 0]) im (by simp) (by rw [List.length_map, List.length_singleton]; omega)
    have rv := revT_t im
    obtain ⟨w12, w13, eo⟩ := ones_loop h hu (x0 := x0) (x1 := some (stD l (p + 1))) (x2 := x2) (x5 := x5) (x6 := x6) (x7 := x7) (x8 := some (.tup (zs.map .int))) (x10 := some (.int (k : Int))) (x14 := x14) (v := v)
      (x11 := some (.lst [.tup (zs.map .int), .tup ((zs.map D.int).drop 1), .tup (zs.map D.int ++ [.int 0]), .tup ((zs.map D.int).take k ++ [.int (zs.getD k 0 + 1)] ++ (zs.map D.int).drop (k + 1)), .tup ((zs.map D.int).take k ++ [.int (zs.getD k 0 - 1)] ++ (zs.map D.int).drop (k + 1)), .tup (zs.map D.int).reverse, .tup ((zs.map D.int).take k ++ [.int (-1)] ++ (zs.map D.int).drop (k + 1))]))
      [.tup (zs.map .int), .tup ((zs.map D.int).drop 1), .tup (zs.map D.int ++ [.int 0]), .tup ((zs.map D.int).take k ++ [.int (zs.getD k 0 + 1)] ++ (zs.map D.int).drop (k + 1)), .tup ((zs.map D.int).take k ++ [.int (zs.getD k 0 - 1)] ++ (zs.map D.int).drop (k + 1)), .tup (zs.map D.int).reverse, .tup ((zs.map D.int).take k ++ [.int (-1)] ++ (zs.map D.int).drop (k + 1))] x12 x13 (fun d hd => by
        simp -implicitDefEqProofs only [List.mem_cons, List.not_mem_nil, or_false] at hd
        rcases hd with rfl | rfl | rfl | rfl | rfl | rfl | rfl
        · exact ⟨zs, rfl, by omega, hs⟩
        · exact ⟨zs.drop 1, by rw [List.map_drop], by rw [List.length_drop]; omega, hs.drop 1⟩
        · exact ⟨zs ++ [0], by rw [List.map_append]; rfl, by rw [List.length_append, List.length_singleton]; omega, hs.app (Sml.one (by decide))⟩
        · exact q3
        · exact r3
        · exact ⟨zs.reverse, by rw [List.map_reverse], by rw [List.length_reverse]; omega, fun z hz' => hs z (List.mem_reverse.mp hz')⟩
        · exact t3)
    obtain ⟨y8, y9, y10, y11, y12, y13, e⟩ := papers_loop hl h hu (x0 := x0) (x2 := x2) (x5 := x5) (x6 := x6) (x7 := x7) (x14 := x14) ds (p + 1) (some (.tup (zs.map .int))) (some (.int v)) (some (.int (k : Int))) (some (.lst [.tup (zs.map .int), .tup ((zs.map D.int).drop 1), .tup (zs.map D.int ++ [.int 0]), .tup ((zs.map D.int).take k ++ [.int (zs.getD k 0 + 1)] ++ (zs.map D.int).drop (k + 1)), .tup ((zs.map D.int).take k ++ [.int (zs.getD k 0 - 1)] ++ (zs.map D.int).drop (k + 1)), .tup (zs.map D.int).reverse, .tup ((zs.map D.int).take k ++ [.int (-1)] ++ (zs.map D.int).drop (k + 1))])) w12 w13 (fun d hd' => hd d (List.mem_cons_of_mem _ hd')) (by omega)
    refine ⟨y8, y9, y10, y11, y12, y13, ?_⟩
    rw [sFor]
    simp -implicitDefEqProofs only [seqD_l, seqD_t, seqD_c, Nx_nx, Nx_ct, unwipe, wipeE, Tg.ids, Tg.idss, Option.getD_some, Option.getD_none, cChain_app, eChain_app, cChain3_app, eChain3_app, sAug_app, addI_i, subI_i, ↓reduceIte, if_true, if_false, Bool.false_eq_true, List.map_cons, List.map_nil, List.length_cons, List.length_nil, Nat.reduceAdd, Nat.reduceSub, Nat.reduceLeDiff, List.replicate, List.cons_append, List.nil_append, sSeq_app, sSetL_app, sSet_app, sRet_app, bind_app, eOp_app, eUn_app, eN_app, lCons_app, lNil_app, lSlot_app, eVar_app, eC_app, eChk_app, eIf_app, eNot_app, eAnd_app, eOr_app, cTru_app, cOp_app, cNot_app, cAnd_app, cOr_app, sIf_app, sAsg_app, sPar_app, sRaise_app, sMeth_app, sNx_app, sExpr_app, iSeq_app, iRng_app, eSl_app, oPart_app, eFmt_app, jNil_app, eTold_app, eCall_app, asm, setMs, List.getElem?_cons_zero, List.getElem?_cons_succ, List.set, opt_some, opt_none, pur_app, un1_one, addD_i, subD_i, negD_i, ltB_i, leB_i, gtB_i, geB_i, eqB_i, neB_i, absD_i, intD_i, intD_b, lenD_l, lenD_t, gBl_app, imm_i, imm_s, imm_b, imm_n, imm_t, imms_nil, imms_cons, Bool.and_self, Bool.and_true, Bool.true_and, asg_nm, asg_tpt, asg_tpl, asgs_nil, asgs_cons, dTup, dLst, truD, dBl, Option.map_some, Mw.gLst, decide_true, decide_false, Bool.not_true, Bool.not_false, Bool.false_and, Bool.and_false, Bool.true_or, Bool.false_or, eq_self, Int.reduceEq, Int.reduceLT, Int.reduceLE, Int.reduceNeg, n2i_0, n2i_1, n2i_2, n2i_3, n2i_4, n2i_5, n2i_6, n2i_7, n2i_8, n2i_9, n2i_10, n2i_11, n2i_12, imms_ints, ev, List.length_map, n1, intO, s1, s2, s3, ad, ixD_t, atk, q1, q2, r1, r2, rv, t1, t2, eo]
    rw [show p + (ds.length + 1) = p + 1 + ds.length from by omega]
    exact e
theorem nc_miss : ncT "Missing" = some ("missing" : Str) := by kernel_rfl
theorem eq_miss : eqB (.str "missing") (.str "told") = some false := by kernel_rfl
theorem eq_told : eqB (.str "told") (.str "told") = some true := by kernel_rfl
noncomputable def bodyL : M Fl := (sSeq (sAsg (.tp [(.nm 3), (.nm 4)]) (eCall [some 1] g__law_stock (lSlot 1 lNil)))
    (sSeq (sSet 5 (eOp ixD (eN dLst (lCons (eC (.int 4)) (lCons (eC (.int 1000)) (lCons (eC (.int 40000)) lNil)))) (eCall [some 1, none] g__law_next (lSlot 1 (lCons (eC (.int 3)) lNil)))))
    (sSeq (sSet 6 (eN dLst (lCons (eN (un1 tupleD) (lCons (eLc (.nm 14) (iSeq (eVar 4)) (M.pur true) (eCall [some 1, none] g__law_next (lSlot 1 (lCons (eVar 5) lNil)))) lNil)) (lCons (eOp mulX (eN dTup (lCons (eCall [some 1, none] g__law_next (lSlot 1 (lCons (eC (.int 9)) lNil))) lNil)) (eN (un1 lenD) (lCons (eVar 4) lNil))) (lCons (eOp mulX (eN dTup (lCons (eC (.int 0)) lNil)) (eN (un1 lenD) (lCons (eVar 4) lNil))) lNil)))))
    (sSeq (sSet 7 (eTold ncT (eCall [none, none] g_price_paper (lCons (eVar 3) (lCons (eVar 4) lNil)))))
    (sSeq (sIf (cOp eqB (eOp ixD (eVar 7) (eC (.int 0))) (eC (.str "told"))) (sMeth 6 (eChk (eOp ixD (eVar 7) (eC (.int 1)))) appD) sNx)
    (M.bind (iSeq (eVar 6)) (sFor (.nm 8) (sSeq (sSet 9 (eCall [none, none, none] g__law_shown (lCons (eVar 3) (lCons (eVar 4) (lCons (eVar 8) lNil)))))
    (sSeq (sSet 10 (eCall [some 1, none] g__law_next (lSlot 1 (lCons (eN (un1 lenD) (lCons (eVar 8) lNil)) lNil))))
    (sSeq (sSet 11 (eN dLst (lCons (eChk (eVar 8)) (lCons (eSl (eVar 8) (oPart (eC (.int 1))) (M.pur none)) (lCons (eOp addD (eVar 8) (eN dTup (lCons (eC (.int 0)) lNil))) (lCons (eOp addD (eOp addD (eSl (eVar 8) (M.pur none) (oPart (eVar 10))) (eN dTup (lCons (eOp addD (eOp ixD (eVar 8) (eVar 10)) (eC (.int 1))) lNil))) (eSl (eVar 8) (oPart (eOp addD (eVar 10) (eC (.int 1)))) (M.pur none))) (lCons (eOp addD (eOp addD (eSl (eVar 8) (M.pur none) (oPart (eVar 10))) (eN dTup (lCons (eOp subD (eOp ixD (eVar 8) (eVar 10)) (eC (.int 1))) lNil))) (eSl (eVar 8) (oPart (eOp addD (eVar 10) (eC (.int 1)))) (M.pur none))) (lCons (eUn revT (eVar 8)) (lCons (eOp addD (eOp addD (eSl (eVar 8) (M.pur none) (oPart (eVar 10))) (eN dTup (lCons (eUn negD (eC (.int 1))) lNil))) (eSl (eVar 8) (oPart (eOp addD (eVar 10) (eC (.int 1)))) (M.pur none))) lNil)))))))))
    (M.bind (iSeq (eVar 11)) (sFor (.nm 12) (M.bind (iSeq (eN dLst (lCons (eVar 9) (lCons (eOp addD (eVar 9) (eC (.int 1))) (lCons (eOp subD (eVar 9) (eC (.int 1))) (lCons (eC (.int 0)) (lCons (eUn negD (eC (.int 5))) lNil))))))) (sFor (.nm 13) (sIf (cNot (cTru (eCall [none, none] g__law_same (lCons (eCall [none, none, none, none] g_judge_prices (lCons (eVar 3) (lCons (eVar 4) (lCons (eVar 13) (lCons (eVar 12) lNil))))) (lCons (eCall [none, none, none, none] g__law_shows (lCons (eVar 3) (lCons (eVar 4) (lCons (eVar 13) (lCons (eVar 12) lNil))))) lNil))))) (sRet (eC (.bl false))) sNx)))))))))))))))
def At (S : D) (l : List Int) (P : Nat) (ρ : Mw.Env) : Prop := ∃ p x2 x3 x4 x5 x6 x7 x8 x9 x10 x11 x12 x13, ρ = [some S, some (stD l p), x2, x3, x4, x5, x6, x7, x8, x9, x10, x11, x12, x13, none] ∧ p ≤ P
theorem turn_ok {S : D} {l : List Int} (hl : Nums l) {p : Nat} (hp : p < 2 ^ 20) {x2 : D} (x3 x4 x5 x6 x7 x8 x9 x10 x11 x12 x13 : Option D) :
    Nx (At S l (p + 2000)) (bodyL [some S, some (stD l p), some x2, x3, x4, x5, x6, x7, x8, x9, x10, x11, x12, x13, none]) := by
  obtain ⟨L, us, p1, e1, hL, hU, hp1⟩ := stock_draw hl (p := p) (by omega)
  have u1 := hU.ne
  have u2 := hU.len
  have n1 := nx_ok (many := 3) hl (p := p1) (by omega) (by decide)
  obtain ⟨a1, b1⟩ := nextV_lt (l := l) (p := p1) (many := 3) (by decide)
  generalize nextV l (p1) 3 = v1 at *
  obtain ⟨top, e2, t0, t1⟩ := pick_in (lo := 4) (hi := 40000) (l := [.int 4, .int 1000, .int 40000]) a1 (by simpa using b1) (by
    intro d hd; simp -implicitDefEqProofs only [List.mem_cons, List.not_mem_nil, or_false] at hd
    rcases hd with rfl | rfl | rfl <;> exact in_i (by decide) (by decide))
  have iL : (lsD L).imm = true := by unfold lsD; rw [imm_t]; exact imms_lD L
  have iU : (usD us).imm = true := by unfold usD; rw [imm_t]; exact imms_ints us
  have st := eLc_steps (t := .nm 14) (fi := iSeq (eVar 4)) (tt := M.pur true) (te := (eCall [some 1, none] g__law_next (lSlot 1 (lCons (eVar 5) lNil)))) (ρ := [some S, some (stD l (p1 + 1)), some x2, some (lsD L), some (usD us), some (.int top), x6, x7, x8, x9, x10, x11, x12, x13, none]) (ρ1 := [some S, some (stD l (p1 + 1)), some x2, some (lsD L), some (usD us), some (.int top), x6, x7, x8, x9, x10, x11, x12, x13, none]) (xs := us.map .int) (fun k => .int (nextV l (p1 + 1 + k) top)) (fun k => [some S, some (stD l (p1 + 1 + k)), some x2, some (lsD L), some (usD us), some (.int top), x6, x7, x8, x9, x10, x11, x12, x13, none])
    rfl rfl (by rw [List.length_map]; omega) rfl (fun k x hx => by
      have hk : k < us.length := by
        have := (List.getElem?_eq_some_iff.mp hx).1
        rwa [List.length_map] at this
      have q1 := nx_ok (many := top) hl (p := p1 + 1 + k) (by omega) (by omega)
      rw [List.getElem?_map, List.getElem?_eq_getElem hk] at hx
      cases hx
      refine ⟨[some S, some (stD l (p1 + 1 + k)), some x2, some (lsD L), some (usD us), some (.int top), x6, x7, x8, x9, x10, x11, x12, x13, some (.int us[k])], [some S, some (stD l (p1 + 1 + k + 1)), some x2, some (lsD L), some (usD us), some (.int top), x6, x7, x8, x9, x10, x11, x12, x13, some (.int us[k])], rfl, rfl, ?_, rfl⟩
      simp -implicitDefEqProofs only [seqD_l, seqD_t, seqD_c, Nx_nx, Nx_ct, unwipe, wipeE, Tg.ids, Tg.idss, Option.getD_some, Option.getD_none, cChain_app, eChain_app, cChain3_app, eChain3_app, sAug_app, addI_i, subI_i, ↓reduceIte, if_true, if_false, Bool.false_eq_true, List.map_cons, List.map_nil, List.length_cons, List.length_nil, Nat.reduceAdd, Nat.reduceSub, Nat.reduceLeDiff, List.replicate, List.cons_append, List.nil_append, sSeq_app, sSetL_app, sSet_app, sRet_app, bind_app, eOp_app, eUn_app, eN_app, lCons_app, lNil_app, lSlot_app, eVar_app, eC_app, eChk_app, eIf_app, eNot_app, eAnd_app, eOr_app, cTru_app, cOp_app, cNot_app, cAnd_app, cOr_app, sIf_app, sAsg_app, sPar_app, sRaise_app, sMeth_app, sNx_app, sExpr_app, iSeq_app, iRng_app, eSl_app, oPart_app, eFmt_app, jNil_app, eTold_app, eCall_app, asm, setMs, List.getElem?_cons_zero, List.getElem?_cons_succ, List.set, opt_some, opt_none, pur_app, un1_one, addD_i, subD_i, negD_i, ltB_i, leB_i, gtB_i, geB_i, eqB_i, neB_i, absD_i, intD_i, intD_b, lenD_l, lenD_t, gBl_app, imm_i, imm_s, imm_b, imm_n, imm_t, imms_nil, imms_cons, Bool.and_self, Bool.and_true, Bool.true_and, asg_nm, asg_tpt, asg_tpl, asgs_nil, asgs_cons, dTup, dLst, truD, dBl, Option.map_some, Mw.gLst, decide_true, decide_false, Bool.not_true, Bool.not_false, Bool.false_and, Bool.and_false, Bool.true_or, Bool.false_or, eq_self, Int.reduceEq, Int.reduceLT, Int.reduceLE, Int.reduceNeg, n2i_0, n2i_1, n2i_2, n2i_3, n2i_4, n2i_5, n2i_6, n2i_7, n2i_8, n2i_9, n2i_10, n2i_11, n2i_12, q1])
  rw [List.length_map] at st
  obtain ⟨V, hV⟩ : ∃ V : Nat → Int, V = fun k => nextV l (p1 + 1 + k) top := ⟨_, rfl⟩
  have em : (List.range' 0 us.length).map (fun k => D.int (nextV l (p1 + 1 + k) top)) = ((List.range' 0 us.length).map V).map .int := by rw [List.map_map, hV]; rfl
  rw [em] at st
  have ps1 : isQ us.length (.tup (((List.range' 0 us.length).map V).map .int)) := ⟨_, rfl, by rw [List.length_map, List.length_range'], fun z hz => by
    obtain ⟨k, _, rfl⟩ := List.mem_map.mp hz
    rw [hV]
    obtain ⟨q1, q2⟩ := nextV_lt (l := l) (p := p1 + 1 + k) (many := top) (by omega)
    show (nextV l (p1 + 1 + k) top).natAbs < 2 ^ 90
    omega⟩
  have tu := tupleD_l (imms_ints ((List.range' 0 us.length).map V))
  generalize (List.range' 0 us.length).map V = vs at st ps1 tu
  obtain ⟨p2, hp2⟩ : ∃ p2, p2 = p1 + 1 + us.length := ⟨_, rfl⟩
  rw [← hp2] at st
  have n3 := nx_ok (many := 9) hl (p := p2) (by omega) (by decide)
  obtain ⟨a3, b3⟩ := nextV_lt (l := l) (p := p2) (many := 9) (by decide)
  generalize nextV l (p2) 9 = v3 at *
  have ll : lenD (usD us) = some (.int (us.length : Int)) := by unfold usD; rw [lenD_t, List.length_map]
  have m1 := mulX_t v3 (n := us.length) u1 (by omega)
  have m2 := mulX_t 0 (n := us.length) u1 (by omega)
  have rp : ∀ x : Int, x.natAbs < 2 ^ 90 → isQ us.length (.tup ((List.replicate us.length x).map .int)) := fun x hx => ⟨_, rfl, List.length_replicate, fun z hz => by rw [List.eq_of_mem_replicate hz]; exact hx⟩
  have ps2 := rp v3 (by omega)
  have ps3 := rp 0 (by decide)
  generalize List.replicate us.length v3 = r1 at m1 ps2
  generalize List.replicate us.length (0 : Int) = r2 at m2 ps3
  unfold bodyL
  rcases paper_ok hL hU with pe | ⟨zs, pe, hz, h9⟩
  · obtain ⟨y8, y9, y10, y11, y12, y13, e⟩ := papers_loop hl hL hU (x0 := some S) (x2 := some x2) (x5 := some (.int top)) (x6 := some (.lst [.tup (vs.map .int), .tup (r1.map .int), .tup (r2.map .int)])) (x7 := some (.tup [.str "missing"])) (x14 := none) [.tup (vs.map .int), .tup (r1.map .int), .tup (r2.map .int)] (p2 + 1) x8 x9 x10 x11 x12 x13 (fun d hd => by
      simp -implicitDefEqProofs only [List.mem_cons, List.not_mem_nil, or_false] at hd
      rcases hd with rfl | rfl | rfl
      · exact ps1
      · exact ps2
      · exact ps3) (by simp -implicitDefEqProofs only [List.length_cons, List.length_nil]; omega)
    simp -implicitDefEqProofs only [seqD_l, seqD_t, seqD_c, Nx_nx, Nx_ct, unwipe, wipeE, Tg.ids, Tg.idss, Option.getD_some, Option.getD_none, cChain_app, eChain_app, cChain3_app, eChain3_app, sAug_app, addI_i, subI_i, ↓reduceIte, if_true, if_false, Bool.false_eq_true, List.map_cons, List.map_nil, List.length_cons, List.length_nil, Nat.reduceAdd, Nat.reduceSub, Nat.reduceLeDiff, List.replicate, List.cons_append, List.nil_append, sSeq_app, sSetL_app, sSet_app, sRet_app, bind_app, eOp_app, eUn_app, eN_app, lCons_app, lNil_app, lSlot_app, eVar_app, eC_app, eChk_app, eIf_app, eNot_app, eAnd_app, eOr_app, cTru_app, cOp_app, cNot_app, cAnd_app, cOr_app, sIf_app, sAsg_app, sPar_app, sRaise_app, sMeth_app, sNx_app, sExpr_app, iSeq_app, iRng_app, eSl_app, oPart_app, eFmt_app, jNil_app, eTold_app, eCall_app, asm, setMs, List.getElem?_cons_zero, List.getElem?_cons_succ, List.set, opt_some, opt_none, pur_app, un1_one, addD_i, subD_i, negD_i, ltB_i, leB_i, gtB_i, geB_i, eqB_i, neB_i, absD_i, intD_i, intD_b, lenD_l, lenD_t, gBl_app, imm_i, imm_s, imm_b, imm_n, imm_t, imms_nil, imms_cons, Bool.and_self, Bool.and_true, Bool.true_and, asg_nm, asg_tpt, asg_tpl, asgs_nil, asgs_cons, dTup, dLst, truD, dBl, Option.map_some, Mw.gLst, decide_true, decide_false, Bool.not_true, Bool.not_false, Bool.false_and, Bool.and_false, Bool.true_or, Bool.false_or, eq_self, Int.reduceEq, Int.reduceLT, Int.reduceLE, Int.reduceNeg, n2i_0, n2i_1, n2i_2, n2i_3, n2i_4, n2i_5, n2i_6, n2i_7, n2i_8, n2i_9, n2i_10, n2i_11, n2i_12, e1, iL, iU, n1, ixD_l, e2, st, tu, n3, ll, m1, m2, pe, nc_miss, ixD_t, atI_0, eq_miss]
    simp -implicitDefEqProofs only [seqD_l, seqD_t, seqD_c, Nx_nx, Nx_ct, unwipe, wipeE, Tg.ids, Tg.idss, Option.getD_some, Option.getD_none, cChain_app, eChain_app, cChain3_app, eChain3_app, sAug_app, addI_i, subI_i, ↓reduceIte, if_true, if_false, Bool.false_eq_true, List.map_cons, List.map_nil, List.length_cons, List.length_nil, Nat.reduceAdd, Nat.reduceSub, Nat.reduceLeDiff, List.replicate, List.cons_append, List.nil_append, sSeq_app, sSetL_app, sSet_app, sRet_app, bind_app, eOp_app, eUn_app, eN_app, lCons_app, lNil_app, lSlot_app, eVar_app, eC_app, eChk_app, eIf_app, eNot_app, eAnd_app, eOr_app, cTru_app, cOp_app, cNot_app, cAnd_app, cOr_app, sIf_app, sAsg_app, sPar_app, sRaise_app, sMeth_app, sNx_app, sExpr_app, iSeq_app, iRng_app, eSl_app, oPart_app, eFmt_app, jNil_app, eTold_app, eCall_app, asm, setMs, List.getElem?_cons_zero, List.getElem?_cons_succ, List.set, opt_some, opt_none, pur_app, un1_one, addD_i, subD_i, negD_i, ltB_i, leB_i, gtB_i, geB_i, eqB_i, neB_i, absD_i, intD_i, intD_b, lenD_l, lenD_t, gBl_app, imm_i, imm_s, imm_b, imm_n, imm_t, imms_nil, imms_cons, Bool.and_self, Bool.and_true, Bool.true_and, asg_nm, asg_tpt, asg_tpl, asgs_nil, asgs_cons, dTup, dLst, truD, dBl, Option.map_some, Mw.gLst, decide_true, decide_false, Bool.not_true, Bool.not_false, Bool.false_and, Bool.and_false, Bool.true_or, Bool.false_or, eq_self, Int.reduceEq, Int.reduceLT, Int.reduceLE, Int.reduceNeg, n2i_0, n2i_1, n2i_2, n2i_3, n2i_4, n2i_5, n2i_6, n2i_7, n2i_8, n2i_9, n2i_10, n2i_11, n2i_12] at e
    rw [e]
    exact ⟨_, _, _, _, _, _, _, _, _, _, _, _, _, rfl, by omega⟩
  · obtain ⟨y8, y9, y10, y11, y12, y13, e⟩ := papers_loop hl hL hU (x0 := some S) (x2 := some x2) (x5 := some (.int top)) (x6 := some (.lst [.tup (vs.map .int), .tup (r1.map .int), .tup (r2.map .int), .tup (zs.map .int)])) (x7 := some (.tup [.str "told", .tup (zs.map .int)])) (x14 := none) [.tup (vs.map .int), .tup (r1.map .int), .tup (r2.map .int), .tup (zs.map .int)] (p2 + 1) x8 x9 x10 x11 x12 x13 (fun d hd => by
      simp -implicitDefEqProofs only [List.mem_cons, List.not_mem_nil, or_false] at hd
      rcases hd with rfl | rfl | rfl | rfl
      · exact ps1
      · exact ps2
      · exact ps3
      · exact ⟨zs, rfl, hz, h9⟩) (by simp -implicitDefEqProofs only [List.length_cons, List.length_nil]; omega)
    have ap : appD [.tup (vs.map .int), .tup (r1.map .int), .tup (r2.map .int)] (.tup (zs.map .int)) = some [.tup (vs.map .int), .tup (r1.map .int), .tup (r2.map .int), .tup (zs.map .int)] := appD_ok (by simp)
    simp -implicitDefEqProofs only [seqD_l, seqD_t, seqD_c, Nx_nx, Nx_ct, unwipe, wipeE, Tg.ids, Tg.idss, Option.getD_some, Option.getD_none, cChain_app, eChain_app, cChain3_app, eChain3_app, sAug_app, addI_i, subI_i, ↓reduceIte, if_true, if_false, Bool.false_eq_true, List.map_cons, List.map_nil, List.length_cons, List.length_nil, Nat.reduceAdd, Nat.reduceSub, Nat.reduceLeDiff, List.replicate, List.cons_append, List.nil_append, sSeq_app, sSetL_app, sSet_app, sRet_app, bind_app, eOp_app, eUn_app, eN_app, lCons_app, lNil_app, lSlot_app, eVar_app, eC_app, eChk_app, eIf_app, eNot_app, eAnd_app, eOr_app, cTru_app, cOp_app, cNot_app, cAnd_app, cOr_app, sIf_app, sAsg_app, sPar_app, sRaise_app, sMeth_app, sNx_app, sExpr_app, iSeq_app, iRng_app, eSl_app, oPart_app, eFmt_app, jNil_app, eTold_app, eCall_app, asm, setMs, List.getElem?_cons_zero, List.getElem?_cons_succ, List.set, opt_some, opt_none, pur_app, un1_one, addD_i, subD_i, negD_i, ltB_i, leB_i, gtB_i, geB_i, eqB_i, neB_i, absD_i, intD_i, intD_b, lenD_l, lenD_t, gBl_app, imm_i, imm_s, imm_b, imm_n, imm_t, imms_nil, imms_cons, Bool.and_self, Bool.and_true, Bool.true_and, asg_nm, asg_tpt, asg_tpl, asgs_nil, asgs_cons, dTup, dLst, truD, dBl, Option.map_some, Mw.gLst, decide_true, decide_false, Bool.not_true, Bool.not_false, Bool.false_and, Bool.and_false, Bool.true_or, Bool.false_or, eq_self, Int.reduceEq, Int.reduceLT, Int.reduceLE, Int.reduceNeg, n2i_0, n2i_1, n2i_2, n2i_3, n2i_4, n2i_5, n2i_6, n2i_7, n2i_8, n2i_9, n2i_10, n2i_11, n2i_12, e1, iL, iU, n1, ixD_l, e2, st, tu, n3, ll, m1, m2, pe, ixD_t, atI_0, atI_1, eq_told, imms_ints, ap]
    simp -implicitDefEqProofs only [seqD_l, seqD_t, seqD_c, Nx_nx, Nx_ct, unwipe, wipeE, Tg.ids, Tg.idss, Option.getD_some, Option.getD_none, cChain_app, eChain_app, cChain3_app, eChain3_app, sAug_app, addI_i, subI_i, ↓reduceIte, if_true, if_false, Bool.false_eq_true, List.map_cons, List.map_nil, List.length_cons, List.length_nil, Nat.reduceAdd, Nat.reduceSub, Nat.reduceLeDiff, List.replicate, List.cons_append, List.nil_append, sSeq_app, sSetL_app, sSet_app, sRet_app, bind_app, eOp_app, eUn_app, eN_app, lCons_app, lNil_app, lSlot_app, eVar_app, eC_app, eChk_app, eIf_app, eNot_app, eAnd_app, eOr_app, cTru_app, cOp_app, cNot_app, cAnd_app, cOr_app, sIf_app, sAsg_app, sPar_app, sRaise_app, sMeth_app, sNx_app, sExpr_app, iSeq_app, iRng_app, eSl_app, oPart_app, eFmt_app, jNil_app, eTold_app, eCall_app, asm, setMs, List.getElem?_cons_zero, List.getElem?_cons_succ, List.set, opt_some, opt_none, pur_app, un1_one, addD_i, subD_i, negD_i, ltB_i, leB_i, gtB_i, geB_i, eqB_i, neB_i, absD_i, intD_i, intD_b, lenD_l, lenD_t, gBl_app, imm_i, imm_s, imm_b, imm_n, imm_t, imms_nil, imms_cons, Bool.and_self, Bool.and_true, Bool.true_and, asg_nm, asg_tpt, asg_tpl, asgs_nil, asgs_cons, dTup, dLst, truD, dBl, Option.map_some, Mw.gLst, decide_true, decide_false, Bool.not_true, Bool.not_false, Bool.false_and, Bool.and_false, Bool.true_or, Bool.false_or, eq_self, Int.reduceEq, Int.reduceLT, Int.reduceLE, Int.reduceNeg, n2i_0, n2i_1, n2i_2, n2i_3, n2i_4, n2i_5, n2i_6, n2i_7, n2i_8, n2i_9, n2i_10, n2i_11, n2i_12] at e
    rw [e]
    exact ⟨_, _, _, _, _, _, _, _, _, _, _, _, _, rfl, by omega⟩
theorem law_ok {ns : List Int} (h : ns.length ≤ 63) : ∃ ms, g_law [.scr (ns.map .int)] = .ok (.bl true) ms := by
  obtain ⟨l, hl, e⟩ := stream_ok h
  have e : g__law_stream [.scr (ns.map .int)] = .ok (.lst (l.map .int)) [] := e
  have r5 : rng1 [.int 5] = some ((List.range 5).map nI) := rfl
  obtain ⟨ρ', el, p', x2, x3, x4, x5, x6, x7, x8, x9, x10, x11, x12, x13, hr, _⟩ := sFor_range (t := .nm 2) (b := bodyL) nI (fun i ρ => At (.scr (ns.map .int)) l (2000 * i) ρ) 5 (fun i hi ρ hr => by
    obtain ⟨p, x2, x3, x4, x5, x6, x7, x8, x9, x10, x11, x12, x13, rfl, hp⟩ := hr
    refine ⟨_, rfl, ?_⟩
    have t := turn_ok (S := .scr (ns.map .int)) hl (p := p) (x2 := nI i) (by omega) x3 x4 x5 x6 x7 x8 x9 x10 x11 x12 x13
    have mono : ∀ {x : Mw.R Fl}, Nx (At (.scr (ns.map .int)) l (p + 2000)) x → Nx (At (.scr (ns.map .int)) l (2000 * (i + 1))) x := fun {x} hx => by
      have w : ∀ ρ, At (.scr (ns.map .int)) l (p + 2000) ρ → At (.scr (ns.map .int)) l (2000 * (i + 1)) ρ := fun ρ ⟨p, x2, x3, x4, x5, x6, x7, x8, x9, x10, x11, x12, x13, a, b⟩ => ⟨p, x2, x3, x4, x5, x6, x7, x8, x9, x10, x11, x12, x13, a, by omega⟩
      cases x with
      | ok f ρ => cases f with
        | nx => exact w _ hx
        | ct => exact w _ hx
        | brk => exact hx
        | ret d => exact hx
      | err _ _ => exact hx
      | stuck => exact hx
    exact mono t) (ρ := [some (.scr (ns.map .int)), some (stD l 0), none, none, none, none, none, none, none, none, none, none, none, none, none]) ⟨0, none, none, none, none, none, none, none, none, none, none, none, none, rfl, Nat.le_refl _⟩
  subst hr
  refine ⟨[], runFn_ret (ρ' := [some (.scr (ns.map .int)), some (stD l p'), x2, x3, x4, x5, x6, x7, x8, x9, x10, x11, x12, x13, none]) rfl ?_ rfl⟩
  unfold bodyL at el
  have st : (D.lst [.lst (l.map .int), .int 0]) = stD l 0 := rfl
  unfold b_law
  simp -implicitDefEqProofs only [seqD_l, seqD_t, seqD_c, Nx_nx, Nx_ct, unwipe, wipeE, Tg.ids, Tg.idss, Option.getD_some, Option.getD_none, cChain_app, eChain_app, cChain3_app, eChain3_app, sAug_app, addI_i, subI_i, ↓reduceIte, if_true, if_false, Bool.false_eq_true, List.map_cons, List.map_nil, List.length_cons, List.length_nil, Nat.reduceAdd, Nat.reduceSub, Nat.reduceLeDiff, List.replicate, List.cons_append, List.nil_append, sSeq_app, sSetL_app, sSet_app, sRet_app, bind_app, eOp_app, eUn_app, eN_app, lCons_app, lNil_app, lSlot_app, eVar_app, eC_app, eChk_app, eIf_app, eNot_app, eAnd_app, eOr_app, cTru_app, cOp_app, cNot_app, cAnd_app, cOr_app, sIf_app, sAsg_app, sPar_app, sRaise_app, sMeth_app, sNx_app, sExpr_app, iSeq_app, iRng_app, eSl_app, oPart_app, eFmt_app, jNil_app, eTold_app, eCall_app, asm, setMs, List.getElem?_cons_zero, List.getElem?_cons_succ, List.set, opt_some, opt_none, pur_app, un1_one, addD_i, subD_i, negD_i, ltB_i, leB_i, gtB_i, geB_i, eqB_i, neB_i, absD_i, intD_i, intD_b, lenD_l, lenD_t, gBl_app, imm_i, imm_s, imm_b, imm_n, imm_t, imms_nil, imms_cons, Bool.and_self, Bool.and_true, Bool.true_and, asg_nm, asg_tpt, asg_tpl, asgs_nil, asgs_cons, dTup, dLst, truD, dBl, Option.map_some, Mw.gLst, decide_true, decide_false, Bool.not_true, Bool.not_false, Bool.false_and, Bool.and_false, Bool.true_or, Bool.false_or, eq_self, Int.reduceEq, Int.reduceLT, Int.reduceLE, Int.reduceNeg, n2i_0, n2i_1, n2i_2, n2i_3, n2i_4, n2i_5, n2i_6, n2i_7, n2i_8, n2i_9, n2i_10, n2i_11, n2i_12, e, r5]
  rw [st, el]
end Lw

namespace Lw
open PySem PySem.Spec L2 Mw
open PyProof.Rows hiding St
theorem tabs_start {K : PySem.W.Frag} {H : Hp} (h : ∀ p ∈ tf.map (He.cT K), H p.2 = some (.tbl #[])) : LamX.Tabs (TT K) H := fun p hp => by
  have e : TT K = tf.map fun q => tabP K q.1 := rfl
  rw [e] at hp
  obtain ⟨q, hq, rfl⟩ := List.mem_map.mp hp
  have n : q.2 = none := by
    have a : ∀ z ∈ tf, z.2 = none := by decide
    exact a q hq
  obtain ⟨q1, q2⟩ := q
  cases n
  exact LamX.TabS.nil (h _ (List.mem_map.mpr ⟨(q1, none), hq, rfl⟩))
theorem law_G {w : World} {K : PySem.W.Frag} {h : Heap} {mg : Str → Option Value} {fa0 : Addr} (KX : K.In h) (G : h.Ns mainGlobals mg) (c : He.SaysX fa fn [] tf exq w h K) (hfa : mg ("law" : Str) = some (.ref fa0)) :
    LawG PySem.Challenge.rw_mealward_k47_prices_of_days_judged w K 7 63 "script" mg fa0 h := by
  have F : FnP K "law" s_law := fnP_of c.t.d 20 rfl
  have m : mg ("law" : Str) = some (.ref (He.ga K "law")) := He.glo_ok KX G (c.t.d.fact 20 rfl)
  rw [hfa] at m
  cases m
  refine ⟨fdK K "law", tf.map (He.cT K), spF K (TT K) (exNm K) [.r] g_law, fun p hp => ?_, fun p hp => ?_, fun p hp => ?_, fun s u => ?_, fun H a ns hl hb hT hS => ?_, fun base Kb Gb tb => ?_⟩
  · obtain ⟨q, hq, rfl⟩ := List.mem_map.mp hp
    exact c.empty q hq
  · obtain ⟨q, hq, rfl⟩ := List.mem_map.mp hp
    exact c.out q hq
  · obtain ⟨q, hq, rfl⟩ := List.mem_map.mp hp
    exact PySem.W.codeHd_of_K KX (c.hd q hq)
  · exact FunD.bindsA (ps := ["script"]) F (fun _ _ _ _ _ _ us hl => match us, hl with | [_], _ => rfl) s [u] rfl
  · obtain ⟨ms, e⟩ := law_ok hl
    exact sp_start (tabs_start hT) hS e
  · exact ok_law (cc_of KX G c tb)
end Lw
open PySem PySem.W PySem.Calls PyProof.Rows
theorem PySem.Challenge.cw_mealward_k47_prices_of_days_judged_holds : PySem.Challenge.rw_mealward_k47_prices_of_days_judged.Holds := by
  w_on; o_law
  refine HandSHeadRun.head_any (r := Lw.R) (q := Lw.qv) (H := Lw.hk) (ob := Lw.ob) (M := 200000) (loose := Lw.loose) (d := HandSHeadRun.topDef (OpenLaw.row PySem.Challenge.rw_mealward_k47_prices_of_days_judged).prog 39) (kwd := []) Lw.ob_eq
    (by kernel_rfl) (fun s => by kernel_rfl) Lw.run (by kernel_rfl) (by kernel_rfl) (by kernel_rfl) (by rfl) (by first | assumption | decide +kernel) (by decide +kernel) ⟨rfl, rfl, rfl, rfl, rfl, by decide +kernel⟩ ?hw ?hc
  case hw => w_witness2
  case hc =>
    refine Mw.walk_G (l := PySem.Challenge.rw_mealward_k47_prices_of_days_judged) (n := 63) (k := 7) (x := "script") rfl (by decide) (by kernel_rfl) ⟨rfl, by decide, by decide⟩ ?F
    intro w mg fa0 h Y G hmg0
    obtain ⟨K, KX, c⟩ := Y
    have hmg : mg ("law" : PySem.Str) = some (.ref fa0) := by
      have e : (HandSHeadRun.topDef (OpenLaw.row PySem.Challenge.rw_mealward_k47_prices_of_days_judged).prog 39).name = ("law" : PySem.Str) := by kernel_rfl
      rw [← e]
      exact hmg0
    exact ⟨K, KX, Lw.law_G KX G c hmg⟩
