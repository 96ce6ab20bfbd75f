import PyProof.Rows.All
import Wide.All
import OpenK.AllK
import Wide.FinOn
import HandS.ForMost
import HandS.ForExc
import HandS.IsInst
import HandS.TupAny
import HandS.SortInts
import KE.DataEq
import HandS.Head0
import HandS.Head1
import HandS.Head2
import HandS.HeadEnd
import HandS.HeadHook1
import HandS.HeadHook2
import HandS.WordsExc
import PySem.Challenge.RW_ticksahead_k31_intervals
set_option Elab.async false
set_option linter.all false
set_option maxRecDepth 100000
set_option maxHeartbeats 4000000
namespace Tk
open PySem PySem.Spec PyProof.Rows L2

/-- a value: tuples are data, what can change stands at a place -/
inductive D where
  | non | bl (b : Bool) | int (i : Int) | str (x : Str) | ty (n : String) | tup (xs : List D) | loc (n : Nat)
  deriving Inhabited
/-- what stands at a place -/
inductive MO where
  | lst (xs : List D) | fl (xs : List D) | dic (kvs : List (D × D)) | dit (kvs : List (D × D)) | ins (c : Nat) (fs : List (Str × D))
  deriving Inhabited
abbrev Mu := List MO
/-- the outcome of an evaluation -/
inductive Res (α : Type) where
  | ok (a : α) (m : Mu) | exc (c : Nat) (fs : List (Str × D)) (m : Mu) | stuck
def Res.bind {α β : Type} (r : Res α) (f : α → Mu → Res β) : Res β := match r with
  | .ok a m => f a m
  | .exc c fs m => .exc c fs m
  | .stuck => .stuck

/-- K, where the classes stand -/
structure Kx where
  K : PySem.W.Frag
  cl : Nat → Addr

section
variable (κ : Kx) (ρ : List Addr) (H : Hp)
mutual
def Rep : D → V → Prop
  | .non, v => v = .non
  | .bl b, v => v = .bl b
  | .int i, v => v = .int i
  | .str x, v => v = .str x
  | .ty n, v => v = .ty n
  | .loc n, v => ∃ a, ρ[n]? = some a ∧ v = .ref a
  | .tup ds, v => ∃ a xs, v = .ref a ∧ SqT κ.K H a xs ∧ Reps ds xs
def Reps : List D → List V → Prop
  | [], vs => vs = []
  | d :: ds, vs => ∃ v r, vs = v :: r ∧ Rep d v ∧ Reps ds r
end
end
/-- a key of a dict -/
def keyD : D → Option Key
  | .int i => some (.inl i)
  | .str x => some (.inr x)
  | _ => none
def keysD : List D → Option (List Key)
  | [] => some []
  | d :: ds => (keyD d).bind fun k => (keysD ds).map fun ks => k :: ks
def RepK (κ : Kx) (ρ : List Addr) (H : Hp) : List (D × D) → List (Key × V) → Prop
  | [], vs => vs = []
  | d :: ds, vs => ∃ k v r, vs = (k, v) :: r ∧ keyD d.1 = some k ∧ Rep κ ρ H d.2 v ∧ RepK κ ρ H ds r
def RepT (κ : Kx) (ρ : List Addr) (H : Hp) : List (D × D) → List (List Key × V) → Prop
  | [], vs => vs = []
  | d :: ds, vs => ∃ xs k v r, vs = (k, v) :: r ∧ d.1 = .tup xs ∧ keysD xs = some k ∧ Rep κ ρ H d.2 v ∧ RepT κ ρ H ds r
def RepF (κ : Kx) (ρ : List Addr) (H : Hp) : List (Str × D) → List (Str × V) → Prop
  | [], vs => vs = []
  | d :: ds, vs => ∃ v r, vs = (d.1, v) :: r ∧ Rep κ ρ H d.2 v ∧ RepF κ ρ H ds r
def RepO (κ : Kx) (ρ : List Addr) (H : Hp) : MO → Addr → Prop
  | .lst ds, a => ∃ xs, H a = some (.lst xs) ∧ Reps κ ρ H ds xs
  | .fl ds, a => ∃ o xs, H a = some (.frz o (.lst xs)) ∧ Reps κ ρ H ds xs
  | .dic kvs, a => ∃ ks, H a = some (.dK ks) ∧ RepK κ ρ H kvs ks
  | .dit kvs, a => ∃ ks, H a = some (.dT ks) ∧ RepT κ ρ H kvs ks
  | .ins c fs, a => ∃ dx gs, H a = some (.ins (κ.cl c) dx gs) ∧ RepF κ ρ H fs gs

structure Rel (κ : Kx) (ρ : List Addr) (H : Hp) (μ : Mu) : Prop where
  len : ρ.length = μ.length
  nd : ρ.Nodup
  obj : ∀ (n : Nat) (o : MO), μ[n]? = some o → ∃ a, ρ[n]? = some a ∧ RepO κ ρ H o a
/-- later: places stay, tuples stay -/
structure Ext (ρ : List Addr) (H : Hp) (ρ' : List Addr) (H' : Hp) : Prop where
  pre : ∀ (n : Nat) a, ρ[n]? = some a → ρ'[n]? = some a
  tup : ∀ a xs, Rd H a (.tup xs) → Rd H' a (.tup xs)
theorem Ext.refl {ρ H} : Ext ρ H ρ H := ⟨fun _ _ h => h, fun _ _ h => h⟩
theorem Ext.trans {ρ H ρ1 H1 ρ2 H2} (a : Ext ρ H ρ1 H1) (b : Ext ρ1 H1 ρ2 H2) : Ext ρ H ρ2 H2 := ⟨fun n x h => b.pre n x (a.pre n x h), fun x xs h => b.tup x xs (a.tup x xs h)⟩
theorem Ext.sqt {K ρ H ρ1 H1 a xs} (e : Ext ρ H ρ1 H1) (h : SqT K H a xs) : SqT K H1 a xs := by
  rcases h with h | h
  · exact .inl (e.tup a xs h)
  · exact .inr h
section
variable {κ : Kx} {ρ ρ' : List Addr} {H H' : Hp}
mutual
theorem Rep.ext (e : Ext ρ H ρ' H') : ∀ (d : D) (v : V), Rep κ ρ H d v → Rep κ ρ' H' d v
  | .non, v, h => by unfold Rep at h ⊢; exact h
  | .bl b, v, h => by unfold Rep at h ⊢; exact h
  | .int i, v, h => by unfold Rep at h ⊢; exact h
  | .str x, v, h => by unfold Rep at h ⊢; exact h
  | .ty n, v, h => by unfold Rep at h ⊢; exact h
  | .loc n, v, h => by
    unfold Rep at h ⊢
    obtain ⟨a, h1, h2⟩ := h
    exact ⟨a, e.pre n a h1, h2⟩
  | .tup ds, v, h => by
    unfold Rep at h ⊢
    obtain ⟨a, xs, h1, h2, h3⟩ := h
    exact ⟨a, xs, h1, e.sqt h2, Reps.ext e ds xs h3⟩
theorem Reps.ext (e : Ext ρ H ρ' H') : ∀ (ds : List D) (vs : List V), Reps κ ρ H ds vs → Reps κ ρ' H' ds vs
  | [], vs, h => by unfold Reps at h ⊢; exact h
  | d :: ds, vs, h => by
    unfold Reps at h ⊢
    obtain ⟨v, r, h1, h2, h3⟩ := h
    exact ⟨v, r, h1, Rep.ext e d v h2, Reps.ext e ds r h3⟩
end
theorem RepK.ext (e : Ext ρ H ρ' H') : ∀ {ds vs}, RepK κ ρ H ds vs → RepK κ ρ' H' ds vs
  | [], _, h => h
  | d :: ds, _, h => by
    obtain ⟨k, v, r, h1, h2, h3, h4⟩ := h
    exact ⟨k, v, r, h1, h2, h3.ext e, h4.ext e⟩
theorem RepT.ext (e : Ext ρ H ρ' H') : ∀ {ds vs}, RepT κ ρ H ds vs → RepT κ ρ' H' ds vs
  | [], _, h => h
  | d :: ds, _, h => by
    obtain ⟨xs, k, v, r, h1, h2, h3, h4, h5⟩ := h
    exact ⟨xs, k, v, r, h1, h2, h3, h4.ext e, h5.ext e⟩
theorem RepF.ext (e : Ext ρ H ρ' H') : ∀ {ds vs}, RepF κ ρ H ds vs → RepF κ ρ' H' ds vs
  | [], _, h => h
  | d :: ds, _, h => by
    obtain ⟨v, r, h1, h2, h3⟩ := h
    exact ⟨v, r, h1, h2.ext e, h3.ext e⟩
end
end Tk

namespace Tk
open PySem PySem.Spec PyProof.Rows L2

theorem not_tup_lst {H : Hp} {a : Addr} {xs : List V} (h : H a = some (.lst xs)) : ∀ ys, ¬ Rd H a (.tup ys) := fun ys r => by
  rcases r with r | ⟨o, r⟩ <;> (rw [h] at r; cases r)
theorem not_tup_dK {H : Hp} {a : Addr} {xs : List (Key × V)} (h : H a = some (.dK xs)) : ∀ ys, ¬ Rd H a (.tup ys) := fun ys r => by
  rcases r with r | ⟨o, r⟩ <;> (rw [h] at r; cases r)
theorem not_tup_dT {H : Hp} {a : Addr} {xs : List (List Key × V)} (h : H a = some (.dT xs)) : ∀ ys, ¬ Rd H a (.tup ys) := fun ys r => by
  rcases r with r | ⟨o, r⟩ <;> (rw [h] at r; cases r)
theorem not_tup_ins {H : Hp} {a C dx : Addr} {fs : List (Str × V)} (h : H a = some (.ins C dx fs)) : ∀ ys, ¬ Rd H a (.tup ys) := fun ys r => by
  rcases r with r | ⟨o, r⟩ <;> (rw [h] at r; cases r)
section
variable {κ : Kx} {ρ ρ' : List Addr} {H H' : Hp} {μ : Mu}
theorem Ext.write {a : Addr} {o : HO} (hn : ∀ ys, ¬ Rd H a (.tup ys)) : Ext ρ H ρ (upd H a o) := ⟨fun _ _ h => h, fun b xs r => by
  have hb : b ≠ a := fun e => hn xs (by rw [← e]; exact r)
  rcases r with r | ⟨u, r⟩
  · exact .inl (by rw [upd_ne hb]; exact r)
  · exact .inr ⟨u, by rw [upd_ne hb]; exact r⟩⟩
theorem rd_ne {a p : Addr} {u : HO} (r : Rd H a u) (hp : H p = none) : a ≠ p := fun e => by
  rcases r with r | ⟨o, r⟩ <;> (rw [e, hp] at r; cases r)
theorem Ext.newt {p : Addr} {o : HO} (hp : H p = none) : Ext ρ H ρ (upd H p o) := .write fun ys r => rd_ne r hp rfl
theorem Ext.new {p : Addr} {o : HO} (hp : H p = none) : Ext ρ H (ρ ++ [p]) (upd H p o) := ⟨fun n a h => by
  have hn : n < ρ.length := (List.getElem?_eq_some_iff.mp h).1
  rw [List.getElem?_append_left hn]; exact h, Ext.newt (ρ := ρ) hp |>.tup⟩
theorem RepO.ext (e : Ext ρ H ρ' H') {a : Addr} (ha : H' a = H a) {o : MO} (h : RepO κ ρ H o a) : RepO κ ρ' H' o a := by
  cases o with
  | lst ds =>
    obtain ⟨xs, h1, h2⟩ := h
    exact ⟨xs, by rw [ha]; exact h1, h2.ext e⟩
  | fl ds =>
    obtain ⟨o, xs, h1, h2⟩ := h
    exact ⟨o, xs, by rw [ha]; exact h1, h2.ext e⟩
  | dic ks =>
    obtain ⟨xs, h1, h2⟩ := h
    exact ⟨xs, by rw [ha]; exact h1, h2.ext e⟩
  | dit ks =>
    obtain ⟨xs, h1, h2⟩ := h
    exact ⟨xs, by rw [ha]; exact h1, h2.ext e⟩
  | ins c fs =>
    obtain ⟨dx, gs, h1, h2⟩ := h
    exact ⟨dx, gs, by rw [ha]; exact h1, h2.ext e⟩
theorem RepO.some {a : Addr} {o : MO} (h : RepO κ ρ H o a) : H a ≠ none := by
  cases o with
  | lst ds =>
    obtain ⟨xs, h1, h2⟩ := h
    rw [h1]; exact fun z => nomatch z
  | fl ds =>
    obtain ⟨o, xs, h1, h2⟩ := h
    rw [h1]; exact fun z => nomatch z
  | dic ks =>
    obtain ⟨xs, h1, h2⟩ := h
    rw [h1]; exact fun z => nomatch z
  | dit ks =>
    obtain ⟨xs, h1, h2⟩ := h
    rw [h1]; exact fun z => nomatch z
  | ins c fs =>
    obtain ⟨dx, gs, h1, h2⟩ := h
    rw [h1]; exact fun z => nomatch z
theorem Rel.at (r : Rel κ ρ H μ) {n : Nat} {a : Addr} (h : ρ[n]? = some a) : ∃ o, μ[n]? = some o ∧ RepO κ ρ H o a := by
  have hn : n < μ.length := by rw [← r.len]; exact (List.getElem?_eq_some_iff.mp h).1
  obtain ⟨b, h1, h2⟩ := r.obj n μ[n] (List.getElem?_eq_getElem hn)
  rw [h] at h1; cases h1
  exact ⟨_, List.getElem?_eq_getElem hn, h2⟩
theorem Rel.ne_none (r : Rel κ ρ H μ) {n : Nat} {a : Addr} (h : ρ[n]? = some a) : H a ≠ none := by
  obtain ⟨o, _, h2⟩ := r.at h
  exact h2.some
/-- an object that no place names is new, or is written -/
theorem Rel.other (r : Rel κ ρ H μ) {p : Addr} {o : HO} (hp : ∀ n : Nat, ρ[n]? ≠ some p) (hn : ∀ ys, ¬ Rd H p (.tup ys)) : Rel κ ρ (upd H p o) μ :=
  ⟨r.len, r.nd, fun n u h => by
    obtain ⟨a, h1, h2⟩ := r.obj n u h
    exact ⟨a, h1, h2.ext (.write hn) (upd_ne fun e => hp n (by rw [← e]; exact h1))⟩⟩
theorem Rel.newt (r : Rel κ ρ H μ) {p : Addr} {o : HO} (hp : H p = none) : Rel κ ρ (upd H p o) μ :=
  r.other (fun n h => r.ne_none h hp) fun ys x => rd_ne x hp rfl
theorem nodup_at {ρ : List Addr} (h : ρ.Nodup) {i j : Nat} {a : Addr} (hi : ρ[i]? = some a) (hj : ρ[j]? = some a) : i = j := by
  obtain ⟨h1, e1⟩ := List.getElem?_eq_some_iff.mp hi
  obtain ⟨h2, e2⟩ := List.getElem?_eq_some_iff.mp hj
  exact (List.getElem_inj h).mp (e1.trans e2.symm)
theorem Rel.write (r : Rel κ ρ H μ) {n : Nat} {a : Addr} {mo : MO} {ho : HO} (ha : ρ[n]? = some a) (hn : ∀ ys, ¬ Rd H a (.tup ys)) (new : RepO κ ρ (upd H a ho) mo a) : Rel κ ρ (upd H a ho) (μ.set n mo) :=
  ⟨by rw [List.length_set]; exact r.len, r.nd, fun m u h => by
    have hl : n < μ.length := by rw [← r.len]; exact (List.getElem?_eq_some_iff.mp ha).1
    by_cases hm : m = n
    · subst hm
      rw [List.getElem?_set_self hl] at h
      cases h
      exact ⟨a, ha, new⟩
    · rw [List.getElem?_set_ne (Ne.symm hm)] at h
      obtain ⟨b, h1, h2⟩ := r.obj m u h
      exact ⟨b, h1, h2.ext (.write hn) (upd_ne fun e => hm (nodup_at r.nd (by rw [← e]; exact h1) ha))⟩⟩
theorem Rel.alloc (r : Rel κ ρ H μ) {p : Addr} {mo : MO} {ho : HO} (hp : H p = none) (new : RepO κ (ρ ++ [p]) (upd H p ho) mo p) : Rel κ (ρ ++ [p]) (upd H p ho) (μ ++ [mo]) :=
  ⟨by rw [List.length_append, List.length_append, r.len]; rfl, by
    rw [List.nodup_append]
    refine ⟨r.nd, by simp, fun a ha b hb e => ?_⟩
    have hb' : b = p := by simpa using hb
    obtain ⟨i, hi, e1⟩ := List.getElem_of_mem ha
    exact r.ne_none (n := i) (a := p) (by rw [List.getElem?_eq_getElem hi, e1, e, hb']) hp, fun m u h => by
    by_cases hm : m < μ.length
    · rw [List.getElem?_append_left hm] at h
      obtain ⟨b, h1, h2⟩ := r.obj m u h
      exact ⟨b, by rw [List.getElem?_append_left (by rw [r.len]; exact hm)]; exact h1, h2.ext (.new hp) (upd_ne fun e => r.ne_none h1 (by rw [e]; exact hp))⟩
    · have hm2 : m = μ.length := by
        have := (List.getElem?_eq_some_iff.mp h).1
        rw [List.length_append, List.length_singleton] at this
        omega
      subst hm2
      rw [List.getElem?_append_right (Nat.le_refl _), Nat.sub_self] at h
      cases h
      exact ⟨p, by rw [List.getElem?_append_right (by rw [r.len]; exact Nat.le_refl _), r.len, Nat.sub_self]; rfl, new⟩⟩
end

/-! ### slots -/
abbrev Dl := List (Option D)
structure RepS (κ : Kx) (ρ : List Addr) (H : Hp) (δ : Dl) (σ : L2.St) : Prop where
  len : δ.length = σ.length
  at_ : ∀ (i : Nat) d, δ[i]? = some (some d) → ∃ v, σ[i]? = some (some v) ∧ Rep κ ρ H d v
section
variable {κ : Kx} {ρ ρ' : List Addr} {H H' : Hp} {δ : Dl} {σ : L2.St}
theorem RepS.ext (e : Ext ρ H ρ' H') (h : RepS κ ρ H δ σ) : RepS κ ρ' H' δ σ := ⟨h.len, fun i d hd => by
  obtain ⟨v, h1, h2⟩ := h.at_ i d hd
  exact ⟨v, h1, h2.ext e⟩⟩
theorem RepS.set (h : RepS κ ρ H δ σ) {d : D} {v : V} (hv : Rep κ ρ H d v) (i : Nat) : RepS κ ρ H (δ.set i (some d)) (σ.set i (some v)) := ⟨by rw [List.length_set, List.length_set, h.len], fun j e he => by
  by_cases hj : j = i
  · subst hj
    by_cases hl : j < δ.length
    · rw [List.getElem?_set_self hl] at he
      cases he
      exact ⟨v, List.getElem?_set_self (by rw [← h.len]; exact hl), hv⟩
    · rw [List.getElem?_eq_none (by simpa using hl)] at he; cases he
  · rw [List.getElem?_set_ne (Ne.symm hj)] at he
    obtain ⟨u, h1, h2⟩ := h.at_ j e he
    exact ⟨u, by rw [List.getElem?_set_ne (Ne.symm hj)]; exact h1, h2⟩⟩
theorem RepS.off (h : RepS κ ρ H δ σ) (i : Nat) : RepS κ ρ H (δ.set i none) (σ.set i none) := ⟨by rw [List.length_set, List.length_set, h.len], fun j e he => by
  by_cases hj : j = i
  · subst hj
    by_cases hl : j < δ.length
    · rw [List.getElem?_set_self hl] at he
      cases he
    · rw [List.getElem?_eq_none (by simpa using hl)] at he; cases he
  · rw [List.getElem?_set_ne (Ne.symm hj)] at he
    obtain ⟨u, h1, h2⟩ := h.at_ j e he
    exact ⟨u, by rw [List.getElem?_set_ne (Ne.symm hj)]; exact h1, h2⟩⟩
theorem Reps.len : ∀ {ds : List D} {vs : List V}, Reps κ ρ H ds vs → ds.length = vs.length
  | [], _, h => by unfold Reps at h; rw [h]; rfl
  | d :: ds, _, h => by
    unfold Reps at h
    obtain ⟨v, r, h1, h2, h3⟩ := h
    rw [h1, List.length_cons, List.length_cons, Reps.len h3]
theorem Reps.at_ : ∀ {ds : List D} {vs : List V}, Reps κ ρ H ds vs → ∀ (i : Nat) d, ds[i]? = some d → ∃ v, vs[i]? = some v ∧ Rep κ ρ H d v
  | [], _, h, i, d, e => by simp at e
  | d :: ds, _, h, 0, d', e => by
    unfold Reps at h
    obtain ⟨v, r, h1, h2, h3⟩ := h
    cases e
    exact ⟨v, by rw [h1]; rfl, h2⟩
  | d :: ds, _, h, i + 1, d', e => by
    unfold Reps at h
    obtain ⟨v, r, h1, h2, h3⟩ := h
    obtain ⟨u, h4, h5⟩ := Reps.at_ h3 i d' e
    exact ⟨u, by rw [h1]; exact h4, h5⟩
theorem Reps.nil : Reps κ ρ H [] [] := by unfold Reps; rfl
theorem Reps.cons {d v ds vs} (h : Rep κ ρ H d v) (r : Reps κ ρ H ds vs) : Reps κ ρ H (d :: ds) (v :: vs) := by unfold Reps; exact ⟨v, vs, rfl, h, r⟩
theorem Reps.append : ∀ {ds es : List D} {vs ws : List V}, Reps κ ρ H ds vs → Reps κ ρ H es ws → Reps κ ρ H (ds ++ es) (vs ++ ws)
  | [], es, vs, ws, h, g => by
    unfold Reps at h
    subst h
    exact g
  | d :: ds, es, vs, ws, h, g => by
    unfold Reps at h
    obtain ⟨v, r, h1, h2, h3⟩ := h
    subst h1
    exact .cons h2 (Reps.append h3 g)
theorem Reps.of_at : ∀ {ds : List D} {vs : List V}, ds.length = vs.length → (∀ (i : Nat) d v, ds[i]? = some d → vs[i]? = some v → Rep κ ρ H d v) → Reps κ ρ H ds vs
  | [], [], _, _ => .nil
  | [], _ :: _, h, _ => by cases h
  | _ :: _, [], h, _ => by cases h
  | d :: ds, v :: vs, h, g => .cons (g 0 d v rfl rfl) (Reps.of_at (Nat.succ.inj h) fun i a b h1 h2 => g (i + 1) a b h1 h2)
theorem Reps.set {ds : List D} {vs : List V} (h : Reps κ ρ H ds vs) {d v} (hv : Rep κ ρ H d v) (i : Nat) : Reps κ ρ H (ds.set i d) (vs.set i v) := by
  refine .of_at (by rw [List.length_set, List.length_set, h.len]) fun j a b h1 h2 => ?_
  by_cases hj : j = i
  · subst hj
    have hl : j < ds.length := by have := (List.getElem?_eq_some_iff.mp h1).1; simpa using this
    rw [List.getElem?_set_self hl] at h1
    rw [List.getElem?_set_self (by rw [← h.len]; exact hl)] at h2
    cases h1; cases h2
    exact hv
  · rw [List.getElem?_set_ne (Ne.symm hj)] at h1 h2
    obtain ⟨u, h3, h4⟩ := h.at_ j a h1
    rw [h2] at h3; cases h3
    exact h4
theorem Reps.drop {ds : List D} {vs : List V} (h : Reps κ ρ H ds vs) (n : Nat) : Reps κ ρ H (ds.drop n) (vs.drop n) := by
  refine .of_at (by rw [List.length_drop, List.length_drop, h.len]) fun j a b h1 h2 => ?_
  rw [List.getElem?_drop] at h1 h2
  obtain ⟨u, h3, h4⟩ := h.at_ _ a h1
  rw [h2] at h3; cases h3
  exact h4
theorem Reps.take {ds : List D} {vs : List V} (h : Reps κ ρ H ds vs) (n : Nat) : Reps κ ρ H (ds.take n) (vs.take n) := by
  refine .of_at (by rw [List.length_take, List.length_take, h.len]) fun j a b h1 h2 => ?_
  rw [List.getElem?_take] at h1 h2
  split at h1
  · rename_i hj
    rw [if_pos hj] at h2
    obtain ⟨u, h3, h4⟩ := h.at_ _ a h1
    rw [h2] at h3; cases h3
    exact h4
  · cases h1
theorem Reps.slot {ds : List D} {vs : List V} (h : Reps κ ρ H ds vs) (n : Nat) : RepS κ ρ H (ds.map some ++ List.replicate n none) (vs.map some ++ List.replicate n none) := by
  refine ⟨by simp [h.len], fun i d hd => ?_⟩
  by_cases hi : i < ds.length
  · rw [List.getElem?_append_left (by simpa using hi), List.getElem?_map] at hd
    cases e : ds[i]? with
    | none => rw [e] at hd; cases hd
    | some d' =>
      rw [e] at hd
      cases hd
      obtain ⟨v, h1, h2⟩ := h.at_ i d e
      exact ⟨v, by rw [List.getElem?_append_left (by rw [List.length_map, ← h.len]; exact hi), List.getElem?_map, h1]; rfl, h2⟩
  · rw [List.getElem?_append_right (by simpa using hi), List.getElem?_replicate] at hd
    split at hd <;> cases hd
end

/-! ### what is wanted behind an evaluation -/
def Post (κ : Kx) {α β : Type} (Ra : List Addr → Hp → α → β → Prop) (W : WX) (σ : L2.St) (ρ : List Addr) (H : Hp) (r : Res α) (Q : β → Hp → Prop) : Prop := match r with
  | .ok d μ' => ∀ ρ' H' v, Ext ρ H ρ' H' → Rel κ ρ' H' μ' → Ra ρ' H' d v → Q v H'
  | .exc c fs μ' => ∀ ρ' H' dd gs, Ext ρ H ρ' H' → Rel κ ρ' H' μ' → H' dd = some (.xd gs) → RepF κ ρ' H' fs gs → W (.ref (κ.cl c)) (some dd) σ H'
  | .stuck => False
section
variable {κ : Kx} {α β γ δ' : Type} {Ra : List Addr → Hp → α → β → Prop} {Rc : List Addr → Hp → γ → δ' → Prop} {W : WX} {σ : L2.St} {ρ ρ' : List Addr} {H H' : Hp}
theorem Post.ext (e : Ext ρ H ρ' H') {r : Res α} {Q : β → Hp → Prop} (h : Post κ Ra W σ ρ H r Q) : Post κ Ra W σ ρ' H' r Q := by
  cases r with
  | ok d μ => exact fun ρ2 H2 v e2 => h ρ2 H2 v (e.trans e2)
  | exc c fs μ => exact fun ρ2 H2 dd gs e2 => h ρ2 H2 dd gs (e.trans e2)
  | stuck => exact h
theorem Post.bind {r : Res α} {f : α → Mu → Res γ} {Q : δ' → Hp → Prop} (h : Post κ Rc W σ ρ H (r.bind f) Q) :
    Post κ Ra W σ ρ H r (fun v H1 => ∃ ρ1 a μ1, Ext ρ H ρ1 H1 ∧ Rel κ ρ1 H1 μ1 ∧ Ra ρ1 H1 a v ∧ Post κ Rc W σ ρ1 H1 (f a μ1) Q) := by
  cases r with
  | ok d μ => exact fun ρ2 H2 v e2 r2 a2 => ⟨ρ2, d, μ, e2, r2, a2, Post.ext e2 h⟩
  | exc c fs μ => exact h
  | stuck => exact h
theorem Post.mono {r : Res α} {Q Q' : β → Hp → Prop} (h : Post κ Ra W σ ρ H r Q) (hq : ∀ v H, Q v H → Q' v H) : Post κ Ra W σ ρ H r Q' := by
  cases r with
  | ok d μ => exact fun ρ2 H2 v e2 r2 a2 => hq _ _ (h ρ2 H2 v e2 r2 a2)
  | exc c fs μ => exact h
  | stuck => exact h
end
/-- a reading by an evaluation -/
def tG (κ : Kx) {α β : Type} (Ra : List Addr → Hp → α → β → Prop) (W : WX) (m : Dl → Mu → Res α) : L2.St → Hp → (β → Hp → Prop) → Prop := fun σ H Q =>
  ∃ ρ δ μ, RepS κ ρ H δ σ ∧ Rel κ ρ H μ ∧ Post κ Ra W σ ρ H (m δ μ) Q
abbrev RB : List Addr → Hp → Bool → Bool → Prop := fun _ _ a b => a = b
abbrev tE (κ : Kx) (W : WX) (m : Dl → Mu → Res D) : TE := tG κ (Rep κ) W m
abbrev tT (κ : Kx) (W : WX) (m : Dl → Mu → Res Bool) : TT := tG κ RB W m
abbrev tA (κ : Kx) (W : WX) (m : Dl → Mu → Res (List D)) : TA := tG κ (Reps κ) W m
section
variable {κ : Kx} {α β γ δ' : Type} {Ra : List Addr → Hp → α → β → Prop} {Rc : List Addr → Hp → γ → δ' → Prop} {W : WX} {σ : L2.St} {ρ ρ' : List Addr} {H H' : Hp} {δ : Dl} {μ : Mu}
/-- from the whole to its first part -/
theorem go {m : Dl → Mu → Res α} {f : α → Mu → Res γ} {Q : δ' → Hp → Prop} (s : RepS κ ρ H δ σ) (r : Rel κ ρ H μ) (h : Post κ Rc W σ ρ H ((m δ μ).bind f) Q) :
    tG κ Ra W m σ H (fun v H1 => ∃ ρ1 a μ1, Ext ρ H ρ1 H1 ∧ RepS κ ρ1 H1 δ σ ∧ Rel κ ρ1 H1 μ1 ∧ Ra ρ1 H1 a v ∧ Post κ Rc W σ ρ1 H1 (f a μ1) Q) :=
  ⟨ρ, δ, μ, s, r, (Post.bind h).mono fun v H1 ⟨ρ1, a, μ1, e, r1, x, p⟩ => ⟨ρ1, a, μ1, e, s.ext e, r1, x, p⟩⟩
end
section
variable {X : Cx}
theorem pe_imp {e : Expr} {t t' : TE} (h : PE X e t) (hi : ∀ σ H Q, t' σ H Q → t σ H Q) : PE X e t' := ⟨fun pins s σ H Q I q => h.run pins s σ H Q I (hi σ H Q q)⟩
theorem pt_imp {e : Expr} {t t' : TT} (h : PT X e t) (hi : ∀ σ H Q, t' σ H Q → t σ H Q) : PT X e t' := ⟨fun pins s σ H Q I q => h.run pins s σ H Q I (hi σ H Q q)⟩
theorem pw_imp {e : Expr} {t t' : TT} (h : PW X e t) (hi : ∀ σ H Q, t' σ H Q → t σ H Q) : PW X e t' := ⟨fun wh pins s σ H Q I q => h.run wh pins s σ H Q I (hi σ H Q q)⟩
theorem pa_imp {e : List Expr} {t t' : TA} (h : PA X e t) (hi : ∀ σ H Q, t' σ H Q → t σ H Q) : PA X e t' := ⟨fun pos pins s σ H Q I q => h.run pos pins s σ H Q I (hi σ H Q q)⟩
theorem ps_imp {e : Stmt} {t t' : TS} (h : PS X e t) (hi : ∀ D σ H, t' D σ H → t D σ H) : PS X e t' := ⟨fun pins s σ H D I q => h.run pins s σ H D I (hi D σ H q)⟩
theorem pss_imp {e : List Stmt} {t t' : TS} (h : PSs X e t) (hi : ∀ D σ H, t' D σ H → t D σ H) : PSs X e t' := ⟨fun pins s σ H D I q => h.run pins s σ H D I (hi D σ H q)⟩
theorem pg_imp {e : Expr} {t t' : TG} (h : PG X e t) (hi : ∀ v σ H Q, t' v σ H Q → t v σ H Q) : PG X e t' := ⟨fun pins s σ H v u Q I r q => h.run pins s σ H v u Q I r (hi v σ H Q q)⟩
theorem pi_imp {tg e : Expr} {t t' : TI} (h : PI X tg e t) (hi : ∀ σ H Q, t' σ H Q → t σ H Q) : PI X tg e t' := ⟨fun pins s σ H Q I q => h.run pins s σ H Q I (hi σ H Q q)⟩
end
end Tk

namespace Tk
open PySem PySem.Spec PyProof.Rows L2

/-! ### the small language -/
inductive Tg where
  | name (i : Nat) | tup (ts : List Tg)
  deriving Inhabited
inductive Blt where
  | len | int | max | min | sorted | list | tuple | abs | str | isi
  deriving DecidableEq, Inhabited
inductive Mth where
  | append | get | pop | extend | index
  deriving DecidableEq, Inhabited
mutual
inductive E where
  | v (i : Nat) | c (d : D)
  | tup (es : Es) | lst (es : Es)
  | bin (o : Operator) (a b : E) | neg (a : E)
  | cmp (o : CmpOp) (a b : E) | chn (o p : CmpOp) (a b c : E)
  | and (a b : E) | or (a b : E) | not (a : E)
  | ite (t a b : E)
  | ix (a i : E) | sl (a : E) (lo hi : Eo)
  | call (f : Nat) (es : Es)
  | blt (b : Blt) (es : Es)
  | mth (m : Mth) (a : E) (es : Es)
  | lc (own : List Nat) (t : Tg) (it : It') (fs : Eo) (e : E)
  | lc2 (own : List Nat) (t : Tg) (it : It') (own2 : List Nat) (t2 : Tg) (it2 : It') (e : E)
  | dic (ps : Ep)
inductive Es where
  | nil | cons (e : E) (r : Es)
inductive Eo where
  | none | some (e : E)
inductive Ep where
  | nil | cons (k v : E) (r : Ep)
inductive It' where
  | val (e : E) | rng1 (a : E) | rng2 (a b : E)
end
mutual
inductive S where
  | asg (t : Tg) (e : E) | setix (o i e : E)
  | aug (i : Nat) (o : Operator) (e : E)
  | expr (e : E) | ret (e : E) | retn
  | ifs (t : E) (a b : Ss) | for_ (t : Tg) (it : It') (b : Ss) | while_ (t : E) (b : Ss)
  | pass | brk | cont
inductive Ss where
  | nil | cons (s : S) (r : Ss)
end

/-! ### what operations do -/
def lstAt (μ : Mu) (n : Nat) : Option (List D) := match μ[n]? with
  | some (.lst xs) => some xs
  | some (.fl xs) => some xs
  | _ => none
def newl (μ : Mu) (xs : List D) : Res D := .ok (.loc μ.length) (μ ++ [.lst xs])
def cmulB (i j : Int) : Bool := (decide (-(2 ^ 64) < i) && decide (i < 2 ^ 64)) || (decide (-(2 ^ 64) < j) && decide (j < 2 ^ 64))
def addD : D → D → Mu → Res D
  | .int i, .int j, μ => .ok (.int (i + j)) μ
  | .str a, .str b, μ => if a.length + b.length ≤ sizeLine then .ok (.str (a ++ b)) μ else .stuck
  | .tup a, .tup b, μ => if a.length + b.length ≤ sizeLine then .ok (.tup (a ++ b)) μ else .stuck
  | .loc m, .loc n, μ => match μ[m]?, μ[n]? with
    | some (.lst a), some (.lst b) => if a.length + b.length ≤ sizeLine then newl μ (a ++ b) else .stuck
    | _, _ => .stuck
  | _, _, _ => .stuck
def subD : D → D → Mu → Res D
  | .int i, .int j, μ => .ok (.int (i - j)) μ
  | _, _, _ => .stuck
def mulD : D → D → Mu → Res D
  | .int i, .int j, μ => if cmulB i j = true then .ok (.int (i * j)) μ else .stuck
  | .loc m, .int k, μ => match μ[m]? with
    | some (.lst a) => if -(2 ^ 63) ≤ k ∧ k < 2 ^ 63 ∧ a.length * k.toNat ≤ sizeLine then newl μ (List.replicate k.toNat a).flatten else .stuck
    | _ => .stuck
  | _, _, _ => .stuck
def divD : D → D → Mu → Res D
  | .int i, .int j, μ => if 0 < j ∧ j < 1073741824 then .ok (.int (i / j)) μ else .stuck
  | _, _, _ => .stuck
def modD : D → D → Mu → Res D
  | .int i, .int j, μ => if 0 < j then .ok (.int (i % j)) μ else .stuck
  | _, _, _ => .stuck
def powD : D → D → Mu → Res D
  | .int i, .int j, μ => if 0 ≤ j ∧ j ≤ 1000000 ∧ i.natAbs < 2 ^ 64 then .ok (.int (i ^ j.toNat)) μ else .stuck
  | _, _, _ => .stuck
def binD : Operator → D → D → Mu → Res D
  | .Add => addD
  | .Sub => subD
  | .Mult => mulD
  | .FloorDiv => divD
  | .Mod => modD
  | .Pow => powD
  | _ => fun _ _ _ => .stuck
def augD : Operator → D → D → Mu → Res D
  | .Add, .int i, .int j, μ => .ok (.int (i + j)) μ
  | .Sub, .int i, .int j, μ => .ok (.int (i - j)) μ
  | _, _, _, _ => .stuck
def negD : D → Mu → Res D
  | .int i, μ => .ok (.int (-i)) μ
  | _, _ => .stuck

def allS {α : Type} : List (Option α) → Option (List α)
  | [] => some []
  | none :: _ => none
  | some a :: r => (allS r).map (a :: ·)
def pyD (μ : Mu) : Nat → D → Option PyData
  | 0, _ => none
  | k + 1, d => match d with
    | .non => some .none
    | .bl b => some (.bool b)
    | .int i => some (.int i)
    | .str x => some (.str x)
    | .ty _ => none
    | .loc n => (lstAt μ n).bind fun xs => (allS (xs.map (pyD μ k))).map .list
    | .tup ds => (allS (ds.map (pyD μ k))).map .tuple
def eqD (μ : Mu) (x y : D) : Option Bool := (pyD μ 40 x).bind fun a => (pyD μ 40 y).bind fun b => some (PyData.eqv a b)
def seqD (μ : Mu) : D → Option (List D)
  | .tup xs => some xs
  | .loc n => lstAt μ n
  | _ => none
/-- x in xs, all flat -/
def flatD : D → Bool
  | .non => true
  | .bl _ => true
  | .int _ => true
  | .str _ => true
  | _ => false
def eqF : D → D → Bool
  | .non, .non => true
  | .bl a, .bl b => a == b
  | .bl a, .int b => (if a then 1 else 0) == b
  | .int a, .bl b => a == (if b then 1 else 0)
  | .int a, .int b => a == b
  | .str a, .str b => a == b
  | _, _ => false
def inF (x : D) (xs : List D) : Bool := xs.any fun y => eqF y x
def valD (kvs : List (D × D)) (k : D) : Option D := (kvs.find? fun kv => eqF kv.1 k).map (·.2)
def inD (μ : Mu) (x y : D) : Option Bool := match y with
  | .str t => (match x with
    | .str s => some (!(Builtin.Str.occurrences t s 0 t.length 1).isEmpty)
    | _ => none)
  | y => (seqD μ y).bind fun ys => if flatD x = true ∧ ys.all flatD = true then some (inF x ys) else none
def cmpD : CmpOp → D → D → Mu → Res D
  | .Eq, x, y, μ => match eqD μ x y with
    | some b => .ok (.bl b) μ
    | none => .stuck
  | .NotEq, x, y, μ => match eqD μ x y with
    | some b => .ok (.bl (!b)) μ
    | none => .stuck
  | .Lt, .int i, .int j, μ => .ok (.bl (decide (i < j))) μ
  | .LtE, .int i, .int j, μ => .ok (.bl (decide (i ≤ j))) μ
  | .Gt, .int i, .int j, μ => .ok (.bl (decide (j < i))) μ
  | .GtE, .int i, .int j, μ => .ok (.bl (decide (j ≤ i))) μ
  | .Is, x, .non, μ => .ok (.bl (match x with | .non => true | _ => false)) μ
  | .IsNot, x, .non, μ => .ok (.bl (match x with | .non => false | _ => true)) μ
  | .In, x, y, μ => match inD μ x y with
    | some b => .ok (.bl b) μ
    | none => .stuck
  | .NotIn, x, y, μ => match inD μ x y with
    | some b => .ok (.bl (!b)) μ
    | none => .stuck
  | _, _, _, _ => .stuck
def ixD (x i : D) (μ : Mu) : Res D := match i with
  | .int k => (match seqD μ x with
    | some xs => (match atI xs k with
      | some d => .ok d μ
      | none => .stuck)
    | none => .stuck)
  | _ => .stuck
def cutD (xs : List D) (lo hi : Option Int) : List D := (xs.drop (HT.sIx xs.length 0 lo)).take (HT.sIx xs.length xs.length hi - HT.sIx xs.length 0 lo)
def slD (x : D) (lo hi : Option Int) (μ : Mu) : Res D := match x with
  | .tup xs => .ok (.tup (cutD xs lo hi)) μ
  | .loc n => (match lstAt μ n with
    | some xs => newl μ (cutD xs lo hi)
    | none => .stuck)
  | _ => .stuck
def truD (x : D) (μ : Mu) : Res Bool := match x with
  | .bl b => .ok b μ
  | .non => .ok false μ
  | .int i => .ok (i != 0) μ
  | _ => .stuck
def intsD : List D → Option (List Int)
  | [] => some []
  | .int i :: r => (intsD r).map (i :: ·)
  | _ => none
def maxI : List Int → Option Int
  | [] => none
  | [x] => some x
  | x :: r => (maxI r).map fun m => if x > m then x else m
def minI : List Int → Option Int
  | [] => none
  | [x] => some x
  | x :: r => (minI r).map fun m => if x < m then x else m
def insI (x : Int) : List Int → List Int
  | [] => [x]
  | y :: r => if x ≤ y then x :: y :: r else y :: insI x r
def sortI : List Int → List Int
  | [] => []
  | x :: r => insI x (sortI r)
def tyD : D → Mu → Option String
  | .non, _ => some "NoneType"
  | .bl _, _ => some "bool"
  | .int _, _ => some "int"
  | .str _, _ => some "str"
  | .tup _, _ => some "tuple"
  | .loc n, μ => (match μ[n]? with
    | some (.lst _) => some "list"
    | some (.fl _) => some "list"
    | some (.dic _) => some "dict"
    | some (.dit _) => some "dict"
    | _ => none)
  | _, _ => none
instance : Inhabited (Res D) := ⟨.stuck⟩
def bltD : Blt → List D → Mu → Res D
  | .len, [.str x], μ => if x.length ≤ sizeLine then .ok (.int x.length) μ else .stuck
  | .len, [x], μ => (match seqD μ x with
    | some xs => .ok (.int xs.length) μ
    | none => .stuck)
  | .int, [.int i], μ => .ok (.int i) μ
  | .int, [.bl b], μ => .ok (.int (if b then 1 else 0)) μ
  | .max, [.int i, .int j], μ => .ok (.int (if j > i then j else i)) μ
  | .min, [.int i, .int j], μ => .ok (.int (if j < i then j else i)) μ
  | .max, [.loc n], μ => (match (lstAt μ n).bind intsD with
    | some ns => (match maxI ns with
      | some m => .ok (.int m) μ
      | none => .stuck)
    | none => .stuck)
  | .min, [.loc n], μ => (match (lstAt μ n).bind intsD with
    | some ns => (match minI ns with
      | some m => .ok (.int m) μ
      | none => .stuck)
    | none => .stuck)
  | .sorted, [.loc n], μ => (match (lstAt μ n).bind intsD with
    | some ns => newl μ ((sortI ns).map .int)
    | none => .stuck)
  | .list, [x], μ => (match seqD μ x with
    | some xs => newl μ xs
    | none => .stuck)
  | .tuple, [x], μ => (match seqD μ x with
    | some xs => .ok (.tup xs) μ
    | none => .stuck)
  | .abs, [.int i], μ => .ok (.int (if i < 0 then -i else i)) μ
  | .isi, [x, .ty n], μ => (match tyD x μ with
    | some t => (match kitB t n with
      | some b => .ok (.bl b) μ
      | none => .stuck)
    | none => .stuck)
  | _, _, _ => .stuck
/-- the receiver is of the method's kind -/
def isLst (x : D) (μ : Mu) : Bool := match x with
  | .loc n => (match μ[n]? with
    | some (.lst _) => true
    | _ => false)
  | _ => false
def isDic (x : D) (μ : Mu) : Bool := match x with
  | .loc n => (match μ[n]? with
    | some (.dic _) => true
    | _ => false)
  | _ => false
def mkD (m : Mth) : D → Mu → Bool := match m with
  | .append => isLst
  | .pop => isLst
  | .extend => isLst
  | .index => isLst
  | .get => isDic
def appendD (x : D) (ds : List D) (μ : Mu) : Res D := match x, ds with
  | .loc n, [d] => (match μ[n]? with
    | some (.lst xs) => if xs.length < sizeLine then .ok .non (μ.set n (.lst (xs ++ [d]))) else .stuck
    | _ => .stuck)
  | _, _ => .stuck
def getD (x : D) (ds : List D) (μ : Mu) : Res D := match x, ds with
  | .loc n, [k, d] => (match μ[n]? with
    | some (.dic kvs) => (match keyD k with
      | some _ => .ok ((valD kvs k).getD d) μ
      | none => .stuck)
    | _ => .stuck)
  | .loc n, [k] => (match μ[n]? with
    | some (.dic kvs) => (match keyD k with
      | some _ => .ok ((valD kvs k).getD .non) μ
      | none => .stuck)
    | _ => .stuck)
  | _, _ => .stuck
def mthD (m : Mth) : D → List D → Mu → Res D := match m with
  | .append => appendD
  | .get => getD
  | _ => fun _ _ _ => .stuck
def putD (kvs : List (D × D)) (k v : D) : List (D × D) :=
  if (kvs.any fun kv => eqF kv.1 k) = true then kvs.map (fun kv => if eqF kv.1 k = true then (kv.1, v) else kv) else kvs ++ [(k, v)]
def mergeD (kvs more : List (D × D)) : List (D × D) := more.foldl (fun acc kv => putD acc kv.1 kv.2) kvs
def setixD (x i v : D) (μ : Mu) : Res Unit := match x with
  | .loc n => (match μ[n]? with
    | some (.lst xs) => (match i with
      | .int k => (match ixN xs.length k with
        | some j => .ok () (μ.set n (.lst (xs.set j v)))
        | none => .stuck)
      | _ => .stuck)
    | some (.dic kvs) => (match keyD i with
      | some _ => if kvs.length < sizeLine then .ok () (μ.set n (.dic (putD kvs i v))) else .stuck
      | none => .stuck)
    | _ => .stuck)
  | _ => .stuck

/-! ### what is walked -/
inductive Src where
  | items (ds : List D) | live (n : Nat) | rng (lo : Int) (n : Nat)
  deriving Inhabited
def Src.at_ (s : Src) (i : Nat) (μ : Mu) : Option (Option D) := match s with
  | .items ds => some ds[i]?
  | .live n => (lstAt μ n).map fun xs => xs[i]?
  | .rng lo n => some (if i < n then some (.int (lo + i)) else none)
mutual
def bindG : Tg → D → Dl → Option Dl
  | .name i, d, δ => some (δ.set i (some d))
  | .tup ts, .tup ds, δ => bindGs ts ds δ
  | .tup _, _, _ => none
def bindGs : List Tg → List D → Dl → Option Dl
  | [], [], δ => some δ
  | t :: ts, d :: ds, δ => (bindG t d δ).bind fun δ1 => bindGs ts ds δ1
  | _, _, _ => none
end
def wipeD (δ : Dl) : List Nat → Dl
  | [] => δ
  | v :: vs => (wipeD δ vs).set v none

/-- the outcome of a statement -/
inductive RS where
  | nx (δ : Dl) (μ : Mu) | ret (d : D) (μ : Mu) | brk (δ : Dl) (μ : Mu) | cont (δ : Dl) (μ : Mu)
  | exc (c : Nat) (fs : List (Str × D)) (δ : Dl) (μ : Mu) | stuck
  deriving Inhabited
def RS.of {α : Type} (δ : Dl) (r : Res α) (f : α → Mu → RS) : RS := match r with
  | .ok a μ => f a μ
  | .exc c fs μ => .exc c fs δ μ
  | .stuck => .stuck
def RS.seq (r : RS) (f : Dl → Mu → RS) : RS := match r with
  | .nx δ μ => f δ μ
  | r => r
def Res.noexc {α : Type} : Res α → Res α
  | .exc .. => .stuck
  | r => r

/-- a comprehension's turns: the new list stands at ℓ -/
def lcN (bind : D → Dl → Option Dl) (test : Dl → Mu → Res Bool) (elt : Dl → Mu → Res D) (src : Src) (ℓ : Nat) (δ : Dl) : Nat → Nat → Mu → Res D
  | 0, _, _ => .stuck
  | f + 1, i, μ => match src.at_ i μ with
    | none => .stuck
    | some none => .ok (.loc ℓ) μ
    | some (some d) => match bind d δ with
      | none => .stuck
      | some δ1 => (test δ1 μ).noexc.bind fun b μ2 => if b = true then
          (elt δ1 μ2).noexc.bind fun y μ3 => match μ3[ℓ]? with
            | some (.lst acc) => if acc.length < sizeLine then lcN bind test elt src ℓ δ f (i + 1) (μ3.set ℓ (.lst (acc ++ [y]))) else .stuck
            | _ => .stuck
        else lcN bind test elt src ℓ δ f (i + 1) μ2
/-- with two fors: the inner walk -/
def lc2I (bind : D → Dl → Option Dl) (elt : Dl → Mu → Res D) (src : Src) (ℓ : Nat) (δ : Dl) : Nat → Nat → Mu → Res Unit
  | 0, _, _ => .stuck
  | f + 1, i, μ => match src.at_ i μ with
    | none => .stuck
    | some none => .ok () μ
    | some (some d) => match bind d δ with
      | none => .stuck
      | some δ1 => (elt δ1 μ).noexc.bind fun y μ3 => match μ3[ℓ]? with
        | some (.lst acc) => if acc.length < sizeLine then lc2I bind elt src ℓ δ f (i + 1) (μ3.set ℓ (.lst (acc ++ [y]))) else .stuck
        | _ => .stuck
def lc2N (bind : D → Dl → Option Dl) (inner : Dl → Mu → Res Unit) (src : Src) (ℓ : Nat) (δ : Dl) : Nat → Nat → Mu → Res D
  | 0, _, _ => .stuck
  | f + 1, i, μ => match src.at_ i μ with
    | none => .stuck
    | some none => .ok (.loc ℓ) μ
    | some (some d) => match bind d δ with
      | none => .stuck
      | some δ1 => (inner δ1 μ).noexc.bind fun _ μ2 => lc2N bind inner src ℓ δ f (i + 1) μ2
def forN (bind : D → Dl → Option Dl) (body : Dl → Mu → RS) (src : Src) : Nat → Nat → Dl → Mu → RS
  | 0, _, _, _ => .stuck
  | f + 1, i, δ, μ => match src.at_ i μ with
    | none => .stuck
    | some none => .nx δ μ
    | some (some d) => match bind d δ with
      | none => .stuck
      | some δ1 => match body δ1 μ with
        | .nx δ2 μ2 => forN bind body src f (i + 1) δ2 μ2
        | .cont δ2 μ2 => forN bind body src f (i + 1) δ2 μ2
        | .brk δ2 μ2 => .nx δ2 μ2
        | r => r
def whileN (test : Dl → Mu → Res Bool) (body : Dl → Mu → RS) : Nat → Dl → Mu → RS
  | 0, _, _ => .stuck
  | f + 1, δ, μ => RS.of δ (test δ μ) fun b μ1 => if b = true then (match body δ μ1 with
      | .nx δ2 μ2 => whileN test body f δ2 μ2
      | .cont δ2 μ2 => whileN test body f δ2 μ2
      | .brk δ2 μ2 => .nx δ2 μ2
      | r => r) else .nx δ μ1

/-- the defs, the turns that a loop may take -/
structure Om where
  Φ : Nat → List D → Mu → Res D
  fu : Nat
def dispD (kvs : List (D × D)) (ℓ : Nat) (μ : Mu) : Res D := match μ[ℓ]? with
  | some (.dic []) => if (kvs.all fun kv => (keyD kv.1).isSome) = true ∧ kvs.length ≤ 15 then .ok (.loc ℓ) (μ.set ℓ (.dic (mergeD [] kvs))) else .stuck
  | _ => .stuck
mutual
def ev (Ω : Om) : E → Dl → Mu → Res D
  | .v i, δ, μ => match δ[i]? with
    | some (some d) => .ok d μ
    | _ => .stuck
  | .c d, δ, μ => .ok d μ
  | .tup es, δ, μ => (evs Ω es δ μ).bind fun ds μ1 => if ds.length ≤ sizeLine then .ok (.tup ds) μ1 else .stuck
  | .lst es, δ, μ => (evs Ω es δ μ).bind fun ds μ1 => if ds.length ≤ sizeLine then newl μ1 ds else .stuck
  | .bin o a b, δ, μ => (ev Ω a δ μ).bind fun x μ1 => (ev Ω b δ μ1).bind fun y μ2 => binD o x y μ2
  | .neg a, δ, μ => (ev Ω a δ μ).bind fun x μ1 => negD x μ1
  | .cmp o a b, δ, μ => (ev Ω a δ μ).bind fun x μ1 => (ev Ω b δ μ1).bind fun y μ2 => cmpD o x y μ2
  | .chn o p a b c, δ, μ => (ev Ω a δ μ).bind fun x μ1 => (ev Ω b δ μ1).bind fun y μ2 => (cmpD o x y μ2).bind fun z μ3 => match z with
    | .bl true => (ev Ω c δ μ3).bind fun w μ4 => cmpD p y w μ4
    | .bl false => .ok (.bl false) μ3
    | _ => .stuck
  | .and a b, δ, μ => (ev Ω a δ μ).bind fun x μ1 => match x with
    | .bl true => ev Ω b δ μ1
    | .bl false => .ok (.bl false) μ1
    | _ => .stuck
  | .or a b, δ, μ => (ev Ω a δ μ).bind fun x μ1 => match x with
    | .bl true => .ok (.bl true) μ1
    | .bl false => ev Ω b δ μ1
    | _ => .stuck
  | .not a, δ, μ => (ev Ω a δ μ).bind fun x μ1 => match x with
    | .bl b => .ok (.bl (!b)) μ1
    | _ => .stuck
  | .ite t a b, δ, μ => (tv Ω t δ μ).bind fun c μ1 => if c = true then ev Ω a δ μ1 else ev Ω b δ μ1
  | .ix a i, δ, μ => (ev Ω a δ μ).bind fun x μ1 => (ev Ω i δ μ1).bind fun y μ2 => ixD x y μ2
  | .sl a lo hi, δ, μ => (ev Ω a δ μ).bind fun x μ1 => (evo Ω lo δ μ1).bind fun l μ2 => (evo Ω hi δ μ2).bind fun h μ3 => slD x l h μ3
  | .call f es, δ, μ => (evs Ω es δ μ).bind fun ds μ1 => Ω.Φ f ds μ1
  | .blt b es, δ, μ => (evs Ω es δ μ).bind fun ds μ1 => bltD b ds μ1
  | .mth m a es, δ, μ => (ev Ω a δ μ).bind fun x μ1 => if mkD m x μ1 = true then (evs Ω es δ μ1).bind fun ds μ2 => mthD m x ds μ2 else .stuck
  | .lc own t it fs e, δ, μ => (evi Ω it δ μ).bind fun src μ1 =>
    lcN (bindG t) (tvo Ω fs) (ev Ω e) src μ1.length (wipeD δ own) Ω.fu 0 (μ1 ++ [.lst []])
  | .lc2 own t it own2 t2 it2 e, δ, μ => (evi Ω it δ μ).bind fun src μ1 =>
    lc2N (bindG t) (fun δ1 μ2 => (evi Ω it2 δ1 μ2).noexc.bind fun s2 μ3 => lc2I (bindG t2) (ev Ω e) s2 μ1.length (wipeD δ1 own2) Ω.fu 0 μ3) src μ1.length (wipeD δ own) Ω.fu 0 (μ1 ++ [.lst []])
  | .dic ps, δ, μ => (evp Ω ps δ (μ ++ [.dic []])).bind fun kvs μ1 => dispD kvs μ.length μ1
def evs (Ω : Om) : Es → Dl → Mu → Res (List D)
  | .nil, δ, μ => .ok [] μ
  | .cons e r, δ, μ => (ev Ω e δ μ).bind fun d μ1 => (evs Ω r δ μ1).bind fun ds μ2 => .ok (d :: ds) μ2
def evo (Ω : Om) : Eo → Dl → Mu → Res (Option Int)
  | .none, δ, μ => .ok none μ
  | .some e, δ, μ => (ev Ω e δ μ).bind fun d μ1 => match d with
    | .int i => .ok (some i) μ1
    | _ => .stuck
def tvo (Ω : Om) : Eo → Dl → Mu → Res Bool
  | .none, δ, μ => .ok true μ
  | .some e, δ, μ => tv Ω e δ μ
def evi (Ω : Om) : It' → Dl → Mu → Res Src
  | .val e, δ, μ => (ev Ω e δ μ).bind fun d μ1 => match d with
    | .tup ds => .ok (.items ds) μ1
    | .loc n => (match lstAt μ1 n with
      | some _ => .ok (.live n) μ1
      | none => .stuck)
    | _ => .stuck
  | .rng1 a, δ, μ => (ev Ω a δ μ).bind fun d μ1 => match d with
    | .int n => if -(2 ^ 62) ≤ n ∧ n < 2 ^ 62 then .ok (.rng 0 n.toNat) μ1 else .stuck
    | _ => .stuck
  | .rng2 a b, δ, μ => (ev Ω a δ μ).bind fun d μ1 => (ev Ω b δ μ1).bind fun d2 μ2 => match d, d2 with
    | .int i, .int j => if -(2 ^ 62) ≤ i ∧ i < 2 ^ 62 ∧ -(2 ^ 62) ≤ j ∧ j < 2 ^ 62 then .ok (.rng i (j - i).toNat) μ2 else .stuck
    | _, _ => .stuck
def evp (Ω : Om) : Ep → Dl → Mu → Res (List (D × D))
  | .cons k v r, δ, μ => (ev Ω k δ μ).bind fun x μ1 => (ev Ω v δ μ1).bind fun y μ2 => (evp Ω r δ μ2).bind fun ps μ3 => .ok ((x, y) :: ps) μ3
  | .nil, δ, μ => .ok [] μ
/-- as a test -/
def tv (Ω : Om) : E → Dl → Mu → Res Bool
  | .and a b, δ, μ => (tv Ω a δ μ).bind fun c μ1 => if c = true then tv Ω b δ μ1 else .ok false μ1
  | .or a b, δ, μ => (tv Ω a δ μ).bind fun c μ1 => if c = true then .ok true μ1 else tv Ω b δ μ1
  | .not a, δ, μ => (tv Ω a δ μ).bind fun c μ1 => .ok (!c) μ1
  | .cmp o a b, δ, μ => (ev Ω a δ μ).bind fun x μ1 => (ev Ω b δ μ1).bind fun y μ2 => (cmpD o x y μ2).bind fun z μ3 => match z with
    | .bl c => .ok c μ3
    | _ => .stuck
  | .chn o p a b c, δ, μ => (ev Ω a δ μ).bind fun x μ1 => (ev Ω b δ μ1).bind fun y μ2 => (cmpD o x y μ2).bind fun z μ3 => match z with
    | .bl true => (ev Ω c δ μ3).bind fun w μ4 => (cmpD p y w μ4).bind fun z2 μ5 => (match z2 with
      | .bl d => .ok d μ5
      | _ => .stuck)
    | .bl false => .ok false μ3
    | _ => .stuck
  | .v i, δ, μ => match δ[i]? with
    | some (some d) => truD d μ
    | _ => .stuck
  | .c d, δ, μ => truD d μ
  | .ix a i, δ, μ => ((ev Ω a δ μ).bind fun x μ1 => (ev Ω i δ μ1).bind fun y μ2 => ixD x y μ2).bind fun x μ1 => truD x μ1
  | .call f es, δ, μ => ((evs Ω es δ μ).bind fun ds μ1 => Ω.Φ f ds μ1).bind fun x μ1 => truD x μ1
  | .blt b es, δ, μ => ((evs Ω es δ μ).bind fun ds μ1 => bltD b ds μ1).bind fun x μ1 => truD x μ1
  | .mth m a es, δ, μ => ((ev Ω a δ μ).bind fun x μ1 => if mkD m x μ1 = true then (evs Ω es δ μ1).bind fun ds μ2 => mthD m x ds μ2 else .stuck).bind fun x μ1 => truD x μ1
  | _, _, _ => .stuck
end
mutual
def evS (Ω : Om) : S → Dl → Mu → RS
  | .asg t e, δ, μ => RS.of δ (ev Ω e δ μ) fun d μ1 => match bindG t d δ with
    | some δ1 => .nx δ1 μ1
    | none => .stuck
  | .setix o i e, δ, μ => RS.of δ ((ev Ω e δ μ).bind fun d μ1 => (ev Ω o δ μ1).bind fun x μ2 => (ev Ω i δ μ2).bind fun k μ3 => setixD x k d μ3) fun _ μ1 => .nx δ μ1
  | .aug i o e, δ, μ => match δ[i]? with
    | some (some x) => RS.of δ ((ev Ω e δ μ).bind fun y μ1 => augD o x y μ1) fun z μ1 => .nx (δ.set i (some z)) μ1
    | _ => .stuck
  | .expr e, δ, μ => RS.of δ (ev Ω e δ μ) fun _ μ1 => .nx δ μ1
  | .ret e, δ, μ => RS.of δ (ev Ω e δ μ) fun d μ1 => .ret d μ1
  | .retn, δ, μ => .ret .non μ
  | .ifs t a b, δ, μ => RS.of δ (tv Ω t δ μ) fun c μ1 => if c = true then evSs Ω a δ μ1 else evSs Ω b δ μ1
  | .for_ t it b, δ, μ => RS.of δ (evi Ω it δ μ) fun src μ1 => forN (bindG t) (evSs Ω b) src Ω.fu 0 δ μ1
  | .while_ t b, δ, μ => whileN (tv Ω t) (evSs Ω b) Ω.fu δ μ
  | .pass, δ, μ => .nx δ μ
  | .brk, δ, μ => .brk δ μ
  | .cont, δ, μ => .cont δ μ
def evSs (Ω : Om) : Ss → Dl → Mu → RS
  | .nil, δ, μ => .nx δ μ
  | .cons s r, δ, μ => (evS Ω s δ μ).seq (evSs Ω r)
end
def RS.res : RS → Res D
  | .nx _ μ => .ok .non μ
  | .ret d μ => .ok d μ
  | .exc c fs _ μ => .exc c fs μ
  | _ => .stuck
/-- a def's body at its arguments: N names -/
def runB (Ω : Om) (N : Nat) (b : Ss) (ds : List D) (μ : Mu) : Res D := (evSs Ω b (ds.map some ++ List.replicate (N - ds.length) none) μ).res
end Tk

namespace Tk
open PySem PySem.Spec PyProof.Rows L2

section
variable {κ : Kx} {α β γ δ' : Type} {Ra : List Addr → Hp → α → β → Prop} {W : WX} {σ : L2.St} {ρ ρ' : List Addr} {H H' : Hp} {μ : Mu}
theorem rep_non {v} : Rep κ ρ H .non v ↔ v = .non := by unfold Rep; exact Iff.rfl
theorem rep_bl {b v} : Rep κ ρ H (.bl b) v ↔ v = .bl b := by unfold Rep; exact Iff.rfl
theorem rep_int {i v} : Rep κ ρ H (.int i) v ↔ v = .int i := by unfold Rep; exact Iff.rfl
theorem rep_str {i v} : Rep κ ρ H (.str i) v ↔ v = .str i := by unfold Rep; exact Iff.rfl
theorem rep_ty {i v} : Rep κ ρ H (.ty i) v ↔ v = .ty i := by unfold Rep; exact Iff.rfl
theorem rep_loc {i v} : Rep κ ρ H (.loc i) v ↔ ∃ a, ρ[i]? = some a ∧ v = .ref a := by unfold Rep; exact Iff.rfl
theorem rep_tup {ds v} : Rep κ ρ H (.tup ds) v ↔ ∃ a xs, v = .ref a ∧ SqT κ.K H a xs ∧ Reps κ ρ H ds xs := by
  constructor
  · intro h; unfold Rep at h; exact h
  · intro h; unfold Rep; exact h
/-- a value is there -/
theorem Post.ok {d : α} {v : β} {Q : β → Hp → Prop} (h : Post κ Ra W σ ρ H (.ok d μ) Q) (r : Rel κ ρ H μ) (a : Ra ρ H d v) : Q v H := h ρ H v .refl r a
/-- a new list -/
theorem Post.newl {ds : List D} {vs : List V} {Q : V → Hp → Prop} (h : Post κ (Rep κ) W σ ρ H (Tk.newl μ ds) Q) (r : Rel κ ρ H μ) (a : Reps κ ρ H ds vs) {p : Addr} (hp : H p = none) : Q (.ref p) (upd H p (.lst vs)) := by
  refine h (ρ ++ [p]) _ _ (.new hp) (r.alloc hp ⟨vs, upd_same, a.ext (.new hp)⟩) (rep_loc.mpr ⟨p, ?_, rfl⟩)
  rw [List.getElem?_append_right (by rw [r.len]; exact Nat.le_refl _), r.len, Nat.sub_self]
  rfl
theorem Post.newt {ds : List D} {vs : List V} {Q : V → Hp → Prop} (h : Post κ (Rep κ) W σ ρ H (.ok (.tup ds) μ) Q) (r : Rel κ ρ H μ) (a : Reps κ ρ H ds vs) {p : Addr} (hp : H p = none) : Q (.ref p) (upd H p (.tup vs)) :=
  h ρ _ _ (.newt hp) (r.newt hp) (rep_tup.mpr ⟨p, vs, rfl, SqT.of upd_same, a.ext (.newt hp)⟩)
theorem Rel.sql (r : Rel κ ρ H μ) {n : Nat} {a : Addr} {ds : List D} (h : lstAt μ n = some ds) (ha : ρ[n]? = some a) : ∃ vs, SqL κ.K H a vs ∧ Reps κ ρ H ds vs := by
  obtain ⟨o, h1, h2⟩ := r.at ha
  unfold lstAt at h
  rw [h1] at h
  cases o with
  | lst xs =>
    cases h
    obtain ⟨vs, h3, h4⟩ := h2
    exact ⟨vs, SqL.of h3, h4⟩
  | fl xs =>
    cases h
    obtain ⟨o, vs, h3, h4⟩ := h2
    exact ⟨vs, .inl (.inr ⟨o, h3⟩), h4⟩
  | dic _ => cases h
  | dit _ => cases h
  | ins _ _ => cases h
theorem Rel.lst (r : Rel κ ρ H μ) {n : Nat} {a : Addr} {ds : List D} (h : μ[n]? = some (.lst ds)) (ha : ρ[n]? = some a) : ∃ vs, H a = some (.lst vs) ∧ Reps κ ρ H ds vs := by
  obtain ⟨o, h1, h2⟩ := r.at ha
  rw [h1] at h
  cases h
  exact h2
theorem Rel.wlst (r : Rel κ ρ H μ) {n : Nat} {a : Addr} {vs ws : List V} {es : List D} (ha : ρ[n]? = some a) (h : H a = some (.lst vs)) (hs : Reps κ ρ H es ws) : Rel κ ρ (upd H a (.lst ws)) (μ.set n (.lst es)) ∧ Ext ρ H ρ (upd H a (.lst ws)) :=
  ⟨r.write ha (not_tup_lst h) ⟨ws, upd_same, hs.ext (.write (not_tup_lst h))⟩, .write (not_tup_lst h)⟩
end

/-! ### operations -/
def OpJ (κ : Kx) (X : Cx) (f : Value → Value → Sem Value) (g : D → D → Mu → Res D) : Prop :=
  OpR X f (fun x y H Q => ∃ ρ μ dx dy W σ, Rel κ ρ H μ ∧ Rep κ ρ H dx x ∧ Rep κ ρ H dy y ∧ Post κ (Rep κ) W σ ρ H (g dx dy μ) Q)
section
variable {κ : Kx} {X : Cx} (hK : X.K = κ.K)
include hK
theorem oj_add : OpJ κ X (binaryOp .Add) addD := by
  intro pins s σ H x y v u Q I rx ry h
  obtain ⟨ρ, μ, dx, dy, W, σ', r, hx, hy, p⟩ := h
  unfold addD at p
  split at p
  · obtain rfl := rep_int.mp hx; obtain rfl := rep_int.mp hy
    exact op_add pins s σ H _ _ v u Q I rx ry ⟨_, _, rfl, rfl, p.ok r (rep_int.mpr rfl)⟩
  · obtain rfl := rep_str.mp hx; obtain rfl := rep_str.mp hy
    split at p
    · exact op_add_str pins s σ H _ _ v u Q I rx ry ⟨_, _, rfl, rfl, by assumption, p.ok r (rep_str.mpr rfl)⟩
    · exact p.elim
  · obtain ⟨a, xs, rfl, h1, h2⟩ := rep_tup.mp hx; obtain ⟨b, ys, rfl, h3, h4⟩ := rep_tup.mp hy
    split at p
    · rename_i hl
      rw [h2.len, h4.len] at hl
      refine op_catA pins s σ H _ _ v u Q I rx ry ⟨a, b, xs, ys, rfl, rfl, hK ▸ h1, hK ▸ h3, hl, fun e => ?_, fun _ e => ?_, fun _ _ q hq => p.newt r (h2.append h4) hq⟩
      · subst e
        refine p.ok r (rep_tup.mpr ⟨b, ys, rfl, h3, ?_⟩)
        have := h2.append h4
        rwa [List.nil_append] at this
      · subst e
        refine p.ok r (rep_tup.mpr ⟨a, xs, rfl, h1, ?_⟩)
        have := h2.append h4
        rwa [List.append_nil] at this
    · exact p.elim
  · obtain ⟨a, e1, rfl⟩ := rep_loc.mp hx; obtain ⟨b, e2, rfl⟩ := rep_loc.mp hy
    split at p
    · rename_i da db m1 m2
      obtain ⟨xs, h1, h2⟩ := r.lst m1 e1
      obtain ⟨ys, h3, h4⟩ := r.lst m2 e2
      split at p
      · rename_i hl
        rw [h2.len, h4.len] at hl
        exact op_cat pins s σ H _ _ v u Q I rx ry ⟨a, b, xs, ys, rfl, rfl, h1, h3, hl, fun q hq => p.newl r (h2.append h4) hq⟩
      · exact p.elim
    · exact p.elim
  · exact p.elim
omit hK in
theorem oj_sub : OpJ κ X (binaryOp .Sub) subD := by
  intro pins s σ H x y v u Q I rx ry h
  obtain ⟨ρ, μ, dx, dy, W, σ', r, hx, hy, p⟩ := h
  unfold subD at p
  split at p
  · obtain rfl := rep_int.mp hx; obtain rfl := rep_int.mp hy
    exact op_sub pins s σ H _ _ v u Q I rx ry ⟨_, _, rfl, rfl, p.ok r (rep_int.mpr rfl)⟩
  · exact p.elim
omit hK in
theorem cmul_ok {i j : Int} (h : cmulB i j = true) : CMul i j := by
  unfold cmulB at h
  simp only [Bool.or_eq_true, Bool.and_eq_true, decide_eq_true_eq] at h
  exact h
omit hK in
theorem Reps.rep {ρ H} : ∀ {ds : List D} {vs : List V} (k : Nat), Reps κ ρ H ds vs → Reps κ ρ H (List.replicate k ds).flatten (List.replicate k vs).flatten
  | _, _, 0, _ => .nil
  | ds, vs, k + 1, h => by
    rw [List.replicate_succ, List.replicate_succ, List.flatten_cons, List.flatten_cons]
    exact h.append (Reps.rep k h)
omit hK in
theorem oj_mul : OpJ κ X (binaryOp .Mult) mulD := by
  intro pins s σ H x y v u Q I rx ry h
  obtain ⟨ρ, μ, dx, dy, W, σ', r, hx, hy, p⟩ := h
  unfold mulD at p
  split at p
  · obtain rfl := rep_int.mp hx; obtain rfl := rep_int.mp hy
    split at p
    · rename_i hc
      exact op_mul pins s σ H _ _ v u Q I rx ry ⟨_, _, rfl, rfl, cmul_ok hc, p.ok r (rep_int.mpr rfl)⟩
    · exact p.elim
  · obtain ⟨a, e1, rfl⟩ := rep_loc.mp hx; obtain rfl := rep_int.mp hy
    split at p
    · rename_i da m1
      obtain ⟨xs, h1, h2⟩ := r.lst m1 e1
      split at p
      · rename_i hl
        rw [h2.len] at hl
        exact op_rep pins s σ H _ _ v u Q I rx ry ⟨a, _, xs, rfl, rfl, h1, hl.1, hl.2.1, hl.2.2, fun q hq => p.newl r (h2.rep _) hq⟩
      · exact p.elim
    · exact p.elim
  · exact p.elim
omit hK in
theorem oj_div : OpJ κ X (binaryOp .FloorDiv) divD := by
  intro pins s σ H x y v u Q I rx ry h
  obtain ⟨ρ, μ, dx, dy, W, σ', r, hx, hy, p⟩ := h
  unfold divD at p
  split at p
  · obtain rfl := rep_int.mp hx; obtain rfl := rep_int.mp hy
    split at p
    · rename_i hc
      exact op_fdiv pins s σ H _ _ v u Q I rx ry ⟨_, _, rfl, rfl, hc, p.ok r (rep_int.mpr rfl)⟩
    · exact p.elim
  · exact p.elim
omit hK in
theorem oj_mod : OpJ κ X (binaryOp .Mod) modD := by
  intro pins s σ H x y v u Q I rx ry h
  obtain ⟨ρ, μ, dx, dy, W, σ', r, hx, hy, p⟩ := h
  unfold modD at p
  split at p
  · obtain rfl := rep_int.mp hx; obtain rfl := rep_int.mp hy
    split at p
    · rename_i hc
      exact op_mod pins s σ H _ _ v u Q I rx ry ⟨_, _, rfl, rfl, hc, p.ok r (rep_int.mpr rfl)⟩
    · exact p.elim
  · exact p.elim
omit hK in
theorem oj_pow : OpJ κ X (binaryOp .Pow) powD := by
  intro pins s σ H x y v u Q I rx ry h
  obtain ⟨ρ, μ, dx, dy, W, σ', r, hx, hy, p⟩ := h
  unfold powD at p
  split at p
  · obtain rfl := rep_int.mp hx; obtain rfl := rep_int.mp hy
    split at p
    · rename_i hc
      exact op_pow pins s σ H _ _ v u Q I rx ry ⟨_, _, rfl, rfl, hc, p.ok r (rep_int.mpr rfl)⟩
    · exact p.elim
  · exact p.elim
omit hK in
theorem oj_none {o : Operator} : OpJ κ X (binaryOp o) (fun _ _ _ => .stuck) := by
  intro pins s σ H x y v u Q I rx ry h
  obtain ⟨ρ, μ, dx, dy, W, σ', r, hx, hy, p⟩ := h
  exact p.elim
theorem oj_bin (o : Operator) : OpJ κ X (binaryOp o) (binD o) := by
  cases o with
  | Add => exact oj_add hK
  | Sub => exact oj_sub
  | Mult => exact oj_mul
  | FloorDiv => exact oj_div
  | Mod => exact oj_mod
  | Pow => exact oj_pow
  | _ => exact oj_none
omit hK in
theorem ij_aug (o : Operator) : OpJ κ X (inplaceOp o) (augD o) := by
  intro pins s σ H x y v u Q I rx ry h
  obtain ⟨ρ, μ, dx, dy, W, σ', r, hx, hy, p⟩ := h
  unfold augD at p
  split at p
  · obtain rfl := rep_int.mp hx; obtain rfl := rep_int.mp hy
    exact iop_add pins s σ H _ _ v u Q I rx ry ⟨_, _, rfl, rfl, p.ok r (rep_int.mpr rfl)⟩
  · obtain rfl := rep_int.mp hx; obtain rfl := rep_int.mp hy
    exact iop_sub pins s σ H _ _ v u Q I rx ry ⟨_, _, rfl, rfl, p.ok r (rep_int.mpr rfl)⟩
  · exact p.elim
end

/-! ### equality, membership -/
section
variable {κ : Kx} {ρ : List Addr} {H : Hp} {μ : Mu}
theorem dps_of {f : D → Option PyData} (hf : ∀ d v p, f d = some p → Rep κ ρ H d v → Dp κ.K H v p) : ∀ (ds : List D) (vs : List V) (ps : List PyData), allS (ds.map f) = some ps → Reps κ ρ H ds vs → DpAll κ.K H vs ps
  | [], vs, ps, h, r => by
    cases h
    unfold Reps at r
    subst r
    exact .nil
  | d :: ds, vs, ps, h, r => by
    rw [List.map_cons] at h
    unfold Reps at r
    obtain ⟨v, w, rfl, h4, h5⟩ := r
    cases h1 : f d with
    | none => rw [h1] at h; cases h
    | some p =>
      rw [h1] at h
      obtain ⟨qs, h3, rfl⟩ := Option.map_eq_some_iff.mp (show (allS (ds.map f)).map (p :: ·) = some ps from h)
      exact .cons (hf d v p h1 h4) (dps_of hf ds w qs h3 h5)
theorem allS_mem {α β : Type} {f : α → Option β} : ∀ (ds : List α) (ps : List β), allS (ds.map f) = some ps → ∀ p ∈ ps, ∃ d ∈ ds, f d = some p
  | [], ps, h, p, hp => by cases h; cases hp
  | d :: ds, ps, h, p, hp => by
    rw [List.map_cons] at h
    cases h1 : f d with
    | none => rw [h1] at h; cases h
    | some q =>
      rw [h1] at h
      obtain ⟨qs, h3, rfl⟩ := Option.map_eq_some_iff.mp (show (allS (ds.map f)).map (q :: ·) = some ps from h)
      rcases List.mem_cons.mp hp with rfl | hp
      · exact ⟨d, List.mem_cons_self, h1⟩
      · obtain ⟨e, he, h4⟩ := allS_mem ds qs h3 p hp
        exact ⟨e, List.mem_cons_of_mem _ he, h4⟩
theorem pyD_ok (r : Rel κ ρ H μ) : ∀ (k : Nat) (d : D) (v : V) (p : PyData), pyD μ k d = some p → Rep κ ρ H d v → Dp κ.K H v p
  | 0, d, v, p, h, _ => by unfold pyD at h; cases h
  | k + 1, d, v, p, h, rp => by
    unfold pyD at h
    cases d with
    | non => cases h; rw [rep_non.mp rp]; exact .non
    | bl b => cases h; rw [rep_bl.mp rp]; exact .bl b
    | int b => cases h; rw [rep_int.mp rp]; exact .int b
    | str b => cases h; rw [rep_str.mp rp]; exact .str b
    | ty b => cases h
    | loc n =>
      obtain ⟨a, h0, rfl⟩ := rep_loc.mp rp
      obtain ⟨xs, h1, h2⟩ := Option.bind_eq_some_iff.mp h
      obtain ⟨qs, h3, rfl⟩ := Option.map_eq_some_iff.mp h2
      obtain ⟨vs, h4, h5⟩ := r.sql h1 h0
      exact .lst h4 (dps_of (pyD_ok r k) xs vs qs h3 h5)
    | tup ds =>
      obtain ⟨ps, h1, rfl⟩ := Option.map_eq_some_iff.mp h
      obtain ⟨a, xs, rfl, h2, h3⟩ := rep_tup.mp rp
      exact .tup h2 (dps_of (pyD_ok r k) ds xs ps h1 h3)
theorem depthAll_le {k : Nat} : ∀ (ps : List PyData), (∀ p ∈ ps, p.depth ≤ k ∧ p.plain = true) → PyData.depthAll ps ≤ k ∧ PyData.plainAll ps = true
  | [], _ => ⟨Nat.zero_le _, rfl⟩
  | p :: ps, h => by
    obtain ⟨h1, h2⟩ := h p List.mem_cons_self
    obtain ⟨h3, h4⟩ := depthAll_le ps fun q hq => h q (List.mem_cons_of_mem _ hq)
    unfold PyData.depthAll PyData.plainAll
    exact ⟨Nat.max_le.mpr ⟨h1, h3⟩, by rw [h2, h4]; rfl⟩
theorem pyD_plain : ∀ (k : Nat) (d : D) (p : PyData), pyD μ k d = some p → p.depth ≤ k ∧ p.plain = true
  | 0, d, p, h => by unfold pyD at h; cases h
  | k + 1, d, p, h => by
    unfold pyD at h
    cases d with
    | non => cases h; exact ⟨Nat.zero_le _, rfl⟩
    | bl b => cases h; exact ⟨Nat.zero_le _, rfl⟩
    | int b => cases h; exact ⟨Nat.zero_le _, rfl⟩
    | str b => cases h; exact ⟨Nat.zero_le _, rfl⟩
    | ty b => cases h
    | loc n =>
      obtain ⟨xs, h1, h2⟩ := Option.bind_eq_some_iff.mp h
      obtain ⟨qs, h3, rfl⟩ := Option.map_eq_some_iff.mp h2
      obtain ⟨g1, g2⟩ := depthAll_le qs fun q hq => by
        obtain ⟨e, _, h4⟩ := allS_mem xs qs h3 q hq
        exact pyD_plain k e q h4
      unfold PyData.depth PyData.plain
      exact ⟨Nat.succ_le_succ g1, g2⟩
    | tup ds =>
      obtain ⟨qs, h3, rfl⟩ := Option.map_eq_some_iff.mp h
      obtain ⟨g1, g2⟩ := depthAll_le qs fun q hq => by
        obtain ⟨e, _, h4⟩ := allS_mem ds qs h3 q hq
        exact pyD_plain k e q h4
      unfold PyData.depth PyData.plain
      exact ⟨Nat.succ_le_succ g1, g2⟩
def toV : D → V
  | .bl b => .bl b
  | .int i => .int i
  | .str x => .str x
  | _ => .non
theorem rep_flat {d : D} {v : V} (f : flatD d = true) (r : Rep κ ρ H d v) : v = toV d ∧ flatV v = true := by
  cases d with
  | non => rw [rep_non.mp r]; exact ⟨rfl, rfl⟩
  | bl b => rw [rep_bl.mp r]; exact ⟨rfl, rfl⟩
  | int b => rw [rep_int.mp r]; exact ⟨rfl, rfl⟩
  | str b => rw [rep_str.mp r]; exact ⟨rfl, rfl⟩
  | _ => cases f
theorem eqV_toV {x y : D} (fx : flatD x = true) (fy : flatD y = true) : eqV (toV x) (toV y) = eqF x y := by
  cases x <;> cases y <;> first | rfl | (cases fx; done) | (cases fy; done)
theorem inV_of {x : D} {v : V} (fx : flatD x = true) (rx : Rep κ ρ H x v) : ∀ {ds : List D} {vs : List V}, ds.all flatD = true → Reps κ ρ H ds vs → vs.all flatV = true ∧ inV v vs = inF x ds
  | [], vs, _, r => by
    unfold Reps at r
    subst r
    exact ⟨rfl, rfl⟩
  | d :: ds, vs, f, r => by
    unfold Reps at r
    obtain ⟨u, w, rfl, h4, h5⟩ := r
    obtain ⟨f1, f2⟩ := Bool.and_eq_true_iff.mp (show (flatD d && ds.all flatD) = true from f)
    obtain ⟨g1, g2⟩ := inV_of fx rx f2 h5
    obtain ⟨e1, e2⟩ := rep_flat f1 h4
    obtain ⟨e3, e4⟩ := rep_flat fx rx
    refine ⟨by rw [List.all_cons, e2, g1]; rfl, ?_⟩
    show (eqV u v || inV v w) = (eqF d x || inF x ds)
    rw [g2, e1, e3, eqV_toV f1 fx]
end
section
variable {κ : Kx} {X : Cx} (hK : X.K = κ.K) (hu : X.A.units + 64 < cLine)
include hK hu
theorem oj_cmp (o : CmpOp) : OpJ κ X (compareOp o) (cmpD o) := by
  intro pins s σ H x y v u Q I rx ry h
  obtain ⟨ρ, μ, dx, dy, W, σ', r, hx, hy, p⟩ := h
  have eqs : ∀ b, eqD μ dx dy = some b → ∃ d e, Dp X.K H x d ∧ Dp X.K H y e ∧ d.plain = true ∧ e.plain = true ∧ d.depth ≤ 64 ∧ PyData.eqv d e = b := fun b hb => by
    unfold eqD at hb
    obtain ⟨d, h1, h2⟩ := Option.bind_eq_some_iff.mp hb
    obtain ⟨e, h3, h4⟩ := Option.bind_eq_some_iff.mp h2
    cases h4
    rw [hK]
    obtain ⟨p1, p2⟩ := pyD_plain 40 dx d h1
    exact ⟨d, e, pyD_ok r 40 dx x d h1 hx, pyD_ok r 40 dy y e h3 hy, p2, (pyD_plain 40 dy e h3).2, by omega, rfl⟩
  have ins : ∀ b, inD μ dx dy = some b → ((∃ i j, x = .str i ∧ y = .str j ∧ b = (!(Builtin.Str.occurrences j i 0 j.length 1).isEmpty)) ∨
      ∃ q xs, y = .ref q ∧ (SqL X.K H q xs ∨ SqT X.K H q xs) ∧ flatV x = true ∧ xs.all flatV = true ∧ inV x xs = b) := fun b hb => by
    unfold inD at hb
    split at hb
    · split at hb
      · cases hb
        exact .inl ⟨_, _, rep_str.mp hx, rep_str.mp hy, rfl⟩
      · cases hb
    · obtain ⟨ys, h1, h2⟩ := Option.bind_eq_some_iff.mp hb
      split at h2
      · rename_i hf
        cases h2
        obtain ⟨f1, f2⟩ := hf
        have e4 := (rep_flat f1 hx).2
        unfold seqD at h1
        split at h1
        · cases h1
          obtain ⟨a, xs, rfl, g1, g2⟩ := rep_tup.mp hy
          obtain ⟨g3, g4⟩ := inV_of f1 hx f2 g2
          exact .inr ⟨a, xs, rfl, .inr (hK ▸ g1), e4, g3, g4⟩
        · obtain ⟨a, g0, rfl⟩ := rep_loc.mp hy
          obtain ⟨xs, g1, g2⟩ := r.sql h1 g0
          obtain ⟨g3, g4⟩ := inV_of f1 hx f2 g2
          exact .inr ⟨a, xs, rfl, .inl (hK ▸ g1), e4, g3, g4⟩
        · cases h1
      · cases h2
  unfold cmpD at p
  split at p
  · split at p
    · rename_i b hb
      obtain ⟨d, e, h1, h2, h3, h4, h5, rfl⟩ := eqs b hb
      obtain ⟨as, r1⟩ := Dp.reads I d x v h1 rx
      obtain ⟨bs, r2⟩ := Dp.reads I e y u h2 ry
      exact SeqAt.eq_plain r1 r2 h3 h4 (by omega) ⟨.bl _, H, I, rfl, p.ok r (rep_bl.mpr rfl)⟩
    · exact p.elim
  · split at p
    · rename_i b hb
      obtain ⟨d, e, h1, h2, h3, h4, h5, rfl⟩ := eqs b hb
      obtain ⟨as, r1⟩ := Dp.reads I d x v h1 rx
      obtain ⟨bs, r2⟩ := Dp.reads I e y u h2 ry
      exact SeqAt.ne_plain r1 r2 h3 h4 (by omega) ⟨.bl _, H, I, rfl, p.ok r (rep_bl.mpr rfl)⟩
    · exact p.elim
  · obtain rfl := rep_int.mp hx; obtain rfl := rep_int.mp hy
    exact op_lt pins s σ H _ _ v u Q I rx ry ⟨_, _, rfl, rfl, p.ok r (rep_bl.mpr rfl)⟩
  · obtain rfl := rep_int.mp hx; obtain rfl := rep_int.mp hy
    exact op_le pins s σ H _ _ v u Q I rx ry ⟨_, _, rfl, rfl, p.ok r (rep_bl.mpr rfl)⟩
  · obtain rfl := rep_int.mp hx; obtain rfl := rep_int.mp hy
    exact op_gt pins s σ H _ _ v u Q I rx ry ⟨_, _, rfl, rfl, p.ok r (rep_bl.mpr rfl)⟩
  · obtain rfl := rep_int.mp hx; obtain rfl := rep_int.mp hy
    exact op_ge pins s σ H _ _ v u Q I rx ry ⟨_, _, rfl, rfl, p.ok r (rep_bl.mpr rfl)⟩
  · obtain rfl := rep_non.mp hy
    refine op_isN pins s σ H _ _ v u Q I rx ry ⟨rfl, p.ok r (rep_bl.mpr ?_)⟩
    cases dx with
    | non => rw [rep_non.mp hx]; rfl
    | bl b => rw [rep_bl.mp hx]; rfl
    | int b => rw [rep_int.mp hx]; rfl
    | str b => rw [rep_str.mp hx]; rfl
    | ty b => rw [rep_ty.mp hx]; rfl
    | tup b => obtain ⟨a, xs, rfl, _⟩ := rep_tup.mp hx; rfl
    | loc b => obtain ⟨a, _, rfl⟩ := rep_loc.mp hx; rfl
  · obtain rfl := rep_non.mp hy
    refine op_notN pins s σ H _ _ v u Q I rx ry ⟨rfl, p.ok r (rep_bl.mpr ?_)⟩
    cases dx with
    | non => rw [rep_non.mp hx]; rfl
    | bl b => rw [rep_bl.mp hx]; rfl
    | int b => rw [rep_int.mp hx]; rfl
    | str b => rw [rep_str.mp hx]; rfl
    | ty b => rw [rep_ty.mp hx]; rfl
    | tup b => obtain ⟨a, xs, rfl, _⟩ := rep_tup.mp hx; rfl
    | loc b => obtain ⟨a, _, rfl⟩ := rep_loc.mp hx; rfl
  · split at p
    · rename_i b hb
      rcases ins b hb with ⟨i, j, rfl, rfl, rfl⟩ | ⟨q, xs, rfl, h1, h2, h3, rfl⟩
      · exact op_in_str pins s σ H _ _ v u Q I rx ry ⟨_, _, rfl, rfl, p.ok r (rep_bl.mpr rfl)⟩
      · exact op_in_seq pins s σ H _ _ v u Q I rx ry ⟨q, xs, rfl, h1, h2, h3, p.ok r (rep_bl.mpr rfl)⟩
    · exact p.elim
  · split at p
    · rename_i b hb
      rcases ins b hb with ⟨i, j, rfl, rfl, rfl⟩ | ⟨q, xs, rfl, h1, h2, h3, rfl⟩
      · exact op_notin_str pins s σ H _ _ v u Q I rx ry ⟨_, _, rfl, rfl, p.ok r (rep_bl.mpr rfl)⟩
      · exact op_notIn_seq pins s σ H _ _ v u Q I rx ry ⟨q, xs, rfl, h1, h2, h3, p.ok r (rep_bl.mpr rfl)⟩
    · exact p.elim
  · exact p.elim
end
end Tk

namespace Tk
open PySem PySem.Spec PyProof.Rows L2

section
variable {κ : Kx} {α β γ δ' : Type} {Ra : List Addr → Hp → α → β → Prop} {Rc : List Addr → Hp → γ → δ' → Prop} {W : WX} {σ : L2.St} {ρ ρ' : List Addr} {H H' : Hp} {δ : Dl} {μ : Mu}
theorem gox {m : Dl → Mu → Res α} {f : α → Mu → Res γ} {Q : δ' → Hp → Prop} {Q' : β → Hp → Prop} (s : RepS κ ρ H δ σ) (r : Rel κ ρ H μ) (h : Post κ Rc W σ ρ H ((m δ μ).bind f) Q)
    (k : ∀ ρ1 H1 a v μ1, Ext ρ H ρ1 H1 → RepS κ ρ1 H1 δ σ → Rel κ ρ1 H1 μ1 → Ra ρ1 H1 a v → Post κ Rc W σ ρ1 H1 (f a μ1) Q → Q' v H1) : tG κ Ra W m σ H Q' :=
  ⟨ρ, δ, μ, s, r, (Post.bind h).mono fun v H1 ⟨ρ1, a, μ1, e, r1, x, p⟩ => k ρ1 H1 a v μ1 e (s.ext e) r1 x p⟩
theorem gol {m : Dl → Mu → Res α} {Q : β → Hp → Prop} (s : RepS κ ρ H δ σ) (r : Rel κ ρ H μ) (h : Post κ Ra W σ ρ H (m δ μ) Q) : tG κ Ra W m σ H Q := ⟨ρ, δ, μ, s, r, h⟩
end

/-! ### expressions -/
section
variable {κ : Kx} {X : Cx} {W : WX} {e a b c : Expr} {es : List Expr} {pos : Pos} {m ma mb mc : Dl → Mu → Res D} {mt mu mw : Dl → Mu → Res Bool} {ms : Dl → Mu → Res (List D)}
abbrev JE (κ : Kx) (X : Cx) (W : WX) (e : Expr) (m : Dl → Mu → Res D) : Prop := PE X e (tE κ W m)
abbrev JT (κ : Kx) (X : Cx) (W : WX) (e : Expr) (m : Dl → Mu → Res Bool) : Prop := PT X e (tT κ W m)
abbrev JW (κ : Kx) (X : Cx) (W : WX) (e : Expr) (m : Dl → Mu → Res Bool) : Prop := PW X e (tT κ W m)
abbrev JA (κ : Kx) (X : Cx) (W : WX) (e : List Expr) (m : Dl → Mu → Res (List D)) : Prop := PA X e (tA κ W m)

theorem je_v {i : Nat} {x : Str} (h : PE X (.Name x pos) (tVar i)) : JE κ X W (.Name x pos) (fun δ μ => match δ[i]? with
    | some (some d) => .ok d μ
    | _ => .stuck) := by
  refine pe_imp h fun σ H Q ⟨ρ, δ, μ, s, r, p⟩ => ?_
  dsimp only at p
  split at p
  · rename_i d hd
    obtain ⟨v, h1, h2⟩ := s.at_ i d hd
    exact ⟨v, h1, p.ok r h2⟩
  · exact p.elim
theorem je_c {d : D} {v : V} (h : PE X e (tC v)) (hd : ∀ ρ H, Rep κ ρ H d v) : JE κ X W e (fun _ μ => .ok d μ) :=
  pe_imp h fun σ H Q ⟨ρ, δ, μ, s, r, p⟩ => p.ok r (hd ρ H)
theorem ja_nil : JA κ X W [] (fun _ μ => .ok [] μ) := pa_imp pa_nil fun σ H Q ⟨ρ, δ, μ, s, r, p⟩ => p.ok r .nil
theorem ja_cons (ha : JE κ X W a ma) (hr : JA κ X W es ms) (hs : starEach (a :: es) X.env = (false, eval a X.env) :: starEach es X.env) :
    JA κ X W (a :: es) (fun δ μ => (ma δ μ).bind fun d μ1 => (ms δ μ1).bind fun ds μ2 => .ok (d :: ds) μ2) :=
  pa_imp (pa_cons ha hr hs) fun σ H Q ⟨ρ, δ, μ, s, r, p⟩ =>
    gox s r p fun ρ1 H1 d v μ1 e1 s1 r1 x1 p1 => gox s1 r1 p1 fun ρ2 H2 ds vs μ2 e2 s2 r2 x2 p2 => p2.ok r2 (.cons (x1.ext e2) x2)
theorem je_tup {k : Nat} (h : JA κ X W es ms) : JE κ X W (.Tuple es k pos) (fun δ μ => (ms δ μ).bind fun ds μ1 => if ds.length ≤ sizeLine then .ok (.tup ds) μ1 else .stuck) :=
  pe_imp (pe_tup h) fun σ H Q ⟨ρ, δ, μ, s, r, p⟩ => gox s r p fun ρ1 H1 ds vs μ1 e1 s1 r1 x1 p1 => by
    split at p1
    · rename_i hl
      exact ⟨by rw [← x1.len]; exact hl, fun q hq => p1.newt r1 x1 hq⟩
    · exact p1.elim
theorem je_lst (h : JA κ X W es ms) : JE κ X W (.List es pos) (fun δ μ => (ms δ μ).bind fun ds μ1 => if ds.length ≤ sizeLine then newl μ1 ds else .stuck) :=
  pe_imp (pe_lst h) fun σ H Q ⟨ρ, δ, μ, s, r, p⟩ => gox s r p fun ρ1 H1 ds vs μ1 e1 s1 r1 x1 p1 => by
    split at p1
    · rename_i hl
      exact ⟨by rw [← x1.len]; exact hl, fun q hq => p1.newl r1 x1 hq⟩
    · exact p1.elim
theorem go2 {g : D → D → Mu → Res D} {r2 : R2} {σ : L2.St} {H : Hp} {Q : VK} (hr : ∀ x y H Q, (∃ ρ μ dx dy W σ, Rel κ ρ H μ ∧ Rep κ ρ H dx x ∧ Rep κ ρ H dy y ∧ Post κ (Rep κ) W σ ρ H (g dx dy μ) Q) → r2 x y H Q)
    (h : tE κ W (fun δ μ => (ma δ μ).bind fun x μ1 => (mb δ μ1).bind fun y μ2 => g x y μ2) σ H Q) : tOp r2 (tE κ W ma) (tE κ W mb) σ H Q := by
  obtain ⟨ρ, δ, μ, s, r, p⟩ := h
  exact gox s r p fun ρ1 H1 d v μ1 e1 s1 r1 x1 p1 => gox s1 r1 p1 fun ρ2 H2 d2 v2 μ2 e2 s2 r2 x2 p2 => hr _ _ _ _ ⟨ρ2, μ2, d, d2, W, σ, r2, x1.ext e2, x2, p2⟩
theorem je_bin {o : Operator} {g : D → D → Mu → Res D} (ho : OpJ κ X (binaryOp o) g) (ha : JE κ X W a ma) (hb : JE κ X W b mb) :
    JE κ X W (.BinOp a o b pos) (fun δ μ => (ma δ μ).bind fun x μ1 => (mb δ μ1).bind fun y μ2 => g x y μ2) :=
  pe_imp (pe_op ho ha hb) fun σ H Q h => go2 (fun _ _ _ _ z => z) h
theorem je_neg (ha : JE κ X W a ma) : JE κ X W (.UnaryOp .USub a pos) (fun δ μ => (ma δ μ).bind fun x μ1 => negD x μ1) :=
  pe_imp (pe_un un_neg ha) fun σ H Q ⟨ρ, δ, μ, s, r, p⟩ => gox s r p fun ρ1 H1 d v μ1 e1 s1 r1 x1 p1 => by
    unfold negD at p1
    split at p1
    · obtain rfl := rep_int.mp x1
      exact ⟨_, rfl, p1.ok r1 (rep_int.mpr rfl)⟩
    · exact p1.elim
theorem je_cmp {o : CmpOp} {g : D → D → Mu → Res D} (ho : OpJ κ X (compareOp o) g) (ha : JE κ X W a ma) (hb : JE κ X W b mb) (hm : behindInMarks o b = false) :
    JE κ X W (.Compare a [o] [b] pos) (fun δ μ => (ma δ μ).bind fun x μ1 => (mb δ μ1).bind fun y μ2 => g x y μ2) :=
  pe_imp (pe_cmpR ho ha hb hm) fun σ H Q h => go2 (fun _ _ _ _ z => z) h
theorem jt_cmp {o : CmpOp} {g : D → D → Mu → Res D} (ho : OpJ κ X (compareOp o) g) (ha : JE κ X W a ma) (hb : JE κ X W b mb) (hm : behindInMarks o b = false) :
    JT κ X W (.Compare a [o] [b] pos) (fun δ μ => (ma δ μ).bind fun x μ1 => (mb δ μ1).bind fun y μ2 => (g x y μ2).bind fun z μ3 => match z with
      | .bl c => .ok c μ3
      | _ => .stuck) :=
  pt_imp (pt_cmpR ho ha hb hm) fun σ H Q ⟨ρ, δ, μ, s, r, p⟩ =>
    gox s r p fun ρ1 H1 d v μ1 e1 s1 r1 x1 p1 => gox s1 r1 p1 fun ρ2 H2 d2 v2 μ2 e2 s2 r2 x2 p2 => ⟨ρ2, μ2, d, d2, W, σ, r2, x1.ext e2, x2, (Post.bind p2).mono fun v3 H3 ⟨ρ3, d3, μ3, e3, r3, x3, p3⟩ => by
      split at p3
      · obtain rfl := rep_bl.mp x3
        exact ⟨_, rfl, p3.ok r3 rfl⟩
      · exact p3.elim⟩
theorem je_chn {o o' : CmpOp} {g g' : D → D → Mu → Res D} (ho : OpJ κ X (compareOp o) g) (ho' : OpJ κ X (compareOp o') g') (ha : JE κ X W a ma) (hb : JE κ X W b mb) (hc : JE κ X W c mc) (hm : lastMarks [o, o'] [b, c] = false) :
    JE κ X W (.Compare a [o, o'] [b, c] pos) (fun δ μ => (ma δ μ).bind fun x μ1 => (mb δ μ1).bind fun y μ2 => (g x y μ2).bind fun z μ3 => match z with
      | .bl true => (mc δ μ3).bind fun w μ4 => g' y w μ4
      | .bl false => .ok (.bl false) μ3
      | _ => .stuck) :=
  pe_imp (pe_chain ho ho' ha hb hc hm) fun σ H Q ⟨ρ, δ, μ, s, r, p⟩ =>
    gox s r p fun ρ1 H1 d v μ1 e1 s1 r1 x1 p1 => gox s1 r1 p1 fun ρ2 H2 d2 v2 μ2 e2 s2 r2 x2 p2 => ⟨ρ2, μ2, d, d2, W, σ, r2, x1.ext e2, x2, (Post.bind p2).mono fun v3 H3 ⟨ρ3, d3, μ3, e3, r3, x3, p3⟩ => by
      split at p3
      · obtain rfl := rep_bl.mp x3
        refine ⟨true, rfl, ?_⟩
        rw [if_pos rfl]
        exact gox (s2.ext e3) r3 p3 fun ρ4 H4 d4 v4 μ4 e4 s4 r4 x4 p4 => ⟨ρ4, μ4, d2, d4, W, σ, r4, x2.ext (e3.trans e4), x4, p4⟩
      · obtain rfl := rep_bl.mp x3
        refine ⟨false, rfl, ?_⟩
        rw [if_neg Bool.false_ne_true]
        exact p3.ok r3 (rep_bl.mpr rfl)
      · exact p3.elim⟩
theorem jt_chn {o o' : CmpOp} {g g' : D → D → Mu → Res D} (ho : OpJ κ X (compareOp o) g) (ho' : OpJ κ X (compareOp o') g') (ha : JE κ X W a ma) (hb : JE κ X W b mb) (hc : JE κ X W c mc) (hm : lastMarks [o, o'] [b, c] = false) :
    JT κ X W (.Compare a [o, o'] [b, c] pos) (fun δ μ => (ma δ μ).bind fun x μ1 => (mb δ μ1).bind fun y μ2 => (g x y μ2).bind fun z μ3 => match z with
      | .bl true => (mc δ μ3).bind fun w μ4 => (g' y w μ4).bind fun z2 μ5 => (match z2 with
        | .bl d => .ok d μ5
        | _ => .stuck)
      | .bl false => .ok false μ3
      | _ => .stuck) :=
  pt_imp (pt_chain ho ho' ha hb hc hm) fun σ H Q ⟨ρ, δ, μ, s, r, p⟩ =>
    gox s r p fun ρ1 H1 d v μ1 e1 s1 r1 x1 p1 => gox s1 r1 p1 fun ρ2 H2 d2 v2 μ2 e2 s2 r2 x2 p2 => ⟨ρ2, μ2, d, d2, W, σ, r2, x1.ext e2, x2, (Post.bind p2).mono fun v3 H3 ⟨ρ3, d3, μ3, e3, r3, x3, p3⟩ => by
      split at p3
      · obtain rfl := rep_bl.mp x3
        refine ⟨true, rfl, ?_⟩
        rw [if_pos rfl]
        exact gox (s2.ext e3) r3 p3 fun ρ4 H4 d4 v4 μ4 e4 s4 r4 x4 p4 => ⟨ρ4, μ4, d2, d4, W, σ, r4, x2.ext (e3.trans e4), x4, (Post.bind p4).mono fun v5 H5 ⟨ρ5, d5, μ5, e5, r5, x5, p5⟩ => by
          split at p5
          · obtain rfl := rep_bl.mp x5
            exact ⟨_, rfl, p5.ok r5 rfl⟩
          · exact p5.elim⟩
      · obtain rfl := rep_bl.mp x3
        refine ⟨false, rfl, ?_⟩
        rw [if_neg Bool.false_ne_true]
        exact ⟨false, rfl, p3.ok r3 rfl⟩
      · exact p3.elim⟩
/-! and, or, not -/
variable {rest : List Expr}
theorem je_one {op : BoolOp} (h : JE κ X W a ma) : JE κ X W (.BoolOp op [a] pos) ma := pe_one h
theorem je_and (ha : JE κ X W a ma) (hb : JE κ X W (.BoolOp .And (b :: rest) pos) mb) : JE κ X W (.BoolOp .And (a :: b :: rest) pos) (fun δ μ => (ma δ μ).bind fun x μ1 => match x with
    | .bl true => mb δ μ1
    | .bl false => .ok (.bl false) μ1
    | _ => .stuck) :=
  pe_imp (pe_and ha hb) fun σ H Q ⟨ρ, δ, μ, s, r, p⟩ => gox s r p fun ρ1 H1 d v μ1 e1 s1 r1 x1 p1 => by
    split at p1
    · obtain rfl := rep_bl.mp x1
      refine ⟨true, rfl, ?_⟩
      rw [if_pos rfl]
      exact gol s1 r1 p1
    · obtain rfl := rep_bl.mp x1
      refine ⟨false, rfl, ?_⟩
      rw [if_neg Bool.false_ne_true]
      exact p1.ok r1 (rep_bl.mpr rfl)
    · exact p1.elim
theorem je_or (ha : JE κ X W a ma) (hb : JE κ X W (.BoolOp .Or (b :: rest) pos) mb) : JE κ X W (.BoolOp .Or (a :: b :: rest) pos) (fun δ μ => (ma δ μ).bind fun x μ1 => match x with
    | .bl true => .ok (.bl true) μ1
    | .bl false => mb δ μ1
    | _ => .stuck) :=
  pe_imp (pe_or ha hb) fun σ H Q ⟨ρ, δ, μ, s, r, p⟩ => gox s r p fun ρ1 H1 d v μ1 e1 s1 r1 x1 p1 => by
    split at p1
    · obtain rfl := rep_bl.mp x1
      refine ⟨true, rfl, ?_⟩
      rw [if_pos rfl]
      exact p1.ok r1 (rep_bl.mpr rfl)
    · obtain rfl := rep_bl.mp x1
      refine ⟨false, rfl, ?_⟩
      rw [if_neg Bool.false_ne_true]
      exact gol s1 r1 p1
    · exact p1.elim
theorem je_not (ha : JE κ X W a ma) : JE κ X W (.UnaryOp .Not a pos) (fun δ μ => (ma δ μ).bind fun x μ1 => match x with
    | .bl b => .ok (.bl (!b)) μ1
    | _ => .stuck) :=
  pe_imp (pe_not ha) fun σ H Q ⟨ρ, δ, μ, s, r, p⟩ => gox s r p fun ρ1 H1 d v μ1 e1 s1 r1 x1 p1 => by
    split at p1
    · obtain rfl := rep_bl.mp x1
      exact ⟨_, rfl, p1.ok r1 (rep_bl.mpr rfl)⟩
    · exact p1.elim
theorem jw_one {op : BoolOp} (h : JT κ X W a mt) : JW κ X W (.BoolOp op [a] pos) mt := by
  cases op with
  | And => exact pw_and1 h
  | Or => exact pw_or1 h
theorem jw_and (ha : JT κ X W a mt) (hb : JW κ X W (.BoolOp .And (b :: rest) pos) mu) : JW κ X W (.BoolOp .And (a :: b :: rest) pos) (fun δ μ => (mt δ μ).bind fun c μ1 => if c = true then mu δ μ1 else .ok false μ1) :=
  pw_imp (pw_and ha hb) fun σ H Q ⟨ρ, δ, μ, s, r, p⟩ => gox s r p fun ρ1 H1 d v μ1 e1 s1 r1 x1 p1 => by
    cases x1
    cases d with
    | true => exact gol s1 r1 p1
    | false => exact p1.ok r1 rfl
theorem jw_or (ha : JT κ X W a mt) (hb : JW κ X W (.BoolOp .Or (b :: rest) pos) mu) : JW κ X W (.BoolOp .Or (a :: b :: rest) pos) (fun δ μ => (mt δ μ).bind fun c μ1 => if c = true then .ok true μ1 else mu δ μ1) :=
  pw_imp (pw_or ha hb) fun σ H Q ⟨ρ, δ, μ, s, r, p⟩ => gox s r p fun ρ1 H1 d v μ1 e1 s1 r1 x1 p1 => by
    cases x1
    cases d with
    | true => exact p1.ok r1 rfl
    | false => exact gol s1 r1 p1
theorem jt_not (ha : JT κ X W a mt) : JT κ X W (.UnaryOp .Not a pos) (fun δ μ => (mt δ μ).bind fun c μ1 => .ok (!c) μ1) :=
  pt_imp (pt_not ha) fun σ H Q ⟨ρ, δ, μ, s, r, p⟩ => gox s r p fun ρ1 H1 d v μ1 e1 s1 r1 x1 p1 => by
    cases x1
    exact p1.ok r1 rfl
theorem je_ite (hc : JT κ X W c mt) (ha : JE κ X W a ma) (hb : JE κ X W b mb) : JE κ X W (.IfExp c a b pos) (fun δ μ => (mt δ μ).bind fun c μ1 => if c = true then ma δ μ1 else mb δ μ1) :=
  pe_imp (pe_ifExp hc ha hb) fun σ H Q ⟨ρ, δ, μ, s, r, p⟩ => gox s r p fun ρ1 H1 d v μ1 e1 s1 r1 x1 p1 => by
    cases x1
    cases d with
    | true => exact gol s1 r1 p1
    | false => exact gol s1 r1 p1
theorem truV_of {K : PySem.W.Frag} {ρ H d v μ b μ'} (h : truD d μ = .ok b μ') (r : Rep κ ρ H d v) : TruV K v H b ∧ μ' = μ := by
  unfold truD at h
  split at h
  · cases h; rw [rep_bl.mp r]; exact ⟨rfl, rfl⟩
  · cases h; rw [rep_non.mp r]; exact ⟨rfl, rfl⟩
  · cases h; rw [rep_int.mp r]; exact ⟨rfl, rfl⟩
  · cases h
/-- an expression of any kind as a test -/
theorem jt_val (ha : JE κ X W a ma) (he : ∀ whole, isTrue a X.env whole = (do let v ← whole; standAt a.pos; holding [v] (truthy v))) : JT κ X W a (fun δ μ => (ma δ μ).bind fun x μ1 => truD x μ1) :=
  pt_imp (pt_truth ha he) fun σ H Q ⟨ρ, δ, μ, s, r, p⟩ => gox s r p fun ρ1 H1 d v μ1 e1 s1 r1 x1 p1 => by
    cases hb : truD d μ1 with
    | ok b μ2 =>
      rw [hb] at p1
      obtain ⟨h1, rfl⟩ := truV_of (K := X.K) hb x1
      exact ⟨b, h1, p1.ok r1 rfl⟩
    | exc c fs m =>
      unfold truD at hb
      split at hb <;> cases hb
    | stuck =>
      rw [hb] at p1
      exact p1.elim
theorem PW.jt (h : JW κ X W a mt) : JT κ X W a mt := h.pt

/-! items, slices -/
variable (hK : X.K = κ.K)
include hK
theorem atI_rep {ρ H} {ds : List D} {vs : List V} (h : Reps κ ρ H ds vs) {k : Int} {d : D} (e : atI ds k = some d) : ∃ v, atI vs k = some v ∧ Rep κ ρ H d v := by
  unfold atI at e ⊢
  rw [← h.len]
  obtain ⟨j, h1, h2⟩ := Option.bind_eq_some_iff.mp e
  obtain ⟨v, h3, h4⟩ := h.at_ j d h2
  exact ⟨v, by rw [h1]; exact h3, h4⟩
theorem je_ix (ha : JE κ X W a ma) (hb : JE κ X W b mb) (hs : PlainIx b) : JE κ X W (.Subscript a b pos) (fun δ μ => (ma δ μ).bind fun x μ1 => (mb δ μ1).bind fun y μ2 => ixD x y μ2) :=
  pe_imp (pe_ix ix_seq ha hb hs) fun σ H Q h => go2 (fun x y H Q ⟨ρ, μ, dx, dy, W, σ, r, hx, hy, p⟩ => by
    unfold ixD at p
    split at p
    · rename_i k
      obtain rfl := rep_int.mp hy
      split at p
      · rename_i xs hxs
        split at p
        · rename_i d hd
          unfold seqD at hxs
          split at hxs
          · cases hxs
            obtain ⟨q, vs, rfl, h1, h2⟩ := rep_tup.mp hx
            obtain ⟨v, h3, h4⟩ := atI_rep hK h2 hd
            exact .inr (.inl ⟨q, vs, _, v, rfl, rfl, hK ▸ h1, h3, p.ok r h4⟩)
          · obtain ⟨q, h0, rfl⟩ := rep_loc.mp hx
            obtain ⟨vs, h1, h2⟩ := r.sql hxs h0
            obtain ⟨v, h3, h4⟩ := atI_rep hK h2 hd
            exact .inl ⟨q, vs, _, v, rfl, rfl, hK ▸ h1, h3, p.ok r h4⟩
          · cases hxs
        · exact p.elim
      · exact p.elim
    · exact p.elim) h
omit hK in
abbrev RO : List Addr → Hp → Option Int → Option Int → Prop := fun _ _ a b => a = b
omit hK in
abbrev JO (κ : Kx) (X : Cx) (W : WX) (e : Option Expr) (m : Dl → Mu → Res (Option Int)) : Prop := PO X e (tG κ RO W m)
omit hK in
theorem po_imp {e : Option Expr} {t t' : TO} (h : PO X e t) (hi : ∀ σ H Q, t' σ H Q → t σ H Q) : PO X e t' := ⟨fun pins s σ H Q I q => h.run pins s σ H Q I (hi σ H Q q)⟩
omit hK in
theorem jo_none : JO κ X W none (fun _ μ => .ok none μ) := po_imp po_none fun σ H Q ⟨ρ, δ, μ, s, r, p⟩ => p.ok r rfl
omit hK in
theorem jo_some (ha : JE κ X W a ma) : JO κ X W (some a) (fun δ μ => (ma δ μ).bind fun d μ1 => match d with
    | .int i => .ok (some i) μ1
    | _ => .stuck) :=
  po_imp (po_some ha) fun σ H Q ⟨ρ, δ, μ, s, r, p⟩ => gox s r p fun ρ1 H1 d v μ1 e1 s1 r1 x1 p1 => by
    split at p1
    · obtain rfl := rep_int.mp x1
      exact ⟨_, rfl, p1.ok r1 rfl⟩
    · exact p1.elim
theorem cut_rep {ρ H} {ds : List D} {vs : List V} (h : Reps κ ρ H ds vs) (lo hi : Option Int) : Reps κ ρ H (cutD ds lo hi) (cutV vs lo hi) := by
  unfold cutD cutV
  rw [h.len]
  exact (h.drop _).take _
theorem je_sl {lo hi : Option Expr} {p2 : Pos} {ml mh : Dl → Mu → Res (Option Int)} (ha : JE κ X W a ma) (hl : JO κ X W lo ml) (hh : JO κ X W hi mh) :
    JE κ X W (.Subscript a (.Slice lo hi none p2) pos) (fun δ μ => (ma δ μ).bind fun x μ1 => (ml δ μ1).bind fun l μ2 => (mh δ μ2).bind fun h μ3 => slD x l h μ3) :=
  pe_imp (pe_slice (sl_tupA.or sl_list) ha hl hh) fun σ H Q ⟨ρ, δ, μ, s, r, p⟩ =>
    gox s r p fun ρ1 H1 d v μ1 e1 s1 r1 x1 p1 => gox s1 r1 p1 fun ρ2 H2 l l' μ2 e2 s2 r2 x2 p2 => gox s2 r2 p2 fun ρ3 H3 h h' μ3 e3 s3 r3 x3 p3 => by
      cases x2; cases x3
      have x1' := x1.ext (e2.trans e3)
      unfold slD at p3
      split at p3
      · rename_i ds
        obtain ⟨q, vs, rfl, h1, h2⟩ := rep_tup.mp x1'
        refine .inl ⟨q, vs, rfl, hK ▸ h1, fun ⟨w1, w2⟩ => ?_, fun _ z hz => p3.newt r3 (cut_rep hK h2 l h) hz⟩
        have e : cutD ds l h = ds := by
          unfold cutD
          rw [h2.len, w1, w2, ← h2.len, Nat.sub_zero, List.drop_zero, List.take_length]
        rw [e] at p3
        exact p3.ok r3 (rep_tup.mpr ⟨q, vs, rfl, h1, h2⟩)
      · obtain ⟨q, h0, rfl⟩ := rep_loc.mp x1'
        split at p3
        · rename_i xs hxs
          obtain ⟨vs, h1, h2⟩ := r3.sql hxs h0
          exact .inr ⟨q, vs, rfl, hK ▸ h1, fun z hz => p3.newl r3 (cut_rep hK h2 l h) hz⟩
        · exact p3.elim
      · exact p3.elim
end
end Tk

namespace Tk
open PySem PySem.Spec PyProof.Rows L2

/-! ### sorting, least, greatest: the one answer -/
theorem insI_perm (x : Int) : ∀ l : List Int, (insI x l).Perm (x :: l)
  | [] => List.Perm.refl _
  | y :: r => by
    unfold insI
    split
    · exact List.Perm.refl _
    · exact ((insI_perm x r).cons y).trans (List.Perm.swap x y r)
theorem sortI_perm : ∀ l : List Int, (sortI l).Perm l
  | [] => List.Perm.refl _
  | x :: r => (insI_perm x (sortI r)).trans ((sortI_perm r).cons x)
theorem insI_up (x : Int) : ∀ l : List Int, l.Pairwise (· ≤ ·) → (insI x l).Pairwise (· ≤ ·)
  | [], _ => by simp [insI]
  | y :: r, h => by
    obtain ⟨h1, h2⟩ := List.pairwise_cons.mp h
    unfold insI
    split
    · rename_i hx
      refine List.pairwise_cons.mpr ⟨fun z hz => ?_, h⟩
      rcases List.mem_cons.mp hz with rfl | hz
      · exact hx
      · exact Int.le_trans hx (h1 z hz)
    · rename_i hx
      refine List.pairwise_cons.mpr ⟨fun z hz => ?_, insI_up x r h2⟩
      rcases List.mem_cons.mp ((insI_perm x r).mem_iff.mp hz) with rfl | hz
      · omega
      · exact h1 z hz
theorem sortI_up : ∀ l : List Int, (sortI l).Pairwise (· ≤ ·)
  | [] => List.Pairwise.nil
  | x :: r => insI_up x _ (sortI_up r)
theorem sorted_one : ∀ {a b : List Int}, a.Perm b → a.Pairwise (· ≤ ·) → b.Pairwise (· ≤ ·) → a = b
  | [], b, h, _, _ => by rw [List.nil_perm.mp h]
  | x :: r, [], h, _, _ => by cases List.perm_nil.mp h
  | x :: r, y :: t, h, ha, hb => by
    obtain ⟨h1, h2⟩ := List.pairwise_cons.mp ha
    obtain ⟨h3, h4⟩ := List.pairwise_cons.mp hb
    have e : x = y := by
      have m1 : x ∈ y :: t := h.mem_iff.mp List.mem_cons_self
      have m2 : y ∈ x :: r := h.mem_iff.mpr List.mem_cons_self
      rcases List.mem_cons.mp m1 with q | q
      · exact q
      · rcases List.mem_cons.mp m2 with q2 | q2
        · exact q2.symm
        · exact Int.le_antisymm (h1 y q2) (h3 x q)
    subst e
    rw [sorted_one ((List.perm_cons x).mp h) h2 h4]
theorem maxI_ok : ∀ {l : List Int} {m : Int}, maxI l = some m → m ∈ l ∧ ∀ y ∈ l, y ≤ m
  | [], _, h => by cases h
  | [x], m, h => by
    cases h
    exact ⟨List.mem_cons_self, fun y hy => by
      have e : y = x := by simpa using hy
      omega⟩
  | x :: y :: r, m, h => by
    unfold maxI at h
    obtain ⟨k, h1, h2⟩ := Option.map_eq_some_iff.mp h
    obtain ⟨h3, h4⟩ := maxI_ok h1
    split at h2
    · subst h2
      refine ⟨List.mem_cons_self, fun z hz => ?_⟩
      rcases List.mem_cons.mp hz with rfl | hz
      · exact Int.le_refl _
      · have := h4 z hz; omega
    · subst h2
      refine ⟨List.mem_cons_of_mem _ h3, fun z hz => ?_⟩
      rcases List.mem_cons.mp hz with rfl | hz
      · omega
      · exact h4 z hz
theorem minI_ok : ∀ {l : List Int} {m : Int}, minI l = some m → m ∈ l ∧ ∀ y ∈ l, m ≤ y
  | [], _, h => by cases h
  | [x], m, h => by
    cases h
    exact ⟨List.mem_cons_self, fun y hy => by
      have e : y = x := by simpa using hy
      omega⟩
  | x :: y :: r, m, h => by
    unfold minI at h
    obtain ⟨k, h1, h2⟩ := Option.map_eq_some_iff.mp h
    obtain ⟨h3, h4⟩ := minI_ok h1
    split at h2
    · subst h2
      refine ⟨List.mem_cons_self, fun z hz => ?_⟩
      rcases List.mem_cons.mp hz with rfl | hz
      · exact Int.le_refl _
      · have := h4 z hz; omega
    · subst h2
      refine ⟨List.mem_cons_of_mem _ h3, fun z hz => ?_⟩
      rcases List.mem_cons.mp hz with rfl | hz
      · omega
      · exact h4 z hz
theorem ints_rep {κ ρ H} : ∀ {ds : List D} {vs : List V} {ns : List Int}, intsD ds = some ns → Reps κ ρ H ds vs → vs = ns.map V.int
  | [], vs, ns, h, r => by
    cases h
    unfold Reps at r
    exact r
  | d :: ds, vs, ns, h, r => by
    unfold Reps at r
    obtain ⟨v, w, rfl, h4, h5⟩ := r
    unfold intsD at h
    split at h
    · rename_i heq
      cases heq
    · rename_i i r' heq
      cases heq
      obtain ⟨k, h1, rfl⟩ := Option.map_eq_some_iff.mp h
      rw [rep_int.mp h4, ints_rep h1 h5]
      rfl
    · cases h
theorem rep_ints {κ ρ H} : ∀ ns : List Int, Reps κ ρ H (ns.map D.int) (ns.map V.int)
  | [] => .nil
  | n :: ns => .cons (rep_int.mpr rfl) (rep_ints ns)

/-! ### built-ins -/
def CJ (κ : Kx) (X : Cx) (f : Value) (g : List D → Mu → Res D) : Prop :=
  CallR X f (fun vs H Q => ∃ ρ μ ds W σ, Rel κ ρ H μ ∧ Reps κ ρ H ds vs ∧ Post κ (Rep κ) W σ ρ H (g ds μ) Q)
def bltV : Blt → Value
  | .len => .builtin "len"
  | .int => .type "int"
  | .max => .builtin "max"
  | .min => .builtin "min"
  | .sorted => .builtin "sorted"
  | .list => .type "list"
  | .tuple => .type "tuple"
  | .abs => .builtin "abs"
  | .str => .type "str"
  | .isi => .builtin "isinstance"
def bltN : Blt → Str
  | .len => "len"
  | .int => "int"
  | .max => "max"
  | .min => "min"
  | .sorted => "sorted"
  | .list => "list"
  | .tuple => "tuple"
  | .abs => "abs"
  | .str => "str"
  | .isi => "isinstance"
theorem reps1 {κ ρ H d vs} (h : Reps κ ρ H [d] vs) : ∃ v, vs = [v] ∧ Rep κ ρ H d v := by
  unfold Reps Reps at h
  obtain ⟨v, w, rfl, h1, rfl⟩ := h
  exact ⟨v, rfl, h1⟩
theorem reps2 {κ ρ H d e vs} (h : Reps κ ρ H [d, e] vs) : ∃ v w, vs = [v, w] ∧ Rep κ ρ H d v ∧ Rep κ ρ H e w := by
  unfold Reps at h
  obtain ⟨v, w, rfl, h1, h2⟩ := h
  obtain ⟨u, rfl, h3⟩ := reps1 h2
  exact ⟨v, u, rfl, h1, h3⟩
section
variable {κ : Kx} {X : Cx}
theorem seq_rep (hK : X.K = κ.K) {ρ H μ d v xs} (r : Rel κ ρ H μ) (h : seqD μ d = some xs) (hx : Rep κ ρ H d v) : ∃ q vs, v = .ref q ∧ (SqL X.K H q vs ∨ SqT X.K H q vs) ∧ Reps κ ρ H xs vs := by
  unfold seqD at h
  split at h
  · cases h
    obtain ⟨a, vs, rfl, g1, g2⟩ := rep_tup.mp hx
    exact ⟨a, vs, rfl, .inr (hK ▸ g1), g2⟩
  · obtain ⟨a, g0, rfl⟩ := rep_loc.mp hx
    obtain ⟨vs, g1, g2⟩ := r.sql h g0
    exact ⟨a, vs, rfl, .inl (hK ▸ g1), g2⟩
  · cases h
theorem ty_rep (hK : X.K = κ.K) {ρ H μ d v t} (r : Rel κ ρ H μ) (h : tyD d μ = some t) (hx : Rep κ ρ H d v) : TyX X.K H v (.type t) := by
  unfold tyD at h
  split at h
  · cases h; rw [rep_non.mp hx]; exact .base .non
  · cases h; rw [rep_bl.mp hx]; exact .base (.bl _)
  · cases h; rw [rep_int.mp hx]; exact .base (.int _)
  · cases h; rw [rep_str.mp hx]; exact .base (.str _)
  · cases h
    obtain ⟨a, vs, rfl, g1, g2⟩ := rep_tup.mp hx
    rcases g1 with (g1 | ⟨o, g1⟩) | ⟨o, its, n, g1, g3, _⟩
    · exact .base (.tup g1)
    · exact .fTuple g1
    · exact .kTuple (hK ▸ g1) g3
  · obtain ⟨a, g0, rfl⟩ := rep_loc.mp hx
    obtain ⟨o, h1, h2⟩ := r.at g0
    rw [h1] at h
    cases o with
    | lst xs =>
      cases h
      obtain ⟨vs, h3, _⟩ := h2
      exact .base (.lst h3)
    | fl xs =>
      cases h
      obtain ⟨o, vs, h3, _⟩ := h2
      exact .base (.frz h3)
    | dic kvs =>
      cases h
      obtain ⟨ks, h3, _⟩ := h2
      exact .base (.dK h3)
    | dit kvs =>
      cases h
      obtain ⟨ks, h3, _⟩ := h2
      exact .base (.dT h3)
    | ins c fs => cases h
  · cases h
theorem cj_blt (hK : X.K = κ.K) (hc : X.calm = true) (b : Blt) : CJ κ X (bltV b) (bltD b) := by
  intro pins s σ H vs us Q I rv h
  obtain ⟨ρ, μ, ds, W, σ', r, hs, p⟩ := h
  unfold bltD at p
  split at p
  · split at p
    · rename_i x hl
      obtain ⟨v, rfl, h1⟩ := reps1 hs
      obtain rfl := rep_str.mp h1
      exact call_len_str pins s σ H _ us Q I rv ⟨x, rfl, hl, p.ok r (rep_int.mpr rfl)⟩
    · exact p.elim
  · obtain ⟨v, rfl, h1⟩ := reps1 hs
    split at p
    · rename_i xs hx
      obtain ⟨q, ws, rfl, h2, h3⟩ := seq_rep hK r hx h1
      refine call_len_seq pins s σ H _ us Q I rv ⟨q, ws, rfl, h2, ?_⟩
      rw [h3.len] at p
      exact p.ok r (rep_int.mpr rfl)
    · exact p.elim
  · obtain ⟨v, rfl, h1⟩ := reps1 hs
    obtain rfl := rep_int.mp h1
    exact call_int1 pins s σ H _ us Q I rv (.inl ⟨_, rfl, p.ok r (rep_int.mpr rfl)⟩)
  · obtain ⟨v, rfl, h1⟩ := reps1 hs
    obtain rfl := rep_bl.mp h1
    exact call_int1 pins s σ H _ us Q I rv (.inr ⟨_, rfl, p.ok r (rep_int.mpr rfl)⟩)
  · obtain ⟨v, w, rfl, h1, h2⟩ := reps2 hs
    obtain rfl := rep_int.mp h1; obtain rfl := rep_int.mp h2
    exact call_max2 hc pins s σ H _ us Q I rv ⟨_, _, rfl, p.ok r (rep_int.mpr rfl)⟩
  · obtain ⟨v, w, rfl, h1, h2⟩ := reps2 hs
    obtain rfl := rep_int.mp h1; obtain rfl := rep_int.mp h2
    exact call_min2 hc pins s σ H _ us Q I rv ⟨_, _, rfl, p.ok r (rep_int.mpr rfl)⟩
  · obtain ⟨v, rfl, h1⟩ := reps1 hs
    obtain ⟨a, g0, rfl⟩ := rep_loc.mp h1
    split at p
    · rename_i ns hn
      obtain ⟨xs, h2, h3⟩ := Option.bind_eq_some_iff.mp hn
      obtain ⟨ws, h4, h5⟩ := r.sql h2 g0
      obtain rfl := ints_rep h3 h5
      split at p
      · rename_i m hm
        obtain ⟨m1, m2⟩ := maxI_ok hm
        refine cr_max hc pins s σ H _ us Q I rv ⟨a, ns, rfl, hK ▸ h4, List.length_pos_of_mem m1, fun k k1 k2 => ?_⟩
        have e : k = m := Int.le_antisymm (m2 k k1) (k2 m m1)
        subst e
        exact p.ok r (rep_int.mpr rfl)
      · exact p.elim
    · exact p.elim
  · obtain ⟨v, rfl, h1⟩ := reps1 hs
    obtain ⟨a, g0, rfl⟩ := rep_loc.mp h1
    split at p
    · rename_i ns hn
      obtain ⟨xs, h2, h3⟩ := Option.bind_eq_some_iff.mp hn
      obtain ⟨ws, h4, h5⟩ := r.sql h2 g0
      obtain rfl := ints_rep h3 h5
      split at p
      · rename_i m hm
        obtain ⟨m1, m2⟩ := minI_ok hm
        refine cr_min hc pins s σ H _ us Q I rv ⟨a, ns, rfl, hK ▸ h4, List.length_pos_of_mem m1, fun k k1 k2 => ?_⟩
        have e : k = m := Int.le_antisymm (k2 m m1) (m2 k k1)
        subst e
        exact p.ok r (rep_int.mpr rfl)
      · exact p.elim
    · exact p.elim
  · obtain ⟨v, rfl, h1⟩ := reps1 hs
    obtain ⟨a, g0, rfl⟩ := rep_loc.mp h1
    split at p
    · rename_i ns hn
      obtain ⟨xs, h2, h3⟩ := Option.bind_eq_some_iff.mp hn
      obtain ⟨ws, h4, h5⟩ := r.sql h2 g0
      obtain rfl := ints_rep h3 h5
      refine cr_sortedI pins s σ H _ us Q I rv ⟨a, ns, rfl, hK ▸ h4, fun ns' q h6 h7 hq => ?_⟩
      have e : ns' = sortI ns := sorted_one (h6.trans (sortI_perm ns).symm) h7 (sortI_up ns)
      subst e
      exact p.newl r (rep_ints _) hq
    · exact p.elim
  · obtain ⟨v, rfl, h1⟩ := reps1 hs
    split at p
    · rename_i xs hx
      obtain ⟨q, ws, rfl, h2, h3⟩ := seq_rep hK r hx h1
      exact call_list_of pins s σ H _ us Q I rv ⟨q, ws, rfl, h2, fun l hl => p.newl r h3 hl⟩
    · exact p.elim
  · obtain ⟨v, rfl, h1⟩ := reps1 hs
    split at p
    · rename_i xs hx
      obtain ⟨q, ws, rfl, h2, h3⟩ := seq_rep hK r hx h1
      refine call_tuple_of pins s σ H _ us Q I rv ⟨q, ws, rfl, ?_⟩
      rcases h2 with h2 | h2
      · exact .inl ⟨h2, fun l hl => p.newt r h3 hl⟩
      · exact .inr ⟨h2, p.ok r (rep_tup.mpr ⟨q, ws, rfl, hK ▸ h2, h3⟩)⟩
    · exact p.elim
  · obtain ⟨v, rfl, h1⟩ := reps1 hs
    obtain rfl := rep_int.mp h1
    exact call_abs pins s σ H _ us Q I rv ⟨_, rfl, p.ok r (rep_int.mpr rfl)⟩
  · obtain ⟨v, w, rfl, h1, h2⟩ := reps2 hs
    obtain rfl := rep_ty.mp h2
    split at p
    · rename_i t ht
      split at p
      · rename_i b hb
        exact call_isi pins s σ H _ us Q I rv ⟨v, _, _, _, b, rfl, .ty _, ty_rep hK r ht h1, kit_ty hb, p.ok r (rep_bl.mpr rfl)⟩
      · exact p.elim
    · exact p.elim
  · exact p.elim
end

/-! ### dicts -/
theorem key_eqF {d e : D} {k l : Key} (h1 : keyD d = some k) (h2 : keyD e = some l) : eqF d e = decide (k = l) := by
  unfold keyD at h1 h2
  split at h1
  · split at h2
    · cases h1; cases h2
      rw [key_ll]; rfl
    · cases h1; cases h2
      rw [key_lr]; rfl
    · cases h2
  · split at h2
    · cases h1; cases h2
      rw [key_rl]; rfl
    · cases h1; cases h2
      rw [key_rr]
      show (_ == _) = _
      exact Bool.beq_eq_decide_eq _ _
    · cases h2
  · cases h1
theorem rep_key {κ ρ H d k v} (h : keyD d = some k) (r : Rep κ ρ H d v) : v = kV k := by
  unfold keyD at h
  split at h
  · cases h; rw [rep_int.mp r]; rfl
  · cases h; rw [rep_str.mp r]; rfl
  · cases h
theorem valK {κ ρ H} {d : D} {k : Key} (hk : keyD d = some k) : ∀ {kvs : List (D × D)} {ks : List (Key × V)}, RepK κ ρ H kvs ks → (match valD kvs d, valV ks k with
    | some x, some v => Rep κ ρ H x v
    | none, none => True
    | _, _ => False)
  | [], ks, r => by
    have e : ks = [] := r
    subst e
    trivial
  | p :: kvs, ks, r => by
    obtain ⟨l, v, r', rfl, h1, h2, h3⟩ := r
    have e := key_eqF h1 hk
    by_cases hl : l = k
    · subst hl
      have e2 : eqF p.1 d = true := by rw [e]; simp
      rw [valV_pos rfl]
      have e3 : valD (p :: kvs) d = some p.2 := by simp [valD, List.find?_cons, e2]
      rw [e3]
      exact h2
    · have e2 : eqF p.1 d = false := by rw [e]; exact decide_eq_false hl
      rw [valV_neg hl]
      have e3 : valD (p :: kvs) d = valD kvs d := by simp [valD, List.find?_cons, e2]
      rw [e3]
      exact valK hk h3
theorem anyK {κ ρ H} {d : D} {k : Key} (hk : keyD d = some k) : ∀ {kvs : List (D × D)} {ks : List (Key × V)}, RepK κ ρ H kvs ks → (kvs.any fun kv => eqF kv.1 d) = ks.any fun kv => decide (kv.1 = k)
  | [], ks, r => by
    have e : ks = [] := r
    subst e
    rfl
  | p :: kvs, ks, r => by
    obtain ⟨l, v, r', rfl, h1, h2, h3⟩ := r
    rw [List.any_cons, List.any_cons, anyK hk h3, key_eqF h1 hk]
theorem mapK {κ ρ H} {d x : D} {v : V} {k : Key} (hk : keyD d = some k) (hx : Rep κ ρ H x v) : ∀ {kvs : List (D × D)} {ks : List (Key × V)}, RepK κ ρ H kvs ks →
    RepK κ ρ H (kvs.map fun kv => if eqF kv.1 d = true then (kv.1, x) else kv) (ks.map fun kv => if kv.1 = k then (kv.1, v) else kv)
  | [], ks, r => by
    have e : ks = [] := r
    subst e
    rfl
  | p :: kvs, ks, r => by
    obtain ⟨l, u, r', rfl, h1, h2, h3⟩ := r
    have e := key_eqF h1 hk
    rw [List.map_cons, List.map_cons]
    by_cases hl : l = k
    · subst hl
      rw [if_pos (show eqF p.1 d = true by rw [e]; simp), if_pos rfl]
      exact ⟨l, v, _, rfl, h1, hx, mapK hk hx h3⟩
    · rw [if_neg (show ¬ eqF p.1 d = true by rw [e, decide_eq_false hl]; simp), if_neg hl]
      exact ⟨l, u, _, rfl, h1, h2, mapK hk hx h3⟩
theorem appK {κ ρ H} {d x : D} {v : V} {k : Key} (hk : keyD d = some k) (hx : Rep κ ρ H x v) : ∀ {kvs : List (D × D)} {ks : List (Key × V)}, RepK κ ρ H kvs ks → RepK κ ρ H (kvs ++ [(d, x)]) (ks ++ [(k, v)])
  | [], ks, r => by
    have e : ks = [] := r
    subst e
    exact ⟨k, v, [], rfl, hk, hx, rfl⟩
  | p :: kvs, ks, r => by
    obtain ⟨l, u, r', rfl, h1, h2, h3⟩ := r
    exact ⟨l, u, _, rfl, h1, h2, appK hk hx h3⟩
theorem putKD {κ ρ H} {d x : D} {v : V} {k : Key} (hk : keyD d = some k) (hx : Rep κ ρ H x v) {kvs : List (D × D)} {ks : List (Key × V)} (r : RepK κ ρ H kvs ks) : RepK κ ρ H (putD kvs d x) (putK ks k v) := by
  unfold putD putK
  rw [anyK hk r]
  split
  · exact mapK hk hx r
  · exact appK hk hx r
theorem lenK {κ ρ H} : ∀ {kvs : List (D × D)} {ks : List (Key × V)}, RepK κ ρ H kvs ks → kvs.length = ks.length
  | [], ks, r => by
    have e : ks = [] := r
    subst e
    rfl
  | p :: kvs, ks, r => by
    obtain ⟨l, u, r', rfl, h1, h2, h3⟩ := r
    rw [List.length_cons, List.length_cons, lenK h3]
theorem mergeKD {κ ρ H} : ∀ {more : List (D × D)} {ms : List (Key × V)} {kvs : List (D × D)} {ks : List (Key × V)}, RepK κ ρ H more ms → RepK κ ρ H kvs ks → RepK κ ρ H (mergeD kvs more) (mergeK ks ms)
  | [], ms, kvs, ks, r, q => by
    have e : ms = [] := r
    subst e
    exact q
  | p :: more, ms, kvs, ks, r, q => by
    obtain ⟨l, u, r', rfl, h1, h2, h3⟩ := r
    show RepK κ ρ H (mergeD (putD kvs p.1 p.2) more) (mergeK (putK ks l u) r')
    exact mergeKD h3 (putKD h1 h2 q)
theorem Rel.dic {κ ρ H μ} (r : Rel κ ρ H μ) {n : Nat} {a : Addr} {kvs : List (D × D)} (h : μ[n]? = some (.dic kvs)) (ha : ρ[n]? = some a) :
    ∃ ks, H a = some (.dK ks) ∧ RepK κ ρ H kvs ks := by
  obtain ⟨o, h1, h2⟩ := r.at ha
  rw [h1] at h
  cases h
  exact h2
end Tk

namespace Tk
open PySem PySem.Spec PyProof.Rows L2

/-! ### calls -/
def spM (κ : Kx) (n : Nat) (g : List D → Mu → Res D) : Sp := fun vs H Q E => ∃ ρ μ ds, ds.length = n ∧ Rel κ ρ H μ ∧ Reps κ ρ H ds vs ∧ Post κ (Rep κ) (fun cls d _ H => E cls d H) [] ρ H (g ds μ) Q
theorem Post.conv {κ : Kx} {α β : Type} {Ra : List Addr → Hp → α → β → Prop} {W W' : WX} {σ σ' : L2.St} {ρ H} {r : Res α} {Q : β → Hp → Prop} (h : Post κ Ra W σ ρ H r Q) (hw : ∀ c d H, W c d σ H → W' c d σ' H) : Post κ Ra W' σ' ρ H r Q := by
  cases r with
  | ok d μ => exact h
  | exc c fs μ => exact fun ρ2 H2 dd gs e2 r2 h2 f2 => hw _ _ _ (h ρ2 H2 dd gs e2 r2 h2 f2)
  | stuck => exact h
theorem Post.swap {κ : Kx} {α β : Type} {Ra : List Addr → Hp → α → β → Prop} {W W' : WX} {σ σ' : L2.St} {ρ H} {r : Res α} {Q : β → Hp → Prop} (h : Post κ Ra W σ ρ H r.noexc Q) : Post κ Ra W' σ' ρ H r Q := by
  cases r with
  | ok d μ => exact h
  | exc c fs μ => exact False.elim h
  | stuck => exact h
section
variable {κ : Kx} {α β γ δ' : Type} {Ra : List Addr → Hp → α → β → Prop} {Rc : List Addr → Hp → γ → δ' → Prop} {W W' : WX} {σ σ' : L2.St} {ρ ρ' : List Addr} {H H' : Hp} {δ : Dl} {μ : Mu}
theorem gon {m : Dl → Mu → Res α} {f : α → Mu → Res γ} {Q : δ' → Hp → Prop} {Q' : β → Hp → Prop} (s : RepS κ ρ H δ σ') (r : Rel κ ρ H μ) (h : Post κ Rc W σ ρ H ((m δ μ).noexc.bind f) Q)
    (k : ∀ ρ1 H1 a v μ1, Ext ρ H ρ1 H1 → RepS κ ρ1 H1 δ σ' → Rel κ ρ1 H1 μ1 → Ra ρ1 H1 a v → Post κ Rc W σ ρ1 H1 (f a μ1) Q → Q' v H1) : tG κ Ra W' m σ' H Q' :=
  ⟨ρ, δ, μ, s, r, ((Post.bind h).mono fun v H1 ⟨ρ1, a, μ1, e, r1, x, p⟩ => k ρ1 H1 a v μ1 e (s.ext e) r1 x p).swap⟩
end
section
variable {κ : Kx} {X : Cx} {W : WX} {e a b c : Expr} {es : List Expr} {pos p p2 : Pos} {m ma mb mc : Dl → Mu → Res D} {mt mu mw : Dl → Mu → Res Bool} {ms : Dl → Mu → Res (List D)}
theorem je_call {g : List D → Mu → Res D} {n k : Nat} {f : Addr} {fd : FuncData} {ps : List Str} {x : Str} (F : FnOk X.prog X.w X.K X.mg X.base (L2.CX X.prog X.w) k f fd ps (spM κ n g)) (hr : Room k X.A) (hg : Gl X x) (hm : X.mg x = some (.ref f)) (hk : PySem.W.keepIn X.K (.ref f) = true) (hb : Binds X.K fd ps [])
    (tk : Takes X W) (hn : ∀ ds μ, ds.length ≠ n → g ds μ = .stuck) (ha : JA κ X W (e :: es) ms) (hdb : (x == ("__debug__" : Str)) = false) (he : starEach (e :: es) X.env = (false, eval e X.env) :: starEach es X.env) (hpl : (backTo pos (starEach es X.env)).any (·.1) = false) :
    JE κ X W (.Call (.Name x p) (e :: es) [] pos) (fun δ μ => (ms δ μ).bind fun ds μ1 => g ds μ1) :=
  pe_imp (pe_callS F hr hg hm hk hb (fun σ => passAt tk σ) ha hdb he hpl) fun σ H Q ⟨ρ, δ, μ, s, r, q⟩ =>
    gox s r q fun ρ1 H1 ds vs μ1 e1 s1 r1 x1 p1 => ⟨ρ1, μ1, ds, by
      by_cases hl : ds.length = n
      · exact hl
      · rw [hn ds μ1 hl] at p1
        exact p1.elim, r1, x1, p1.conv fun c d H z => z⟩
theorem je_blt {bb : Blt} {x : Str} (hc : CJ κ X (bltV bb) (bltD bb)) (hx : x = bltN bb) (hg : Gl X x) (hm : X.mg x = none) (ha : JA κ X W (e :: es) ms)
    (he : starEach (e :: es) X.env = (false, eval e X.env) :: starEach es X.env) (hpl : (backTo pos (starEach es X.env)).any (·.1) = false) :
    JE κ X W (.Call (.Name x p) (e :: es) [] pos) (fun δ μ => (ms δ μ).bind fun ds μ1 => bltD bb ds μ1) := by
  subst hx
  have fin : ∀ σ H Q, tE κ W (fun δ μ => (ms δ μ).bind fun ds μ1 => bltD bb ds μ1) σ H Q → tCB (fun vs H Q => ∃ ρ μ ds W σ, Rel κ ρ H μ ∧ Reps κ ρ H ds vs ∧ Post κ (Rep κ) W σ ρ H (bltD bb ds μ) Q) (tA κ W ms) σ H Q := fun σ H Q ⟨ρ, δ, μ, s, r, q⟩ =>
    gox s r q fun ρ1 H1 ds vs μ1 e1 s1 r1 x1 p1 => ⟨ρ1, μ1, ds, W, σ, r1, x1, p1⟩
  cases bb with
  | len => exact pe_imp (pe_callB hc hg hm PySem.boot_len ha (by decide +kernel) (by decide +kernel) he hpl) fin
  | max => exact pe_imp (pe_callB hc hg hm (by decide +kernel) ha (by decide +kernel) (by decide +kernel) he hpl) fin
  | min => exact pe_imp (pe_callB hc hg hm (by decide +kernel) ha (by decide +kernel) (by decide +kernel) he hpl) fin
  | sorted => exact pe_imp (pe_callB hc hg hm (by decide +kernel) ha (by decide +kernel) (by decide +kernel) he hpl) fin
  | abs => exact pe_imp (pe_callB hc hg hm (by decide +kernel) ha (by decide +kernel) (by decide +kernel) he hpl) fin
  | isi => exact pe_imp (pe_callB hc hg hm (by decide +kernel) ha (by decide +kernel) (by decide +kernel) he hpl) fin
  | int => exact pe_imp (pe_callTy hc hg hm (by decide +kernel) ha (by decide +kernel) (by decide +kernel) he hpl) fin
  | list => exact pe_imp (pe_callTy hc hg hm (by decide +kernel) ha (by decide +kernel) (by decide +kernel) he hpl) fin
  | tuple => exact pe_imp (pe_callTy hc hg hm (by decide +kernel) ha (by decide +kernel) (by decide +kernel) he hpl) fin
  | str => exact pe_imp (pe_callTy hc hg hm (by decide +kernel) ha (by decide +kernel) (by decide +kernel) he hpl) fin

/-! methods of lists and dicts -/
variable (hK : X.K = κ.K)
include hK
theorem mk_lst {ρ H μ x v} (r : Rel κ ρ H μ) (h : isLst x μ = true) (hx : Rep κ ρ H x v) : ∃ n a vs, x = .loc n ∧ v = .ref a ∧ ρ[n]? = some a ∧ H a = some (.lst vs) ∧ tyV X.K "list" v H := by
  unfold isLst at h
  split at h
  · obtain ⟨a, g0, rfl⟩ := rep_loc.mp hx
    split at h
    · rename_i hl
      obtain ⟨vs, h1, h2⟩ := r.lst hl g0
      exact ⟨_, a, vs, rfl, rfl, g0, h1, .inl ⟨rfl, vs, SqL.of h1⟩⟩
    · cases h
  · cases h
theorem je_append {apos cpos : Pos} (ha : JE κ X W a ma) (hs : JA κ X W (e :: es) ms)
    (hbase : attributeBase a "append" X.env (eval a X.env) = eval a X.env)
    (hfew : ((backTo cpos (starEach (e :: es) X.env)).all (fun x => !x.1) && (backToKw cpos (keywordEach [] X.env)).all (fun x => x.1.isSome)
      && decide ((e :: es).length + ([] : List Keyword).length + (if ([] : List Keyword).isEmpty then 0 else 1) < 30)) = true)
    (hline : (apos.endLine == cpos.line) = true) (he : starEach (e :: es) X.env = (false, eval e X.env) :: starEach es X.env) (hpl : (backTo cpos (starEach es X.env)).any (·.1) = false) :
    JE κ X W (.Call (.Attribute a "append" apos) (e :: es) [] cpos) (fun δ μ => (ma δ μ).bind fun x μ1 => if mkD .append x μ1 = true then (ms δ μ1).bind fun ds μ2 => mthD .append x ds μ2 else .stuck) :=
  pe_imp (pe_bm PySem.F.plainAttrs_list PySem.F.slot_list_append PySem.F.type_list_append mt_append ha hs hbase hfew hline he hpl) fun σ H Q ⟨ρ, δ, μ, s, r, q⟩ =>
    gox s r q fun ρ1 H1 x v μ1 e1 s1 r1 x1 p1 => by
      split at p1
      · rename_i hk
        obtain ⟨n, l, vs, rfl, rfl, g0, h1, h2⟩ := mk_lst hK r1 hk x1
        refine ⟨h2, gox s1 r1 p1 fun ρ2 H2 ds ws μ2 e2 s2 r2 x2 p2 => ?_⟩
        have p2' : Post κ (Rep κ) W σ ρ2 H2 (appendD (.loc n) ds μ2) Q := p2
        unfold appendD at p2'
        split at p2'
        · rename_i heq1
          cases heq1
          split at p2'
          · rename_i xs hl
            split at p2'
            · rename_i hlen
              obtain ⟨w, rfl, x3⟩ := reps1 x2
              obtain ⟨us, h3, h4⟩ := r2.lst hl (e2.pre _ _ g0)
              obtain ⟨r3, e3⟩ := r2.wlst (e2.pre _ _ g0) h3 (h4.append (.cons x3 .nil))
              exact ⟨l, us, w, rfl, rfl, h3, by rw [← h4.len]; exact hlen, p2' ρ2 _ _ e3 r3 (rep_non.mpr rfl)⟩
            · exact p2'.elim
          · exact p2'.elim
        · exact p2'.elim
      · exact p1.elim
theorem mk_dic {ρ H μ x v} (r : Rel κ ρ H μ) (h : isDic x μ = true) (hx : Rep κ ρ H x v) : ∃ n a ks, x = .loc n ∧ v = .ref a ∧ ρ[n]? = some a ∧ H a = some (.dK ks) := by
  unfold isDic at h
  split at h
  · obtain ⟨a, g0, rfl⟩ := rep_loc.mp hx
    split at h
    · rename_i hl
      obtain ⟨ks, h1, h2⟩ := r.dic hl g0
      exact ⟨_, a, ks, rfl, rfl, g0, h1⟩
    · cases h
  · cases h
omit hK in
theorem getD_rep {ρ H d k kvs ks x v} (hk : keyD d = some k) (r : RepK κ ρ H kvs ks) (hx : Rep κ ρ H x v) : Rep κ ρ H ((valD kvs d).getD x) ((valV ks k).getD v) := by
  have h := valK hk r
  cases e1 : valD kvs d with
  | none =>
    cases e2 : valV ks k with
    | none => exact hx
    | some w => rw [e1, e2] at h; exact h.elim
  | some y =>
    cases e2 : valV ks k with
    | none => rw [e1, e2] at h; exact h.elim
    | some w => rw [e1, e2] at h; exact h
theorem je_get2 {apos cpos : Pos} (hu : X.A.units + 1 < cLine) (ha : JE κ X W a ma) (hb : JE κ X W b mb) (hc : JE κ X W c mc) (m2 : M2 X a "get" apos b c cpos) :
    JE κ X W (.Call (.Attribute a "get" apos) [b, c] [] cpos) (fun δ μ => (ma δ μ).bind fun x μ1 => if mkD .get x μ1 = true then ((mb δ μ1).bind fun d μ2 => ((mc δ μ2).bind fun d' μ3 => .ok [d'] μ3).bind fun ds μ3 => .ok (d :: ds) μ3).bind fun ds μ2 => mthD .get x ds μ2 else .stuck) :=
  pe_imp (pe_dget2 hu ha hb hc m2) fun σ H Q ⟨ρ, δ, μ, s, r, q⟩ =>
    gox s r q fun ρ1 H1 x v μ1 e1 s1 r1 x1 p1 => by
      split at p1
      · rename_i hk
        obtain ⟨n, l, ks, rfl, rfl, g0, h1⟩ := mk_dic hK r1 hk x1
        refine ⟨l, rfl, .inl ⟨ks, .inl h1⟩, ?_⟩
        have p1' : Post κ (Rep κ) W σ ρ1 H1 ((mb δ μ1).bind fun d μ2 => (mc δ μ2).bind fun d' μ3 => mthD .get (.loc n) [d, d'] μ3) Q := by
          cases hb' : mb δ μ1 with
          | ok d μ2 =>
            rw [hb'] at p1
            cases hc' : mc δ μ2 with
            | ok d2 μ3 => simp only [Res.bind, hc'] at p1 ⊢; exact p1
            | exc _ _ _ => simp only [Res.bind, hc'] at p1 ⊢; exact p1
            | stuck => simp only [Res.bind, hc'] at p1 ⊢; exact p1
          | exc _ _ _ => rw [hb'] at p1; exact p1
          | stuck => rw [hb'] at p1; exact p1
        refine gox s1 r1 p1' fun ρ2 H2 d w μ2 e2 s2 r2 x2 p2 => gox s2 r2 p2 fun ρ3 H3 d' w' μ3 e3 s3 r3 x3 p3 => ?_
        replace p3 : Post κ (Rep κ) W σ ρ3 H3 (getD (.loc n) [d, d'] μ3) Q := p3
        unfold getD at p3
        dsimp only at p3
        split at p3
        · rename_i kvs hd
          split at p3
          · rename_i k hk'
            obtain ⟨ks', h3, h4⟩ := r3.dic hd (e3.pre _ _ (e2.pre _ _ g0))
            have ew := rep_key hk' (x2.ext e3)
            subst ew
            exact ⟨_, .k h3, p3.ok r3 (getD_rep hk' h4 x3)⟩
          · exact p3.elim
        · exact p3.elim
      · exact p1.elim
end
end Tk

namespace Tk
open PySem PySem.Spec PyProof.Rows L2

/-! ### targets of names -/
mutual
def tgN : Tg → List Nat
  | .name i => [i]
  | .tup ts => tgNs ts
def tgNs : List Tg → List Nat
  | [] => []
  | t :: ts => tgN t ++ tgNs ts
end
def GOk (κ : Kx) (g : TG) (t : Tg) : Prop := ∀ ρ H x d σ δ δ1, RepS κ ρ H δ σ → Rep κ ρ H d x → bindG t d δ = some δ1 →
  ∀ Q : L2.St → Hp → Prop, (∀ σ2, RepS κ ρ H δ1 σ2 → (σ2.length = σ.length ∧ ∀ (j : Nat), j ∉ tgN t → σ2[j]? = σ[j]?) → Q σ2 H) → g x σ H Q
def GsOk (κ : Kx) (g : TGs) (t : List Tg) : Prop := ∀ ρ H xs ds σ δ δ1, RepS κ ρ H δ σ → Reps κ ρ H ds xs → bindGs t ds δ = some δ1 →
  ∀ Q : L2.St → Hp → Prop, (∀ σ2, RepS κ ρ H δ1 σ2 → (σ2.length = σ.length ∧ ∀ (j : Nat), j ∉ tgNs t → σ2[j]? = σ[j]?) → Q σ2 H) → g xs σ H Q
theorem gok_name {κ : Kx} {i : Nat} : GOk κ (gName i) (.name i) := by
  intro ρ H x d σ δ δ1 s hx hb Q k
  unfold bindG at hb
  cases hb
  refine k _ (s.set hx i) ⟨List.length_set, fun j hj => ?_⟩
  rw [List.getElem?_set_ne]
  intro e
  apply hj
  unfold tgN
  rw [e]
  exact List.mem_cons_self
theorem gsok_nil {κ : Kx} : GsOk κ gNil [] := by
  intro ρ H xs ds σ δ δ1 s hx hb Q k
  cases ds with
  | nil =>
    unfold bindGs at hb
    cases hb
    unfold Reps at hx
    exact ⟨hx, k σ s ⟨rfl, fun _ _ => rfl⟩⟩
  | cons d ds =>
    unfold bindGs at hb
    cases hb
theorem gsok_cons {κ : Kx} {g : TG} {gs : TGs} {t : Tg} {ts : List Tg} (h : GOk κ g t) (hs : GsOk κ gs ts) : GsOk κ (gCons g gs) (t :: ts) := by
  intro ρ H xs ds σ δ δ1 s hx hb Q k
  cases ds with
  | nil =>
    unfold bindGs at hb
    cases hb
  | cons d ds =>
    unfold bindGs at hb
    obtain ⟨δ2, h1, h2⟩ := Option.bind_eq_some_iff.mp hb
    unfold Reps at hx
    obtain ⟨v, w, rfl, h3, h4⟩ := hx
    refine ⟨v, w, rfl, h ρ H v d σ δ δ2 s h3 h1 _ fun σ2 s2 ⟨l2, e2⟩ => hs ρ H w ds σ2 δ2 δ1 s2 h4 h2 _ fun σ3 s3 ⟨l3, e3⟩ => k σ3 s3 ⟨l3.trans l2, fun j hj => ?_⟩⟩
    unfold tgNs at hj
    rw [List.mem_append, not_or] at hj
    rw [e3 j hj.2, e2 j hj.1]
theorem gok_tup {κ : Kx} {K : PySem.W.Frag} (hK : K = κ.K) {gs : TGs} {ts : List Tg} (hs : GsOk κ gs ts) : GOk κ (gTup K ts.length gs) (.tup ts) := by
  intro ρ H x d σ δ δ1 s hx hb Q k
  cases d with
  | tup ds =>
    unfold bindG at hb
    obtain ⟨a, xs, rfl, h1, h2⟩ := rep_tup.mp hx
    refine ⟨a, xs, rfl, hK ▸ h1, ?_, hs ρ H xs ds σ δ δ1 s h2 hb Q fun σ2 s2 e2 => k σ2 s2 ⟨e2.1, fun j hj => e2.2 j (by unfold tgN at hj; exact hj)⟩⟩
    rw [← h2.len]
    have : ∀ (ts : List Tg) (ds : List D) (δ δ1 : Dl), bindGs ts ds δ = some δ1 → ds.length = ts.length := by
      intro ts
      induction ts with
      | nil =>
        intro ds δ δ1 h
        cases ds with
        | nil => rfl
        | cons d ds => unfold bindGs at h; cases h
      | cons t ts ih =>
        intro ds δ δ1 h
        cases ds with
        | nil => unfold bindGs at h; cases h
        | cons d ds =>
          unfold bindGs at h
          obtain ⟨δ2, h1, h2⟩ := Option.bind_eq_some_iff.mp h
          rw [List.length_cons, List.length_cons, ih ds δ2 δ1 h2]
    exact this ts ds δ δ1 hb
  | _ => unfold bindG at hb; cases hb

/-! ### wiping -/
theorem wipe_at (σ : L2.St) : ∀ (vs : List Nat) (j : Nat), (wipe σ vs)[j]? = if j ∈ vs then (if j < σ.length then some none else none) else σ[j]?
  | [], j => by simp [wipe]
  | v :: vs, j => by
    unfold wipe
    by_cases hj : v = j
    · subst hj
      rw [if_pos List.mem_cons_self]
      by_cases hl : v < σ.length
      · rw [if_pos hl, List.getElem?_set_self (by rw [wipe_length]; exact hl)]
      · rw [if_neg hl, List.getElem?_eq_none (by rw [List.length_set, wipe_length]; omega)]
    · rw [List.getElem?_set_ne hj, wipe_at σ vs j]
      have e : (j ∈ v :: vs) ↔ j ∈ vs := by
        rw [List.mem_cons]
        exact ⟨fun h => h.elim (fun e => absurd e.symm hj) id, .inr⟩
      by_cases hm : j ∈ vs
      · rw [if_pos hm, if_pos (e.mpr hm)]
      · rw [if_neg hm, if_neg (fun z => hm (e.mp z))]
theorem wipe_eq {σ σ2 : L2.St} {vs : List Nat} (hl : σ2.length = σ.length) (h : ∀ j, j ∉ vs → σ2[j]? = σ[j]?) : wipe σ2 vs = wipe σ vs := by
  apply List.ext_getElem?
  intro j
  rw [wipe_at, wipe_at, hl]
  by_cases hj : j ∈ vs
  · rw [if_pos hj, if_pos hj]
  · rw [if_neg hj, if_neg hj, h j hj]
theorem wipe_wipe {σ : L2.St} {vs : List Nat} : wipe (wipe σ vs) vs = wipe σ vs := by
  refine wipe_eq (wipe_length σ vs) fun j hj => ?_
  rw [wipe_at, if_neg hj]
theorem RepS.wipe {κ ρ H} {δ : Dl} {σ : L2.St} (h : RepS κ ρ H δ σ) : ∀ vs : List Nat, RepS κ ρ H (wipeD δ vs) (L2.wipe σ vs)
  | [] => h
  | v :: vs => (h.wipe vs).off v

/-! ### what is walked -/
def SrcOk (κ : Kx) (ρ0 : List Addr) (H0 : Hp) (s : Src) (J : It) : Prop := ∀ i ρ H μ, Ext ρ0 H0 ρ H → Rel κ ρ H μ → match s.at_ i μ with
  | some (some d) => J.go i H ∧ ∀ x H', J.yld i H x H' → Ext ρ H ρ H' ∧ Rel κ ρ H' μ ∧ Rep κ ρ H' d x
  | some none => J.stop i H
  | none => True
section
variable {κ : Kx} {X : Cx} {W : WX} {e a b c tg : Expr} {es : List Expr} {pos p p2 : Pos} {m ma mb mc : Dl → Mu → Res D} {mt mu mw : Dl → Mu → Res Bool} {ms : Dl → Mu → Res (List D)}
abbrev JI (κ : Kx) (X : Cx) (W : WX) (tg e : Expr) (m : Dl → Mu → Res Src) : Prop := PI X tg e (tG κ (SrcOk κ) W m)
theorem pi_or {t t' : TI} (h : PI X tg e t) (h' : PI X tg e t') : PI X tg e (fun σ H R => t σ H R ∨ t' σ H R) := ⟨fun pins s σ H R I q => by
  rcases q with q | q
  · exact h.run pins s σ H R I q
  · exact h'.run pins s σ H R I q⟩
theorem src_tup {ρ H a xs ds} (h1 : SqT κ.K H a xs) (h2 : Reps κ ρ H ds xs) : SrcOk κ ρ H (.items ds) (Itt κ.K a) := by
  intro i ρ' H' μ e r
  show match some ds[i]? with
    | some (some d) => _
    | some none => _
    | none => True
  cases hd : ds[i]? with
  | none => exact ⟨xs, e.sqt h1, by rw [← h2.len]; exact List.getElem?_eq_none_iff.mp hd⟩
  | some d =>
    obtain ⟨v, h3, h4⟩ := h2.at_ i d hd
    refine ⟨⟨xs, v, e.sqt h1, h3⟩, fun x H2 ⟨e2, y⟩ => ?_⟩
    subst e2
    have := y xs (e.sqt h1)
    rw [h3] at this
    cases this
    exact ⟨.refl, r, h4.ext e⟩
theorem src_live {ρ H a n} (h1 : ρ[n]? = some a) : SrcOk κ ρ H (.live n) (Itl κ.K a) := by
  intro i ρ' H' μ e r
  show match (lstAt μ n).map (fun xs => xs[i]?) with
    | some (some d) => _
    | some none => _
    | none => True
  cases hl : lstAt μ n with
  | none => trivial
  | some xs =>
    obtain ⟨vs, h2, h3⟩ := r.sql hl (e.pre _ _ h1)
    show match some (xs[i]?) with
      | some (some d) => _
      | some none => _
      | none => True
    cases hd : xs[i]? with
    | none => exact ⟨vs, h2, by rw [← h3.len]; exact List.getElem?_eq_none_iff.mp hd⟩
    | some d =>
      obtain ⟨v, h4, h5⟩ := h3.at_ i d hd
      refine ⟨⟨vs, v, h2, h4⟩, fun x H2 ⟨e2, y⟩ => ?_⟩
      subst e2
      have := y vs h2
      rw [h4] at this
      cases this
      exact ⟨.refl, r, h5⟩
theorem src_rng {ρ H lo n} : SrcOk κ ρ H (.rng lo n) (Itr lo n) := by
  intro i ρ' H' μ e r
  show match some (if i < n then some (D.int (lo + i)) else none) with
    | some (some d) => _
    | some none => _
    | none => True
  by_cases hi : i < n
  · rw [if_pos hi]
    exact ⟨hi, fun x H2 ⟨e2, e3⟩ => by
      subst e2; subst e3
      exact ⟨.refl, r, rep_int.mpr rfl⟩⟩
  · rw [if_neg hi]
    exact Nat.le_of_not_lt hi
theorem ji_val (hK : X.K = κ.K) (ha : JE κ X W a ma) : JI κ X W tg a (fun δ μ => (ma δ μ).bind fun d μ1 => match d with
    | .tup ds => .ok (.items ds) μ1
    | .loc n => (match lstAt μ1 n with
      | some _ => .ok (.live n) μ1
      | none => .stuck)
    | _ => .stuck) :=
  pi_imp (pi_or (pi_list ha) (pi_tup ha)) fun σ H R ⟨ρ, δ, μ, s, r, q⟩ => by
    dsimp only at q
    cases hm : ma δ μ with
    | ok d μ1 =>
      rw [hm] at q
      dsimp only [Res.bind] at q
      cases d with
      | tup ds =>
        refine .inr ⟨ρ, δ, μ, s, r, ?_⟩
        rw [hm]
        intro ρ' H' v e r' hv
        obtain ⟨a', xs, rfl, h1, h2⟩ := rep_tup.mp hv
        refine ⟨a', rfl, ⟨xs, hK ▸ h1⟩, ?_⟩
        rw [hK]
        exact q ρ' H' _ e r' (src_tup h1 h2)
      | loc n =>
        refine .inl ⟨ρ, δ, μ, s, r, ?_⟩
        rw [hm]
        intro ρ' H' v e r' hv
        obtain ⟨a', h0, rfl⟩ := rep_loc.mp hv
        dsimp only at q
        split at q
        · rename_i xs hl
          obtain ⟨vs, h2, h3⟩ := r'.sql hl h0
          refine ⟨a', rfl, ⟨vs, hK ▸ h2⟩, ?_⟩
          rw [hK]
          exact q ρ' H' _ e r' (src_live h0)
        · exact q.elim
      | _ => exact q.elim
    | exc c fs μ1 =>
      rw [hm] at q
      refine .inl ⟨ρ, δ, μ, s, r, ?_⟩
      rw [hm]
      exact q
    | stuck =>
      rw [hm] at q
      exact q.elim
theorem ji_rng1 {x : Str} (hx : x = "range") (hg : Gl X "range") (hm : X.mg "range" = none) (ha : JE κ X W a ma) (hs : starEach [a] X.env = [(false, eval a X.env)]) : JI κ X W tg (.Call (.Name x p) [a] [] pos) (fun δ μ => (ma δ μ).bind fun d μ1 => match d with
    | .int n => if -(2 ^ 62) ≤ n ∧ n < 2 ^ 62 then .ok (.rng 0 n.toNat) μ1 else .stuck
    | _ => .stuck) := by
  subst hx
  have hA : JA κ X W [a] (fun δ μ => (ma δ μ).bind fun d μ1 => (Res.ok [] μ1).bind fun ds μ2 => .ok (d :: ds) μ2) := ja_cons ha ja_nil (by rw [hs]; rfl)
  refine pi_imp (pi_range1 hg hm hA hs) fun σ H R ⟨ρ, δ, μ, s, r, q⟩ => ?_
  have q' : Post κ (SrcOk κ) W σ ρ H (((ma δ μ).bind fun d μ1 => (Res.ok [] μ1).bind fun ds μ2 => Res.ok (d :: ds) μ2).bind fun ds μ1 => match ds with
      | [.int n] => if -(2 ^ 62) ≤ n ∧ n < 2 ^ 62 then .ok (.rng 0 n.toNat) μ1 else .stuck
      | _ => .stuck) R := by
    dsimp only at q
    cases hm : ma δ μ with
    | ok d μ1 =>
      rw [hm] at q
      cases d <;> exact q
    | exc c fs μ1 => rw [hm] at q; exact q
    | stuck => rw [hm] at q; exact q
  refine gox (m := fun δ μ => (ma δ μ).bind fun d μ1 => (Res.ok [] μ1).bind fun ds μ2 => .ok (d :: ds) μ2) s r q' fun ρ1 H1 ds vs μ1 e1 s1 r1 x1 p1 => ?_
  split at p1
  · split at p1
    · rename_i n hb
      obtain ⟨v, rfl, h1⟩ := reps1 x1
      obtain rfl := rep_int.mp h1
      exact ⟨n, rfl, hb.1, hb.2, p1.ok r1 src_rng⟩
    · exact p1.elim
  · exact p1.elim
theorem ji_rng2 {x : Str} (hx : x = "range") (hg : Gl X "range") (hm : X.mg "range" = none) (ha : JE κ X W a ma) (hb : JE κ X W b mb) (hs : starEach [a, b] X.env = [(false, eval a X.env), (false, eval b X.env)]) (hs2 : starEach [b] X.env = [(false, eval b X.env)]) :
    JI κ X W tg (.Call (.Name x p) [a, b] [] pos) (fun δ μ => (ma δ μ).bind fun d μ1 => (mb δ μ1).bind fun d2 μ2 => match d, d2 with
    | .int i, .int j => if -(2 ^ 62) ≤ i ∧ i < 2 ^ 62 ∧ -(2 ^ 62) ≤ j ∧ j < 2 ^ 62 then .ok (.rng i (j - i).toNat) μ2 else .stuck
    | _, _ => .stuck) := by
  subst hx
  have hA : JA κ X W [a, b] (fun δ μ => (ma δ μ).bind fun d μ1 => ((mb δ μ1).bind fun d2 μ2 => (Res.ok [] μ2).bind fun ds μ3 => .ok (d2 :: ds) μ3).bind fun ds μ2 => .ok (d :: ds) μ2) := ja_cons ha (ja_cons hb ja_nil (by rw [hs2]; rfl)) (by rw [hs, hs2])
  refine pi_imp (pi_range2 hg hm hA hs hs2) fun σ H R ⟨ρ, δ, μ, s, r, q⟩ => ?_
  have q' : Post κ (SrcOk κ) W σ ρ H (((ma δ μ).bind fun d μ1 => ((mb δ μ1).bind fun d2 μ2 => (Res.ok [] μ2).bind fun ds μ3 => Res.ok (d2 :: ds) μ3).bind fun ds μ2 => Res.ok (d :: ds) μ2).bind fun ds μ1 => match ds with
      | [.int i, .int j] => if -(2 ^ 62) ≤ i ∧ i < 2 ^ 62 ∧ -(2 ^ 62) ≤ j ∧ j < 2 ^ 62 then .ok (.rng i (j - i).toNat) μ1 else .stuck
      | _ => .stuck) R := by
    dsimp only at q
    cases hm : ma δ μ with
    | ok d μ1 =>
      rw [hm] at q
      dsimp only [Res.bind] at q ⊢
      cases hm2 : mb δ μ1 with
      | ok d2 μ2 =>
        rw [hm2] at q
        cases d <;> cases d2 <;> exact q
      | exc c fs μ1 => rw [hm2] at q; exact q
      | stuck => rw [hm2] at q; exact q
    | exc c fs μ1 => rw [hm] at q; exact q
    | stuck => rw [hm] at q; exact q
  refine gox (m := fun δ μ => (ma δ μ).bind fun d μ1 => ((mb δ μ1).bind fun d2 μ2 => (Res.ok [] μ2).bind fun ds μ3 => .ok (d2 :: ds) μ3).bind fun ds μ2 => .ok (d :: ds) μ2) s r q' fun ρ1 H1 ds vs μ1 e1 s1 r1 x1 p1 => ?_
  split at p1
  · split at p1
    · rename_i i j hb
      obtain ⟨v, w, rfl, h1, h2⟩ := reps2 x1
      obtain rfl := rep_int.mp h1
      obtain rfl := rep_int.mp h2
      exact ⟨i, j, rfl, hb, p1.ok r1 src_rng⟩
    · exact p1.elim
  · exact p1.elim

/-! ### comprehensions -/
abbrev JTs (κ : Kx) (X : Cx) (W : WX) (e : List Expr) (m : Dl → Mu → Res Bool) : Prop := PTs X e (tT κ W m)
theorem pts_imp {es : List Expr} {t t' : TT} (h : PTs X es t) (hi : ∀ σ H Q, t' σ H Q → t σ H Q) : PTs X es t' := ⟨fun pins s σ H Q I q => h.run pins s σ H Q I (hi σ H Q q)⟩
theorem jts_nil : JTs κ X W [] (fun _ μ => .ok true μ) := pts_imp pts_nil fun σ H Q ⟨ρ, δ, μ, s, r, q⟩ => q.ok r rfl
theorem jts_one (h : JT κ X W a mt) : JTs κ X W [a] mt := pts_one h
abbrev W0 : WX := fun _ _ _ _ => False
/-- the reading of a comprehension from its turns -/
theorem lc_read {mi : Dl → Mu → Res Src} {t : Tg} {g : TG} {own : List Nat} {fu : Nat} (hg : GOk κ g t) (hsub : ∀ i ∈ tgN t, i ∈ own) {σ : L2.St} {H : Hp} {Q : VK}
    (h : tE κ W (fun δ μ => (mi δ μ).bind fun src μ1 => lcN (bindG t) mt me src μ1.length (wipeD δ own) fu 0 (μ1 ++ [.lst []])) σ H Q) :
    tLc (tG κ (SrcOk κ) W mi) g (tT κ W0 mt) (tE κ W0 me) own σ H Q := by
  obtain ⟨ρ, δ, μ, s, r, q⟩ := h
  refine gox s r q fun ρ1 H1 src J μ1 e1 s1 r1 x1 p1 => fun D hD => ?_
  have r2 : Rel κ (ρ1 ++ [D]) (upd H1 D (.lst [])) (μ1 ++ [.lst []]) := r1.alloc hD ⟨[], upd_same, .nil⟩
  have e2 : Ext ρ1 H1 (ρ1 ++ [D]) (upd H1 D (.lst [])) := .new hD
  have hl : (ρ1 ++ [D])[μ1.length]? = some D := by
    rw [List.getElem?_append_right (by rw [r1.len]; exact Nat.le_refl _), r1.len, Nat.sub_self]
    rfl
  refine ⟨fun i k H => ∃ ρ μ, Ext (ρ1 ++ [D]) (upd H1 D (.lst [])) ρ H ∧ Rel κ ρ H μ ∧ Post κ (Rep κ) W σ ρ H (lcN (bindG t) mt me src μ1.length (wipeD δ own) k i μ) Q,
    ⟨fu, _, _, .refl, r2, p1.ext e2⟩, fun i k H2 ⟨ρ3, μ3, e3, r3, p3⟩ => ?_⟩
  have sw : RepS κ ρ3 H2 (wipeD δ own) (wipe σ own) := (s1.ext (e2.trans e3)).wipe own
  cases k with
  | zero => exact p3.elim
  | succ k =>
    have so := x1 i ρ3 H2 μ3 (e2.trans e3) r3
    unfold lcN at p3
    cases hat : src.at_ i μ3 with
    | none => rw [hat] at p3; exact p3.elim
    | some o =>
      rw [hat] at so p3
      cases o with
      | none => exact .inl ⟨so, p3.ok r3 (rep_loc.mpr ⟨D, e3.pre _ _ hl, rfl⟩)⟩
      | some d =>
        dsimp only at p3
        cases hb : bindG t d (wipeD δ own) with
        | none => rw [hb] at p3; exact p3.elim
        | some δ1 =>
          rw [hb] at p3
          dsimp only at p3
          refine .inr ⟨so.1, fun H' => ∃ ρ μ, Ext (ρ1 ++ [D]) (upd H1 D (.lst [])) ρ H' ∧ Rel κ ρ H' μ ∧ Post κ (Rep κ) W σ ρ H' (lcN (bindG t) mt me src μ1.length (wipeD δ own) k (i + 1) μ) Q, fun H' hN => ⟨k, Nat.lt_succ_self k, hN⟩, fun x H' hy => ?_⟩
          obtain ⟨ey, ry, xy⟩ := so.2 x H' hy
          refine hg ρ3 H' x d (wipe σ own) (wipeD δ own) δ1 (sw.ext ey) xy hb _ fun σ2 s2 ⟨l2, w2⟩ => ⟨?_, ?_⟩
          · rw [wipe_eq (σ := wipe σ own) l2 (fun j hj => w2 j fun z => hj (hsub j z)), wipe_wipe]
          · refine gon s2 ry (p3.ext ey) fun ρ4 H4 b b' μ4 e4 s4 r4 x4 p4 => ?_
            cases x4
            cases b with
            | false =>
              exact ⟨ρ4, μ4, (e3.trans ey).trans e4, r4, p4⟩
            | true =>
              refine gon s4 r4 p4 fun ρ5 H5 y v μ5 e5 s5 r5 x5 p5 => ?_
              have hl5 := e5.pre _ _ (e4.pre _ _ (ey.pre _ _ (e3.pre _ _ hl)))
              split at p5
              · rename_i acc hacc
                obtain ⟨vs, h6, h7⟩ := r5.lst hacc hl5
                split at p5
                · rename_i hlen
                  obtain ⟨r6, e6⟩ := r5.wlst hl5 h6 (h7.append (.cons x5 .nil))
                  exact ⟨vs, h6, by rw [← h7.len]; exact hlen, ρ5, _, (((e3.trans ey).trans e4).trans e5).trans e6, r6, p5.ext e6⟩
                · exact p5.elim
              · exact p5.elim
end
end Tk

namespace Tk
open PySem PySem.Spec PyProof.Rows L2

section
variable {κ : Kx} {X : Cx} {W : WX} {e a b c tg : Expr} {es : List Expr} {pos p p2 : Pos} {m ma mb mc me : Dl → Mu → Res D} {mt mu mw : Dl → Mu → Res Bool} {ms : Dl → Mu → Res (List D)}
theorem tYes_go {σ : L2.St} {H : Hp} {A B : Hp → Prop} (h : A H) : tYes σ H (fun b H3 => if b = true then A H3 else B H3) := by
  show (if true = true then A H else B H)
  rw [if_pos rfl]
  exact h
theorem lc2_read {mi mi2 : Dl → Mu → Res Src} {t t2 : Tg} {g g2 : TG} {own own2 : List Nat} {fu : Nat} (hg : GOk κ g t) (hsub : ∀ i ∈ tgN t, i ∈ own) (hg2 : GOk κ g2 t2) (hsub2 : ∀ i ∈ tgN t2, i ∈ own2) {σ : L2.St} {H : Hp} {Q : VK}
    (h : tE κ W (fun δ μ => (mi δ μ).bind fun src μ1 => lc2N (bindG t) (fun δ1 μ2 => (mi2 δ1 μ2).noexc.bind fun s2 μ3 => lc2I (bindG t2) me s2 μ1.length (wipeD δ1 own2) fu 0 μ3) src μ1.length (wipeD δ own) fu 0 (μ1 ++ [.lst []])) σ H Q) :
    tLc2 (tG κ (SrcOk κ) W mi) g tYes (tG κ (SrcOk κ) W0 mi2) g2 tYes (tE κ W0 me) own own2 σ H Q := by
  obtain ⟨ρ, δ, μ, s, r, q⟩ := h
  refine gox s r q fun ρ1 H1 src J μ1 e1 s1 r1 x1 p1 => fun D hD => ?_
  have r2 : Rel κ (ρ1 ++ [D]) (upd H1 D (.lst [])) (μ1 ++ [.lst []]) := r1.alloc hD ⟨[], upd_same, .nil⟩
  have e2 : Ext ρ1 H1 (ρ1 ++ [D]) (upd H1 D (.lst [])) := .new hD
  have hl : (ρ1 ++ [D])[μ1.length]? = some D := by
    rw [List.getElem?_append_right (by rw [r1.len]; exact Nat.le_refl _), r1.len, Nat.sub_self]
    rfl
  generalize hin : (fun (δ1 : Dl) (μ2 : Mu) => (mi2 δ1 μ2).noexc.bind fun s2 μ3 => lc2I (bindG t2) me s2 μ1.length (wipeD δ1 own2) fu 0 μ3) = inner at p1
  refine ⟨fun i k H => ∃ ρ μ, Ext (ρ1 ++ [D]) (upd H1 D (.lst [])) ρ H ∧ Rel κ ρ H μ ∧ Post κ (Rep κ) W σ ρ H (lc2N (bindG t) inner src μ1.length (wipeD δ own) k i μ) Q,
    ⟨fu, _, _, .refl, r2, p1.ext e2⟩, fun i k H2 ⟨ρ3, μ3, e3, r3, p3⟩ => ?_⟩
  have sw : RepS κ ρ3 H2 (wipeD δ own) (wipe σ own) := (s1.ext (e2.trans e3)).wipe own
  cases k with
  | zero => exact p3.elim
  | succ k =>
    have so := x1 i ρ3 H2 μ3 (e2.trans e3) r3
    unfold lc2N at p3
    cases hat : src.at_ i μ3 with
    | none => rw [hat] at p3; exact p3.elim
    | some o =>
      rw [hat] at so p3
      cases o with
      | none => exact .inl ⟨so, p3.ok r3 (rep_loc.mpr ⟨D, e3.pre _ _ hl, rfl⟩)⟩
      | some d =>
        dsimp only at p3
        cases hb : bindG t d (wipeD δ own) with
        | none => rw [hb] at p3; exact p3.elim
        | some δ1 =>
          rw [hb] at p3
          dsimp only at p3
          refine .inr ⟨so.1, fun H' => ∃ ρ μ, Ext (ρ1 ++ [D]) (upd H1 D (.lst [])) ρ H' ∧ Rel κ ρ H' μ ∧ Post κ (Rep κ) W σ ρ H' (lc2N (bindG t) inner src μ1.length (wipeD δ own) k (i + 1) μ) Q, fun H' hN => ⟨k, Nat.lt_succ_self k, hN⟩, fun x H' hy => ?_⟩
          obtain ⟨ey, ry, xy⟩ := so.2 x H' hy
          refine hg ρ3 H' x d (wipe σ own) (wipeD δ own) δ1 (sw.ext ey) xy hb _ fun σ2 s2 ⟨l2, w2⟩ => ⟨?_, ?_⟩
          · rw [wipe_eq (σ := wipe σ own) l2 (fun j hj => w2 j fun z => hj (hsub j z)), wipe_wipe]
          · rw [← hin] at p3
            dsimp only at p3
            have p3' : Post κ (Rep κ) W σ ρ3 H' ((mi2 δ1 μ3).noexc.bind fun s3 μ4 => (lc2I (bindG t2) me s3 μ1.length (wipeD δ1 own2) fu 0 μ4).noexc.bind fun _ μ5 => lc2N (bindG t) inner src μ1.length (wipeD δ own) k (i + 1) μ5) Q := by
              rw [hin] at p3
              have p4 := p3.ext ey
              cases hm : mi2 δ1 μ3 with
              | ok s3 μ4 => rw [hm] at p4; exact p4
              | exc _ _ _ => rw [hm] at p4; exact p4
              | stuck => rw [hm] at p4; exact p4
            refine tYes_go ?_
            refine gon s2 ry p3' fun ρ4 H4 src2 J2 μ4 e4 s4 r4 x4 p4 => ?_
            have hl4 := e4.pre _ _ (ey.pre _ _ (e3.pre _ _ hl))
            refine ⟨fun j k2 H => ∃ ρ μ, Ext ρ4 H4 ρ H ∧ Rel κ ρ H μ ∧ Post κ (Rep κ) W σ ρ H ((lc2I (bindG t2) me src2 μ1.length (wipeD δ1 own2) k2 j μ).noexc.bind fun _ μ5 => lc2N (bindG t) inner src μ1.length (wipeD δ own) k (i + 1) μ5) Q,
              ⟨fu, _, _, .refl, r4, p4⟩, fun j k2 H5 ⟨ρ5, μ5, e5, r5, p5⟩ => ?_⟩
            have sw2 : RepS κ ρ5 H5 (wipeD δ1 own2) (wipe σ2 own2) := (s4.ext e5).wipe own2
            cases k2 with
            | zero => exact p5.elim
            | succ k2 =>
              have so2 := x4 j ρ5 H5 μ5 e5 r5
              unfold lc2I at p5
              cases hat2 : src2.at_ j μ5 with
              | none => rw [hat2] at p5; exact p5.elim
              | some o2 =>
                rw [hat2] at so2 p5
                cases o2 with
                | none => exact .inl ⟨so2, ρ5, μ5, ((e3.trans ey).trans e4).trans e5, r5, p5⟩
                | some d2 =>
                  dsimp only at p5
                  cases hb2 : bindG t2 d2 (wipeD δ1 own2) with
                  | none => rw [hb2] at p5; exact p5.elim
                  | some δ2 =>
                    rw [hb2] at p5
                    dsimp only at p5
                    refine .inr ⟨so2.1, fun H' => ∃ ρ μ, Ext ρ4 H4 ρ H' ∧ Rel κ ρ H' μ ∧ Post κ (Rep κ) W σ ρ H' ((lc2I (bindG t2) me src2 μ1.length (wipeD δ1 own2) k2 (j + 1) μ).noexc.bind fun _ μ5 => lc2N (bindG t) inner src μ1.length (wipeD δ own) k (i + 1) μ5) Q, fun H' hN => ⟨k2, Nat.lt_succ_self k2, hN⟩, fun x2 H6 hy2 => ?_⟩
                    obtain ⟨ey2, ry2, xy2⟩ := so2.2 x2 H6 hy2
                    refine hg2 ρ5 H6 x2 d2 (wipe σ2 own2) (wipeD δ1 own2) δ2 (sw2.ext ey2) xy2 hb2 _ fun σ3 s3 ⟨l3, w3⟩ => ⟨?_, ?_⟩
                    · rw [wipe_eq (σ := wipe σ2 own2) l3 (fun j hj => w3 j fun z => hj (hsub2 j z)), wipe_wipe]
                    · refine tYes_go ?_
                      have p6 : Post κ (Rep κ) W σ ρ5 H6 ((me δ2 μ5).noexc.bind fun y μ6 => (match μ6[μ1.length]? with
                          | some (.lst acc) => if acc.length < sizeLine then lc2I (bindG t2) me src2 μ1.length (wipeD δ1 own2) k2 (j + 1) (μ6.set μ1.length (.lst (acc ++ [y]))) else .stuck
                          | _ => .stuck).noexc.bind fun _ μ5 => lc2N (bindG t) inner src μ1.length (wipeD δ own) k (i + 1) μ5) Q := by
                        have p7 := p5.ext ey2
                        cases hm : me δ2 μ5 with
                        | ok y μ6 => rw [hm] at p7; exact p7
                        | exc _ _ _ => rw [hm] at p7; exact p7
                        | stuck => rw [hm] at p7; exact p7
                      refine gon s3 ry2 p6 fun ρ7 H7 y v μ7 e7 s7 r7 x7 p7 => ?_
                      have hl7 := e7.pre _ _ (ey2.pre _ _ (e5.pre _ _ hl4))
                      split at p7
                      · rename_i acc hacc
                        obtain ⟨vs, h6, h7⟩ := r7.lst hacc hl7
                        split at p7
                        · rename_i hlen
                          obtain ⟨r8, e8⟩ := r7.wlst hl7 h6 (h7.append (.cons x7 .nil))
                          exact ⟨vs, h6, by rw [← h7.len]; exact hlen, ρ7, _, ((e5.trans ey2).trans e7).trans e8, r8, p7.ext e8⟩
                        · exact p7.elim
                      · exact p7.elim

/-! ### displays of dicts -/
def RP (κ : Kx) : List Addr → Hp → List (D × D) → List (V × V) → Prop := fun ρ H ds vs => Paired (fun d v => Rep κ ρ H d.1 v.1 ∧ Rep κ ρ H d.2 v.2) ds vs
theorem RP.ext {ρ H ρ' H'} (e : Ext ρ H ρ' H') : ∀ {ds vs}, RP κ ρ H ds vs → RP κ ρ' H' ds vs
  | _, _, .nil => .nil
  | _, _, .cons h t => .cons ⟨h.1.ext e, h.2.ext e⟩ (RP.ext e t)
structure JP (κ : Kx) (X : Cx) (W : WX) (pos : Pos) (ks : List (Option Expr)) (vs : List Expr) (mp : Dl → Mu → Res (List (D × D))) : Prop where
  ex : ∃ trs, PPs X pos ks vs trs ∧ ∀ σ H Q, tG κ (RP κ) W mp σ H Q → tPairs trs σ H Q
theorem jp_nil : JP κ X W pos [] [] (fun _ μ => .ok [] μ) := ⟨[], pps_nil, fun σ H Q ⟨ρ, δ, μ, s, r, q⟩ => q.ok r .nil⟩
theorem jp_cons {ks : List (Option Expr)} {vs : List Expr} {mp : Dl → Mu → Res (List (D × D))} (ha : JE κ X W a ma) (hb : JE κ X W b mb) (hr : JP κ X W pos ks vs mp) :
    JP κ X W pos (some a :: ks) (b :: vs) (fun δ μ => (ma δ μ).bind fun x μ1 => (mb δ μ1).bind fun y μ2 => (mp δ μ2).bind fun ps μ3 => .ok ((x, y) :: ps) μ3) := by
  obtain ⟨trs, h1, h2⟩ := hr
  refine ⟨_, pps_cons ha hb h1, fun σ H Q ⟨ρ, δ, μ, s, r, q⟩ => ?_⟩
  exact gox s r q fun ρ1 H1 d v μ1 e1 s1 r1 x1 p1 => gox s1 r1 p1 fun ρ2 H2 d2 v2 μ2 e2 s2 r2 x2 p2 =>
    h2 _ _ _ (gox s2 r2 p2 fun ρ3 H3 ds ws μ3 e3 s3 r3 x3 p3 => p3.ok r3 (.cons ⟨x1.ext (e2.trans e3), x2.ext e3⟩ x3))
theorem rp_keys {ρ H} : ∀ {ds : List (D × D)} {vs : List (V × V)}, RP κ ρ H ds vs → (ds.all fun kv => (keyD kv.1).isSome) = true → ∃ ks : List (Key × V), vs = ks.map (fun kv => (kV kv.1, kv.2)) ∧ RepK κ ρ H ds ks
  | _, _, .nil, _ => ⟨[], rfl, rfl⟩
  | _, _, .cons (a := d) (b := v) h t, hk => by
    obtain ⟨k1, k2⟩ := Bool.and_eq_true_iff.mp (show ((keyD d.1).isSome && _) = true from hk)
    obtain ⟨k, hk'⟩ := Option.isSome_iff_exists.mp k1
    obtain ⟨ks, rfl, h2⟩ := rp_keys t k2
    refine ⟨(k, v.2) :: ks, ?_, k, v.2, ks, rfl, hk', h.2, h2⟩
    rw [List.map_cons, ← rep_key hk' h.1]
theorem je_dic {ks : List (Option Expr)} {vs : List Expr} {mp : Dl → Mu → Res (List (D × D))} (hr : JP κ X W pos ks vs mp) (hall : ks.all (·.isSome) = true) (hl : ks.length = vs.length) (h0 : ks ≠ []) (h15 : ks.length ≤ 15) :
    JE κ X W (.Dict ks vs pos) (fun δ μ => (mp δ (μ ++ [.dic []])).bind fun kvs μ1 => dispD kvs μ.length μ1) := by
  obtain ⟨trs, h1, h2⟩ := hr
  refine pe_imp (pe_disp h1 hall hl h0 h15) fun σ H Q ⟨ρ, δ, μ, s, r, q⟩ => fun p hp => ?_
  have r1 : Rel κ (ρ ++ [p]) (upd H p (.dK [])) (μ ++ [.dic []]) := r.alloc hp ⟨[], upd_same, rfl⟩
  have e1 : Ext ρ H (ρ ++ [p]) (upd H p (.dK [])) := .new hp
  have hl : (ρ ++ [p])[μ.length]? = some p := by
    rw [List.getElem?_append_right (by rw [r.len]; exact Nat.le_refl _), r.len, Nat.sub_self]
    rfl
  refine h2 _ _ _ (gox (f := fun kvs μ1 => dispD kvs μ.length μ1) (s.ext e1) r1 (q.ext e1) fun ρ2 H2 kvs ws μ2 e2 s2 r2 x2 p2 => ?_)
  have hl2 := e2.pre _ _ hl
  unfold dispD at p2
  split at p2
  · rename_i hd
    split at p2
    · rename_i hk
      obtain ⟨ks', h3, h4⟩ := r2.dic hd hl2
      have e0 : ks' = [] := h4
      subst e0
      obtain ⟨ks2, rfl, h5⟩ := rp_keys x2 hk.1
      refine ⟨h3, ks2, rfl, by rw [← lenK h5]; exact hk.2, ?_⟩
      have e3 : Ext ρ2 H2 ρ2 (upd H2 p (.dK (mergeK [] ks2))) := .write (not_tup_dK h3)
      refine p2 ρ2 _ _ e3 (r2.write hl2 (not_tup_dK h3) ⟨_, upd_same, (mergeKD (h5.ext e3) rfl)⟩) (rep_loc.mpr ⟨p, hl2, rfl⟩)
    · exact p2.elim
  · exact p2.elim
end

/-! ### statements -/
def PostS (κ : Kx) (W : WX) (ρ : List Addr) (H : Hp) (r : RS) (D : Ends) : Prop := match r with
  | .nx δ μ => ∀ ρ' H' σ, Ext ρ H ρ' H' → Rel κ ρ' H' μ → RepS κ ρ' H' δ σ → D.nx σ H'
  | .ret d μ => ∀ ρ' H' v, Ext ρ H ρ' H' → Rel κ ρ' H' μ → Rep κ ρ' H' d v → D.rt v H'
  | .brk δ μ => ∀ ρ' H' σ, Ext ρ H ρ' H' → Rel κ ρ' H' μ → RepS κ ρ' H' δ σ → D.bk σ H'
  | .cont δ μ => ∀ ρ' H' σ, Ext ρ H ρ' H' → Rel κ ρ' H' μ → RepS κ ρ' H' δ σ → D.ct σ H'
  | .exc c fs δ μ => ∀ ρ' H' σ dd gs, Ext ρ H ρ' H' → Rel κ ρ' H' μ → RepS κ ρ' H' δ σ → H' dd = some (.xd gs) → RepF κ ρ' H' fs gs → W (.ref (κ.cl c)) (some dd) σ H'
  | .stuck => False
theorem PostS.ext {κ W ρ H ρ' H' r D} (e : Ext ρ H ρ' H') (h : PostS κ W ρ H r D) : PostS κ W ρ' H' r D := by
  cases r with
  | nx δ μ => exact fun ρ2 H2 v e2 => h ρ2 H2 v (e.trans e2)
  | ret δ μ => exact fun ρ2 H2 v e2 => h ρ2 H2 v (e.trans e2)
  | brk δ μ => exact fun ρ2 H2 v e2 => h ρ2 H2 v (e.trans e2)
  | cont δ μ => exact fun ρ2 H2 v e2 => h ρ2 H2 v (e.trans e2)
  | exc c fs δ μ => exact fun ρ2 H2 v dd gs e2 => h ρ2 H2 v dd gs (e.trans e2)
  | stuck => exact h
def tS (κ : Kx) (W : WX) (m : Dl → Mu → RS) : TS := fun D σ H => ∃ ρ δ μ, RepS κ ρ H δ σ ∧ Rel κ ρ H μ ∧ PostS κ W ρ H (m δ μ) D
abbrev JS (κ : Kx) (X : Cx) (W : WX) (st : Stmt) (m : Dl → Mu → RS) : Prop := PS X st (tS κ W m)
abbrev JSs (κ : Kx) (X : Cx) (W : WX) (st : List Stmt) (m : Dl → Mu → RS) : Prop := PSs X st (tS κ W m)
section
variable {κ : Kx} {α β : Type} {Ra : List Addr → Hp → α → β → Prop} {W : WX} {σ : L2.St} {ρ : List Addr} {H : Hp} {δ : Dl} {μ : Mu}
/-- from a statement to its first expression -/
theorem gos {m : Dl → Mu → Res α} {f : α → Mu → RS} {Q' : β → Hp → Prop} {D : Ends} (s : RepS κ ρ H δ σ) (r : Rel κ ρ H μ) (h : PostS κ W ρ H (RS.of δ (m δ μ) f) D)
    (k : ∀ ρ1 H1 a v μ1, Ext ρ H ρ1 H1 → RepS κ ρ1 H1 δ σ → Rel κ ρ1 H1 μ1 → Ra ρ1 H1 a v → PostS κ W ρ1 H1 (f a μ1) D → Q' v H1) : tG κ Ra W m σ H Q' := by
  refine ⟨ρ, δ, μ, s, r, ?_⟩
  cases hm : m δ μ with
  | ok a μ1 =>
    rw [hm] at h
    exact fun ρ1 H1 v e1 r1 x1 => k ρ1 H1 a v μ1 e1 (s.ext e1) r1 x1 (PostS.ext e1 h)
  | exc c fs μ1 =>
    rw [hm] at h
    exact fun ρ1 H1 dd gs e1 r1 h1 f1 => h ρ1 H1 σ dd gs e1 r1 (s.ext e1) h1 f1
  | stuck => rw [hm] at h; exact h.elim
end
section
variable {κ : Kx} {X : Cx} {W : WX} {e a b c tg : Expr} {es : List Expr} {pos p p2 : Pos} {m ma mb mc me : Dl → Mu → Res D} {mt mu mw : Dl → Mu → Res Bool} {ms : Dl → Mu → Res (List D)} {m1 m2 : Dl → Mu → RS} {st : Stmt} {rest : List Stmt}
theorem js_nil : JSs κ X W [] (fun δ μ => .nx δ μ) := pss_imp pss_nil fun D σ H ⟨ρ, δ, μ, s, r, q⟩ => q ρ H σ .refl r s
theorem js_cons (h1 : JS κ X W st m1) (h2 : JSs κ X W rest m2) : JSs κ X W (st :: rest) (fun δ μ => (m1 δ μ).seq m2) :=
  pss_imp (pss_cons h1 h2) fun D σ H ⟨ρ, δ, μ, s, r, q⟩ => by
    refine ⟨ρ, δ, μ, s, r, ?_⟩
    dsimp only at q
    cases hm : m1 δ μ with
    | nx δ1 μ1 =>
      rw [hm] at q
      exact fun ρ1 H1 σ1 e1 r1 s1 => ⟨ρ1, δ1, μ1, s1, r1, PostS.ext e1 q⟩
    | ret d μ1 => rw [hm] at q; exact q
    | brk δ1 μ1 => rw [hm] at q; exact q
    | cont δ1 μ1 => rw [hm] at q; exact q
    | exc c fs δ1 μ1 => rw [hm] at q; exact q
    | stuck => rw [hm] at q; exact q
theorem js_pass : JS κ X W (.Pass pos) (fun δ μ => .nx δ μ) := ps_imp ps_pass fun D σ H ⟨ρ, δ, μ, s, r, q⟩ => q ρ H σ .refl r s
theorem js_brk : JS κ X W (.Break pos) (fun δ μ => .brk δ μ) := ps_imp ps_break fun D σ H ⟨ρ, δ, μ, s, r, q⟩ => q ρ H σ .refl r s
theorem js_cont : JS κ X W (.Continue pos) (fun δ μ => .cont δ μ) := ps_imp ps_continue fun D σ H ⟨ρ, δ, μ, s, r, q⟩ => q ρ H σ .refl r s
theorem js_expr (ha : JE κ X W a ma) (hs : swapsWith a none pos.line X.env = pure false) : JS κ X W (.Expr a pos) (fun δ μ => RS.of δ (ma δ μ) fun _ μ1 => .nx δ μ1) :=
  ps_imp (ps_expr ha hs) fun D σ H ⟨ρ, δ, μ, s, r, q⟩ => gos s r q fun ρ1 H1 d v μ1 e1 s1 r1 x1 p1 => p1 ρ1 H1 σ .refl r1 s1
theorem js_ret (ha : JE κ X W a ma) : JS κ X W (.Return (some a) pos) (fun δ μ => RS.of δ (ma δ μ) fun d μ1 => .ret d μ1) :=
  ps_imp (ps_ret ha) fun D σ H ⟨ρ, δ, μ, s, r, q⟩ => gos s r q fun ρ1 H1 d v μ1 e1 s1 r1 x1 p1 => p1 ρ1 H1 v .refl r1 x1
theorem js_retn : JS κ X W (.Return none pos) (fun _ μ => .ret .non μ) :=
  ps_imp ps_retN fun D σ H ⟨ρ, δ, μ, s, r, q⟩ => q ρ H _ .refl r (rep_non.mpr rfl)
theorem js_if {sa sb : List Stmt} (hc : JT κ X W c mt) (ha : JSs κ X W sa m1) (hb : JSs κ X W sb m2) : JS κ X W (.If c sa sb pos) (fun δ μ => RS.of δ (mt δ μ) fun c μ1 => if c = true then m1 δ μ1 else m2 δ μ1) :=
  ps_imp (ps_if hc ha hb) fun D σ H ⟨ρ, δ, μ, s, r, q⟩ => gos s r q fun ρ1 H1 d v μ1 e1 s1 r1 x1 p1 => by
    cases x1
    cases d with
    | true => exact ⟨ρ1, δ, μ1, s1, r1, p1⟩
    | false => exact ⟨ρ1, δ, μ1, s1, r1, p1⟩
/-- the store of a value -/
theorem js_asg {te : TE} {g : TG} {t : Tg} {st : Stmt} (h : PS X st (tAsg te g)) (hE : ∀ σ H Q, tE κ W ma σ H Q → te σ H Q) (hg : GOk κ g t) : JS κ X W st (fun δ μ => RS.of δ (ma δ μ) fun d μ1 => match bindG t d δ with
    | some δ1 => .nx δ1 μ1
    | none => .stuck) :=
  ps_imp h fun D σ H ⟨ρ, δ, μ, s, r, q⟩ => hE _ _ _ (gos s r q fun ρ1 H1 d v μ1 e1 s1 r1 x1 p1 => by
    split at p1
    · rename_i δ1 hb
      exact hg ρ1 H1 v d σ δ δ1 s1 x1 hb _ fun σ2 s2 _ => p1 ρ1 H1 σ2 .refl r1 s2
    · exact p1.elim)
theorem js_aug {i : Nat} {o : Operator} {ti : TIp} {st : Stmt} (h : PS X st (tAug i (tE κ W ma) ti)) (ho : ∀ x y H Q, (∃ ρ μ dx dy W σ, Rel κ ρ H μ ∧ Rep κ ρ H dx x ∧ Rep κ ρ H dy y ∧ Post κ (Rep κ) W σ ρ H (augD o dx dy μ) Q) → ti x y H Q) :
    JS κ X W st (fun δ μ => match δ[i]? with
      | some (some x) => RS.of δ ((ma δ μ).bind fun y μ1 => augD o x y μ1) fun z μ1 => .nx (δ.set i (some z)) μ1
      | _ => .stuck) :=
  ps_imp h fun D σ H ⟨ρ, δ, μ, s, r, q⟩ => by
    dsimp only at q
    split at q
    · rename_i x hx
      obtain ⟨v, h1, h2⟩ := s.at_ i x hx
      refine ⟨v, h1, ?_⟩
      have q' : PostS κ W ρ H (RS.of δ (ma δ μ) fun y μ1 => RS.of δ (augD o x y μ1) fun z μ2 => .nx (δ.set i (some z)) μ2) D := by
        cases hm : ma δ μ with
        | ok _ _ => rw [hm] at q; exact q
        | exc _ _ _ => rw [hm] at q; exact q
        | stuck => rw [hm] at q; exact q
      refine gos s r q' fun ρ1 H1 d w μ1 e1 s1 r1 x1 p1 => ho _ _ _ _ ⟨ρ1, μ1, x, d, W, σ, r1, h2.ext e1, x1, ?_⟩
      cases hz : augD o x d μ1 with
      | ok z μ2 =>
        rw [hz] at p1
        exact fun ρ2 H2 u e2 r2 x2 => p1 ρ2 H2 _ e2 r2 ((s1.ext e2).set x2 i)
      | exc c fs μ2 =>
        rw [hz] at p1
        exact fun ρ2 H2 dd gs e2 r2 h2 f2 => p1 ρ2 H2 σ dd gs e2 r2 (s1.ext e2) h2 f2
      | stuck => rw [hz] at p1; exact p1.elim
    · exact q.elim
/-- for -/
theorem js_for {mi : Dl → Mu → Res Src} {t : Tg} {g : TG} {st : Stmt} {fu : Nat} (h : PS X st (tFor (tG κ (SrcOk κ) W mi) g (tS κ W m1))) (hg : GOk κ g t) :
    JS κ X W st (fun δ μ => RS.of δ (mi δ μ) fun src μ1 => forN (bindG t) m1 src fu 0 δ μ1) :=
  ps_imp h fun D σ H ⟨ρ, δ, μ, s, r, q⟩ => gos s r q fun ρ1 H1 src J μ1 e1 s1 r1 x1 p1 => by
    refine ⟨fun i k σ H => ∃ ρ δ μ, Ext ρ1 H1 ρ H ∧ RepS κ ρ H δ σ ∧ Rel κ ρ H μ ∧ PostS κ W ρ H (forN (bindG t) m1 src k i δ μ) D, ⟨fu, ρ1, δ, μ1, .refl, s1, r1, p1⟩, fun i k σ2 H2 ⟨ρ2, δ2, μ2, e2, s2, r2, p2⟩ => ?_⟩
    cases k with
    | zero => exact p2.elim
    | succ k =>
      have so := x1 i ρ2 H2 μ2 e2 r2
      unfold forN at p2
      cases hat : src.at_ i μ2 with
      | none => rw [hat] at p2; exact p2.elim
      | some o =>
        rw [hat] at so p2
        cases o with
        | none => exact .inl ⟨so, p2 ρ2 H2 σ2 .refl r2 s2⟩
        | some d =>
          dsimp only at p2
          cases hb : bindG t d δ2 with
          | none => rw [hb] at p2; exact p2.elim
          | some δ3 =>
            rw [hb] at p2
            dsimp only at p2
            refine .inr ⟨so.1, fun σ' H' => ∃ ρ δ μ, Ext ρ1 H1 ρ H' ∧ RepS κ ρ H' δ σ' ∧ Rel κ ρ H' μ ∧ PostS κ W ρ H' (forN (bindG t) m1 src k (i + 1) δ μ) D, fun σ' H' hN => ⟨k, Nat.lt_succ_self k, hN⟩, fun x H' hy => ?_⟩
            obtain ⟨ey, ry, xy⟩ := so.2 x H' hy
            refine hg ρ2 H' x d σ2 δ2 δ3 (s2.ext ey) xy hb _ fun σ3 s3 _ => ⟨ρ2, δ3, μ2, s3, ry, ?_⟩
            have p3 := PostS.ext ey p2
            cases hm : m1 δ3 μ2 with
            | nx δ4 μ4 => rw [hm] at p3; exact fun ρ4 H4 σ4 e4 r4 s4 => ⟨ρ4, δ4, μ4, (e2.trans ey).trans e4, s4, r4, PostS.ext e4 p3⟩
            | cont δ4 μ4 => rw [hm] at p3; exact fun ρ4 H4 σ4 e4 r4 s4 => ⟨ρ4, δ4, μ4, (e2.trans ey).trans e4, s4, r4, PostS.ext e4 p3⟩
            | brk δ4 μ4 => rw [hm] at p3; exact p3
            | ret d4 μ4 => rw [hm] at p3; exact p3
            | exc c fs δ4 μ4 => rw [hm] at p3; exact p3
            | stuck => rw [hm] at p3; exact p3.elim
theorem js_while {st : Stmt} {fu : Nat} (h : PS X st (tWhile (tT κ W mt) (tS κ W m1))) : JS κ X W st (fun δ μ => whileN mt m1 fu δ μ) :=
  ps_imp h fun D σ H ⟨ρ, δ, μ, s, r, q⟩ => by
    refine ⟨fun k σ H => ∃ ρ δ μ, RepS κ ρ H δ σ ∧ Rel κ ρ H μ ∧ PostS κ W ρ H (whileN mt m1 k δ μ) D, ⟨fu, ρ, δ, μ, s, r, q⟩, fun k σ2 H2 ⟨ρ2, δ2, μ2, s2, r2, p2⟩ => ?_⟩
    cases k with
    | zero => exact p2.elim
    | succ k =>
      unfold whileN at p2
      refine gos s2 r2 p2 fun ρ3 H3 b b' μ3 e3 s3 r3 x3 p3 => ?_
      cases x3
      cases b with
      | false => exact p3 ρ3 H3 σ2 .refl r3 s3
      | true =>
        refine ⟨fun σ' H' => ∃ ρ δ μ, RepS κ ρ H' δ σ' ∧ Rel κ ρ H' μ ∧ PostS κ W ρ H' (whileN mt m1 k δ μ) D, fun σ' H' hN => ⟨k, Nat.lt_succ_self k, hN⟩, ρ3, δ2, μ3, s3, r3, ?_⟩
        rw [if_pos rfl] at p3
        cases hm : m1 δ2 μ3 with
        | nx δ4 μ4 => rw [hm] at p3; exact fun ρ4 H4 σ4 e4 r4 s4 => ⟨ρ4, δ4, μ4, s4, r4, PostS.ext e4 p3⟩
        | cont δ4 μ4 => rw [hm] at p3; exact fun ρ4 H4 σ4 e4 r4 s4 => ⟨ρ4, δ4, μ4, s4, r4, PostS.ext e4 p3⟩
        | brk δ4 μ4 => rw [hm] at p3; exact p3
        | ret d4 μ4 => rw [hm] at p3; exact p3
        | exc c fs δ4 μ4 => rw [hm] at p3; exact p3
        | stuck => rw [hm] at p3; exact p3.elim
end
end Tk

namespace Tk
open PySem PySem.Spec PyProof.Rows L2

/-! ### the translation of expressions -/
inductive GV where
  | fn (i : Nat) (n : Nat) | con (d : D) | free
  deriving Inhabited
structure Ctx where
  N : List Str
  sc : Scope
  G : List (Str × GV)
  fnB : Str → Bool
def plainB : Expr → Bool
  | .Starred .. => false
  | _ => true
def callB : Expr → Bool
  | .Call .. => true
  | _ => false
def sliceB : Expr → Bool
  | .Slice .. => true
  | _ => false
def isLoc : Option NameKind → Bool
  | some .local => true
  | some .cell => true
  | some .free => true
  | _ => false
def Ctx.slot (c : Ctx) (x : Str) : Option Nat := if isLoc (c.sc.names.lookup x) = true ∧ (x == ("__debug__" : Str)) = false ∧ (x == ("__classdict__" : Str)) = false then c.N.idxOf? x else none
def Ctx.glob (c : Ctx) (x : Str) : Option GV := if c.sc.names.lookup x = some .globalImplicit ∧ (x == ("__debug__" : Str)) = false ∧ x ≠ "__name__" then c.G.lookup x else none
def bltOf (x : Str) : Option Blt :=
  if x = "len" then some .len else if x = "int" then some .int else if x = "max" then some .max else if x = "min" then some .min else if x = "sorted" then some .sorted
  else if x = "list" then some .list else if x = "tuple" then some .tuple else if x = "abs" then some .abs else if x = "isinstance" then some .isi else none
def tyOf (x : Str) : Option String :=
  if x = "int" then some "int" else if x = "bool" then some "bool" else if x = "str" then some "str" else if x = "list" then some "list" else if x = "tuple" then some "tuple" else if x = "dict" then some "dict" else none
def trL (f : Expr → Option E) : List Expr → Option Es
  | [] => some .nil
  | e :: r => if plainB e = true then (f e).bind fun a => (trL f r).bind fun b => some (.cons a b) else none
def trB (f : Expr → Option E) (op : BoolOp) : List Expr → Option E
  | [] => none
  | [e] => f e
  | e :: r => (f e).bind fun a => (trB f op r).bind fun b => some (match op with
    | .And => .and a b
    | .Or => .or a b)
def trD (f : Expr → Option E) : List (Option Expr) → List Expr → Option Ep
  | [], [] => some .nil
  | some k :: ks, v :: vs => (f k).bind fun a => (f v).bind fun b => (trD f ks vs).bind fun r => some (.cons a b r)
  | _, _ => none
def trO (f : Expr → Option E) : Option Expr → Option Eo
  | none => some .none
  | some e => (f e).map .some
mutual
def trG (c : Ctx) : Nat → Expr → Option Tg
  | 0, _ => none
  | n + 1, e => match e with
    | .Name x _ => if c.sc.names.lookup x = some .local ∨ (c.sc.names.lookup x = some .cell ∧ c.fnB x = true) then (c.N.idxOf? x).map .name else none
    | .Tuple es _ _ => (trGs c n es).map .tup
    | _ => none
def trGs (c : Ctx) : Nat → List Expr → Option (List Tg)
  | 0, _ => none
  | _, [] => some []
  | n + 1, e :: r => if plainB e = true then (trG c n e).bind fun a => (trGs c n r).bind fun b => some (a :: b) else none
end
def relabelS (scope sc : Scope) : Scope :=
  { scope with names := scope.names.map fun (n, k) => if (k == .free && sc.kind == .function && sc.names.lookup n == some .cell) then (n, .cell) else (n, k) }
def ownOf (N : List Str) (scope : Scope) : List (Str × Nat) := scope.names.filterMap fun (n, k) => match k with
  | .local => (N.idxOf? n).map fun i => (n, i)
  | .cell => (N.idxOf? n).map fun i => (n, i)
  | _ => none
def Ctx.blk (c : Ctx) (scope : Scope) : Ctx := { c with sc := relabelS scope c.sc, fnB := fun x => scope.names.lookup x == some .cell }
def subB (a b : List Nat) : Bool := a.all fun i => b.contains i
def setB : Expr → Bool
  | .Set .. => true
  | _ => false
def oneIf : List Expr → Option (Option Expr)
  | [] => some none
  | [e] => some (some e)
  | _ => none
def Ctx.freeB (c : Ctx) (x : Str) : Bool := match c.glob x with
  | some .free => true
  | _ => false
def trI (c : Ctx) (f : Expr → Option E) (e : Expr) : Option It' := if setB e = true then none else match e with
  | .Call (.Name x _) [a] [] _ => if x = "range" then (if c.freeB x = true ∧ plainB a = true then (f a).map .rng1 else none) else (f e).map .val
  | .Call (.Name x _) [a, b] [] _ => if x = "range" then (if c.freeB x = true ∧ plainB a = true ∧ plainB b = true then (f a).bind fun a' => (f b).map fun b' => .rng2 a' b' else none) else (f e).map .val
  | e => (f e).map .val
def trE : Nat → Ctx → Expr → Option E
  | 0, _, _ => none
  | n + 1, c, e => match e with
    | .Constant k _ _ => (match k with
      | .none => some (.c .non)
      | .bool b => some (.c (.bl b))
      | .int i => some (.c (.int i))
      | .str x => some (.c (.str x))
      | _ => none)
    | .Name x _ => (match c.slot x with
      | some i => some (.v i)
      | none => (match c.glob x with
        | some (.con d) => some (.c d)
        | some .free => (tyOf x).map fun t => .c (.ty t)
        | _ => none))
    | .Tuple es _ _ => (trL (trE n c) es).map .tup
    | .List es _ => (trL (trE n c) es).map .lst
    | .BinOp a o b _ => (trE n c a).bind fun a' => (trE n c b).map fun b' => .bin o a' b'
    | .UnaryOp o a _ => (match o with
      | .USub => (trE n c a).map .neg
      | .Not => (trE n c a).map .not
      | _ => none)
    | .BoolOp op vs _ => trB (trE n c) op vs
    | .IfExp t a b _ => (trE n c t).bind fun t' => (trE n c a).bind fun a' => (trE n c b).map fun b' => .ite t' a' b'
    | .Compare a ops cs _ => (match ops, cs with
      | [o], [b] => if behindInMarks o b = true then none else (trE n c a).bind fun a' => (trE n c b).map fun b' => .cmp o a' b'
      | [o, p], [b, d] => if lastMarks [o, p] [b, d] = true then none else (trE n c a).bind fun a' => (trE n c b).bind fun b' => (trE n c d).map fun d' => .chn o p a' b' d'
      | _, _ => none)
    | .Subscript a i _ => (match i with
      | .Slice lo hi st _ => (match st with
        | none => (trE n c a).bind fun a' => (trO (trE n c) lo).bind fun l => (trO (trE n c) hi).map fun h => .sl a' l h
        | some _ => none)
      | i => if sliceB i = true then none else (trE n c a).bind fun a' => (trE n c i).map fun i' => .ix a' i')
    | .Call f args kws pos => (match kws with
      | [] => (match f with
        | .Name x _ => (match args with
          | [] => none
          | _ :: _ => (match c.glob x with
            | some (.fn i k) => (trL (trE n c) args).map fun es => .call i es
            | some .free => (bltOf x).bind fun b => (trL (trE n c) args).map fun es => .blt b es
            | _ => none))
        | .Attribute o m apos => if callB o = true ∨ (apos.endLine == pos.line) = false then none else (match args with
          | [e1] => if m = "append" then (trE n c o).bind fun o' => (trL (trE n c) args).map fun es => .mth .append o' es else none
          | [_, _] => if m = "get" then (trE n c o).bind fun o' => (trL (trE n c) args).map fun es => .mth .get o' es else none
          | _ => none)
        | _ => none)
      | _ => none)
    | .ListComp elt gens scope _ => (match gens with
      | [⟨tg, it, ifs, ai⟩] => if ai = 0 ∧ blkC c.N c.sc scope (ownOf c.N scope) = true then
          (trI c (trE n c) it).bind fun it' => (trG (c.blk scope) n tg).bind fun t => if subB (tgN t) ((ownOf c.N scope).map (·.2)) = true then
            (oneIf ifs).bind fun o => (trO (trE n (c.blk scope)) o).bind fun fs => (trE n (c.blk scope) elt).map fun e' => .lc ((ownOf c.N scope).map (·.2)) t it' fs e'
          else none
        else none
      | [⟨tg, it, ifs, ai⟩, ⟨tg1, it1, ifs1, ai1⟩] => if ai = 0 ∧ ai1 = 0 ∧ ifs.isEmpty = true ∧ ifs1.isEmpty = true ∧ blkC c.N c.sc scope (ownOf c.N scope) = true then
          (trI c (trE n c) it).bind fun it' => (trG (c.blk scope) n tg).bind fun t => (trI (c.blk scope) (trE n (c.blk scope)) it1).bind fun it1' => (trG (c.blk scope) n tg1).bind fun t1 =>
            if subB (tgN t) ((ownOf c.N scope).map (·.2)) = true ∧ subB (tgN t1) ((ownOf c.N scope).map (·.2)) = true then
              (trE n (c.blk scope) elt).map fun e' => .lc2 ((ownOf c.N scope).map (·.2)) t it' (tgN t1) t1 it1' e'
            else none
        else none
      | _ => none)
    | .Dict ks vs _ => if ks.all (·.isSome) = true ∧ ks.length = vs.length ∧ ks.length ≤ 15 ∧ 0 < ks.length then (trD (trE n c) ks vs).map .dic else none
    | _ => none

/-! ### what the context holds -/
def FnAt (κ : Kx) (X : Cx) (k : Nat) (x : Str) (n : Nat) (g : List D → Mu → Res D) : Prop :=
  ∃ (f : Addr) (fd : FuncData) (ps : List Str), X.mg x = some (.ref f) ∧ PySem.W.keepIn X.K (.ref f) = true ∧ Binds X.K fd ps [] ∧ FnOk X.prog X.w X.K X.mg X.base (L2.CX X.prog X.w) k f fd ps (spM κ n g)
structure XOk (c : Ctx) (κ : Kx) (Ω : Om) (k : Nat) (X : Cx) (W : WX) : Prop where
  N : X.N = c.N
  nd : c.N.Nodup
  sc : X.env.scope = c.sc
  kind : c.sc.kind = .function
  hK : X.K = κ.K
  calm : X.calm = true
  room : Room k X.A
  tk : Takes X W
  fnB : ∀ x, c.fnB x = true → X.fn x = true
  con : ∀ x d, c.G.lookup x = some (.con d) → ∃ u v, X.mg x = some u ∧ RelV v u ∧ ∀ ρ H, Rep κ ρ H d v
  free : ∀ x, c.G.lookup x = some .free → X.mg x = none
  fn : ∀ x i n, c.G.lookup x = some (.fn i n) → FnAt κ X k x n (Ω.Φ i) ∧ ∀ ds μ, ds.length ≠ n → Ω.Φ i ds μ = .stuck
theorem takes_W0 {X : Cx} : Takes X W0 := fun _ _ ⟨_, _, _, _, _, _, _, _, _, _, _, _, _, _, _, _, w⟩ => w.elim
theorem relabel_eq {scope : Scope} {env : Env} {sc : Scope} (h : env.scope = sc) : relabel scope env = relabelS scope sc := by
  subst h
  rfl
theorem XOk.blk {c : Ctx} {κ Ω k X W} (h : XOk c κ Ω k X W) (scope : Scope) (hk : scope.kind = .function) (s : Shared) (H : Hp) (C : Addr) (cl : List (Str × Addr)) (fp : List Addr) : XOk (c.blk scope) κ Ω k (X.blk s H scope (compEnvC scope cl C X.env) fp) W0 where
  N := h.N
  nd := h.nd
  sc := relabel_eq h.sc
  kind := hk
  hK := h.hK
  calm := h.calm
  room := h.room
  tk := takes_W0
  fnB := fun x hx => hx
  con := h.con
  free := h.free
  fn := h.fn

theorem idx_some {N : List Str} {x : Str} {i : Nat} (h : N.idxOf? x = some i) : N[i]? = some x := by
  rw [List.idxOf?_eq_some_iff] at h
  obtain ⟨h1, h2, _⟩ := h
  rw [List.getElem?_eq_getElem h1]
  simpa using h2
section
variable {c : Ctx} {κ : Kx} {Ω : Om} {k : Nat} {X : Cx} {W : WX}
theorem XOk.gl (h : XOk c κ Ω k X W) {x : Str} {g : GV} (hg : c.glob x = some g) : Gl X x ∧ (x == ("__debug__" : Str)) = false ∧ x ≠ "__name__" ∧ c.G.lookup x = some g := by
  unfold Ctx.glob at hg
  split at hg
  · rename_i hc
    exact ⟨by unfold Gl Env.kindOf; rw [h.sc]; exact hc.1, hc.2.1, hc.2.2, hg⟩
  · cases hg
theorem XOk.slot (h : XOk c κ Ω k X W) {x : Str} {i : Nat} {pos : Pos} (hs : c.slot x = some i) : PE X (.Name x pos) (tVar i) := by
  unfold Ctx.slot at hs
  split at hs
  · rename_i hc
    refine pe_var (by rw [h.N]; exact idx_some hs) ?_ hc.2.1 hc.2.2
    unfold Vis
    rw [h.sc]
    have h1 := hc.1
    unfold isLoc at h1
    split at h1
    · exact .inl (by assumption)
    · exact .inr (.inl (by assumption))
    · exact .inr (.inr (by assumption))
    · cases h1
  · cases hs
theorem star_cons {e : Expr} {es : List Expr} {env : Env} (h : plainB e = true) : starEach (e :: es) env = (false, eval e env) :: starEach es env := by
  cases e <;> first | rfl | (cases h; done)
theorem star_back {pos : Pos} {env : Env} : ∀ {es : List Expr}, (es.all plainB) = true → (backTo pos (starEach es env)).any (·.1) = false
  | [], _ => rfl
  | e :: es, h => by
    obtain ⟨h1, h2⟩ := Bool.and_eq_true_iff.mp (show (plainB e && es.all plainB) = true from h)
    rw [star_cons h1]
    show (false || (backTo pos (starEach es env)).any (·.1)) = false
    rw [star_back h2]
    rfl
theorem star_all {pos : Pos} {env : Env} : ∀ {es : List Expr}, (es.all plainB) = true → (backTo pos (starEach es env)).all (fun x => !x.1) = true
  | [], _ => rfl
  | e :: es, h => by
    obtain ⟨h1, h2⟩ := Bool.and_eq_true_iff.mp (show (plainB e && es.all plainB) = true from h)
    rw [star_cons h1]
    show (!false && (backTo pos (starEach es env)).all (fun x => !x.1)) = true
    rw [star_all h2]
    rfl
theorem trL_plain {f : Expr → Option E} : ∀ {es : List Expr} {r : Es}, trL f es = some r → es.all plainB = true
  | [], _, _ => rfl
  | e :: es, r, h => by
    unfold trL at h
    split at h
    · rename_i hp
      obtain ⟨a, _, h2⟩ := Option.bind_eq_some_iff.mp h
      obtain ⟨b, h3, _⟩ := Option.bind_eq_some_iff.mp h2
      rw [List.all_cons, hp, trL_plain h3]
      rfl
    · cases h
theorem base_of {o : Expr} {m : Str} {env : Env} (h : callB o = false) : attributeBase o m env (eval o env) = eval o env := by
  cases o <;> first | rfl | (cases h; done)
theorem folded_of {e : Expr} {env : Env} (h : setB e = false) : ∀ x, foldedSetIterable e env x = pure x := by
  cases e <;> first | (intro _; rfl) | (cases h; done)
theorem plainIx_of {e : Expr} (h : sliceB e = false) : PlainIx e := by
  cases e <;> first | (intro _ _; rfl) | (cases h; done)
theorem pt_never {e : Expr} : PT X e (fun _ _ _ => False) := ⟨fun _ _ _ _ _ _ h => h.elim⟩
theorem jt_stuck {e : Expr} {m : Dl → Mu → Res Bool} (h : ∀ δ μ, m δ μ = .stuck) : JT κ X W e m := pt_imp pt_never fun σ H Q ⟨ρ, δ, μ, s, r, p⟩ => by
  rw [h] at p
  exact p
/-- the soundness of both readings of e -/
structure Both (κ : Kx) (Ω : Om) (X : Cx) (W : WX) (e : Expr) (t : E) : Prop where
  v : JE κ X W e (ev Ω t)
  t : JT κ X W e (tv Ω t)
theorem tr_list {f : Expr → Option E} (hf : ∀ e t, f e = some t → Both κ Ω X W e t) : ∀ {es : List Expr} {r : Es}, trL f es = some r → JA κ X W es (evs Ω r)
  | [], r, h => by
    unfold trL at h
    cases h
    exact ja_nil
  | e :: es, r, h => by
    unfold trL at h
    split at h
    · rename_i hp
      obtain ⟨a, h1, h2⟩ := Option.bind_eq_some_iff.mp h
      obtain ⟨b, h3, h4⟩ := Option.bind_eq_some_iff.mp h2
      cases h4
      exact ja_cons (hf e a h1).v (tr_list hf h3) (star_cons hp)
    · cases h
theorem tr_bool {f : Expr → Option E} (hf : ∀ e t, f e = some t → Both κ Ω X W e t) {op : BoolOp} {pos : Pos} : ∀ {es : List Expr} {r : E}, trB f op es = some r → JE κ X W (.BoolOp op es pos) (ev Ω r) ∧ JW κ X W (.BoolOp op es pos) (tv Ω r)
  | [], r, h => by
    unfold trB at h
    cases h
  | [e], r, h => by
    unfold trB at h
    exact ⟨je_one (hf e r h).v, jw_one (hf e r h).t⟩
  | e :: e2 :: es, r, h => by
    unfold trB at h
    obtain ⟨a, h1, h2⟩ := Option.bind_eq_some_iff.mp h
    obtain ⟨b, h3, h4⟩ := Option.bind_eq_some_iff.mp h2
    obtain ⟨g1, g2⟩ := tr_bool hf h3
    cases op with
    | And =>
      cases h4
      exact ⟨je_and (hf e a h1).v g1, jw_and (hf e a h1).t g2⟩
    | Or =>
      cases h4
      exact ⟨je_or (hf e a h1).v g1, jw_or (hf e a h1).t g2⟩
theorem tr_pairs {f : Expr → Option E} (hf : ∀ e t, f e = some t → Both κ Ω X W e t) {pos : Pos} : ∀ {ks : List (Option Expr)} {vs : List Expr} {r : Ep}, trD f ks vs = some r → JP κ X W pos ks vs (evp Ω r)
  | [], [], r, h => by
    unfold trD at h
    cases h
    exact jp_nil
  | some k :: ks, v :: vs, r, h => by
    unfold trD at h
    obtain ⟨a, h1, h2⟩ := Option.bind_eq_some_iff.mp h
    obtain ⟨b, h3, h4⟩ := Option.bind_eq_some_iff.mp h2
    obtain ⟨r', h5, h6⟩ := Option.bind_eq_some_iff.mp h4
    cases h6
    exact jp_cons (hf k a h1).v (hf v b h3).v (tr_pairs hf h5)
  | [], _ :: _, r, h => by unfold trD at h; cases h
  | some _ :: _, [], r, h => by unfold trD at h; cases h
  | none :: _, _, r, h => by unfold trD at h; cases h
theorem tr_opt {f : Expr → Option E} (hf : ∀ e t, f e = some t → Both κ Ω X W e t) {o : Option Expr} {r : Eo} (h : trO f o = some r) : JO κ X W o (evo Ω r) := by
  cases o with
  | none =>
    unfold trO at h
    cases h
    exact jo_none
  | some e =>
    unfold trO at h
    obtain ⟨a, h1, h2⟩ := Option.map_eq_some_iff.mp h
    subst h2
    exact jo_some (hf e a h1).v
mutual
def gOf (K : PySem.W.Frag) : Tg → TG
  | .name i => gName i
  | .tup ts => gTup K ts.length (gsOf K ts)
def gsOf (K : PySem.W.Frag) : List Tg → TGs
  | [] => gNil
  | t :: ts => gCons (gOf K t) (gsOf K ts)
end
mutual
theorem gok_of : ∀ t : Tg, GOk κ (gOf κ.K t) t
  | .name i => by unfold gOf; exact gok_name
  | .tup ts => by unfold gOf; exact gok_tup rfl (gsok_of ts)
theorem gsok_of : ∀ ts : List Tg, GsOk κ (gsOf κ.K ts) ts
  | [] => by unfold gsOf; exact gsok_nil
  | t :: ts => by unfold gsOf; exact gsok_cons (gok_of t) (gsok_of ts)
end
mutual
theorem tr_tgt (h : XOk c κ Ω k X W) : ∀ (n : Nat) (e : Expr) (t : Tg), trG c n e = some t → PG X e (gOf κ.K t)
  | 0, e, t, ht => by unfold trG at ht; cases ht
  | n + 1, e, t, ht => by
    unfold trG at ht
    split at ht
    · split at ht
      · rename_i hx
        obtain ⟨i, h1, rfl⟩ := Option.map_eq_some_iff.mp ht
        unfold gOf
        refine pg_name (by rw [h.N]; exact h.nd) (by rw [h.N]; exact idx_some h1) ?_ ?_
        · unfold L2.Loc
          rw [h.sc]
          rcases hx with hx | hx
          · exact .inl hx
          · exact .inr hx.1
        · rw [h.sc]
          rcases hx with hx | hx
          · exact .inr hx
          · exact .inl (h.fnB _ hx.2)
      · cases ht
    · obtain ⟨ts, h1, rfl⟩ := Option.map_eq_some_iff.mp ht
      obtain ⟨h2, h4, h5⟩ := tr_tgts h n _ ts h1
      unfold gOf
      rw [← h.hK] at h2 ⊢
      exact pg_tup h.calm h2 h4 h5
    · cases ht
theorem tr_tgts (h : XOk c κ Ω k X W) : ∀ (n : Nat) (es : List Expr) (ts : List Tg), trGs c n es = some ts → PGs X es (gsOf κ.K ts) ∧ (assignEach es X.env).length = ts.length ∧ (assignEach es X.env).findIdx? (·.1) = none
  | 0, es, ts, ht => by unfold trGs at ht; cases ht
  | n + 1, [], ts, ht => by
    unfold trGs at ht
    cases ht
    unfold gsOf
    exact ⟨pgs_nil, rfl, rfl⟩
  | n + 1, e :: es, ts, ht => by
    unfold trGs at ht
    split at ht
    · rename_i hp
      obtain ⟨a, h1, h2⟩ := Option.bind_eq_some_iff.mp ht
      obtain ⟨b, h3, h4⟩ := Option.bind_eq_some_iff.mp h2
      cases h4
      have g1 := tr_tgt h n e a h1
      obtain ⟨g3, g5, g6⟩ := tr_tgts h n es b h3
      have ea : assignEach (e :: es) X.env = (false, assign e X.env) :: assignEach es X.env := by
        cases e <;> first | rfl | (cases hp; done)
      unfold gsOf
      refine ⟨pgs_cons g1 g3 (by rw [ea]; rfl), by rw [ea, List.length_cons, g5]; rfl, ?_⟩
      rw [ea, List.findIdx?_cons, if_neg (by simp), g6]
      rfl
    · cases ht
end
end
end Tk

set_option maxHeartbeats 8000000
namespace Tk
open PySem PySem.Spec PyProof.Rows L2

section
variable {c : Ctx} {κ : Kx} {Ω : Om} {k : Nat} {X : Cx} {W : WX}
theorem glob_free {x : Str} (h : c.freeB x = true) : c.glob x = some .free := by
  unfold Ctx.freeB at h
  split at h
  · assumption
  · cases h
theorem fold_iter {f : Expr → Option E} {e : Expr} {r : It'} (hr : trI c f e = some r) : ∀ env x, foldedSetIterable e env x = pure x := by
  unfold trI at hr
  split at hr
  · cases hr
  · rename_i hs
    exact fun env => folded_of (by simpa using hs)
theorem tr_iter (h : XOk c κ Ω k X W) {f : Expr → Option E} (hf : ∀ e t, f e = some t → Both κ Ω X W e t) {tg e : Expr} {r : It'} (hr : trI c f e = some r) : JI κ X W tg e (evi Ω r) ∧ ∀ env x, foldedSetIterable e env x = pure x := by
  unfold trI at hr
  split at hr
  · cases hr
  · rename_i hs
    have hfold : ∀ env x, foldedSetIterable e env x = pure x := fun env => folded_of (by simpa using hs)
    refine ⟨?_, hfold⟩
    split at hr
    · rename_i x p a pos
      split at hr
      · rename_i hx
        split at hr
        · rename_i hc
          obtain ⟨a', h1, rfl⟩ := Option.map_eq_some_iff.mp hr
          obtain ⟨g1, _, _, g2⟩ := h.gl (glob_free hc.1)
          subst hx
          exact ji_rng1 rfl g1 (h.free _ g2) (hf a a' h1).v (star_cons hc.2)
        · cases hr
      · obtain ⟨a', h1, rfl⟩ := Option.map_eq_some_iff.mp hr
        exact ji_val h.hK (hf _ a' h1).v
    · rename_i x p a b pos
      split at hr
      · rename_i hx
        split at hr
        · rename_i hc
          obtain ⟨a', h1, h2⟩ := Option.bind_eq_some_iff.mp hr
          obtain ⟨b', h3, rfl⟩ := Option.map_eq_some_iff.mp h2
          obtain ⟨g1, _, _, g2⟩ := h.gl (glob_free hc.1)
          subst hx
          exact ji_rng2 rfl g1 (h.free _ g2) (hf a a' h1).v (hf b b' h3).v (by rw [star_cons hc.2.1, star_cons hc.2.2]; rfl) (star_cons hc.2.2)
        · cases hr
      · obtain ⟨a', h1, rfl⟩ := Option.map_eq_some_iff.mp hr
        exact ji_val h.hK (hf _ a' h1).v
    · obtain ⟨a', h1, rfl⟩ := Option.map_eq_some_iff.mp hr
      exact ji_val h.hK (hf _ a' h1).v
theorem bltOf_ok {x : Str} {b : Blt} (h : bltOf x = some b) : x = bltN b := by
  unfold bltOf at h
  repeat' split at h
  all_goals first | (cases h; assumption) | cases h
theorem tyOf_ok {x : Str} {t : String} (h : tyOf x = some t) : bootBuiltins x = some (.type t) := by
  unfold tyOf at h
  split at h
  · rename_i e; cases h; subst e; decide +kernel
  split at h
  · rename_i e; cases h; subst e; decide +kernel
  split at h
  · rename_i e; cases h; subst e; decide +kernel
  split at h
  · rename_i e; cases h; subst e; decide +kernel
  split at h
  · rename_i e; cases h; subst e; decide +kernel
  split at h
  · rename_i e; cases h; subst e; decide +kernel
  cases h
theorem both_leaf {e : Expr} {t : E} (hv : JE κ X W e (ev Ω t)) (he : ∀ whole, isTrue e X.env whole = (do let v ← whole; standAt e.pos; holding [v] (truthy v))) (ht : ∀ δ μ, tv Ω t δ μ = (ev Ω t δ μ).bind fun x μ1 => truD x μ1) : Both κ Ω X W e t :=
  ⟨hv, by
    have e : tv Ω t = fun δ μ => (ev Ω t δ μ).bind fun x μ1 => truD x μ1 := by funext δ μ; exact ht δ μ
    rw [e]
    exact jt_val hv he⟩
theorem sub_ok {a b : List Nat} (h : subB a b = true) : ∀ i ∈ a, i ∈ b := fun i hi => by
  unfold subB at h
  have := List.all_eq_true.mp h i hi
  simpa using this
theorem units_of {A : Around} (hr : Room k A) : A.units + 64 < cLine ∧ A.units + 1 < cLine := ⟨by have := hr.un; omega, by have := hr.un; omega⟩
theorem tr_expr : ∀ (n : Nat) {c : Ctx} {X : Cx} {W : WX}, XOk c κ Ω k X W → ∀ (e : Expr) (t : E), trE n c e = some t → Both κ Ω X W e t
  | 0, c, X, W, h, e, t, ht => by unfold trE at ht; cases ht
  | n + 1, c, X, W, h, e, t, ht => by
    have ih : ∀ e t, trE n c e = some t → Both κ Ω X W e t := fun e t => tr_expr n h e t
    cases e with
    | Constant kk j pos =>
      unfold trE at ht
      dsimp only at ht
      split at ht
      · cases ht; exact both_leaf (je_c pe_non fun ρ H => rep_non.mpr rfl) (fun _ => rfl) (fun _ _ => rfl)
      · cases ht; exact both_leaf (je_c pe_bl fun ρ H => rep_bl.mpr rfl) (fun _ => rfl) (fun _ _ => rfl)
      · cases ht; exact both_leaf (je_c pe_int fun ρ H => rep_int.mpr rfl) (fun _ => rfl) (fun _ _ => rfl)
      · cases ht; exact both_leaf (je_c pe_str fun ρ H => rep_str.mpr rfl) (fun _ => rfl) (fun _ _ => rfl)
      · cases ht
    | Name x pos =>
      unfold trE at ht
      dsimp only at ht
      split at ht
      · rename_i i hs
        cases ht
        refine both_leaf (je_v (h.slot hs)) (fun _ => rfl) (fun δ μ => ?_)
        show (match δ[i]? with
          | some (some d) => truD d μ
          | _ => .stuck) = (match δ[i]? with
          | some (some d) => Res.ok d μ
          | _ => .stuck).bind fun x μ1 => truD x μ1
        split <;> rfl
      · split at ht
        · rename_i d hg
          cases ht
          obtain ⟨g1, g2, _, g3⟩ := h.gl hg
          obtain ⟨u, v, g4, g5, g6⟩ := h.con x d g3
          exact both_leaf (je_c (pe_glob g1 g4 g5 g2) g6) (fun _ => rfl) (fun _ _ => rfl)
        · rename_i hg
          obtain ⟨ty, h1, rfl⟩ := Option.map_eq_some_iff.mp ht
          obtain ⟨g1, g2, g4, g3⟩ := h.gl hg
          exact both_leaf (je_c (pe_bltn (v := .ty ty) g1 (h.free x g3) (tyOf_ok h1) rfl g4 g2) fun ρ H => rep_ty.mpr rfl) (fun _ => rfl) (fun _ _ => rfl)
        · cases ht
    | Tuple es j pos =>
      unfold trE at ht
      obtain ⟨r, h1, rfl⟩ := Option.map_eq_some_iff.mp ht
      exact ⟨je_tup (tr_list ih h1), jt_stuck fun _ _ => rfl⟩
    | List es pos =>
      unfold trE at ht
      obtain ⟨r, h1, rfl⟩ := Option.map_eq_some_iff.mp ht
      exact ⟨je_lst (tr_list ih h1), jt_stuck fun _ _ => rfl⟩
    | BinOp a o b pos =>
      unfold trE at ht
      obtain ⟨a', h1, h2⟩ := Option.bind_eq_some_iff.mp ht
      obtain ⟨b', h3, rfl⟩ := Option.map_eq_some_iff.mp h2
      exact ⟨je_bin (oj_bin h.hK o) (ih a a' h1).v (ih b b' h3).v, jt_stuck fun _ _ => rfl⟩
    | UnaryOp o a pos =>
      unfold trE at ht
      dsimp only at ht
      split at ht
      · obtain ⟨a', h1, rfl⟩ := Option.map_eq_some_iff.mp ht
        exact ⟨je_neg (ih a a' h1).v, jt_stuck fun _ _ => rfl⟩
      · obtain ⟨a', h1, rfl⟩ := Option.map_eq_some_iff.mp ht
        exact ⟨je_not (ih a a' h1).v, jt_not (ih a a' h1).t⟩
      · cases ht
    | BoolOp op vs pos =>
      unfold trE at ht
      obtain ⟨g1, g2⟩ := tr_bool ih ht
      exact ⟨g1, g2.pt⟩
    | IfExp t a b pos =>
      unfold trE at ht
      obtain ⟨t', h1, h2⟩ := Option.bind_eq_some_iff.mp ht
      obtain ⟨a', h3, h4⟩ := Option.bind_eq_some_iff.mp h2
      obtain ⟨b', h5, rfl⟩ := Option.map_eq_some_iff.mp h4
      exact ⟨je_ite (ih t t' h1).t (ih a a' h3).v (ih b b' h5).v, jt_stuck fun _ _ => rfl⟩
    | Compare a ops cs pos =>
      unfold trE at ht
      dsimp only at ht
      have hu := units_of h.room
      split at ht
      · rename_i o b
        split at ht
        · cases ht
        · rename_i hm
          obtain ⟨a', h1, h2⟩ := Option.bind_eq_some_iff.mp ht
          obtain ⟨b', h3, rfl⟩ := Option.map_eq_some_iff.mp h2
          have hm' : behindInMarks o b = false := by simpa using hm
          exact ⟨je_cmp (oj_cmp h.hK hu.1 o) (ih a a' h1).v (ih b b' h3).v hm', jt_cmp (oj_cmp h.hK hu.1 o) (ih a a' h1).v (ih b b' h3).v hm'⟩
      · rename_i o p b d
        split at ht
        · cases ht
        · rename_i hm
          obtain ⟨a', h1, h2⟩ := Option.bind_eq_some_iff.mp ht
          obtain ⟨b', h3, h4⟩ := Option.bind_eq_some_iff.mp h2
          obtain ⟨d', h5, rfl⟩ := Option.map_eq_some_iff.mp h4
          have hm' : lastMarks [o, p] [b, d] = false := by simpa using hm
          exact ⟨je_chn (oj_cmp h.hK hu.1 o) (oj_cmp h.hK hu.1 p) (ih a a' h1).v (ih b b' h3).v (ih d d' h5).v hm', jt_chn (oj_cmp h.hK hu.1 o) (oj_cmp h.hK hu.1 p) (ih a a' h1).v (ih b b' h3).v (ih d d' h5).v hm'⟩
      · cases ht
    | Subscript a i pos =>
      unfold trE at ht
      dsimp only at ht
      split at ht
      · rename_i lo hi st p2
        split at ht
        · obtain ⟨a', h1, h2⟩ := Option.bind_eq_some_iff.mp ht
          obtain ⟨l, h3, h4⟩ := Option.bind_eq_some_iff.mp h2
          obtain ⟨hh, h5, rfl⟩ := Option.map_eq_some_iff.mp h4
          exact ⟨je_sl h.hK (ih a a' h1).v (tr_opt ih h3) (tr_opt ih h5), jt_stuck fun _ _ => rfl⟩
        · cases ht
      · split at ht
        · cases ht
        · rename_i hs
          obtain ⟨a', h1, h2⟩ := Option.bind_eq_some_iff.mp ht
          obtain ⟨b', h3, rfl⟩ := Option.map_eq_some_iff.mp h2
          exact both_leaf (je_ix h.hK (ih a a' h1).v (ih _ b' h3).v (plainIx_of (by simpa using hs))) (fun _ => rfl) (fun _ _ => rfl)
    | Call f args kws pos =>
      unfold trE at ht
      dsimp only at ht
      split at ht
      · split at ht
        · rename_i x p
          split at ht
          · cases ht
          · rename_i e1 es
            split at ht
            · rename_i i m hg
              obtain ⟨es', h1, rfl⟩ := Option.map_eq_some_iff.mp ht
              obtain ⟨g1, g2, _, g3⟩ := h.gl hg
              obtain ⟨⟨fa, fd, ps, f1, f2, f3, f4⟩, f5⟩ := h.fn x i m g3
              have hp := trL_plain h1
              obtain ⟨hp1, hp2⟩ := Bool.and_eq_true_iff.mp (show (plainB e1 && es.all plainB) = true from hp)
              exact both_leaf (je_call f4 h.room g1 f1 f2 f3 h.tk f5 (tr_list ih h1) g2 (star_cons hp1) (star_back hp2)) (fun _ => rfl) (fun _ _ => rfl)
            · rename_i hg
              obtain ⟨b, h0, h2⟩ := Option.bind_eq_some_iff.mp ht
              obtain ⟨es', h1, rfl⟩ := Option.map_eq_some_iff.mp h2
              obtain ⟨g1, g2, _, g3⟩ := h.gl hg
              have hp := trL_plain h1
              obtain ⟨hp1, hp2⟩ := Bool.and_eq_true_iff.mp (show (plainB e1 && es.all plainB) = true from hp)
              exact both_leaf (je_blt (cj_blt h.hK h.calm b) (bltOf_ok h0) g1 (h.free x g3) (tr_list ih h1) (star_cons hp1) (star_back hp2)) (fun _ => rfl) (fun _ _ => rfl)
            · cases ht
        · rename_i o m apos
          split at ht
          · cases ht
          · rename_i hc
            have hc1 : callB o = false := by
              cases hcb : callB o with
              | false => rfl
              | true => exact absurd (Or.inl hcb) hc
            have hc2 : (apos.endLine == pos.line) = true := by
              cases hcb : (apos.endLine == pos.line) with
              | true => rfl
              | false => exact absurd (Or.inr hcb) hc
            split at ht
            · rename_i e1
              split at ht
              · rename_i hm
                subst hm
                obtain ⟨o', h1, h2⟩ := Option.bind_eq_some_iff.mp ht
                obtain ⟨es', h3, rfl⟩ := Option.map_eq_some_iff.mp h2
                have hp := trL_plain h3
                obtain ⟨hp1, hp2⟩ := Bool.and_eq_true_iff.mp (show (plainB e1 && [].all plainB) = true from hp)
                refine both_leaf (je_append h.hK (ih o o' h1).v (tr_list ih h3) (base_of hc1) ?_ hc2 (star_cons hp1) (star_back hp2)) (fun _ => rfl) (fun _ _ => rfl)
                rw [star_all hp]
                rfl
              · cases ht
            · rename_i e1 e2
              split at ht
              · rename_i hm
                subst hm
                obtain ⟨o', h1, h2⟩ := Option.bind_eq_some_iff.mp ht
                obtain ⟨es', h3, rfl⟩ := Option.map_eq_some_iff.mp h2
                have hp := trL_plain h3
                obtain ⟨hp1, hp2⟩ := Bool.and_eq_true_iff.mp (show (plainB e1 && [e2].all plainB) = true from hp)
                have hp3 : plainB e2 = true := by simpa using hp2
                unfold trL at h3
                rw [if_pos hp1] at h3
                obtain ⟨a1, k1, k2⟩ := Option.bind_eq_some_iff.mp h3
                obtain ⟨r1, k3, k4⟩ := Option.bind_eq_some_iff.mp k2
                unfold trL at k3
                rw [if_pos hp3] at k3
                obtain ⟨a2, k5, k6⟩ := Option.bind_eq_some_iff.mp k3
                obtain ⟨r2, k7, k8⟩ := Option.bind_eq_some_iff.mp k6
                unfold trL at k7
                cases k7
                cases k8
                cases k4
                refine both_leaf (je_get2 h.hK (units_of h.room).2 (ih o o' h1).v (ih e1 a1 k1).v (ih e2 a2 k5).v ⟨base_of hc1, ?_, hc2, ?_⟩) (fun _ => rfl) (fun _ _ => rfl)
                · rw [star_all hp]
                  rfl
                · rw [star_cons hp1, star_cons hp3]
                  rfl
              · cases ht
            · cases ht
        · cases ht
      · cases ht
    | ListComp elt gens scope pos =>
      unfold trE at ht
      dsimp only at ht
      split at ht
      · rename_i tg it ifs ai
        split at ht
        · rename_i hc
          obtain ⟨rfl, hb⟩ := hc
          obtain ⟨it', h1, h2⟩ := Option.bind_eq_some_iff.mp ht
          obtain ⟨t, h3, h4⟩ := Option.bind_eq_some_iff.mp h2
          split at h4
          · rename_i hsub
            obtain ⟨o, h5, h6⟩ := Option.bind_eq_some_iff.mp h4
            obtain ⟨fs, h7, h8⟩ := Option.bind_eq_some_iff.mp h6
            obtain ⟨e', h9, rfl⟩ := Option.map_eq_some_iff.mp h8
            obtain ⟨g1, g2⟩ := tr_iter h ih (tg := tg) h1
            have ok := blkOk_by hb
            have hx := fun s H C cl fp => h.blk scope ok.kind s H C cl fp
            -- the target's reading is one for all blocks
            have t1 := fun s H C cl fp => tr_tgt (hx s H C cl fp) n _ t h3
            have t2 := gok_of (κ := κ) t
            have ok' : BlkOk X.N X.env.scope scope (ownOf c.N scope) := by rw [h.N, h.sc]; exact ok
            have hts : ∀ s H C cl fp, JTs κ (X.blk s H scope (compEnvC scope cl C X.env) fp) W0 ifs (tvo Ω fs) := fun s H C cl fp => by
              unfold oneIf at h5
              split at h5
              · cases h5
                unfold trO at h7
                cases h7
                exact jts_nil
              · cases h5
                unfold trO at h7
                obtain ⟨a', k1, rfl⟩ := Option.map_eq_some_iff.mp h7
                exact jts_one (tr_expr n (hx s H C cl fp) _ a' k1).t
              · cases h5
            exact ⟨pe_imp (pe_lc h.calm (by rw [h.N]; exact h.nd) g1 ok' t1 (fun s H C cl fp => hts s H C cl fp) (fun s H C cl fp => (tr_expr n (hx s H C cl fp) elt e' h9).v) (g2 _)) fun σ H Q q => lc_read t2 (sub_ok hsub) q, jt_stuck fun _ _ => rfl⟩
          · cases h4
        · cases ht
      · rename_i tg it ifs ai tg1 it1 ifs1 ai1
        split at ht
        · rename_i hc
          obtain ⟨rfl, rfl, hi1, hi2, hb⟩ := hc
          obtain rfl : ifs = [] := by cases ifs <;> first | rfl | cases hi1
          obtain rfl : ifs1 = [] := by cases ifs1 <;> first | rfl | cases hi2
          obtain ⟨it', h1, h2⟩ := Option.bind_eq_some_iff.mp ht
          obtain ⟨t, h3, h4⟩ := Option.bind_eq_some_iff.mp h2
          obtain ⟨it1', h5, h6⟩ := Option.bind_eq_some_iff.mp h4
          obtain ⟨t1, h7, h8⟩ := Option.bind_eq_some_iff.mp h6
          split at h8
          · rename_i hsub
            obtain ⟨e', h9, rfl⟩ := Option.map_eq_some_iff.mp h8
            obtain ⟨g1, g2⟩ := tr_iter h ih (tg := tg) h1
            have ok := blkOk_by hb
            have hx := fun s H C cl fp => h.blk scope ok.kind s H C cl fp
            have u1 := fun s H C cl fp => tr_tgt (hx s H C cl fp) n _ t h3
            have u2 := gok_of (κ := κ) t
            have u3 := fun s H C cl fp => tr_tgt (hx s H C cl fp) n _ t1 h7
            have u4 := gok_of (κ := κ) t1
            have ok' : BlkOk X.N X.env.scope scope (ownOf c.N scope) := by rw [h.N, h.sc]; exact ok
            have hi := fun s H C cl fp => tr_iter (hx s H C cl fp) (tr_expr n (hx s H C cl fp)) (tg := tg1) h5
            exact ⟨pe_imp (pe_lc2 h.calm (by rw [h.N]; exact h.nd) g1 ok' (sub_ok hsub.2) u1 (fun s H C cl fp => pts_nil) (fun s H C cl fp => (hi s H C cl fp).1) u3 (fun s H C cl fp => pts_nil) (fun s H C cl fp => (tr_expr n (hx s H C cl fp) elt e' h9).v) (g2 _) (fold_iter h5)) fun σ H Q q => lc2_read u2 (sub_ok hsub.1) u4 (fun i hi => hi) q, jt_stuck fun _ _ => rfl⟩
          · cases h8
        · cases ht
      · cases ht
    | Dict ks vs pos =>
      unfold trE at ht
      dsimp only at ht
      split at ht
      · rename_i hc
        obtain ⟨r, h1, rfl⟩ := Option.map_eq_some_iff.mp ht
        exact ⟨je_dic (tr_pairs ih h1) hc.1 hc.2.1 (by intro e; rw [e] at hc; exact absurd hc.2.2.2 (by simp)) hc.2.2.1, jt_stuck fun _ _ => rfl⟩
      · cases ht
    | _ => unfold trE at ht; cases ht
end
end Tk

namespace Tk
open PySem PySem.Spec PyProof.Rows L2

/-! ### stores by place -/
section
variable {κ : Kx} {X : Cx}
def rSetJ (κ : Kx) : TSet := fun o i v H Q => ∃ ρ μ d1 d2 d3 W σ, Rel κ ρ H μ ∧ Rep κ ρ H d1 o ∧ Rep κ ρ H d2 i ∧ Rep κ ρ H d3 v ∧ Post κ (fun _ _ (_ : Unit) (_ : Unit) => True) W σ ρ H (setixD d1 d2 d3 μ) (fun _ H' => Q H')
theorem Rel.wdic {ρ H μ} (r : Rel κ ρ H μ) {n : Nat} {a : Addr} {ks ls : List (Key × V)} {kvs : List (D × D)} (ha : ρ[n]? = some a) (h : H a = some (.dK ks)) (hs : RepK κ ρ H kvs ls) : Rel κ ρ (upd H a (.dK ls)) (μ.set n (.dic kvs)) ∧ Ext ρ H ρ (upd H a (.dK ls)) :=
  ⟨r.write ha (not_tup_dK h) ⟨ls, upd_same, hs.ext (.write (not_tup_dK h))⟩, .write (not_tup_dK h)⟩
theorem set_any (hu : X.A.units + 1 < cLine) : PSet X (rSetJ κ) := by
  intro pins s σ H o i v ov iv u Q I ro ri rv h
  obtain ⟨ρ, μ, d1, d2, d3, W, σ', r, h1, h2, h3, p⟩ := h
  unfold setixD at p
  split at p
  · obtain ⟨a, g0, rfl⟩ := rep_loc.mp h1
    split at p
    · rename_i xs hl
      obtain ⟨vs, g1, g2⟩ := r.lst hl g0
      split at p
      · obtain rfl := rep_int.mp h2
        split at p
        · rename_i j hj
          obtain ⟨r', e'⟩ := r.wlst g0 g1 (g2.set h3 j)
          exact set_list pins s σ H _ _ v ov iv u Q I ro ri rv ⟨a, vs, _, j, rfl, rfl, g1, by rw [← g2.len]; exact hj, p ρ _ () e' r' trivial⟩
        · exact p.elim
      · exact p.elim
    · rename_i kvs hl
      obtain ⟨ks, g1, g2⟩ := r.dic hl g0
      split at p
      · rename_i k hk
        split at p
        · rename_i hlen
          obtain rfl := rep_key hk h2
          obtain ⟨r', e'⟩ := r.wdic g0 g1 (putKD hk h3 g2)
          obtain rfl : ov = Value.ref a := ro
          exact d_setItem hu I (.k g1 (by rw [← lenK g2]; exact hlen)) ri rv fun s' I' => ⟨_, I', p ρ _ () e' r' trivial⟩
        · exact p.elim
      · exact p.elim
    · exact p.elim
  · exact p.elim
end

/-! ### a, b, c = x, y, z with plain local names -/
section
variable {X : Cx} {pos : Pos}
def tPar3 (i j k : Nat) (ta : TA) : TS := fun D σ H => ta σ H fun vs H1 => ∃ v w z, vs = [v, w, z] ∧ D.nx (((σ.set i (some v)).set j (some w)).set k (some z)) H1
theorem vals3 {x y z : V} {us : List Value} (r : Vals [x, y, z] us) : ∃ u1 u2 u3, us = [u1, u2, u3] ∧ RelV x u1 ∧ RelV y u2 ∧ RelV z u3 := by
  cases r with
  | cons p q =>
    cases q with
    | cons p' q' =>
      cases q' with
      | cons p'' q'' =>
        cases q''
        exact ⟨_, _, _, rfl, p, p', p''⟩
theorem ps_par3 {i j k : Nat} {x y z : Str} {a b c : Expr} {ta : TA} {px py pz pt : Pos} {kt k2 pt2} (hc : X.calm = true) (hN : X.N.Nodup) (hi : X.N[i]? = some x) (hj : X.N[j]? = some y) (hk : X.N[k]? = some z) (hij : i ≠ j) (hik : i ≠ k) (hjk : j ≠ k)
    (hx : X.env.scope.names.lookup x = some .local) (hy : X.env.scope.names.lookup y = some .local) (hz : X.env.scope.names.lookup z = some .local) (ha : PA X [a, b, c] ta)
    (hw : swappedStores [.Tuple [.Name x px, .Name y py, .Name z pz] kt pt] (.Tuple [a, b, c] k2 pt2) X.env = pure (some [x, y, z]))
    (hs : swapsWithSole [.Tuple [.Name x px, .Name y py, .Name z pz] kt pt] (.Tuple [a, b, c] k2 pt2) pos.line X.env = pure false := by rfl) :
    PS X (.Assign [.Tuple [.Name x px, .Name y py, .Name z pz] kt pt] (.Tuple [a, b, c] k2 pt2) pos) (tPar3 i j k ta) := by
  refine ⟨fun pins s σ H D I h => ?_⟩
  rw [exec_Assign_arm]
  refine wpAny_bind (wpAny_standAt ?_)
  rw [hs]
  refine wpAny_bind (wpAny_pure ?_)
  rw [if_neg (by decide)]
  refine wpAny_bind (Tuple_ (thn (ha.run _ pins s σ H _ I h) fun us s1 ⟨vs, H1, I1, r1, q1⟩ => ?_))
  obtain ⟨v, w, zz, e1, q1⟩ := q1
  subst e1
  obtain ⟨u1, u2, u3, rfl, rv, rw', rz⟩ := vals3 r1
  refine wpAny_newObj_type ?_ (by show 3 ≤ sizeLine; decide)
  have I2 : Inv X pins σ H1 { s1 with heap := s1.heap.push { cls := .type "tuple", data := .seq [u1, u2, u3].toArray } } := I1.kept (t' := s1.toks) fun b o e => Heap.get?_push_of_some _ e
  rw [hw]
  refine wpAny_bind (wpAny_pure ?_)
  show wpAny (model X.prog X.w) X.A (do rule "assign.swapped-stores"; let items ← unpackItems (.ref s1.heap.objs.size) 3 none; assignInOrder [fun v => bindName X.env z v, fun v => bindName X.env y v, fun v => bindName X.env x v] items.reverse; pure Flow.next) _ _ _
  refine wpAny_bind (wpAny_rule (wpAny_bind (unpackItems_tuple (items := #[u1, u2, u3]) (I.ok.hd hc) (IsTup.new s1.heap _) fun h' hx' => ?_)))
  have I3 := I2.kept (h' := h') (t' := s1.toks) fun b o e => hx' b o (Nat.ne_of_lt (Heap.lt_size e)) e
  show wpAny _ _ (assignInOrder [fun v => bindName X.env z v, fun v => bindName X.env y v, fun v => bindName X.env x v] [u3, u2, u1] >>= fun _ => pure Flow.next) _ _ _
  refine wpAny_bind (assignInOrder_cons (wpAny_bindName (store_ok I3 hN hk (.inl hz) rz (fun s2 I4 => ?_) (.inr hz))))
  refine assignInOrder_cons (wpAny_bindName (store_ok I4 hN hj (.inl hy) rw' (fun s3 I5 => ?_) (.inr hy)))
  refine assignInOrder_cons (wpAny_bindName (store_ok I5 hN hi (.inl hx) rv (fun s4 I6 => assignInOrder_nil (wpAny_pure ?_)) (.inr hx)))
  have e : ((σ.set k (some zz)).set j (some w)).set i (some v) = ((σ.set i (some v)).set j (some w)).set k (some zz) := by
    rw [List.set_comm _ _ (Ne.symm hij), List.set_comm _ _ (Ne.symm hik), List.set_comm _ _ (Ne.symm hjk)]
  rw [e] at I6
  exact ⟨_, H1, I6, q1⟩
end

/-! ### the translation of statements -/
def compB : Expr → Bool
  | .ListComp .. => true
  | .SetComp .. => true
  | .DictComp .. => true
  | _ => false
theorem swaps_no {e : Expr} {t : Option Expr} {l : Nat} {env : Env} (h : compB e = false) : swapsWith e t l env = pure false := by
  cases e <;> first | rfl | (cases h; done)
/-- a comprehension given to a name of its own line -/
def swLc (c : Ctx) (scope : Scope) (pos : Pos) (y : Str) (py : Pos) : Bool :=
  c.sc.names.lookup y == some .local && py.line == pos.line && !(scope.names.any fun (n, k) => n == y && (k == .local || k == .cell))
theorem swaps_lc {c : Ctx} {env : Env} (hsc : env.scope = c.sc) (hk : c.sc.kind = .function) {elt : Expr} {gs : List Comprehension} {scope : Scope} {pos py : Pos} {y : Str} {l : Nat} : swapsWith (.ListComp elt gs scope pos) (some (.Name y py)) l env = pure (swLc c scope pos y py) := by
  have hb : env.blockKind = .function := by unfold Env.blockKind; rw [hsc, hk]; rfl
  unfold swapsWith swLc
  simp only [hb, Env.kindOf, hsc, Expr.pos]
  rfl
/-- which names of a tuple are stored from the right: none is «not known» -/
def swNames (c : Ctx) (line : Nat) (ts : List Expr) : List Str := ts.filterMap fun
  | .Name id pos => if c.sc.names.lookup id == some .local && pos.line == line then some id else none
  | _ => none
def swSt (c : Ctx) (ts vs : List Expr) : Option (Option (List Str)) :=
  if (!(ts.length == 2 || ts.length == 3) || vs.length != ts.length) = true then some none
  else if (vs.any fun | .Starred .. => true | _ => false) = true then some none
  else
    let names := swNames c ((ts.head?.map (·.pos.line)).getD 0) ts
    if (names.length != ts.length || names.eraseDups.length != names.length) = true then some none
    else if (vs.all (foldedForSure 8)) = true then some none
    else if (vs.all (constantsAlone 8)) = true then none
    else some (some names)
theorem swst_ok {c : Ctx} {env : Env} (hsc : env.scope = c.sc) (hk : c.sc.kind = .function) {ts vs : List Expr} {k k2 : Nat} {p p2 : Pos} {r : Option (List Str)} (h : swSt c ts vs = some r) : swappedStores [.Tuple ts k p] (.Tuple vs k2 p2) env = pure r := by
  obtain ⟨N, sc, G, fb⟩ := c
  dsimp only at hsc hk
  subst hsc
  have hb : env.blockKind = .function := by unfold Env.blockKind; rw [hk]; rfl
  unfold swSt at h
  unfold swappedStores
  dsimp only at h ⊢
  have e1 : (!(ts.length == 2 || ts.length == 3) || vs.length != ts.length || env.blockKind != .function) = (!(ts.length == 2 || ts.length == 3) || vs.length != ts.length) := by
    rw [hb]
    simp
  rw [e1]
  split at h
  · rename_i h1
    refine Eq.trans (if_pos h1) ?_
    cases h
    rfl
  · rename_i h1
    refine Eq.trans (if_neg h1) ?_
    split at h
    · rename_i h2
      refine Eq.trans (if_pos (by exact h2)) ?_
      cases h
      rfl
    · rename_i h2
      refine Eq.trans (if_neg (by exact h2)) ?_
      split at h
      · rename_i h3
        refine Eq.trans (if_pos (by exact h3)) ?_
        cases h
        rfl
      · rename_i h3
        refine Eq.trans (if_neg (by exact h3)) ?_
        split at h
        · rename_i h4
          refine Eq.trans (if_pos (by exact h4)) ?_
          cases h
          rfl
        · rename_i h4
          refine Eq.trans (if_neg (by exact h4)) ?_
          split at h
          · cases h
          · rename_i h5
            refine Eq.trans (if_neg (by exact h5)) ?_
            cases h
            rfl
theorem sw_other {ts : List Expr} {e : Expr} {env : Env} {k : Nat} {p : Pos} (h : ∀ vs k p, e ≠ .Tuple vs k p) : swappedStores [.Tuple ts k p] e env = pure none := by
  cases e with
  | Tuple vs k p => exact absurd rfl (h vs k p)
  | _ => rfl
end Tk

namespace Tk
open PySem PySem.Spec PyProof.Rows L2

section
variable {κ : Kx} {Ω : Om} {k : Nat}
/-- a comprehension that is given to a name of its line -/
theorem tr_lc {n : Nat} {c : Ctx} {X : Cx} {W : WX} (h : XOk c κ Ω k X W) {elt : Expr} {gens : List Comprehension} {scope : Scope} {pos : Pos} {t : E} (ht : trE (n + 1) c (.ListComp elt gens scope pos) = some t) :
    ∃ te : TE, (∀ (i : Nat) (y : Str) (py spos : Pos), X.N[i]? = some y → X.env.scope.names.lookup y = some .local → swapsWith (.ListComp elt gens scope pos) (some (.Name y py)) spos.line X.env = pure true →
      PS X (.Assign [.Name y py] (.ListComp elt gens scope pos) spos) (tAsg te (gName i))) ∧ ∀ σ H Q, tE κ W (ev Ω t) σ H Q → te σ H Q := by
  have ih : ∀ e t, trE n c e = some t → Both κ Ω X W e t := fun e t => tr_expr n h e t
  unfold trE at ht
  dsimp only at ht
  split at ht
  · rename_i tg it ifs ai
    split at ht
    · rename_i hc
      obtain ⟨rfl, hb⟩ := hc
      obtain ⟨it', h1, h2⟩ := Option.bind_eq_some_iff.mp ht
      obtain ⟨t, h3, h4⟩ := Option.bind_eq_some_iff.mp h2
      split at h4
      · rename_i hsub
        obtain ⟨o, h5, h6⟩ := Option.bind_eq_some_iff.mp h4
        obtain ⟨fs, h7, h8⟩ := Option.bind_eq_some_iff.mp h6
        obtain ⟨e', h9, rfl⟩ := Option.map_eq_some_iff.mp h8
        obtain ⟨g1, g2⟩ := tr_iter h ih (tg := tg) h1
        have ok := blkOk_by hb
        have hx := fun s H C cl fp => h.blk scope ok.kind s H C cl fp
        -- the target's reading is one for all blocks
        have t1 := fun s H C cl fp => tr_tgt (hx s H C cl fp) n _ t h3
        have t2 := gok_of (κ := κ) t
        have ok' : BlkOk X.N X.env.scope scope (ownOf c.N scope) := by rw [h.N, h.sc]; exact ok
        have hts : ∀ s H C cl fp, JTs κ (X.blk s H scope (compEnvC scope cl C X.env) fp) W0 ifs (tvo Ω fs) := fun s H C cl fp => by
          unfold oneIf at h5
          split at h5
          · cases h5
            unfold trO at h7
            cases h7
            exact jts_nil
          · cases h5
            unfold trO at h7
            obtain ⟨a', k1, rfl⟩ := Option.map_eq_some_iff.mp h7
            exact jts_one (tr_expr n (hx s H C cl fp) _ a' k1).t
          · cases h5
        refine ⟨_, fun i y py spos hy hyl hsw => ps_setLc h.calm (by rw [h.N]; exact h.nd) hy hyl hsw g1 ok' t1 (fun s H C cl fp => hts s H C cl fp) (fun s H C cl fp => (tr_expr n (hx s H C cl fp) elt e' h9).v) (g2 _), fun σ H Q q => lc_read t2 (sub_ok hsub) q⟩
      · cases h4
    · cases ht
  · rename_i tg it ifs ai tg1 it1 ifs1 ai1
    split at ht
    · rename_i hc
      obtain ⟨rfl, rfl, hi1, hi2, hb⟩ := hc
      obtain rfl : ifs = [] := by cases ifs <;> first | rfl | cases hi1
      obtain rfl : ifs1 = [] := by cases ifs1 <;> first | rfl | cases hi2
      obtain ⟨it', h1, h2⟩ := Option.bind_eq_some_iff.mp ht
      obtain ⟨t, h3, h4⟩ := Option.bind_eq_some_iff.mp h2
      obtain ⟨it1', h5, h6⟩ := Option.bind_eq_some_iff.mp h4
      obtain ⟨t1, h7, h8⟩ := Option.bind_eq_some_iff.mp h6
      split at h8
      · rename_i hsub
        obtain ⟨e', h9, rfl⟩ := Option.map_eq_some_iff.mp h8
        obtain ⟨g1, g2⟩ := tr_iter h ih (tg := tg) h1
        have ok := blkOk_by hb
        have hx := fun s H C cl fp => h.blk scope ok.kind s H C cl fp
        have u1 := fun s H C cl fp => tr_tgt (hx s H C cl fp) n _ t h3
        have u2 := gok_of (κ := κ) t
        have u3 := fun s H C cl fp => tr_tgt (hx s H C cl fp) n _ t1 h7
        have u4 := gok_of (κ := κ) t1
        have ok' : BlkOk X.N X.env.scope scope (ownOf c.N scope) := by rw [h.N, h.sc]; exact ok
        have hi := fun s H C cl fp => tr_iter (hx s H C cl fp) (tr_expr n (hx s H C cl fp)) (tg := tg1) h5
        refine ⟨_, fun i y py spos hy hyl hsw => ps_setLc2 h.calm (by rw [h.N]; exact h.nd) hy hyl hsw g1 ok' (sub_ok hsub.2) u1 (fun s H C cl fp => pts_nil) (fun s H C cl fp => (hi s H C cl fp).1) u3 (fun s H C cl fp => pts_nil) (fun s H C cl fp => (tr_expr n (hx s H C cl fp) elt e' h9).v) (g2 _) (fold_iter h5), fun σ H Q q => lc2_read u2 (sub_ok hsub.1) u4 (fun i hi => hi) q⟩
      · cases h8
    · cases ht
  · cases ht

end

/-! ### the translation of statements -/
def trSs (f : Stmt → Option S) : List Stmt → Option Ss
  | [] => some .nil
  | s :: r => (f s).bind fun a => (trSs f r).map fun b => .cons a b
def Ctx.lslot (c : Ctx) (x : Str) : Option Nat := if c.sc.names.lookup x = some .local then c.N.idxOf? x else none
def trS (m : Nat) : Nat → Ctx → Stmt → Option S
  | 0, _, _ => none
  | n + 1, c, st => match st with
    | .Assign ts e pos => (match ts with
      | [t] => (match t with
        | .Name x px => if compB e = false then (trG c m t).bind fun t' => (trE m c e).map fun e' => .asg t' e' else (match e with
          | .ListComp elt gens scope lpos => if swLc c scope lpos x px = true then (c.lslot x).bind fun i => (trE m c (.ListComp elt gens scope lpos)).map fun e' => .asg (.name i) e'
            else (trG c m t).bind fun t' => (trE m c (.ListComp elt gens scope lpos)).map fun e' => .asg t' e'
          | _ => none)
        | .Tuple tgs kt pt => (match e with
          | .Tuple vs k2 p2 => (match swSt c tgs vs with
            | none => none
            | some none => (trG c m (.Tuple tgs kt pt)).bind fun t' => (trE m c (.Tuple vs k2 p2)).map fun e' => .asg t' e'
            | some (some names) => (match tgs, vs with
              | [.Name x _, .Name y _], [a, b] => if names = [x, y] then (c.lslot x).bind fun i => (c.lslot y).bind fun j => if i ≠ j then (trL (trE m c) [a, b]).map fun es => .asg (.tup [.name i, .name j]) (.tup es) else none else none
              | [.Name x _, .Name y _, .Name z _], [a, b, d] => if names = [x, y, z] then (c.lslot x).bind fun i => (c.lslot y).bind fun j => (c.lslot z).bind fun l => if i ≠ j ∧ i ≠ l ∧ j ≠ l then (trL (trE m c) [a, b, d]).map fun es => .asg (.tup [.name i, .name j, .name l]) (.tup es) else none else none
              | _, _ => none))
          | e => (trG c m (.Tuple tgs kt pt)).bind fun t' => (trE m c e).map fun e' => .asg t' e')
        | .Subscript o i _ => if sliceB i = true then none else (trE m c e).bind fun e' => (trE m c o).bind fun o' => (trE m c i).map fun i' => .setix o' i' e'
        | _ => none)
      | _ => none)
    | .AugAssign t op e _ => (match t with
      | .Name x _ => (c.lslot x).bind fun i => (trE m c e).map fun e' => .aug i op e'
      | _ => none)
    | .Expr e _ => if compB e = true then none else (trE m c e).map .expr
    | .Return v _ => (match v with
      | none => some .retn
      | some e => (trE m c e).map .ret)
    | .If t a b _ => (trE m c t).bind fun t' => (trSs (trS m n c) a).bind fun a' => (trSs (trS m n c) b).map fun b' => .ifs t' a' b'
    | .For tg it body orelse _ => (match orelse with
      | [] => (trI c (trE m c) it).bind fun it' => (trG c m tg).bind fun t => (trSs (trS m n c) body).map fun b => .for_ t it' b
      | _ => none)
    | .While t body orelse _ => (match orelse with
      | [] => (trE m c t).bind fun t' => (trSs (trS m n c) body).map fun b => .while_ t' b
      | _ => none)
    | .Pass _ => some .pass
    | .Break _ => some .brk
    | .Continue _ => some .cont
    | _ => none
section
variable {κ : Kx} {Ω : Om} {k : Nat}
structure SOk (X : Cx) : Prop where
  pass : PassesOwn (model X.prog X.w) X.A X.env X.xe
variable {c : Ctx} {X : Cx} {W : WX}
theorem lslot_ok (h : XOk c κ Ω k X W) {x : Str} {i : Nat} (hs : c.lslot x = some i) : X.N[i]? = some x ∧ X.env.scope.names.lookup x = some .local := by
  unfold Ctx.lslot at hs
  split at hs
  · rename_i hc
    exact ⟨by rw [h.N]; exact idx_some hs, by rw [h.sc]; exact hc⟩
  · cases hs
theorem tr_block {f : Stmt → Option S} (hf : ∀ st s, f st = some s → JS κ X W st (evS Ω s)) : ∀ {sts : List Stmt} {r : Ss}, trSs f sts = some r → JSs κ X W sts (evSs Ω r)
  | [], r, h => by
    unfold trSs at h
    cases h
    exact js_nil
  | st :: sts, r, h => by
    unfold trSs at h
    obtain ⟨a, h1, h2⟩ := Option.bind_eq_some_iff.mp h
    obtain ⟨b, h3, rfl⟩ := Option.map_eq_some_iff.mp h2
    exact js_cons (hf st a h1) (tr_block hf h3)
theorem js_gen (h : XOk c κ Ω k X W) {m : Nat} {t e : Expr} {t' : Tg} {e' : E} {pos : Pos} (h1 : trG c m t = some t') (h2 : trE m c e = some e') (hs : swapsWithSole [t] e pos.line X.env = pure false) (hw : swappedStores [t] e X.env = pure none)
    (h3 : (assignEach [t] X.env).map (·.2) = [assign t X.env]) : JS κ X W (.Assign [t] e pos) (evS Ω (.asg t' e')) :=
  js_asg (ps_asg (tr_expr m h e e' h2).v (tr_tgt h m t t' h1) hs hw h3) (fun _ _ _ z => z) (gok_of t')
theorem sws_no {t e : Expr} {l : Nat} {env : Env} (h : compB e = false) : swapsWithSole [t] e l env = pure false := swaps_no h
theorem sws_tup {ts : List Expr} {kt : Nat} {pt : Pos} {e : Expr} {l : Nat} {env : Env} : swapsWithSole [.Tuple ts kt pt] e l env = pure false := by cases e <;> rfl
theorem sws_sub {o i : Expr} {pt : Pos} {e : Expr} {l : Nat} {env : Env} : swapsWithSole [.Subscript o i pt] e l env = pure false := by cases e <;> rfl
theorem par2 {σ : L2.St} {H : Hp} {D : Ends} {es : Es} {i j : Nat} (hij : i ≠ j) (h : tS κ W (evS Ω (.asg (.tup [.name i, .name j]) (.tup es))) D σ H) (hl : ∀ δ μ ds μ', evs Ω es δ μ = .ok ds μ' → ds.length = 2) : tPar i j (tA κ W (evs Ω es)) D σ H := by
  obtain ⟨ρ, δ, μ, s, r, q⟩ := h
  have q' : PostS κ W ρ H (RS.of δ (evs Ω es δ μ) fun ds μ1 => match (if ds.length ≤ sizeLine then bindG (.tup [.name i, .name j]) (.tup ds) δ else none) with
    | some δ1 => .nx δ1 μ1
    | none => .stuck) D := by
    have q2 : PostS κ W ρ H (RS.of δ ((evs Ω es δ μ).bind fun ds μ1 => if ds.length ≤ sizeLine then .ok (.tup ds) μ1 else .stuck) fun d μ1 => match bindG (.tup [.name i, .name j]) d δ with
      | some δ1 => .nx δ1 μ1
      | none => .stuck) D := q
    cases hm : evs Ω es δ μ with
    | ok ds μ1 =>
      rw [hm] at q2
      dsimp only [Res.bind] at q2
      show PostS κ W ρ H (match (if ds.length ≤ sizeLine then bindG (.tup [.name i, .name j]) (.tup ds) δ else none) with
        | some δ1 => .nx δ1 μ1
        | none => .stuck) D
      by_cases hz : ds.length ≤ sizeLine
      · rw [if_pos hz] at q2 ⊢; exact q2
      · rw [if_neg hz] at q2; exact q2.elim
    | exc _ _ _ => rw [hm] at q2; exact q2
    | stuck => rw [hm] at q2; exact q2
  refine ⟨ρ, δ, μ, s, r, ?_⟩
  cases hm : evs Ω es δ μ with
  | exc c fs μ1 =>
    rw [hm] at q'
    exact fun ρ1 H1 dd gs e1 r1 h1 f1 => q' ρ1 H1 σ dd gs e1 r1 (s.ext e1) h1 f1
  | stuck => rw [hm] at q'; exact q'.elim
  | ok ds μ1 =>
    rw [hm] at q'
    have hl' := hl δ μ ds μ1 hm
    match ds, hl' with
    | [d1, d2], _ =>
      intro ρ1 H1 vs e1 r1 x1
      obtain ⟨v, w, rfl, y1, y2⟩ := reps2 x1
      refine ⟨v, w, rfl, ?_⟩
      have q3 : PostS κ W ρ H (.nx ((δ.set i (some d1)).set j (some d2)) μ1) D := by
        have e : (if [d1, d2].length ≤ sizeLine then bindG (.tup [.name i, .name j]) (.tup [d1, d2]) δ else none) = some ((δ.set i (some d1)).set j (some d2)) := by
          rw [if_pos (by show 2 ≤ sizeLine; decide)]
          rfl
        have q4 := q'
        dsimp only [RS.of] at q4
        rw [e] at q4
        exact q4
      exact q3 ρ1 H1 _ e1 r1 (((s.ext e1).set y1 i).set y2 j)
theorem reps3 {ρ H d e f vs} (h : Reps κ ρ H [d, e, f] vs) : ∃ v w z, vs = [v, w, z] ∧ Rep κ ρ H d v ∧ Rep κ ρ H e w ∧ Rep κ ρ H f z := by
  unfold Reps at h
  obtain ⟨v, w, rfl, h1, h2⟩ := h
  obtain ⟨u, z, rfl, h3, h4⟩ := reps2 h2
  exact ⟨v, u, z, rfl, h1, h3, h4⟩
theorem par3 {σ : L2.St} {H : Hp} {D : Ends} {es : Es} {i j l : Nat} (h : tS κ W (evS Ω (.asg (.tup [.name i, .name j, .name l]) (.tup es))) D σ H) (hl : ∀ δ μ ds μ', evs Ω es δ μ = .ok ds μ' → ds.length = 3) : tPar3 i j l (tA κ W (evs Ω es)) D σ H := by
  obtain ⟨ρ, δ, μ, s, r, q⟩ := h
  have q' : PostS κ W ρ H (RS.of δ (evs Ω es δ μ) fun ds μ1 => match (if ds.length ≤ sizeLine then bindG (.tup [.name i, .name j, .name l]) (.tup ds) δ else none) with
    | some δ1 => .nx δ1 μ1
    | none => .stuck) D := by
    have q2 : PostS κ W ρ H (RS.of δ ((evs Ω es δ μ).bind fun ds μ1 => if ds.length ≤ sizeLine then .ok (.tup ds) μ1 else .stuck) fun d μ1 => match bindG (.tup [.name i, .name j, .name l]) d δ with
      | some δ1 => .nx δ1 μ1
      | none => .stuck) D := q
    cases hm : evs Ω es δ μ with
    | ok ds μ1 =>
      rw [hm] at q2
      dsimp only [Res.bind] at q2
      show PostS κ W ρ H (match (if ds.length ≤ sizeLine then bindG (.tup [.name i, .name j, .name l]) (.tup ds) δ else none) with
        | some δ1 => .nx δ1 μ1
        | none => .stuck) D
      by_cases hz : ds.length ≤ sizeLine
      · rw [if_pos hz] at q2 ⊢; exact q2
      · rw [if_neg hz] at q2; exact q2.elim
    | exc _ _ _ => rw [hm] at q2; exact q2
    | stuck => rw [hm] at q2; exact q2
  refine ⟨ρ, δ, μ, s, r, ?_⟩
  cases hm : evs Ω es δ μ with
  | exc c fs μ1 =>
    rw [hm] at q'
    exact fun ρ1 H1 dd gs e1 r1 h1 f1 => q' ρ1 H1 σ dd gs e1 r1 (s.ext e1) h1 f1
  | stuck => rw [hm] at q'; exact q'.elim
  | ok ds μ1 =>
    rw [hm] at q'
    have hl' := hl δ μ ds μ1 hm
    match ds, hl' with
    | [d1, d2, d3], _ =>
      intro ρ1 H1 vs e1 r1 x1
      obtain ⟨v, w, z, rfl, y1, y2, y3⟩ := reps3 x1
      refine ⟨v, w, z, rfl, ?_⟩
      have q3 : PostS κ W ρ H (.nx (((δ.set i (some d1)).set j (some d2)).set l (some d3)) μ1) D := by
        have e : (if [d1, d2, d3].length ≤ sizeLine then bindG (.tup [.name i, .name j, .name l]) (.tup [d1, d2, d3]) δ else none) = some (((δ.set i (some d1)).set j (some d2)).set l (some d3)) := by
          rw [if_pos (by show 3 ≤ sizeLine; decide)]
          rfl
        have q4 := q'
        dsimp only [RS.of] at q4
        rw [e] at q4
        exact q4
      exact q3 ρ1 H1 _ e1 r1 ((((s.ext e1).set y1 i).set y2 j).set y3 l)
theorem evs_len {f : Expr → Option E} : ∀ {es : List Expr} {r : Es}, trL f es = some r → ∀ δ μ ds μ', evs Ω r δ μ = .ok ds μ' → ds.length = es.length
  | [], r, h, δ, μ, ds, μ', he => by
    unfold trL at h
    cases h
    unfold evs at he
    cases he
    rfl
  | e :: es, r, h, δ, μ, ds, μ', he => by
    unfold trL at h
    split at h
    · obtain ⟨a, h1, h2⟩ := Option.bind_eq_some_iff.mp h
      obtain ⟨b, h3, h4⟩ := Option.bind_eq_some_iff.mp h2
      cases h4
      unfold evs at he
      cases hm : ev Ω a δ μ with
      | ok d μ1 =>
        rw [hm] at he
        dsimp only [Res.bind] at he
        cases hm2 : evs Ω b δ μ1 with
        | ok ds2 μ2 =>
          rw [hm2] at he
          cases he
          rw [List.length_cons, List.length_cons, evs_len h3 δ μ1 ds2 _ hm2]
        | exc _ _ _ => rw [hm2] at he; cases he
        | stuck => rw [hm2] at he; cases he
      | exc _ _ _ => rw [hm] at he; cases he
      | stuck => rw [hm] at he; cases he
    · cases h
end
end Tk

namespace Tk
open PySem PySem.Spec PyProof.Rows L2

section
variable {κ : Kx} {Ω : Om} {k : Nat}
variable {c : Ctx} {X : Cx} {W : WX}
theorem js_setix {m : Nat} (h : XOk c κ Ω k X W) {o i e : Expr} {e' o' i' : E} {pos ps : Pos} (hsl : sliceB i = false) (h1 : trE m c e = some e') (h2 : trE m c o = some o') (h3 : trE m c i = some i') : JS κ X W (.Assign [.Subscript o i ps] e pos) (evS Ω (.setix o' i' e')) := by
  have ha : ∀ v, assign (.Subscript o i ps) X.env v = (do
      let ov ← holding [v] (eval o X.env)
      let iv ← holding [v, ov] (eval i X.env)
      standAt ps
      holding [v, ov, iv] (setItem ov iv v)
      release [v, ov, iv] []) := by
    cases i <;> first | (intro _; rfl) | (cases hsl; done)
  refine ps_imp (ps_asg (tr_expr m h e e' h1).v (pg_sub (tr_expr m h o o' h2).v (tr_expr m h i i' h3).v (set_any (κ := κ) (units_of h.room).2) ha) sws_sub (by cases e <;> rfl) rfl) fun D σ H ⟨ρ, δ, μ, s, r, q⟩ => ?_
  have q' : PostS κ W ρ H (RS.of δ (ev Ω e' δ μ) fun d μ1 => RS.of δ (ev Ω o' δ μ1) fun x μ2 => RS.of δ (ev Ω i' δ μ2) fun kk μ3 => RS.of δ (setixD x kk d μ3) fun _ μ4 => .nx δ μ4) D := by
    have q2 : PostS κ W ρ H (RS.of δ ((ev Ω e' δ μ).bind fun d μ1 => (ev Ω o' δ μ1).bind fun x μ2 => (ev Ω i' δ μ2).bind fun k μ3 => setixD x k d μ3) fun _ μ1 => .nx δ μ1) D := q
    cases hm : ev Ω e' δ μ with
    | ok d μ1 =>
      rw [hm] at q2
      dsimp only [Res.bind, RS.of] at q2 ⊢
      cases hm2 : ev Ω o' δ μ1 with
      | ok x μ2 =>
        rw [hm2] at q2
        dsimp only [Res.bind, RS.of] at q2 ⊢
        cases hm3 : ev Ω i' δ μ2 with
        | ok x μ2 => rw [hm3] at q2; exact q2
        | exc _ _ _ => rw [hm3] at q2; exact q2
        | stuck => rw [hm3] at q2; exact q2
      | exc _ _ _ => rw [hm2] at q2; exact q2
      | stuck => rw [hm2] at q2; exact q2
    | exc _ _ _ => rw [hm] at q2; exact q2
    | stuck => rw [hm] at q2; exact q2
  refine gos s r q' fun ρ1 H1 d v μ1 e1 s1 r1 x1 p1 => gos s1 r1 p1 fun ρ2 H2 x u μ2 e2 s2 r2 x2 p2 => gos s2 r2 p2 fun ρ3 H3 kk w μ3 e3 s3 r3 x3 p3 => ?_
  refine ⟨ρ3, μ3, x, kk, d, W, σ, r3, x2.ext e3, x3, x1.ext (e2.trans e3), ?_⟩
  cases hz : setixD x kk d μ3 with
  | ok z μ4 =>
    rw [hz] at p3
    exact fun ρ4 H4 _ e4 r4 _ => p3 ρ4 H4 _ e4 r4 (s3.ext e4)
  | exc c fs μ4 =>
    rw [hz] at p3
    exact fun ρ4 H4 dd gs e4 r4 h4 f4 => p3 ρ4 H4 σ dd gs e4 r4 (s3.ext e4) h4 f4
  | stuck => rw [hz] at p3; exact p3.elim
theorem tr_stmt (m : Nat) : ∀ (n : Nat) {c : Ctx} {X : Cx} {W : WX}, XOk c κ Ω k X W → SOk X → ∀ (st : Stmt) (s : S), trS m n c st = some s → JS κ X W st (evS Ω s)
  | 0, c, X, W, h, so, st, s, hs => by unfold trS at hs; cases hs
  | n + 1, c, X, W, h, so, st, s, hs => by
    have ih : ∀ st s, trS m n c st = some s → JS κ X W st (evS Ω s) := fun st s => tr_stmt m n h so st s
    cases st with
    | Assign ts e pos =>
      unfold trS at hs
      dsimp only at hs
      split at hs
      · split at hs
        · rename_i x px
          split at hs
          · rename_i hc
            obtain ⟨t', h1, h2⟩ := Option.bind_eq_some_iff.mp hs
            obtain ⟨e', h3, rfl⟩ := Option.map_eq_some_iff.mp h2
            exact js_gen h h1 h3 (sws_no hc) (by cases e <;> rfl) rfl
          · split at hs
            · rename_i elt gens scope lpos hcx
              split at hs
              · rename_i hsw
                obtain ⟨i, h1, h2⟩ := Option.bind_eq_some_iff.mp hs
                obtain ⟨e', h3, rfl⟩ := Option.map_eq_some_iff.mp h2
                obtain ⟨l1, l2⟩ := lslot_ok h h1
                cases m with
                | zero => unfold trE at h3; cases h3
                | succ m' =>
                  obtain ⟨te, g1, g2⟩ := tr_lc h h3
                  refine js_asg (g1 i x px pos l1 l2 ?_) g2 gok_name
                  rw [swaps_lc h.sc h.kind, hsw]
              · rename_i hsw
                obtain ⟨t', h1, h2⟩ := Option.bind_eq_some_iff.mp hs
                obtain ⟨e', h3, rfl⟩ := Option.map_eq_some_iff.mp h2
                have e0 : swLc c scope lpos x px = false := by simpa using hsw
                exact js_gen h h1 h3 ((swaps_lc (l := pos.line) h.sc h.kind).trans (by rw [e0])) rfl rfl
            · cases hs
        · rename_i tgs kt pt
          split at hs
          · rename_i vs k2 p2
            split at hs
            · cases hs
            · rename_i hst
              obtain ⟨t', h1, h2⟩ := Option.bind_eq_some_iff.mp hs
              obtain ⟨e', h3, rfl⟩ := Option.map_eq_some_iff.mp h2
              exact js_gen h h1 h3 sws_tup (swst_ok h.sc h.kind hst) rfl
            · rename_i names hst
              split at hs
              · rename_i x px y py a b
                split at hs
                · rename_i hn
                  subst hn
                  obtain ⟨i, h1, h2⟩ := Option.bind_eq_some_iff.mp hs
                  obtain ⟨j, h3, h4⟩ := Option.bind_eq_some_iff.mp h2
                  split at h4
                  · rename_i hij
                    obtain ⟨es, h5, rfl⟩ := Option.map_eq_some_iff.mp h4
                    obtain ⟨l1, l2⟩ := lslot_ok h h1
                    obtain ⟨l3, l4⟩ := lslot_ok h h3
                    exact ps_imp (ps_par h.calm (by rw [h.N]; exact h.nd) l1 l3 hij l2 l4 (tr_list (fun e t => tr_expr m h e t) h5) (swst_ok h.sc h.kind hst) rfl) fun D σ H z => par2 hij z (evs_len h5)
                  · cases h4
                · cases hs
              · rename_i x px y py z pz a b d
                split at hs
                · rename_i hn
                  subst hn
                  obtain ⟨i, h1, h2⟩ := Option.bind_eq_some_iff.mp hs
                  obtain ⟨j, h3, h4⟩ := Option.bind_eq_some_iff.mp h2
                  obtain ⟨l, h5, h6⟩ := Option.bind_eq_some_iff.mp h4
                  split at h6
                  · rename_i hij
                    obtain ⟨es, h7, rfl⟩ := Option.map_eq_some_iff.mp h6
                    obtain ⟨l1, l2⟩ := lslot_ok h h1
                    obtain ⟨l3, l4⟩ := lslot_ok h h3
                    obtain ⟨l5, l6⟩ := lslot_ok h h5
                    exact ps_imp (ps_par3 h.calm (by rw [h.N]; exact h.nd) l1 l3 l5 hij.1 hij.2.1 hij.2.2 l2 l4 l6 (tr_list (fun e t => tr_expr m h e t) h7) (swst_ok h.sc h.kind hst) rfl) fun D σ H z => par3 z (evs_len h7)
                  · cases h6
                · cases hs
              · cases hs
          · rename_i hne
            obtain ⟨t', h1, h2⟩ := Option.bind_eq_some_iff.mp hs
            obtain ⟨e', h3, rfl⟩ := Option.map_eq_some_iff.mp h2
            exact js_gen h h1 h3 sws_tup (sw_other fun vs k p e => hne vs k p e) rfl
        · rename_i o i ps
          split at hs
          · cases hs
          · rename_i hsl
            obtain ⟨e', h1, h2⟩ := Option.bind_eq_some_iff.mp hs
            obtain ⟨o', h3, h4⟩ := Option.bind_eq_some_iff.mp h2
            obtain ⟨i', h5, rfl⟩ := Option.map_eq_some_iff.mp h4
            exact js_setix h (by simpa using hsl) h1 h3 h5
        · cases hs
      · cases hs
    | AugAssign t op e pos =>
      unfold trS at hs
      dsimp only at hs
      split at hs
      · rename_i x px
        obtain ⟨i, h1, h2⟩ := Option.bind_eq_some_iff.mp hs
        obtain ⟨e', h3, rfl⟩ := Option.map_eq_some_iff.mp h2
        obtain ⟨l1, l2⟩ := lslot_ok h h1
        exact js_aug (ps_aug (by rw [h.N]; exact h.nd) l1 (.inl l2) (tr_expr m h e e' h3).v (ij_aug (κ := κ) op) (.inr l2)) fun _ _ _ _ z => z
      · cases hs
    | Expr e pos =>
      unfold trS at hs
      dsimp only at hs
      split at hs
      · cases hs
      · rename_i hc
        obtain ⟨e', h3, rfl⟩ := Option.map_eq_some_iff.mp hs
        exact js_expr (tr_expr m h e e' h3).v (swaps_no (by simpa using hc))
    | Return v pos =>
      unfold trS at hs
      dsimp only at hs
      split at hs
      · cases hs
        exact js_retn
      · obtain ⟨e', h3, rfl⟩ := Option.map_eq_some_iff.mp hs
        exact js_ret (tr_expr m h _ e' h3).v
    | If t a b pos =>
      unfold trS at hs
      obtain ⟨t', h1, h2⟩ := Option.bind_eq_some_iff.mp hs
      obtain ⟨a', h3, h4⟩ := Option.bind_eq_some_iff.mp h2
      obtain ⟨b', h5, rfl⟩ := Option.map_eq_some_iff.mp h4
      exact js_if (tr_expr m h t t' h1).t (tr_block ih h3) (tr_block ih h5)
    | For tg it body orelse pos =>
      unfold trS at hs
      dsimp only at hs
      split at hs
      · obtain ⟨it', h1, h2⟩ := Option.bind_eq_some_iff.mp hs
        obtain ⟨t, h3, h4⟩ := Option.bind_eq_some_iff.mp h2
        obtain ⟨b, h5, rfl⟩ := Option.map_eq_some_iff.mp h4
        obtain ⟨g1, g2⟩ := tr_iter h (fun e t => tr_expr m h e t) (tg := tg) h1
        exact js_for (ps_for so.pass h.calm g1 (tr_tgt h m tg t h3) (tr_block ih h5) (g2 _)) (gok_of t)
      · cases hs
    | While t body orelse pos =>
      unfold trS at hs
      dsimp only at hs
      split at hs
      · obtain ⟨t', h1, h2⟩ := Option.bind_eq_some_iff.mp hs
        obtain ⟨b, h5, rfl⟩ := Option.map_eq_some_iff.mp h2
        exact js_while (ps_while so.pass (tr_expr m h t t' h1).t (tr_block ih h5))
      · cases hs
    | Pass pos =>
      unfold trS at hs
      cases hs
      exact js_pass
    | Break pos =>
      unfold trS at hs
      cases hs
      exact js_brk
    | Continue pos =>
      unfold trS at hs
      cases hs
      exact js_cont
    | _ => unfold trS at hs; cases hs
end

/-! ### defs -/
/-- a def of the text: its names by slot (parameters first), its parameters' number, its body -/
structure Df where
  name : Str
  N : List Str
  n : Nat
  sc : Scope
  body : List Stmt
  b : Ss
/-- a checked def -/
def fnScB (N : List Str) (n : Nat) (sc : Scope) : Bool :=
  (match sc.kind with | .function => true | _ => false) && !sc.isCoroutine && !sc.isGenerator && decide (N.Nodup) && decide (n ≤ N.length) &&
    ((N.take n).all fun x => decide (sc.names.lookup x = some .local) || decide (sc.names.lookup x = some .cell)) && (sc.names.all fun y => decide (y.2 ≠ .free))
theorem fnSc_ok {N : List Str} {n : Nat} {sc : Scope} (h : fnScB N n sc = true) : FnScope N (N.take n) sc := by
  unfold fnScB at h
  simp only [Bool.and_eq_true, decide_eq_true_eq, List.all_eq_true, Bool.not_eq_true', Bool.or_eq_true] at h
  obtain ⟨⟨⟨⟨⟨⟨h1, h2⟩, h3⟩, h4⟩, h5⟩, h6⟩, h7⟩ := h
  refine ⟨?_, h2, h3, h4, ?_, h6, h7⟩
  · split at h1
    · assumption
    · cases h1
  · rw [List.length_take, Nat.min_eq_left h5]
def Df.ctx (d : Df) (G : List (Str × GV)) : Ctx := ⟨d.N, d.sc, G, fun _ => true⟩
section
variable {P : Program} {w : World} {K : PySem.W.Frag} {mg : Str → Option Value} {base : Heap} {κ : Kx} {Ω Ω' : Om} {k : Nat}
/-- what a def does, from its body -/
def Df.run (d : Df) (Ω : Om) (ds : List D) (μ : Mu) : Res D := if ds.length = d.n then runB Ω d.N.length d.b ds μ else .stuck
theorem run_len {d : Df} {ds : List D} {μ : Mu} (h : ds.length ≠ d.n) : d.run Ω ds μ = .stuck := if_neg h
/-- what the module's names are -/
structure GOk' (κ : Kx) (mg : Str → Option Value) (G : List (Str × GV)) : Prop where
  con : ∀ x d, G.lookup x = some (.con d) → ∃ u v, mg x = some u ∧ RelV v u ∧ ∀ ρ H, Rep κ ρ H d v
  free : ∀ x, G.lookup x = some .free → mg x = none
theorem df_ok {d : Df} {f : Addr} {x qual : Str} {params : Arguments} {dV kV doc pm cdv ct oc : Value} {an od : Option Addr} {osl : Array (Option Value)} {G : List (Str × GV)} {m : Nat}
    (lk : K.lookup f = some ⟨oc, od, .func (PySem.W.fnOf x qual params d.body d.sc dV kV doc pm an cdv ct), osl⟩) (hcd : PySem.W.codeIn K cdv qual = true) (hs : fnScB d.N d.n d.sc = true)
    (hK : K = κ.K) (hb : trSs (trS m m (d.ctx G)) d.body = some d.b) (hg : GOk' κ mg G)
    (hf : ∀ x i n, G.lookup x = some (.fn i n) → (∃ (f : Addr) (fd : FuncData) (ps : List Str), mg x = some (.ref f) ∧ PySem.W.keepIn K (.ref f) = true ∧ Binds K fd ps [] ∧ FnOk P w K mg base (L2.CX P w) k f fd ps (spM κ n (Ω.Φ i))) ∧ ∀ ds μ, ds.length ≠ n → Ω.Φ i ds μ = .stuck) :
    FnOk P w K mg base (L2.CX P w) (k + 1) f (PySem.W.fnOf x qual params d.body d.sc dV kV doc pm an cdv ct) (d.N.take d.n) (spM κ d.n (d.run Ω)) := by
  have S := fnSc_ok hs
  have hnl : d.n ≤ d.N.length := by
    unfold fnScB at hs
    simp only [Bool.and_eq_true, decide_eq_true_eq] at hs
    exact hs.1.1.2
  have hpl : (d.N.take d.n).length = d.n := by rw [List.length_take, Nat.min_eq_left hnl]
  refine fn_of lk hcd S (fun vs H Q E h => ?_) fun A outer s H vs Q E hr hsp => ?_
  · obtain ⟨ρ, μ, ds, h1, r, h2, p⟩ := h
    rw [← h2.len, h1, hpl]
  · obtain ⟨ρ, μ, ds, h1, r, h2, p⟩ := hsp
    have XO : XOk (d.ctx G) κ Ω k (cxOf (L2.CX P w) P w K mg base d.N qual d.sc f cdv A outer s H E) (fun cls dd _ H => E cls dd H) :=
      { N := rfl, nd := S.nd, sc := rfl, kind := S.kind, hK := hK, calm := rfl, room := hr, tk := takes_of rfl rfl rfl rfl, fnB := fun _ _ => rfl, con := hg.con, free := hg.free, fn := hf }
    have SO : SOk (cxOf (L2.CX P w) P w K mg base d.N qual d.sc f cdv A outer s H E) := ⟨passes_of rfl⟩
    refine ⟨_, tr_block (fun st s => tr_stmt m m XO SO st s) hb, ?_⟩
    refine ⟨ρ, ds.map some ++ List.replicate (d.N.length - ds.length) none, μ, ?_, r, ?_⟩
    · have := h2.slot (d.N.length - ds.length)
      unfold L2.start
      rw [← h2.len]
      exact this
    · unfold Df.run at p
      rw [if_pos h1] at p
      unfold runB at p
      cases hm : evSs Ω d.b (ds.map some ++ List.replicate (d.N.length - ds.length) none) μ with
      | nx δ1 μ1 =>
        rw [hm] at p
        exact fun ρ1 H1 σ1 e1 r1 s1 => p ρ1 H1 _ e1 r1 (rep_non.mpr rfl)
      | ret d1 μ1 => rw [hm] at p; exact p
      | brk _ _ => rw [hm] at p; exact p.elim
      | cont _ _ => rw [hm] at p; exact p.elim
      | exc c fs δ1 μ1 =>
        rw [hm] at p
        exact fun ρ1 H1 σ1 dd gs e1 r1 s1 h1 f1 => p ρ1 H1 dd gs e1 r1 h1 f1
      | stuck => rw [hm] at p; exact p.elim
end
end Tk

namespace Tk
open PySem PySem.Spec PyProof.Rows L2

/-! ### the module's constants -/
mutual
def conB (K : PySem.W.Frag) : D → Value → Bool
  | .non, .none => true
  | .bl b, .bool c => b == c
  | .int i, .int j _ => decide (i = j)
  | .str x, .str y _ => decide (x = y)
  | .tup ds, .ref a => (match K.lookup a with
    | some ⟨.type c, _, .seq its _, _⟩ => decide (c = "tuple") && (decide (its.size ≤ sizeLine) && conBs K ds its.toList)
    | _ => false)
  | _, _ => false
def conBs (K : PySem.W.Frag) : List D → List Value → Bool
  | [], [] => true
  | d :: ds, v :: vs => conB K d v && conBs K ds vs
  | _, _ => false
end
def conAt (K : PySem.W.Frag) (x : Str) (d : D) : Bool := match PySem.W.nsIn K mainGlobals x with
  | some (some v) => conB K d v
  | _ => false
section
variable {κ : Kx}
mutual
theorem conB_ok : ∀ (d : D) (u : Value), conB κ.K d u = true → ∃ v, RelV v u ∧ ∀ ρ H, Rep κ ρ H d v
  | .non, u, h => by
    cases u <;> first | (exact ⟨.non, rfl, fun _ _ => rep_non.mpr rfl⟩) | (unfold conB at h; cases h; done)
  | .bl b, u, h => by
    cases u with
    | bool c =>
      unfold conB at h
      have e : b = c := by simpa using h
      exact ⟨.bl b, by rw [e]; rfl, fun _ _ => rep_bl.mpr rfl⟩
    | _ => unfold conB at h; cases h
  | .int b, u, h => by
    cases u with
    | int c t =>
      unfold conB at h
      have e : b = c := by simpa using h
      exact ⟨.int b, ⟨t, by rw [e]⟩, fun _ _ => rep_int.mpr rfl⟩
    | _ => unfold conB at h; cases h
  | .str b, u, h => by
    cases u with
    | str c t =>
      unfold conB at h
      have e : b = c := by simpa using h
      exact ⟨.str b, ⟨t, by rw [e]⟩, fun _ _ => rep_str.mpr rfl⟩
    | _ => unfold conB at h; cases h
  | .ty n, u, h => by unfold conB at h; cases u <;> cases h
  | .loc n, u, h => by unfold conB at h; cases u <;> cases h
  | .tup ds, u, h => by
    cases u with
    | ref a =>
      unfold conB at h
      split at h
      · rename_i c od its n sl q
        simp only [Bool.and_eq_true, decide_eq_true_eq] at h
        obtain ⟨h1, h2, h3⟩ := h
        obtain ⟨vs, h4, h5⟩ := conBs_ok ds its.toList h3
        refine ⟨.ref a, rfl, fun ρ H => rep_tup.mpr ⟨a, vs, rfl, .inr ⟨_, its, n, q, congrArg Value.type h1, rfl, h2, h4⟩, h5 ρ H⟩⟩
      · cases h
    | _ => unfold conB at h; cases h
theorem conBs_ok : ∀ (ds : List D) (us : List Value), conBs κ.K ds us = true → ∃ vs, Vals vs us ∧ ∀ ρ H, Reps κ ρ H ds vs
  | [], us, h => by
    cases us with
    | nil => exact ⟨[], .nil, fun _ _ => .nil⟩
    | cons u us => unfold conBs at h; cases h
  | d :: ds, us, h => by
    cases us with
    | nil => unfold conBs at h; cases h
    | cons u us =>
      unfold conBs at h
      obtain ⟨h1, h2⟩ := Bool.and_eq_true_iff.mp h
      obtain ⟨v, h3, h4⟩ := conB_ok d u h1
      obtain ⟨vs, h5, h6⟩ := conBs_ok ds us h2
      exact ⟨v :: vs, .cons h3 h5, fun ρ H => .cons (h4 ρ H) (h6 ρ H)⟩
end
theorem conAt_ok {h : Heap} {mg : Str → Option Value} (X : κ.K.In h) (G : h.Ns mainGlobals mg) {x : Str} {d : D} (c : conAt κ.K x d = true) : ∃ u v, mg x = some u ∧ RelV v u ∧ ∀ ρ H, Rep κ ρ H d v := by
  unfold conAt at c
  split at c
  · rename_i v hv
    obtain ⟨w, h1, h2⟩ := conB_ok d v c
    exact ⟨v, w, PySem.W.mg_of X G hv, h1, h2⟩
  · cases c
end

/-! ### the head's facts -/
def gvFa (x : Str) : GV → List He.Fa
  | .free => [.free x]
  | .fn _ _ => [.glo x]
  | .con _ => []
def gFa (G : List (Str × GV)) : List He.Fa := G.flatMap fun p => gvFa p.1 p.2
def gEx (G : List (Str × GV)) (K : PySem.W.Frag) : Bool := G.all fun p => match p.2 with
  | .con d => conAt K p.1 d
  | _ => true
structure Dd where
  st : Stmt
  name : Str
  N : List Str
  n : Nat
  b : Ss
def Dd.df (d : Dd) : Df := ⟨d.name, d.N, d.n, defScope d.st, defBody d.st, d.b⟩
def Dd.he (d : Dd) : He.DefD := ⟨(d.name, none), d.name, d.name, defArgs d.st, defBody d.st, defScope d.st, [], []⟩
/-- the program: its defs, its names -/
structure Pg where
  T : List Dd
  G : List (Str × GV)
def Pg.ok (p : Pg) : Bool := (p.T.all fun d => fnScB d.N d.n (defScope d.st)) && (p.G.all fun q => match q.2 with
  | .fn i n => (match p.T[i]? with
    | some d => decide (d.name = q.1) && decide (d.n = n)
    | none => false)
  | _ => true)
def phi (T : List Dd) (fu : Nat) : Nat → Nat → List D → Mu → Res D
  | 0, _, _, _ => .stuck
  | k + 1, i, ds, μ => match T[i]? with
    | some d => d.df.run ⟨phi T fu k, fu⟩ ds μ
    | none => .stuck
def obsM (fa : List He.Fa) (fn : List He.DefD) (ex : PySem.W.Frag → Bool) (K : PySem.W.Frag) : He.AlD × Bool := (He.obsD fa fn K, ex K)
def hookM (n : Nat) (fa : List He.Fa) (fn : List He.DefD) (ex : PySem.W.Frag → Bool) : PySem.W.Hook where
  α := He.AlD × Bool
  obs := fun s => obsM fa fn ex (He.frG s.heap.get? (He.asD s.heap.get? n))
  val := fun _ => (He.valD fn, true)
  says := fun _ h => ∃ K : PySem.W.Frag, K.In h ∧ He.SaysD fa fn K ∧ ex K = true
  of := fun _ _ e => ⟨_, He.frG_in, congrArg (fun z : He.AlD × Bool => z.1) e, congrArg (fun z : He.AlD × Bool => z.2) e⟩
  keeps := fun _ _ _ ⟨K, hK, c⟩ k => ⟨K, PySem.W.Frag.In.keeps hK k, c⟩
def obM (n : Nat) (fa : List He.Fa) (fn : List He.DefD) (ex : PySem.W.Frag → Bool) (s : PySem.W.SharedT) : He.AlD × Bool := obsM fa fn ex (He.frG (HandSHeadRun.getT s) (He.asD (HandSHeadRun.getT s) n))
theorem obM_eq {n : Nat} {fa : List He.Fa} {fn : List He.DefD} {ex : PySem.W.Frag → Bool} (s : PySem.W.SharedT) : obM n fa fn ex s = (hookM n fa fn ex).obs s.abs := by
  have e : HandSHeadRun.getT s = s.abs.heap.get? := funext fun a => HandSHeadRun.getT_eq s a
  unfold obM
  rw [e]
  rfl
def bindOk (d : Dd) : Prop := ∀ (kV doc pm : Value) (an : Option Addr) (cdv ct : Value) (us : List Value), us.length = (d.N.take d.n).length → bindArgs (PySem.W.fnOf d.name d.name (defArgs d.st) (defBody d.st) (defScope d.st) .none kV doc pm an cdv ct) ⟨us, []⟩ = pure ((d.N.take d.n).zip us)

theorem lookup_mem' {β α : Type} [BEq β] [LawfulBEq β] {x : β} {v : α} : ∀ {l : List (β × α)}, l.lookup x = some v → (x, v) ∈ l
  | [], h => by cases h
  | (y, u) :: r, h => by
    rw [List.lookup_cons] at h
    split at h
    · rename_i e
      cases h
      have : x = y := by simpa using e
      rw [this]
      exact List.mem_cons_self
    · exact List.mem_cons_of_mem _ (lookup_mem' h)
section
variable {P : Program} {w : World} {K : PySem.W.Frag} {mg : Str → Option Value} {base h : Heap} {κ : Kx} {fu m : Nat} {p : Pg}
theorem defs_fn (hK : K = κ.K) (X : K.In h) (Gh : h.Ns mainGlobals mg) (fa2 : List He.Fa) (c : He.SaysD (gFa p.G ++ fa2) (p.T.map Dd.he) K) (cx : gEx p.G K = true) (ok : p.ok = true)
    (hb : ∀ (i : Nat) (d : Dd), p.T[i]? = some d → trSs (trS m m (d.df.ctx p.G)) (defBody d.st) = some d.b) (hbind : ∀ (i : Nat) (d : Dd), p.T[i]? = some d → bindOk d) :
    ∀ (k i : Nat) (d : Dd) (fd : FuncData), p.T[i]? = some d → FunD K d.name d.name (defArgs d.st) (defBody d.st) (defScope d.st) [] [] (He.ga K d.name) fd → FnOk P w K mg base (L2.CX P w) k (He.ga K d.name) fd (d.N.take d.n) (spM κ d.n (phi p.T fu k i)) := by
  unfold Pg.ok at ok
  obtain ⟨ok1, ok2⟩ := Bool.and_eq_true_iff.mp ok
  have dat : ∀ (i : Nat) (d : Dd), p.T[i]? = some d → ∃ fd, FunD K d.name d.name (defArgs d.st) (defBody d.st) (defScope d.st) [] [] (He.ga K d.name) fd := fun i d hi => by
    obtain ⟨fd, F⟩ := c.def_ i (d := d.he) (by rw [List.getElem?_map, hi]; rfl)
    exact ⟨fd, F⟩
  -- the same function object at each level
  have fnAll : ∀ (k i : Nat) (d : Dd) (fd : FuncData), p.T[i]? = some d → FunD K d.name d.name (defArgs d.st) (defBody d.st) (defScope d.st) [] [] (He.ga K d.name) fd → FnOk P w K mg base (L2.CX P w) k (He.ga K d.name) fd (d.N.take d.n) (spM κ d.n (phi p.T fu k i)) := by
    intro k
    induction k with
    | zero =>
      intro i d fd hi F
      exact ⟨fun vs H Q E q => by obtain ⟨_, _, _, _, _, _, z⟩ := q; exact z.elim, fun A outer s H args us vs Q E _ _ _ _ q => by obtain ⟨_, _, _, _, _, _, z⟩ := q; exact z.elim⟩
    | succ k ih =>
      intro i d fd hi F
      obtain ⟨oc, od, dV, kV, doc, pm, an, cdv, ct, osl, rfl, lk, hcd, _, _⟩ := F.ex
      have hsc : fnScB d.df.N d.df.n d.df.sc = true := List.all_eq_true.mp ok1 d (List.mem_of_getElem? hi)
      have e : phi p.T fu (k + 1) i = d.df.run ⟨phi p.T fu k, fu⟩ := by
        funext ds μ
        show (match p.T[i]? with
          | some d => d.df.run ⟨phi p.T fu k, fu⟩ ds μ
          | none => .stuck) = _
        rw [hi]
      rw [e]
      refine df_ok (d := d.df) (G := p.G) (m := m) (Ω := ⟨phi p.T fu k, fu⟩) lk hcd hsc hK (hb i d hi) ⟨fun x d hx => ?_, fun x hx => ?_⟩ fun x j n hx => ?_
      · have := List.all_eq_true.mp cx (x, .con d) (lookup_mem' hx)
        subst hK
        exact conAt_ok X Gh this
      · refine He.free_ok X Gh ?_
        have hm : He.Fa.free x ∈ gFa p.G ++ fa2 := List.mem_append_left _ (List.mem_flatMap.mpr ⟨(x, .free), lookup_mem' hx, List.mem_cons_self⟩)
        obtain ⟨l, hl⟩ := List.getElem?_of_mem hm
        exact c.fact l hl
      · have h2 := List.all_eq_true.mp ok2 (x, .fn j n) (lookup_mem' hx)
        dsimp only at h2
        split at h2
        · rename_i d2 hj
          obtain ⟨e1, e2⟩ := Bool.and_eq_true_iff.mp h2
          have e1' : d2.name = x := of_decide_eq_true e1
          have e2' : d2.n = n := of_decide_eq_true e2
          obtain ⟨fd2, F2⟩ := dat j d2 hj
          have hm : He.Fa.glo x ∈ gFa p.G ++ fa2 := List.mem_append_left _ (List.mem_flatMap.mpr ⟨(x, .fn j n), lookup_mem' hx, List.mem_cons_self⟩)
          obtain ⟨l, hl⟩ := List.getElem?_of_mem hm
          have hg := He.glo_ok X Gh (c.fact l hl)
          refine ⟨⟨He.ga K x, fd2, d2.N.take d2.n, hg, ?_, ?_, ?_⟩, fun ds μ hne => ?_⟩
          · rw [← e1']; exact F2.kp
          · exact F2.bindsN (hbind j d2 hj)
          · rw [← e1', ← e2']
            exact ih j d2 fd2 hj F2
          · cases k with
            | zero => rfl
            | succ k =>
              show (match p.T[j]? with
                | some d => d.df.run ⟨phi p.T fu k, fu⟩ ds μ
                | none => .stuck) = _
              rw [hj]
              exact run_len (d := d2.df) (by rw [show d2.df.n = d2.n from rfl, e2']; exact hne)
        · cases h2
  exact fnAll
end

/-! ### the law -/
def noList (K : PySem.W.Frag) : Bool := K.all fun p => match p.2.cls with
  | .type c => decide (c ≠ "list")
  | _ => true
theorem noList_ok {K : PySem.W.Frag} (h : noList K = true) {a : Addr} {o : Obj} (e : K.lookup a = some o) : o.cls ≠ .type "list" := fun z => by
  have := List.all_eq_true.mp h (a, o) (lookup_mem' e)
  dsimp only at this
  rw [z] at this
  simp at this
theorem cx_false {P : Program} {w : World} (H : Hp) (s : Shared) (e : Value) (s' : Shared) (h : L2.CX P w [] H s (fun _ _ _ => False) e s') : False := by
  obtain ⟨_, _, _, _, _, _, _, _, _, _, _, _, x⟩ := h
  exact x
theorem reps_ints {κ : Kx} {ρ H} : ∀ (ns : List Int), Reps κ ρ H (ns.map .int) (ns.map V.int)
  | [] => .nil
  | n :: ns => .cons (rep_int.mpr rfl) (reps_ints ns)
def exM (p : Pg) (K : PySem.W.Frag) : Bool := gEx p.G K && noList K
theorem law_walk {l : PySem.W.OpenLaw} {n k N : Nat} {q : Program} {loose : List Str} {XP : (Str → Option Value) → Heap → Prop} {d : DefRec} {p : Pg} {iL fu m : Nat} {dl : Dd} {x : Str}
    (hn : l.most = some n) (hn2 : n ≤ sizeLine) (hdf : d.params.defaults = []) (hr : Room k callerA) (hd : d.name = dl.name) (hT : p.T[iL]? = some dl) (hN : dl.N.take dl.n = [x]) (h1 : dl.n = 1)
    (ok : p.ok = true) (hb : ∀ (i : Nat) (d : Dd), p.T[i]? = some d → trSs (trS m m (d.df.ctx p.G)) (defBody d.st) = some d.b) (hbind : ∀ (i : Nat) (d : Dd), p.T[i]? = some d → bindOk d)
    (law : ∀ ns : List Int, ns.length ≤ n → ∃ μ, phi p.T fu k iL [.loc 0] [.fl (ns.map .int)] = .ok (.bl true) μ) :
    PySem.W.WalkO q loose XP (hookM N (gFa p.G ++ [.glo dl.name]) (p.T.map Dd.he) (exM p)).says l.row.toRowW d [] (fun f vs => PySem.call f vs) := by
  refine Att.attach_call hn hdf fun w s₀ s₁ mg mb fa o pm cd doc a vs ns G Y ho hd' hcd hmg hobj hints hlen hg => ?_
  obtain ⟨K, KX, c, ex⟩ := Y
  obtain ⟨ex1, ex2⟩ := Bool.and_eq_true_iff.mp (show (gEx p.G K && noList K) = true from ex)
  have hmg' : mg dl.name = some (.ref fa) := by rw [← hd]; exact hmg
  have hgl : He.Fa.glo dl.name ∈ gFa p.G ++ [He.Fa.glo dl.name] := List.mem_append_right _ List.mem_cons_self
  obtain ⟨j, hj⟩ := List.getElem?_of_mem hgl
  have e := hmg'.symm.trans (He.glo_ok KX G.T.g (c.fact j hj))
  cases e
  let κ : Kx := ⟨K, fun _ => 0⟩
  have hbs : ∃ fd, FunD K dl.name dl.name (defArgs dl.st) (defBody dl.st) (defScope dl.st) [] [] (He.ga K dl.name) fd := by
    obtain ⟨fd, F⟩ := c.def_ iL (d := dl.he) (by rw [List.getElem?_map, hT]; rfl)
    exact ⟨fd, F⟩
  obtain ⟨fd, F⟩ := hbs
  have KXb := KX
  refine law_call (fd := fd) (CX := L2.CX l.prog w) (k := k) (x := x) (sp := spM κ dl.n (phi p.T fu k iL)) KX G.T.g G.T.b G.T.builtins G.T.nolimit hg hobj hints (Nat.le_trans hlen hn2) hr (fun base X Gb => ?_) (fun s u => ?_) (fun H hO hS => ?_) (fun H e s' => cx_false H s₁ e s')
  · have := defs_fn (P := l.prog) (w := w) (base := base) (κ := κ) (fu := fu) (m := m) (p := p) rfl X Gb _ c ex1 ok hb hbind k iL dl fd hT F
    rw [hN] at this
    exact this
  · have := F.bindsA (hbind iL dl hT) s [u] (by rw [hN]; rfl)
    rw [hN] at this
    exact this
  · have hf : ∃ o, H a = some (.frz o (.lst (ns.map V.int))) := by
      rcases hS with (hS | ⟨o, hS⟩) | hS
      · rcases hO a with z | ⟨_, _, z⟩
        · rw [z] at hS; cases hS
        · rw [z] at hS; cases hS
      · exact ⟨o, hS⟩
      · obtain ⟨o, _, _, hl, hc, _⟩ := hS
        exact absurd hc (noList_ok ex2 hl)
    obtain ⟨o, hf⟩ := hf
    obtain ⟨μ, hμ⟩ := law ns hlen
    refine ⟨[a], [.fl (ns.map .int)], [.loc 0], by rw [h1]; rfl, ⟨rfl, by simp, fun n ob hn => ?_⟩, .cons (rep_loc.mpr ⟨a, rfl, rfl⟩) .nil, ?_⟩
    · cases n with
      | zero =>
        cases hn
        exact ⟨a, rfl, o, _, hf, reps_ints ns⟩
      | succ n => cases hn
    · rw [hμ]
      intro ρ1 H1 v e1 r1 p1
      exact rep_bl.mp p1
end Tk

namespace Tk
open PySem PySem.Spec PyProof.Rows L2

/-! ### readings as goals; what stands behind is named, so that it is not looked at before its turn -/
abbrev XQ := Nat → List (Str × D) → Mu → Prop
def W {α : Type} (r : Res α) (N : α → Mu → Prop) (X : XQ) : Prop := match r with
  | .ok a μ => N a μ
  | .exc c fs μ => X c fs μ
  | .stuck => False
structure KS where
  n : Dl → Mu → Prop
  r : D → Mu → Prop
  b : Dl → Mu → Prop
  c : Dl → Mu → Prop
  x : Nat → List (Str × D) → Dl → Mu → Prop
def WS (r : RS) (k : KS) : Prop := match r with
  | .nx δ μ => k.n δ μ
  | .ret d μ => k.r d μ
  | .brk δ μ => k.b δ μ
  | .cont δ μ => k.c δ μ
  | .exc c fs δ μ => k.x c fs δ μ
  | .stuck => False
/-- a truth value first: r behind it, or itself -/
def andR (x : D) (r : Res D) (μ : Mu) : Res D := match x with
  | .bl true => r
  | .bl false => .ok (.bl false) μ
  | _ => .stuck
def orR (x : D) (r : Res D) (μ : Mu) : Res D := match x with
  | .bl true => .ok (.bl true) μ
  | .bl false => r
  | _ => .stuck
def notD (x : D) (μ : Mu) : Res D := match x with
  | .bl b => .ok (.bl (!b)) μ
  | _ => .stuck
def optI (d : D) (μ : Mu) : Res (Option Int) := match d with
  | .int i => .ok (some i) μ
  | _ => .stuck
def valS (d : D) (μ1 : Mu) : Res Src := match d with
  | .tup ds => .ok (.items ds) μ1
  | .loc n => (match lstAt μ1 n with
    | some _ => .ok (.live n) μ1
    | none => .stuck)
  | _ => .stuck
def rng1S (d : D) (μ1 : Mu) : Res Src := match d with
  | .int n => if -(2 ^ 62) ≤ n ∧ n < 2 ^ 62 then .ok (.rng 0 n.toNat) μ1 else .stuck
  | _ => .stuck
def rng2S (d d2 : D) (μ2 : Mu) : Res Src := match d, d2 with
  | .int i, .int j => if -(2 ^ 62) ≤ i ∧ i < 2 ^ 62 ∧ -(2 ^ 62) ≤ j ∧ j < 2 ^ 62 then .ok (.rng i (j - i).toNat) μ2 else .stuck
  | _, _ => .stuck
def boD (z : D) (μ3 : Mu) : Res Bool := match z with
  | .bl c => .ok c μ3
  | _ => .stuck
def asgR (t : Tg) (d : D) (δ : Dl) (μ : Mu) : RS := match bindG t d δ with
  | some δ1 => .nx δ1 μ
  | none => .stuck
def rdV (δ : Dl) (i : Nat) (μ : Mu) : Res D := match δ[i]? with
  | some (some d) => .ok d μ
  | _ => .stuck
def kBind {α β : Type} (f : α → Mu → Res β) (N : β → Mu → Prop) (X : XQ) : α → Mu → Prop := fun a μ => W (f a μ) N X
def kBin2 (o : Operator) (x : D) (N : D → Mu → Prop) (X : XQ) : D → Mu → Prop := fun y μ => W (binD o x y μ) N X
def kBin1 (Ω : Om) (o : Operator) (b : E) (δ : Dl) (N : D → Mu → Prop) (X : XQ) : D → Mu → Prop := fun x μ => W (ev Ω b δ μ) (kBin2 o x N X) X
def kNeg (N : D → Mu → Prop) (X : XQ) : D → Mu → Prop := fun x μ => W (negD x μ) N X
def kCmp2 (o : CmpOp) (x : D) (N : D → Mu → Prop) (X : XQ) : D → Mu → Prop := fun y μ => W (cmpD o x y μ) N X
def kCmp1 (Ω : Om) (o : CmpOp) (b : E) (δ : Dl) (N : D → Mu → Prop) (X : XQ) : D → Mu → Prop := fun x μ => W (ev Ω b δ μ) (kCmp2 o x N X) X
def kChn3 (Ω : Om) (p : CmpOp) (y : D) (c : E) (δ : Dl) (N : D → Mu → Prop) (X : XQ) : D → Mu → Prop := fun z μ => W (andR z ((ev Ω c δ μ).bind (cmpD p y)) μ) N X
def kChn2 (Ω : Om) (o p : CmpOp) (x : D) (c : E) (δ : Dl) (N : D → Mu → Prop) (X : XQ) : D → Mu → Prop := fun y μ => W (cmpD o x y μ) (kChn3 Ω p y c δ N X) X
def kChn1 (Ω : Om) (o p : CmpOp) (b c : E) (δ : Dl) (N : D → Mu → Prop) (X : XQ) : D → Mu → Prop := fun x μ => W (ev Ω b δ μ) (kChn2 Ω o p x c δ N X) X
def kAnd (Ω : Om) (b : E) (δ : Dl) (N : D → Mu → Prop) (X : XQ) : D → Mu → Prop := fun x μ => W (andR x (ev Ω b δ μ) μ) N X
def kOr (Ω : Om) (b : E) (δ : Dl) (N : D → Mu → Prop) (X : XQ) : D → Mu → Prop := fun x μ => W (orR x (ev Ω b δ μ) μ) N X
def kNot (N : D → Mu → Prop) (X : XQ) : D → Mu → Prop := fun x μ => W (notD x μ) N X
def kIte (Ω : Om) (a b : E) (δ : Dl) (N : D → Mu → Prop) (X : XQ) : Bool → Mu → Prop := fun c μ => W (if c = true then ev Ω a δ μ else ev Ω b δ μ) N X
def kIx2 (x : D) (N : D → Mu → Prop) (X : XQ) : D → Mu → Prop := fun y μ => W (ixD x y μ) N X
def kIx1 (Ω : Om) (b : E) (δ : Dl) (N : D → Mu → Prop) (X : XQ) : D → Mu → Prop := fun x μ => W (ev Ω b δ μ) (kIx2 x N X) X
def kSl3 (x : D) (l : Option Int) (N : D → Mu → Prop) (X : XQ) : Option Int → Mu → Prop := fun h μ => W (slD x l h μ) N X
def kSl2 (Ω : Om) (x : D) (hi : Eo) (δ : Dl) (N : D → Mu → Prop) (X : XQ) : Option Int → Mu → Prop := fun l μ => W (evo Ω hi δ μ) (kSl3 x l N X) X
def kSl1 (Ω : Om) (lo hi : Eo) (δ : Dl) (N : D → Mu → Prop) (X : XQ) : D → Mu → Prop := fun x μ => W (evo Ω lo δ μ) (kSl2 Ω x hi δ N X) X
def kCall (Ω : Om) (f : Nat) (N : D → Mu → Prop) (X : XQ) : List D → Mu → Prop := fun ds μ => W (Ω.Φ f ds μ) N X
def kBlt (b : Blt) (N : D → Mu → Prop) (X : XQ) : List D → Mu → Prop := fun ds μ => W (bltD b ds μ) N X
def kMth2 (m : Mth) (x : D) (N : D → Mu → Prop) (X : XQ) : List D → Mu → Prop := fun ds μ => W (mthD m x ds μ) N X
def kMth1 (Ω : Om) (m : Mth) (es : Es) (δ : Dl) (N : D → Mu → Prop) (X : XQ) : D → Mu → Prop := fun x μ => W (if mkD m x μ = true then evs Ω es δ μ else .stuck) (kMth2 m x N X) X
def kTup (N : D → Mu → Prop) (X : XQ) : List D → Mu → Prop := fun ds μ => W (if ds.length ≤ sizeLine then .ok (.tup ds) μ else .stuck) N X
def kLst (N : D → Mu → Prop) (X : XQ) : List D → Mu → Prop := fun ds μ => W (if ds.length ≤ sizeLine then newl μ ds else .stuck) N X
def kLc (Ω : Om) (own : List Nat) (t : Tg) (fs : Eo) (e : E) (δ : Dl) (N : D → Mu → Prop) (X : XQ) : Src → Mu → Prop := fun src μ1 => W (lcN (bindG t) (tvo Ω fs) (ev Ω e) src μ1.length (wipeD δ own) Ω.fu 0 (μ1 ++ [.lst []])) N X
def in2 (Ω : Om) (own2 : List Nat) (t2 : Tg) (it2 : It') (e : E) (ℓ : Nat) : Dl → Mu → Res Unit := fun δ1 μ2 => (evi Ω it2 δ1 μ2).noexc.bind fun s2 μ3 => lc2I (bindG t2) (ev Ω e) s2 ℓ (wipeD δ1 own2) Ω.fu 0 μ3
def kIn2 (Ω : Om) (own2 : List Nat) (t2 : Tg) (e : E) (ℓ : Nat) (δ1 : Dl) (N : Unit → Mu → Prop) (X : XQ) : Src → Mu → Prop := fun s2 μ3 => W (lc2I (bindG t2) (ev Ω e) s2 ℓ (wipeD δ1 own2) Ω.fu 0 μ3) N X
def kLc2 (Ω : Om) (own : List Nat) (t : Tg) (own2 : List Nat) (t2 : Tg) (it2 : It') (e : E) (δ : Dl) (N : D → Mu → Prop) (X : XQ) : Src → Mu → Prop := fun src μ1 => W (lc2N (bindG t) (in2 Ω own2 t2 it2 e μ1.length) src μ1.length (wipeD δ own) Ω.fu 0 (μ1 ++ [.lst []])) N X
def kDic (ℓ : Nat) (N : D → Mu → Prop) (X : XQ) : List (D × D) → Mu → Prop := fun kvs μ => W (dispD kvs ℓ μ) N X
def kCons2 (d : D) (N : List D → Mu → Prop) : List D → Mu → Prop := fun ds μ => N (d :: ds) μ
def kCons1 (Ω : Om) (r : Es) (δ : Dl) (N : List D → Mu → Prop) (X : XQ) : D → Mu → Prop := fun d μ => W (evs Ω r δ μ) (kCons2 d N) X
def kOs (N : Option Int → Mu → Prop) (X : XQ) : D → Mu → Prop := fun d μ => W (optI d μ) N X
def kVal (N : Src → Mu → Prop) (X : XQ) : D → Mu → Prop := fun d μ => W (valS d μ) N X
def kR1 (N : Src → Mu → Prop) (X : XQ) : D → Mu → Prop := fun d μ => W (rng1S d μ) N X
def kR2b (d : D) (N : Src → Mu → Prop) (X : XQ) : D → Mu → Prop := fun d2 μ => W (rng2S d d2 μ) N X
def kR2a (Ω : Om) (f : E) (δ : Dl) (N : Src → Mu → Prop) (X : XQ) : D → Mu → Prop := fun d μ => W (ev Ω f δ μ) (kR2b d N X) X
def kPc3 (x y : D) (N : List (D × D) → Mu → Prop) : List (D × D) → Mu → Prop := fun ps μ => N ((x, y) :: ps) μ
def kPc2 (Ω : Om) (x : D) (r : Ep) (δ : Dl) (N : List (D × D) → Mu → Prop) (X : XQ) : D → Mu → Prop := fun y μ => W (evp Ω r δ μ) (kPc3 x y N) X
def kPc1 (Ω : Om) (b : E) (r : Ep) (δ : Dl) (N : List (D × D) → Mu → Prop) (X : XQ) : D → Mu → Prop := fun x μ => W (ev Ω b δ μ) (kPc2 Ω x r δ N X) X
def tAnd (Ω : Om) (b : E) (δ : Dl) (M : Bool → Mu → Prop) (X : XQ) : Bool → Mu → Prop := fun c μ => W (if c = true then tv Ω b δ μ else .ok false μ) M X
def tOr (Ω : Om) (b : E) (δ : Dl) (M : Bool → Mu → Prop) (X : XQ) : Bool → Mu → Prop := fun c μ => W (if c = true then .ok true μ else tv Ω b δ μ) M X
def tNot (M : Bool → Mu → Prop) : Bool → Mu → Prop := fun c μ => M (!c) μ
def kBo (M : Bool → Mu → Prop) (X : XQ) : D → Mu → Prop := fun z μ => W (boD z μ) M X
def kTru (M : Bool → Mu → Prop) (X : XQ) : D → Mu → Prop := fun d μ => W (truD d μ) M X
def kAsg (t : Tg) (δ : Dl) (k : KS) : D → Mu → Prop := fun d μ => WS (asgR t d δ μ) k
def kX (δ : Dl) (k : KS) : XQ := fun c fs μ => k.x c fs δ μ
def kSet4 (δ : Dl) (k : KS) : Unit → Mu → Prop := fun _u μ => k.n δ μ
def kSet3 (d x : D) (δ : Dl) (k : KS) : D → Mu → Prop := fun kk μ => W (setixD x kk d μ) (kSet4 δ k) (kX δ k)
def kSet2 (Ω : Om) (d : D) (i : E) (δ : Dl) (k : KS) : D → Mu → Prop := fun x μ => W (ev Ω i δ μ) (kSet3 d x δ k) (kX δ k)
def kSet1 (Ω : Om) (o i : E) (δ : Dl) (k : KS) : D → Mu → Prop := fun d μ => W (ev Ω o δ μ) (kSet2 Ω d i δ k) (kX δ k)
def kAug3 (i : Nat) (δ : Dl) (k : KS) : D → Mu → Prop := fun z μ => k.n (δ.set i (some z)) μ
def kAug2 (i : Nat) (o : Operator) (x : D) (δ : Dl) (k : KS) : D → Mu → Prop := fun y μ => W (augD o x y μ) (kAug3 i δ k) (kX δ k)
def kAug1 (Ω : Om) (i : Nat) (o : Operator) (e : E) (δ : Dl) (k : KS) : D → Mu → Prop := fun x μ => W (ev Ω e δ μ) (kAug2 i o x δ k) (kX δ k)
def kExp (δ : Dl) (k : KS) : D → Mu → Prop := fun _d μ => k.n δ μ
def kIfs (Ω : Om) (a b : Ss) (δ : Dl) (k : KS) : Bool → Mu → Prop := fun c μ => WS (if c = true then evSs Ω a δ μ else evSs Ω b δ μ) k
def kFor (Ω : Om) (t : Tg) (b : Ss) (δ : Dl) (k : KS) : Src → Mu → Prop := fun src μ => WS (forN (bindG t) (evSs Ω b) src Ω.fu 0 δ μ) k
/-- the block's rest behind a statement -/
def seqK (Ω : Om) (r : Ss) (k : KS) : KS := { k with n := fun δ μ => WS (evSs Ω r δ μ) k }
def runK (N : D → Mu → Prop) (X : XQ) : KS := ⟨fun _ μ => N .non μ, N, fun _ _ => False, fun _ _ => False, fun c fs _ μ => X c fs μ⟩
def loopK (k : KS) (I : Dl → Mu → Prop) : KS := { k with n := I, c := I, b := k.n }
section
variable {Ω : Om} {r : Ss} {k : KS} {δ : Dl} {μ : Mu} {N : D → Mu → Prop} {X : XQ} {d : D} {c : Nat} {fs : List (Str × D)} {I : Dl → Mu → Prop}
theorem seqK_n : (seqK Ω r k).n δ μ = WS (evSs Ω r δ μ) k := rfl
theorem seqK_r : (seqK Ω r k).r = k.r := rfl
theorem seqK_b : (seqK Ω r k).b = k.b := rfl
theorem seqK_c : (seqK Ω r k).c = k.c := rfl
theorem seqK_x : (seqK Ω r k).x = k.x := rfl
theorem runK_n : (runK N X).n δ μ = N .non μ := rfl
theorem runK_r : (runK N X).r = N := rfl
theorem runK_b : (runK N X).b δ μ = False := rfl
theorem runK_c : (runK N X).c δ μ = False := rfl
theorem runK_x : (runK N X).x c fs δ μ = X c fs μ := rfl
theorem loopK_n : (loopK k I).n = I := rfl
theorem loopK_r : (loopK k I).r = k.r := rfl
theorem loopK_b : (loopK k I).b = k.n := rfl
theorem loopK_c : (loopK k I).c = I := rfl
theorem loopK_x : (loopK k I).x = k.x := rfl
end
theorem kBind_ap {α β : Type} {f : α → Mu → Res β} {N : β → Mu → Prop} {X : XQ} {a} {μ} : kBind f N X a μ = (W (f a μ) N X) := rfl
theorem kBin2_ap {o : Operator} {x : D} {N : D → Mu → Prop} {X : XQ} {y} {μ} : kBin2 o x N X y μ = (W (binD o x y μ) N X) := rfl
theorem kBin1_ap {Ω : Om} {o : Operator} {b : E} {δ : Dl} {N : D → Mu → Prop} {X : XQ} {x} {μ} : kBin1 Ω o b δ N X x μ = (W (ev Ω b δ μ) (kBin2 o x N X) X) := rfl
theorem kNeg_ap {N : D → Mu → Prop} {X : XQ} {x} {μ} : kNeg N X x μ = (W (negD x μ) N X) := rfl
theorem kCmp2_ap {o : CmpOp} {x : D} {N : D → Mu → Prop} {X : XQ} {y} {μ} : kCmp2 o x N X y μ = (W (cmpD o x y μ) N X) := rfl
theorem kCmp1_ap {Ω : Om} {o : CmpOp} {b : E} {δ : Dl} {N : D → Mu → Prop} {X : XQ} {x} {μ} : kCmp1 Ω o b δ N X x μ = (W (ev Ω b δ μ) (kCmp2 o x N X) X) := rfl
theorem kChn3_ap {Ω : Om} {p : CmpOp} {y : D} {c : E} {δ : Dl} {N : D → Mu → Prop} {X : XQ} {z} {μ} : kChn3 Ω p y c δ N X z μ = (W (andR z ((ev Ω c δ μ).bind (cmpD p y)) μ) N X) := rfl
theorem kChn2_ap {Ω : Om} {o p : CmpOp} {x : D} {c : E} {δ : Dl} {N : D → Mu → Prop} {X : XQ} {y} {μ} : kChn2 Ω o p x c δ N X y μ = (W (cmpD o x y μ) (kChn3 Ω p y c δ N X) X) := rfl
theorem kChn1_ap {Ω : Om} {o p : CmpOp} {b c : E} {δ : Dl} {N : D → Mu → Prop} {X : XQ} {x} {μ} : kChn1 Ω o p b c δ N X x μ = (W (ev Ω b δ μ) (kChn2 Ω o p x c δ N X) X) := rfl
theorem kAnd_ap {Ω : Om} {b : E} {δ : Dl} {N : D → Mu → Prop} {X : XQ} {x} {μ} : kAnd Ω b δ N X x μ = (W (andR x (ev Ω b δ μ) μ) N X) := rfl
theorem kOr_ap {Ω : Om} {b : E} {δ : Dl} {N : D → Mu → Prop} {X : XQ} {x} {μ} : kOr Ω b δ N X x μ = (W (orR x (ev Ω b δ μ) μ) N X) := rfl
theorem kNot_ap {N : D → Mu → Prop} {X : XQ} {x} {μ} : kNot N X x μ = (W (notD x μ) N X) := rfl
theorem kIte_ap {Ω : Om} {a b : E} {δ : Dl} {N : D → Mu → Prop} {X : XQ} {c} {μ} : kIte Ω a b δ N X c μ = (W (if c = true then ev Ω a δ μ else ev Ω b δ μ) N X) := rfl
theorem kIx2_ap {x : D} {N : D → Mu → Prop} {X : XQ} {y} {μ} : kIx2 x N X y μ = (W (ixD x y μ) N X) := rfl
theorem kIx1_ap {Ω : Om} {b : E} {δ : Dl} {N : D → Mu → Prop} {X : XQ} {x} {μ} : kIx1 Ω b δ N X x μ = (W (ev Ω b δ μ) (kIx2 x N X) X) := rfl
theorem kSl3_ap {x : D} {l : Option Int} {N : D → Mu → Prop} {X : XQ} {h} {μ} : kSl3 x l N X h μ = (W (slD x l h μ) N X) := rfl
theorem kSl2_ap {Ω : Om} {x : D} {hi : Eo} {δ : Dl} {N : D → Mu → Prop} {X : XQ} {l} {μ} : kSl2 Ω x hi δ N X l μ = (W (evo Ω hi δ μ) (kSl3 x l N X) X) := rfl
theorem kSl1_ap {Ω : Om} {lo hi : Eo} {δ : Dl} {N : D → Mu → Prop} {X : XQ} {x} {μ} : kSl1 Ω lo hi δ N X x μ = (W (evo Ω lo δ μ) (kSl2 Ω x hi δ N X) X) := rfl
theorem kCall_ap {Ω : Om} {f : Nat} {N : D → Mu → Prop} {X : XQ} {ds} {μ} : kCall Ω f N X ds μ = (W (Ω.Φ f ds μ) N X) := rfl
theorem kBlt_ap {b : Blt} {N : D → Mu → Prop} {X : XQ} {ds} {μ} : kBlt b N X ds μ = (W (bltD b ds μ) N X) := rfl
theorem kMth2_ap {m : Mth} {x : D} {N : D → Mu → Prop} {X : XQ} {ds} {μ} : kMth2 m x N X ds μ = (W (mthD m x ds μ) N X) := rfl
theorem kMth1_ap {Ω : Om} {m : Mth} {es : Es} {δ : Dl} {N : D → Mu → Prop} {X : XQ} {x} {μ} : kMth1 Ω m es δ N X x μ = (W (if mkD m x μ = true then evs Ω es δ μ else .stuck) (kMth2 m x N X) X) := rfl
theorem kTup_ap {N : D → Mu → Prop} {X : XQ} {ds} {μ} : kTup N X ds μ = (W (if ds.length ≤ sizeLine then .ok (.tup ds) μ else .stuck) N X) := rfl
theorem kLst_ap {N : D → Mu → Prop} {X : XQ} {ds} {μ} : kLst N X ds μ = (W (if ds.length ≤ sizeLine then newl μ ds else .stuck) N X) := rfl
theorem kLc_ap {Ω : Om} {own : List Nat} {t : Tg} {fs : Eo} {e : E} {δ : Dl} {N : D → Mu → Prop} {X : XQ} {src} {μ1} : kLc Ω own t fs e δ N X src μ1 = (W (lcN (bindG t) (tvo Ω fs) (ev Ω e) src μ1.length (wipeD δ own) Ω.fu 0 (μ1 ++ [.lst []])) N X) := rfl
theorem kIn2_ap {Ω : Om} {own2 : List Nat} {t2 : Tg} {e : E} {ℓ : Nat} {δ1 : Dl} {N : Unit → Mu → Prop} {X : XQ} {s2} {μ3} : kIn2 Ω own2 t2 e ℓ δ1 N X s2 μ3 = (W (lc2I (bindG t2) (ev Ω e) s2 ℓ (wipeD δ1 own2) Ω.fu 0 μ3) N X) := rfl
theorem kLc2_ap {Ω : Om} {own : List Nat} {t : Tg} {own2 : List Nat} {t2 : Tg} {it2 : It'} {e : E} {δ : Dl} {N : D → Mu → Prop} {X : XQ} {src} {μ1} : kLc2 Ω own t own2 t2 it2 e δ N X src μ1 = (W (lc2N (bindG t) (in2 Ω own2 t2 it2 e μ1.length) src μ1.length (wipeD δ own) Ω.fu 0 (μ1 ++ [.lst []])) N X) := rfl
theorem kDic_ap {ℓ : Nat} {N : D → Mu → Prop} {X : XQ} {kvs} {μ} : kDic ℓ N X kvs μ = (W (dispD kvs ℓ μ) N X) := rfl
theorem kCons2_ap {d : D} {N : List D → Mu → Prop} {ds} {μ} : kCons2 d N ds μ = (N (d :: ds) μ) := rfl
theorem kCons1_ap {Ω : Om} {r : Es} {δ : Dl} {N : List D → Mu → Prop} {X : XQ} {d} {μ} : kCons1 Ω r δ N X d μ = (W (evs Ω r δ μ) (kCons2 d N) X) := rfl
theorem kOs_ap {N : Option Int → Mu → Prop} {X : XQ} {d} {μ} : kOs N X d μ = (W (optI d μ) N X) := rfl
theorem kVal_ap {N : Src → Mu → Prop} {X : XQ} {d} {μ} : kVal N X d μ = (W (valS d μ) N X) := rfl
theorem kR1_ap {N : Src → Mu → Prop} {X : XQ} {d} {μ} : kR1 N X d μ = (W (rng1S d μ) N X) := rfl
theorem kR2b_ap {d : D} {N : Src → Mu → Prop} {X : XQ} {d2} {μ} : kR2b d N X d2 μ = (W (rng2S d d2 μ) N X) := rfl
theorem kR2a_ap {Ω : Om} {f : E} {δ : Dl} {N : Src → Mu → Prop} {X : XQ} {d} {μ} : kR2a Ω f δ N X d μ = (W (ev Ω f δ μ) (kR2b d N X) X) := rfl
theorem kPc3_ap {x y : D} {N : List (D × D) → Mu → Prop} {ps} {μ} : kPc3 x y N ps μ = (N ((x, y) :: ps) μ) := rfl
theorem kPc2_ap {Ω : Om} {x : D} {r : Ep} {δ : Dl} {N : List (D × D) → Mu → Prop} {X : XQ} {y} {μ} : kPc2 Ω x r δ N X y μ = (W (evp Ω r δ μ) (kPc3 x y N) X) := rfl
theorem kPc1_ap {Ω : Om} {b : E} {r : Ep} {δ : Dl} {N : List (D × D) → Mu → Prop} {X : XQ} {x} {μ} : kPc1 Ω b r δ N X x μ = (W (ev Ω b δ μ) (kPc2 Ω x r δ N X) X) := rfl
theorem tAnd_ap {Ω : Om} {b : E} {δ : Dl} {M : Bool → Mu → Prop} {X : XQ} {c} {μ} : tAnd Ω b δ M X c μ = (W (if c = true then tv Ω b δ μ else .ok false μ) M X) := rfl
theorem tOr_ap {Ω : Om} {b : E} {δ : Dl} {M : Bool → Mu → Prop} {X : XQ} {c} {μ} : tOr Ω b δ M X c μ = (W (if c = true then .ok true μ else tv Ω b δ μ) M X) := rfl
theorem tNot_ap {M : Bool → Mu → Prop} {c} {μ} : tNot M c μ = (M (!c) μ) := rfl
theorem kBo_ap {M : Bool → Mu → Prop} {X : XQ} {z} {μ} : kBo M X z μ = (W (boD z μ) M X) := rfl
theorem kTru_ap {M : Bool → Mu → Prop} {X : XQ} {d} {μ} : kTru M X d μ = (W (truD d μ) M X) := rfl
theorem kAsg_ap {t : Tg} {δ : Dl} {k : KS} {d} {μ} : kAsg t δ k d μ = (WS (asgR t d δ μ) k) := rfl
theorem kX_ap {δ : Dl} {k : KS} {c} {fs} {μ} : kX δ k c fs μ = (k.x c fs δ μ) := rfl
theorem kSet4_ap {δ : Dl} {k : KS} {_u} {μ} : kSet4 δ k _u μ = (k.n δ μ) := rfl
theorem kSet3_ap {d x : D} {δ : Dl} {k : KS} {kk} {μ} : kSet3 d x δ k kk μ = (W (setixD x kk d μ) (kSet4 δ k) (kX δ k)) := rfl
theorem kSet2_ap {Ω : Om} {d : D} {i : E} {δ : Dl} {k : KS} {x} {μ} : kSet2 Ω d i δ k x μ = (W (ev Ω i δ μ) (kSet3 d x δ k) (kX δ k)) := rfl
theorem kSet1_ap {Ω : Om} {o i : E} {δ : Dl} {k : KS} {d} {μ} : kSet1 Ω o i δ k d μ = (W (ev Ω o δ μ) (kSet2 Ω d i δ k) (kX δ k)) := rfl
theorem kAug3_ap {i : Nat} {δ : Dl} {k : KS} {z} {μ} : kAug3 i δ k z μ = (k.n (δ.set i (some z)) μ) := rfl
theorem kAug2_ap {i : Nat} {o : Operator} {x : D} {δ : Dl} {k : KS} {y} {μ} : kAug2 i o x δ k y μ = (W (augD o x y μ) (kAug3 i δ k) (kX δ k)) := rfl
theorem kAug1_ap {Ω : Om} {i : Nat} {o : Operator} {e : E} {δ : Dl} {k : KS} {x} {μ} : kAug1 Ω i o e δ k x μ = (W (ev Ω e δ μ) (kAug2 i o x δ k) (kX δ k)) := rfl
theorem kExp_ap {δ : Dl} {k : KS} {_d} {μ} : kExp δ k _d μ = (k.n δ μ) := rfl
theorem kIfs_ap {Ω : Om} {a b : Ss} {δ : Dl} {k : KS} {c} {μ} : kIfs Ω a b δ k c μ = (WS (if c = true then evSs Ω a δ μ else evSs Ω b δ μ) k) := rfl
theorem kFor_ap {Ω : Om} {t : Tg} {b : Ss} {δ : Dl} {k : KS} {src} {μ} : kFor Ω t b δ k src μ = (WS (forN (bindG t) (evSs Ω b) src Ω.fu 0 δ μ) k) := rfl

section
variable {α β : Type} {Ω : Om} {δ : Dl} {μ : Mu} {X : XQ} {N : D → Mu → Prop} {k : KS}
theorem w_ok {N : α → Mu → Prop} {a : α} : W (.ok a μ) N X = N a μ := rfl
theorem w_exc {N : α → Mu → Prop} {c fs} : W (.exc c fs μ) N X = X c fs μ := rfl
theorem w_stuck {N : α → Mu → Prop} : W .stuck N X = False := rfl
theorem ws_nx : WS (.nx δ μ) k = k.n δ μ := rfl
theorem ws_ret {d : D} : WS (.ret d μ) k = k.r d μ := rfl
theorem ws_stuck : WS .stuck k = False := rfl
theorem w_bind {r : Res α} {f : α → Mu → Res β} {N : β → Mu → Prop} : W (r.bind f) N X = W r (kBind f N X) X := by cases r <;> rfl
theorem w_ifs {N : α → Mu → Prop} {c : Prop} [Decidable c] {a : Res α} : W (if c then a else .stuck) N X = (c ∧ W a N X) := by
  by_cases h : c
  · rw [if_pos h]; exact propext ⟨fun z => ⟨h, z⟩, fun z => z.2⟩
  · rw [if_neg h]; exact propext ⟨fun z => z.elim, fun z => (h z.1).elim⟩
theorem w_of {r : Res α} {f : α → Mu → RS} : WS (RS.of δ r f) k = W r (fun a μ1 => WS (f a μ1) k) (kX δ k) := by cases r <;> rfl
theorem ws_seq {Ω : Om} {r : RS} {b : Ss} : WS (r.seq (evSs Ω b)) k = WS r (seqK Ω b k) := by cases r <;> rfl
theorem rdV_0 {d : D} : rdV (some d :: δ) 0 μ = .ok d μ := rfl
theorem rdV_s {o : Option D} {i : Nat} : rdV (o :: δ) (i + 1) μ = rdV δ i μ := rfl
theorem w_noexc {r : Res α} {N : α → Mu → Prop} : W r.noexc N X = W r N (fun _ _ _ => False) := by cases r <;> rfl
theorem andR_b {b : Bool} {r : Res D} : andR (.bl b) r μ = if b = true then r else .ok (.bl false) μ := by cases b <;> rfl
theorem orR_b {b : Bool} {r : Res D} : orR (.bl b) r μ = if b = true then .ok (.bl true) μ else r := by cases b <;> rfl
theorem w_v {i : Nat} : W (ev Ω (.v i) δ μ) N X = W (rdV δ i μ) N X := by rw [ev]; rfl
theorem w_c {d : D} : W (ev Ω (.c d) δ μ) N X = N d μ := by rw [ev]; rfl
theorem w_tup {es : Es} : W (ev Ω (.tup es) δ μ) N X = W (evs Ω es δ μ) (kTup N X) X := by rw [ev, w_bind]; rfl
theorem w_lst {es : Es} : W (ev Ω (.lst es) δ μ) N X = W (evs Ω es δ μ) (kLst N X) X := by rw [ev, w_bind]; rfl
theorem w_bin {o : Operator} {a b : E} : W (ev Ω (.bin o a b) δ μ) N X = W (ev Ω a δ μ) (kBin1 Ω o b δ N X) X := by
  rw [ev, w_bind]
  congr 1; funext x μ1
  rw [kBind_ap, w_bind]; rfl
theorem w_neg {a : E} : W (ev Ω (.neg a) δ μ) N X = W (ev Ω a δ μ) (kNeg N X) X := by rw [ev, w_bind]; rfl
theorem w_cmp {o : CmpOp} {a b : E} : W (ev Ω (.cmp o a b) δ μ) N X = W (ev Ω a δ μ) (kCmp1 Ω o b δ N X) X := by
  rw [ev, w_bind]
  congr 1; funext x μ1
  rw [kBind_ap, w_bind]; rfl
theorem w_chn {o p : CmpOp} {a b c : E} : W (ev Ω (.chn o p a b c) δ μ) N X = W (ev Ω a δ μ) (kChn1 Ω o p b c δ N X) X := by
  rw [ev, w_bind]
  congr 1; funext x μ1
  rw [kBind_ap, w_bind, kChn1_ap]
  congr 1; funext y μ2
  rw [kBind_ap, w_bind, kChn2_ap]
  rfl
theorem w_and {a b : E} : W (ev Ω (.and a b) δ μ) N X = W (ev Ω a δ μ) (kAnd Ω b δ N X) X := by rw [ev, w_bind]; rfl
theorem w_or {a b : E} : W (ev Ω (.or a b) δ μ) N X = W (ev Ω a δ μ) (kOr Ω b δ N X) X := by rw [ev, w_bind]; rfl
theorem w_not {a : E} : W (ev Ω (.not a) δ μ) N X = W (ev Ω a δ μ) (kNot N X) X := by rw [ev, w_bind]; rfl
theorem w_ite {t a b : E} : W (ev Ω (.ite t a b) δ μ) N X = W (tv Ω t δ μ) (kIte Ω a b δ N X) X := by rw [ev, w_bind]; rfl
theorem w_ix {a b : E} : W (ev Ω (.ix a b) δ μ) N X = W (ev Ω a δ μ) (kIx1 Ω b δ N X) X := by
  rw [ev, w_bind]
  congr 1; funext x μ1
  rw [kBind_ap, w_bind]; rfl
theorem w_sl {a : E} {lo hi : Eo} : W (ev Ω (.sl a lo hi) δ μ) N X = W (ev Ω a δ μ) (kSl1 Ω lo hi δ N X) X := by
  rw [ev, w_bind]
  congr 1; funext x μ1
  rw [kBind_ap, w_bind, kSl1_ap]
  congr 1; funext y μ2
  rw [kBind_ap, w_bind]; rfl
theorem w_call {f : Nat} {es : Es} : W (ev Ω (.call f es) δ μ) N X = W (evs Ω es δ μ) (kCall Ω f N X) X := by rw [ev, w_bind]; rfl
theorem w_blt {b : Blt} {es : Es} : W (ev Ω (.blt b es) δ μ) N X = W (evs Ω es δ μ) (kBlt b N X) X := by rw [ev, w_bind]; rfl
theorem w_mth {m : Mth} {a : E} {es : Es} : W (ev Ω (.mth m a es) δ μ) N X = W (ev Ω a δ μ) (kMth1 Ω m es δ N X) X := by
  rw [ev, w_bind]
  congr 1; funext x μ1
  rw [kBind_ap, kMth1_ap]
  split
  · rw [w_bind]; rfl
  · rfl
theorem w_lc {own : List Nat} {t : Tg} {it : It'} {fs : Eo} {e : E} : W (ev Ω (.lc own t it fs e) δ μ) N X = W (evi Ω it δ μ) (kLc Ω own t fs e δ N X) X := by rw [ev, w_bind]; rfl
theorem w_lc2 {own : List Nat} {t : Tg} {it : It'} {own2 : List Nat} {t2 : Tg} {it2 : It'} {e : E} : W (ev Ω (.lc2 own t it own2 t2 it2 e) δ μ) N X = W (evi Ω it δ μ) (kLc2 Ω own t own2 t2 it2 e δ N X) X := by rw [ev, w_bind]; rfl
theorem w_dic {ps : Ep} : W (ev Ω (.dic ps) δ μ) N X = W (evp Ω ps δ (μ ++ [.dic []])) (kDic μ.length N X) X := by rw [ev, w_bind]; rfl
theorem w_nil {N : List D → Mu → Prop} : W (evs Ω (.nil) δ μ) N X = N [] μ := by rw [evs]; rfl
theorem w_cons {N : List D → Mu → Prop} {e : E} {r : Es} : W (evs Ω (.cons e r) δ μ) N X = W (ev Ω e δ μ) (kCons1 Ω r δ N X) X := by
  rw [evs, w_bind]
  congr 1; funext x μ1
  rw [kBind_ap, w_bind]; rfl
theorem w_on {N : Option Int → Mu → Prop} : W (evo Ω (.none) δ μ) N X = N none μ := by rw [evo]; rfl
theorem w_os {N : Option Int → Mu → Prop} {e : E} : W (evo Ω (.some e) δ μ) N X = W (ev Ω e δ μ) (kOs N X) X := by rw [evo, w_bind]; rfl
theorem w_tn {N : Bool → Mu → Prop} : W (tvo Ω (.none) δ μ) N X = N true μ := by rw [tvo]; rfl
theorem w_ts {N : Bool → Mu → Prop} {e : E} : W (tvo Ω (.some e) δ μ) N X = W (tv Ω e δ μ) N X := by rw [tvo]
theorem w_iv {N : Src → Mu → Prop} {e : E} : W (evi Ω (.val e) δ μ) N X = W (ev Ω e δ μ) (kVal N X) X := by rw [evi, w_bind]; rfl
theorem w_i1 {N : Src → Mu → Prop} {e : E} : W (evi Ω (.rng1 e) δ μ) N X = W (ev Ω e δ μ) (kR1 N X) X := by rw [evi, w_bind]; rfl
theorem w_i2 {N : Src → Mu → Prop} {e f : E} : W (evi Ω (.rng2 e f) δ μ) N X = W (ev Ω e δ μ) (kR2a Ω f δ N X) X := by
  rw [evi, w_bind]
  congr 1; funext x μ1
  rw [kBind_ap, w_bind]; rfl
theorem w_pn {N : List (D × D) → Mu → Prop} : W (evp Ω (.nil) δ μ) N X = N [] μ := by rw [evp]; rfl
theorem w_pc {N : List (D × D) → Mu → Prop} {a b : E} {r : Ep} : W (evp Ω (.cons a b r) δ μ) N X = W (ev Ω a δ μ) (kPc1 Ω b r δ N X) X := by
  rw [evp, w_bind]
  congr 1; funext x μ1
  rw [kBind_ap, w_bind, kPc1_ap]
  congr 1; funext y μ2
  rw [kBind_ap, w_bind]; rfl
theorem t_and {M : Bool → Mu → Prop} {a b : E} : W (tv Ω (.and a b) δ μ) M X = W (tv Ω a δ μ) (tAnd Ω b δ M X) X := by rw [tv, w_bind]; rfl
theorem t_or {M : Bool → Mu → Prop} {a b : E} : W (tv Ω (.or a b) δ μ) M X = W (tv Ω a δ μ) (tOr Ω b δ M X) X := by rw [tv, w_bind]; rfl
theorem t_not {M : Bool → Mu → Prop} {a : E} : W (tv Ω (.not a) δ μ) M X = W (tv Ω a δ μ) (tNot M) X := by rw [tv, w_bind]; rfl
theorem t_cmp {M : Bool → Mu → Prop} {o : CmpOp} {a b : E} : W (tv Ω (.cmp o a b) δ μ) M X = W (ev Ω a δ μ) (kCmp1 Ω o b δ (kBo M X) X) X := by
  rw [tv, w_bind]
  congr 1; funext x μ1
  rw [kBind_ap, w_bind, kCmp1_ap]
  congr 1; funext y μ2
  rw [kBind_ap, w_bind]; rfl
theorem t_chn {M : Bool → Mu → Prop} {o p : CmpOp} {a b c : E} : W (tv Ω (.chn o p a b c) δ μ) M X = W (ev Ω a δ μ) (kChn1 Ω o p b c δ (kBo M X) X) X := by
  rw [tv, w_bind]
  congr 1; funext x μ1
  rw [kBind_ap, w_bind, kChn1_ap]
  congr 1; funext y μ2
  rw [kBind_ap, w_bind, kChn2_ap]
  congr 1; funext z μ3
  rw [kBind_ap, kChn3_ap]
  cases z with
  | bl b =>
    cases b with
    | true =>
      show W (Res.bind _ _) M X = W (Res.bind _ _) (kBo M X) X
      rw [w_bind, w_bind]
      congr 1; funext w μ4
      rw [kBind_ap, kBind_ap, w_bind]; rfl
    | false => rfl
  | _ => rfl
theorem t_v {M : Bool → Mu → Prop} {i : Nat} : W (tv Ω (.v i) δ μ) M X = W (rdV δ i μ) (kTru M X) X := by
  rw [tv]; unfold rdV
  cases h : δ[i]? with
  | none => rfl
  | some o => cases o <;> rfl
theorem t_c {M : Bool → Mu → Prop} {d : D} : W (tv Ω (.c d) δ μ) M X = W (truD d μ) M X := by rw [tv]
theorem t_ix {M : Bool → Mu → Prop} {a b : E} : W (tv Ω (.ix a b) δ μ) M X = W (ev Ω (.ix a b) δ μ) (kTru M X) X := by rw [tv, w_bind, ev]; rfl
theorem t_call {M : Bool → Mu → Prop} {f : Nat} {es : Es} : W (tv Ω (.call f es) δ μ) M X = W (ev Ω (.call f es) δ μ) (kTru M X) X := by rw [tv, w_bind, ev]; rfl
theorem t_blt {M : Bool → Mu → Prop} {b : Blt} {es : Es} : W (tv Ω (.blt b es) δ μ) M X = W (ev Ω (.blt b es) δ μ) (kTru M X) X := by rw [tv, w_bind, ev]; rfl
theorem t_mth {M : Bool → Mu → Prop} {m : Mth} {a : E} {es : Es} : W (tv Ω (.mth m a es) δ μ) M X = W (ev Ω (.mth m a es) δ μ) (kTru M X) X := by rw [tv, w_bind, ev]; rfl
theorem s_asg {t : Tg} {e : E} : WS (evS Ω (.asg t e) δ μ) k = W (ev Ω e δ μ) (kAsg t δ k) (kX δ k) := by rw [evS, w_of]; rfl
theorem s_asg_n {i : Nat} {d : D} : WS (asgR (.name i) d δ μ) k = k.n (δ.set i (some d)) μ := rfl
theorem s_setix {o i e : E} : WS (evS Ω (.setix o i e) δ μ) k = W (ev Ω e δ μ) (kSet1 Ω o i δ k) (kX δ k) := by
  rw [evS, w_of, w_bind]
  congr 1; funext d μ1
  rw [kBind_ap, w_bind, kSet1_ap]
  congr 1; funext x μ2
  rw [kBind_ap, w_bind, kSet2_ap]
  rfl
theorem s_aug {i : Nat} {o : Operator} {e : E} : WS (evS Ω (.aug i o e) δ μ) k = W (rdV δ i μ) (kAug1 Ω i o e δ k) (kX δ k) := by
  rw [evS]
  unfold rdV
  cases h : δ[i]? with
  | none => rfl
  | some o =>
    cases o with
    | none => rfl
    | some x =>
      show WS (RS.of δ _ _) k = _
      rw [w_of, w_bind]
      rfl
theorem s_expr {e : E} : WS (evS Ω (.expr e) δ μ) k = W (ev Ω e δ μ) (kExp δ k) (kX δ k) := by rw [evS, w_of]; rfl
theorem s_ret {e : E} : WS (evS Ω (.ret e) δ μ) k = W (ev Ω e δ μ) k.r (kX δ k) := by rw [evS, w_of]; rfl
theorem s_retn  : WS (evS Ω (.retn) δ μ) k = k.r .non μ := by rw [evS]; rfl
theorem s_ifs {t : E} {a b : Ss} : WS (evS Ω (.ifs t a b) δ μ) k = W (tv Ω t δ μ) (kIfs Ω a b δ k) (kX δ k) := by rw [evS, w_of]; rfl
theorem s_for {t : Tg} {it : It'} {b : Ss} : WS (evS Ω (.for_ t it b) δ μ) k = W (evi Ω it δ μ) (kFor Ω t b δ k) (kX δ k) := by rw [evS, w_of]; rfl
theorem s_while {t : E} {b : Ss} : WS (evS Ω (.while_ t b) δ μ) k = WS (whileN (tv Ω t) (evSs Ω b) Ω.fu δ μ) k := by rw [evS]
theorem s_pass  : WS (evS Ω (.pass) δ μ) k = k.n δ μ := by rw [evS]; rfl
theorem s_brk  : WS (evS Ω (.brk) δ μ) k = k.b δ μ := by rw [evS]; rfl
theorem s_cont  : WS (evS Ω (.cont) δ μ) k = k.c δ μ := by rw [evS]; rfl
theorem s_nil : WS (evSs Ω .nil δ μ) k = k.n δ μ := by rw [evSs]; rfl
theorem s_cons {s : S} {r : Ss} : WS (evSs Ω (.cons s r) δ μ) k = WS (evS Ω s δ μ) (seqK Ω r k) := by rw [evSs, ws_seq]
theorem w_runB {n : Nat} {b : Ss} {ds : List D} : W (runB Ω n b ds μ) N X = WS (evSs Ω b (ds.map some ++ List.replicate (n - ds.length) none) μ) (runK N X) := by
  unfold runB
  cases evSs Ω b (ds.map some ++ List.replicate (n - ds.length) none) μ <;> rfl
theorem w_in2 {own2 : List Nat} {t2 : Tg} {it2 : It'} {e : E} {ℓ : Nat} {N : Unit → Mu → Prop} : W (in2 Ω own2 t2 it2 e ℓ δ μ) N X = W (evi Ω it2 δ μ) (kIn2 Ω own2 t2 e ℓ δ N X) (fun _ _ _ => False) := by
  unfold in2
  rw [w_bind, w_noexc]
  rfl
theorem W.imp {α : Type} {r : Res α} {N N' : α → Mu → Prop} {X X' : XQ} (h : W r N X) (hn : ∀ a μ, N a μ → N' a μ) (hx : ∀ c fs μ, X c fs μ → X' c fs μ) : W r N' X' := by
  cases r with
  | ok a μ => exact hn a μ h
  | exc c fs μ => exact hx c fs μ h
  | stuck => exact h
theorem W.okof {α : Type} {r : Res α} {a : α} {μ : Mu} (h : W r (fun a' μ' => a' = a ∧ μ' = μ) (fun _ _ _ => False)) : r = .ok a μ := by
  cases r with
  | ok a' μ' => obtain ⟨rfl, rfl⟩ := (show a' = a ∧ μ' = μ from h); rfl
  | exc c fs μ => exact (show False from h).elim
  | stuck => exact (show False from h).elim
theorem W.get {r : Res D} {d : D} (h : W r (fun a _ => a = d) (fun _ _ _ => False)) : ∃ μ, r = .ok d μ := by
  cases r with
  | ok a μ => exact ⟨μ, by rw [show a = d from h]⟩
  | exc c fs μ => exact (show False from h).elim
  | stuck => exact (show False from h).elim
end
end Tk

namespace Tk
open PySem PySem.Spec PyProof.Rows L2

/-! ### operations, read -/

section
variable {μ : Mu} {i j : Int} {x y : Str} {d e : D} {ds : List D} {n : Nat} {X : XQ}
theorem ite_F {c : Prop} [Decidable c] {A : Prop} : (if c then A else False) = (c ∧ A) := by by_cases h : c <;> simp [h]
def resO (o : Option D) (μ : Mu) : Res D := match o with
  | some d => .ok d μ
  | none => .stuck
theorem sizeLine_eq : sizeLine = 16777216 := rfl
theorem resO_s : resO (some d) μ = .ok d μ := rfl
theorem ix_tup : ixD (.tup ds) (.int i) μ = resO (atI ds i) μ := rfl
theorem ix_loc (h : lstAt μ n = some ds) : ixD (.loc n) (.int i) μ = resO (atI ds i) μ := by
  unfold ixD
  dsimp only
  rw [show seqD μ (.loc n) = lstAt μ n from rfl, h]
  rfl
theorem atI_nn {α : Type} {xs : List α} (h : 0 ≤ i) : atI xs i = xs[i.toNat]? := by
  unfold atI ixN
  rw [if_pos h]
  split
  · rfl
  · rename_i q
    rw [List.getElem?_eq_none (by omega)]
    rfl
theorem atI_n {α : Type} {xs : List α} {k : Nat} : atI xs (k : Int) = xs[k]? := by rw [atI_nn (by omega)]; rfl
theorem atI_l {α : Type} {xs : List α} {k : Nat} : atI xs (no_index (@OfNat.ofNat Int k _)) = xs[(@OfNat.ofNat Nat k _)]? := atI_n (k := k)
theorem atI_0 {α : Type} {xs : List α} : atI xs 0 = xs[0]? := atI_n (k := 0)
theorem atI_1 {α : Type} {xs : List α} : atI xs 1 = xs[1]? := atI_n (k := 1)
theorem b_add : binD .Add (.int i) (.int j) μ = .ok (.int (i + j)) μ := rfl
theorem b_sub : binD .Sub (.int i) (.int j) μ = .ok (.int (i - j)) μ := rfl
theorem b_mul : binD .Mult (.int i) (.int j) μ = if cmulB i j = true then .ok (.int (i * j)) μ else .stuck := rfl
theorem b_div : binD .FloorDiv (.int i) (.int j) μ = if 0 < j ∧ j < 1073741824 then .ok (.int (i / j)) μ else .stuck := rfl
theorem b_mod : binD .Mod (.int i) (.int j) μ = if 0 < j then .ok (.int (i % j)) μ else .stuck := rfl
theorem b_pow : binD .Pow (.int i) (.int j) μ = if 0 ≤ j ∧ j ≤ 1000000 ∧ i.natAbs < 2 ^ 64 then .ok (.int (i ^ j.toNat)) μ else .stuck := rfl
theorem b_tup {ds es : List D} : binD .Add (.tup ds) (.tup es) μ = if ds.length + es.length ≤ sizeLine then .ok (.tup (ds ++ es)) μ else .stuck := rfl
theorem b_str : binD .Add (.str x) (.str y) μ = if x.length + y.length ≤ sizeLine then .ok (.str (x ++ y)) μ else .stuck := rfl
theorem a_add : augD .Add (.int i) (.int j) μ = .ok (.int (i + j)) μ := rfl
theorem a_sub : augD .Sub (.int i) (.int j) μ = .ok (.int (i - j)) μ := rfl
theorem n_int : negD (.int i) μ = .ok (.int (-i)) μ := rfl
def optB (o : Option Bool) (μ : Mu) : Res D := match o with
  | some b => .ok (.bl b) μ
  | none => .stuck
theorem optB_s {b} : optB (some b) μ = .ok (.bl b) μ := rfl
theorem c_eq : cmpD .Eq d e μ = optB (eqD μ d e) μ := by unfold cmpD optB; rfl
theorem c_ne : cmpD .NotEq d e μ = optB ((eqD μ d e).map not) μ := by
  rw [show cmpD .NotEq d e μ = (match eqD μ d e with
    | some b => Res.ok (.bl (!b)) μ
    | none => .stuck) from rfl]
  cases eqD μ d e <;> rfl
theorem c_lt : cmpD .Lt (.int i) (.int j) μ = .ok (.bl (decide (i < j))) μ := rfl
theorem c_le : cmpD .LtE (.int i) (.int j) μ = .ok (.bl (decide (i ≤ j))) μ := rfl
theorem c_gt : cmpD .Gt (.int i) (.int j) μ = .ok (.bl (decide (j < i))) μ := rfl
theorem c_ge : cmpD .GtE (.int i) (.int j) μ = .ok (.bl (decide (j ≤ i))) μ := rfl
theorem c_in : cmpD .In d e μ = optB (inD μ d e) μ := by unfold cmpD optB; rfl
theorem c_ni : cmpD .NotIn d e μ = optB ((inD μ d e).map not) μ := by
  rw [show cmpD .NotIn d e μ = (match inD μ d e with
    | some b => Res.ok (.bl (!b)) μ
    | none => .stuck) from rfl]
  cases inD μ d e <;> rfl
theorem inD_tup : inD μ d (.tup ds) = if flatD d = true ∧ ds.all flatD = true then some (inF d ds) else none := rfl
theorem inD_loc (h : lstAt μ n = some ds) : inD μ d (.loc n) = if flatD d = true ∧ ds.all flatD = true then some (inF d ds) else none := by
  show (lstAt μ n).bind _ = _
  rw [h]
  rfl
theorem eqD_ii : eqD μ (.int i) (.int j) = some (i == j) := rfl
theorem eqD_ss : eqD μ (.str x) (.str y) = some (x == y) := rfl
theorem eqD_nn : eqD μ .non .non = some true := rfl
theorem eqD_bb {a b : Bool} : eqD μ (.bl a) (.bl b) = some (a == b) := rfl
theorem eqD_iv {a b c d : Int} : eqD μ (.tup [.int a, .int b]) (.tup [.int c, .int d]) = some (a == c && b == d) := by
  simp [eqD, pyD, allS, PyData.eqv, PyData.eqvAll]
theorem eqD_tn : eqD μ (.tup ds) .non = (pyD μ 40 (.tup ds)).map fun _ => false := by
  unfold eqD
  cases h : pyD μ 40 (.tup ds) with
  | none => rfl
  | some p =>
    unfold pyD at h
    obtain ⟨ps, _, rfl⟩ := Option.map_eq_some_iff.mp h
    rfl
theorem eqF_ii : eqF (.int i) (.int j) = (i == j) := rfl
theorem eqF_ss : eqF (.str x) (.str y) = (x == y) := rfl
theorem bl_len_tup : bltD .len [.tup ds] μ = .ok (.int ds.length) μ := rfl
theorem bl_len_loc (h : lstAt μ n = some ds) : bltD .len [.loc n] μ = .ok (.int ds.length) μ := by
  unfold bltD
  dsimp only
  rw [show seqD μ (.loc n) = lstAt μ n from rfl, h]
theorem bl_int : bltD .int [.int i] μ = .ok (.int i) μ := rfl
theorem bl_bool {b} : bltD .int [.bl b] μ = .ok (.int (if b = true then 1 else 0)) μ := rfl
theorem bl_max : bltD .max [.int i, .int j] μ = .ok (.int (max i j)) μ := by
  show Res.ok (D.int (if j > i then j else i)) μ = _
  congr 2
  omega
theorem bl_min : bltD .min [.int i, .int j] μ = .ok (.int (min i j)) μ := by
  show Res.ok (D.int (if j < i then j else i)) μ = _
  congr 2
  omega
def optN (o : Option Int) (μ : Mu) : Res D := match o with
  | some b => .ok (.int b) μ
  | none => .stuck
theorem optN_s {b} : optN (some b) μ = .ok (.int b) μ := rfl
theorem bl_maxl (h : lstAt μ n = some ds) : bltD .max [.loc n] μ = optN ((intsD ds).bind maxI) μ := by
  unfold bltD
  dsimp only
  rw [h]
  cases h1 : intsD ds with
  | none => simp [Option.bind, optN, h1]
  | some ns => simp only [Option.bind, h1]; rfl
theorem bl_minl (h : lstAt μ n = some ds) : bltD .min [.loc n] μ = optN ((intsD ds).bind minI) μ := by
  unfold bltD
  dsimp only
  rw [h]
  cases h1 : intsD ds with
  | none => simp [Option.bind, optN, h1]
  | some ns => simp only [Option.bind, h1]; rfl
theorem bl_list_tup : bltD .list [.tup ds] μ = newl μ ds := rfl
theorem bl_list_loc (h : lstAt μ n = some ds) : bltD .list [.loc n] μ = newl μ ds := by
  unfold bltD
  dsimp only
  rw [show seqD μ (.loc n) = lstAt μ n from rfl, h]
theorem bl_tup_loc (h : lstAt μ n = some ds) : bltD .tuple [.loc n] μ = .ok (.tup ds) μ := by
  unfold bltD
  dsimp only
  rw [show seqD μ (.loc n) = lstAt μ n from rfl, h]
theorem bl_isi : bltD .isi [.tup ds, .ty "tuple"] μ = .ok (.bl true) μ := by
  have : kitB "tuple" "tuple" = some true := by decide +kernel
  show (match kitB "tuple" "tuple" with
    | some b => Res.ok (D.bl b) μ
    | none => .stuck) = _
  rw [this]
theorem newl_eq : newl μ ds = .ok (.loc μ.length) (μ ++ [.lst ds]) := rfl
theorem tru_b {b} : truD (.bl b) μ = .ok b μ := rfl
theorem tru_n : truD .non μ = .ok false μ := rfl
theorem tru_i : truD (.int i) μ = .ok (i != 0) μ := rfl
theorem boD_b {c} : boD (.bl c) μ = .ok c μ := rfl
theorem not_b {b} : notD (.bl b) μ = .ok (.bl (!b)) μ := rfl
theorem mk_app (h : μ[n]? = some (.lst ds)) : mkD .append (.loc n) μ = true := by
  show isLst (.loc n) μ = true
  unfold isLst
  dsimp only
  rw [h]
theorem m_app (h : μ[n]? = some (.lst ds)) : mthD .append (.loc n) [d] μ = if ds.length < sizeLine then .ok .non (μ.set n (.lst (ds ++ [d]))) else .stuck := by
  show appendD (.loc n) [d] μ = _
  unfold appendD
  dsimp only
  rw [h]
def setR (o : Option Nat) (n : Nat) (ds : List D) (d : D) (μ : Mu) : Res Unit := match o with
  | some k => .ok () (μ.set n (.lst (ds.set k d)))
  | none => .stuck
theorem setR_s {k : Nat} : setR (some k) n ds d μ = .ok () (μ.set n (.lst (ds.set k d))) := rfl
theorem ixN_nn {m : Nat} (h0 : 0 ≤ i) (h1 : i < m) : ixN m i = some i.toNat := by unfold ixN; rw [if_pos h0, if_pos h1]
theorem ixN_n {m k : Nat} : ixN m (k : Int) = if k < m then some k else none := by
  unfold ixN
  rw [if_pos (by omega)]
  by_cases h : k < m
  · rw [if_pos h, if_pos (by omega)]; rfl
  · rw [if_neg h, if_neg (by omega)]
theorem ixN_l {m k : Nat} : ixN m (no_index (@OfNat.ofNat Int k _)) = if (@OfNat.ofNat Nat k _) < m then some (@OfNat.ofNat Nat k _) else none := ixN_n
theorem ixN_0 {m : Nat} : ixN m 0 = if 0 < m then some 0 else none := ixN_n (k := 0)
theorem ixN_1 {m : Nat} : ixN m 1 = if 1 < m then some 1 else none := ixN_n (k := 1)
theorem set_l (h : μ[n]? = some (.lst ds)) : setixD (.loc n) (.int i) d μ = setR (ixN ds.length i) n ds d μ := by
  unfold setixD
  dsimp only
  rw [h]
  rfl
theorem lst_l (h : μ[n]? = some (.lst ds)) : lstAt μ n = some ds := by unfold lstAt; rw [h]
theorem lst_f (h : μ[n]? = some (.fl ds)) : lstAt μ n = some ds := by unfold lstAt; rw [h]
theorem valS_t : valS (.tup ds) μ = .ok (.items ds) μ := rfl
theorem valS_l (h : lstAt μ n = some ds) : valS (.loc n) μ = .ok (.live n) μ := by
  unfold valS
  dsimp only
  rw [h]
theorem rng1_i : rng1S (.int i) μ = if -(2 ^ 62) ≤ i ∧ i < 2 ^ 62 then .ok (.rng 0 i.toNat) μ else .stuck := rfl
theorem rng2_i : rng2S (.int i) (.int j) μ = if -(2 ^ 62) ≤ i ∧ i < 2 ^ 62 ∧ -(2 ^ 62) ≤ j ∧ j < 2 ^ 62 then .ok (.rng i (j - i).toNat) μ else .stuck := rfl
theorem optI_i : optI (.int i) μ = .ok (some i) μ := rfl
theorem cmul_l (h : -(2 ^ 64) < i ∧ i < 2 ^ 64) : cmulB i j = true := by
  unfold cmulB
  simp only [h.1, h.2, decide_true, Bool.and_self, Bool.true_or]
theorem cmul_r (h : -(2 ^ 64) < j ∧ j < 2 ^ 64) : cmulB i j = true := by
  unfold cmulB
  simp only [h.1, h.2, decide_true, Bool.and_self, Bool.or_true]
theorem cmulB_rl (h : (decide (-(2 ^ 64) < j) && decide (j < 2 ^ 64)) = true) : cmulB i j = true := by
  unfold cmulB
  rw [h, Bool.or_true]
theorem cmulB_ll (h : (decide (-(2 ^ 64) < i) && decide (i < 2 ^ 64)) = true) : cmulB i j = true := by
  unfold cmulB
  rw [h, Bool.true_or]
theorem natAbs_l {k : Nat} : Int.natAbs (no_index (@OfNat.ofNat Int k _)) = (@OfNat.ofNat Nat k _) := rfl
/-! the same, nothing asked -/
def lstO (o : Option MO) : Option (List D) := match o with
  | some (.lst xs) => some xs
  | some (.fl xs) => some xs
  | _ => none
theorem lstO_l : lstO (some (.lst ds)) = some ds := rfl
theorem lstO_f : lstO (some (.fl ds)) = some ds := rfl
theorem lst_u : lstAt μ n = lstO μ[n]? := by unfold lstAt lstO; rfl
theorem ix_u : ixD (.loc n) (.int i) μ = resO ((lstAt μ n).bind fun ds => atI ds i) μ := by
  cases h : lstAt μ n with
  | none =>
    unfold ixD
    dsimp only
    rw [show seqD μ (.loc n) = lstAt μ n from rfl, h]
    rfl
  | some ds => exact ix_loc h
def optK (o : Option (List D)) (f : List D → Res D) : Res D := match o with
  | some ds => f ds
  | none => .stuck
theorem optK_s {f : List D → Res D} : optK (some ds) f = f ds := rfl
theorem len_u : bltD .len [.loc n] μ = optK (lstAt μ n) fun ds => .ok (.int ds.length) μ := by
  cases h : lstAt μ n with
  | none =>
    unfold bltD
    dsimp only
    rw [show seqD μ (.loc n) = lstAt μ n from rfl, h]
    rfl
  | some ds => exact bl_len_loc h
theorem max_u : bltD .max [.loc n] μ = optN ((lstAt μ n).bind fun ds => (intsD ds).bind maxI) μ := by
  cases h : lstAt μ n with
  | none =>
    unfold bltD
    dsimp only
    rw [h]
    rfl
  | some ds => exact bl_maxl h
theorem min_u : bltD .min [.loc n] μ = optN ((lstAt μ n).bind fun ds => (intsD ds).bind minI) μ := by
  cases h : lstAt μ n with
  | none =>
    unfold bltD
    dsimp only
    rw [h]
    rfl
  | some ds => exact bl_minl h
theorem list_u : bltD .list [.loc n] μ = optK (lstAt μ n) fun ds => newl μ ds := by
  cases h : lstAt μ n with
  | none =>
    unfold bltD
    dsimp only
    rw [show seqD μ (.loc n) = lstAt μ n from rfl, h]
    rfl
  | some ds => exact bl_list_loc h
theorem tuple_u : bltD .tuple [.loc n] μ = optK (lstAt μ n) fun ds => .ok (.tup ds) μ := by
  cases h : lstAt μ n with
  | none =>
    unfold bltD
    dsimp only
    rw [show seqD μ (.loc n) = lstAt μ n from rfl, h]
    rfl
  | some ds => exact bl_tup_loc h
def optJ (o : Option (List Int)) (f : List Int → Res D) : Res D := match o with
  | some ds => f ds
  | none => .stuck
theorem optJ_s {f : List Int → Res D} {ns : List Int} : optJ (some ns) f = f ns := rfl
theorem sorted_u : bltD .sorted [.loc n] μ = optJ ((lstAt μ n).bind intsD) fun ns => newl μ ((sortI ns).map .int) := by
  unfold bltD
  dsimp only
  cases (lstAt μ n).bind intsD <;> rfl
theorem in_u : inD μ d (.loc n) = (lstAt μ n).bind fun ds => if flatD d = true ∧ ds.all flatD = true then some (inF d ds) else none := rfl
def valO (o : Option (List D)) (n : Nat) (μ : Mu) : Res Src := match o with
  | some _ => .ok (.live n) μ
  | none => .stuck
theorem valO_s : valO (some ds) n μ = .ok (.live n) μ := rfl
theorem valS_u : valS (.loc n) μ = valO (lstAt μ n) n μ := by unfold valS valO; rfl
def isLO (o : Option MO) : Bool := match o with
  | some (.lst _) => true
  | _ => false
theorem isLO_l : isLO (some (.lst ds)) = true := rfl
theorem mk_u : mkD .append (.loc n) μ = isLO μ[n]? := by
  show isLst (.loc n) μ = _
  unfold isLst isLO
  rfl
def appR (o : Option MO) (n : Nat) (d : D) (μ : Mu) : Res D := match o with
  | some (.lst xs) => if xs.length < sizeLine then .ok .non (μ.set n (.lst (xs ++ [d]))) else .stuck
  | _ => .stuck
theorem appR_l : appR (some (.lst ds)) n d μ = if ds.length < sizeLine then .ok .non (μ.set n (.lst (ds ++ [d]))) else .stuck := rfl
theorem m_u : mthD .append (.loc n) [d] μ = appR μ[n]? n d μ := by
  show appendD (.loc n) [d] μ = _
  unfold appendD appR
  rfl
def setO (o : Option MO) (n : Nat) (k d : D) (μ : Mu) : Res Unit := match o with
  | some (.lst xs) => (match k with
    | .int i => setR (ixN xs.length i) n xs d μ
    | _ => .stuck)
  | some (.dic kvs) => (match keyD k with
    | some _ => if kvs.length < sizeLine then .ok () (μ.set n (.dic (putD kvs k d))) else .stuck
    | none => .stuck)
  | _ => .stuck
theorem setO_l : setO (some (.lst ds)) n (.int i) d μ = setR (ixN ds.length i) n ds d μ := rfl
theorem set_u : setixD (.loc n) e d μ = setO μ[n]? n e d μ := by
  unfold setixD setO setR
  rfl
theorem dispO {kvs : List (D × D)} (hk : (kvs.all fun kv => (keyD kv.1).isSome) = true) (hl : kvs.length ≤ 15) (h : μ[n]? = some (.dic [])) : dispD kvs n μ = .ok (.loc n) (μ.set n (.dic (mergeD [] kvs))) := by
  unfold dispD
  rw [h]
  dsimp only
  rw [if_pos ⟨hk, hl⟩]
theorem intsD_map : ∀ (ns : List Int), intsD (ns.map .int) = some ns
  | [] => rfl
  | n :: ns => by rw [List.map_cons, intsD, intsD_map ns]; rfl
def minL : Int → List Int → Int
  | x, [] => x
  | x, y :: r => min x (minL y r)
def maxL : Int → List Int → Int
  | x, [] => x
  | x, y :: r => max x (maxL y r)
theorem minI_c : ∀ (r : List Int) (x : Int), minI (x :: r) = some (minL x r)
  | [], x => rfl
  | y :: r, x => by
    rw [minI, minI_c r y]
    show some (if x < minL y r then x else minL y r) = some (min x (minL y r))
    congr 1
    omega
    all_goals (intro h; cases h)
theorem maxI_c : ∀ (r : List Int) (x : Int), maxI (x :: r) = some (maxL x r)
  | [], x => rfl
  | y :: r, x => by
    rw [maxI, maxI_c r y]
    show some (if x > maxL y r then x else maxL y r) = some (max x (maxL y r))
    congr 1
    omega
    all_goals (intro h; cases h)
theorem minL_le : ∀ (r : List Int) (x : Int), ∀ y ∈ x :: r, minL x r ≤ y
  | [], x, y, h => by cases h with | head => exact Int.le_refl _ | tail _ h => cases h
  | z :: r, x, y, h => by
    have ih := minL_le r z
    rw [minL]
    cases h with
    | head => omega
    | tail _ h => have := ih y h; omega
theorem minL_mem : ∀ (r : List Int) (x : Int), minL x r ∈ x :: r
  | [], x => List.mem_cons_self
  | z :: r, x => by
    rw [minL]
    have ih := minL_mem r z
    by_cases h : x ≤ minL z r
    · rw [Int.min_eq_left h]; exact List.mem_cons_self
    · rw [Int.min_eq_right (by omega)]; exact List.mem_cons_of_mem _ ih
theorem maxL_le : ∀ (r : List Int) (x : Int), ∀ y ∈ x :: r, y ≤ maxL x r
  | [], x, y, h => by cases h with | head => exact Int.le_refl _ | tail _ h => cases h
  | z :: r, x, y, h => by
    have ih := maxL_le r z
    rw [maxL]
    cases h with
    | head => omega
    | tail _ h => have := ih y h; omega
theorem maxL_mem : ∀ (r : List Int) (x : Int), maxL x r ∈ x :: r
  | [], x => List.mem_cons_self
  | z :: r, x => by
    rw [maxL]
    have ih := maxL_mem r z
    by_cases h : maxL z r ≤ x
    · rw [Int.max_eq_left h]; exact List.mem_cons_self
    · rw [Int.max_eq_right (by omega)]; exact List.mem_cons_of_mem _ ih
def isDO (o : Option MO) : Bool := match o with
  | some (.dic _) => true
  | _ => false
theorem isDO_d {kvs} : isDO (some (.dic kvs)) = true := rfl
theorem mk_g : mkD .get (.loc n) μ = isDO μ[n]? := by
  show isDic (.loc n) μ = _
  unfold isDic isDO
  rfl
def getO (o : Option MO) (k d : D) (μ : Mu) : Res D := match o with
  | some (.dic kvs) => (match keyD k with
    | some _ => .ok ((valD kvs k).getD d) μ
    | none => .stuck)
  | _ => .stuck
theorem getO_s {kvs} : getO (some (.dic kvs)) (.str x) d μ = .ok ((valD kvs (.str x)).getD d) μ := rfl
theorem getO_i {kvs} : getO (some (.dic kvs)) (.int i) d μ = .ok ((valD kvs (.int i)).getD d) μ := rfl
theorem g_u : mthD .get (.loc n) [e, d] μ = getO μ[n]? e d μ := by
  show Tk.getD (.loc n) [e, d] μ = _
  unfold Tk.getD getO
  rfl
def disO (o : Option MO) (kvs : List (D × D)) (n : Nat) (μ : Mu) : Res D := match o with
  | some (.dic []) => if (kvs.all fun kv => (keyD kv.1).isSome) = true ∧ kvs.length ≤ 15 then .ok (.loc n) (μ.set n (.dic (mergeD [] kvs))) else .stuck
  | _ => .stuck
theorem disO_d {kvs : List (D × D)} : disO (some (.dic [])) kvs n μ = if (kvs.all fun kv => (keyD kv.1).isSome) = true ∧ kvs.length ≤ 15 then .ok (.loc n) (μ.set n (.dic (mergeD [] kvs))) else .stuck := rfl
theorem dis_u {kvs : List (D × D)} : dispD kvs n μ = disO μ[n]? kvs n μ := by unfold dispD disO; rfl
theorem key_s : keyD (.str x) = some (.inr x) := rfl
theorem key_i : keyD (.int i) = some (.inl i) := rfl
theorem valD_c {k v : D} {kvs : List (D × D)} : valD ((k, v) :: kvs) d = if eqF k d = true then some v else valD kvs d := by
  unfold valD
  rw [List.find?_cons]
  dsimp only
  cases eqF k d <;> rfl
theorem valD_n : valD [] d = none := rfl
/-! places -/
variable {o o' : MO}
theorem at_new : (μ ++ [o])[μ.length]? = some o := by simp
theorem at_old (h : μ[n]? = some o') : (μ ++ [o])[n]? = some o' := by
  have hl : n < μ.length := by
    rcases Nat.lt_or_ge n μ.length with q | q
    · exact q
    · rw [List.getElem?_eq_none q] at h; cases h
  rw [List.getElem?_append_left hl, h]
theorem at_lt (h : μ[n]? = some o') : n < μ.length := by
  rcases Nat.lt_or_ge n μ.length with q | q
  · exact q
  · rw [List.getElem?_eq_none q] at h; cases h
theorem at_set (h : μ[n]? = some o') : (μ.set n o)[n]? = some o := by
  rw [List.getElem?_set_self (at_lt h)]
theorem at_ne {m : Nat} (hm : n ≠ m) : (μ.set n o)[m]? = μ[m]? := List.getElem?_set_ne hm
theorem at_app {l : Mu} {k : Nat} : (μ ++ l)[μ.length + k]? = l[k]? := by rw [List.getElem?_append_right (by omega)]; congr 1; omega
theorem at_app0 {l : Mu} : (μ ++ l)[μ.length]? = l[0]? := at_app (k := 0)
theorem set_app {l : Mu} {k : Nat} : (μ ++ l).set (μ.length + k) o = μ ++ l.set k o := by rw [List.set_append_right _ _ (by omega)]; congr 2; omega
theorem set_app0 {l : Mu} : (μ ++ l).set μ.length o = μ ++ l.set 0 o := set_app (k := 0)
theorem at_appl {l : Mu} (h : μ[n]? = some o') : (μ ++ l)[n]? = some o' := by rw [List.getElem?_append_left (at_lt h), h]
end
/-- places below s keep what stands there, but those in xs -/
structure Kp (xs : List Nat) (μ μ' : Mu) : Prop where
  len : μ.length ≤ μ'.length
  at_ : ∀ n, n < μ.length → n ∉ xs → μ'[n]? = μ[n]?
theorem Kp.refl {xs μ} : Kp xs μ μ := ⟨Nat.le_refl _, fun _ _ _ => rfl⟩
theorem Kp.trans {xs a b c} (h : Kp xs a b) (g : Kp xs b c) : Kp xs a c := ⟨Nat.le_trans h.len g.len, fun n hn hx => (g.at_ n (Nat.lt_of_lt_of_le hn h.len) hx).trans (h.at_ n hn hx)⟩
theorem Kp.imp {xs ys a b} (h : Kp xs a b) (k : ∀ n ∈ xs, n ∈ ys) : Kp ys a b := ⟨h.len, fun n hn hx => h.at_ n hn fun q => hx (k n q)⟩
theorem Kp.new {xs μ o} : Kp xs μ (μ ++ [o]) := ⟨by simp, fun n hn _ => List.getElem?_append_left hn⟩
theorem Kp.app {xs μ l} : Kp xs μ (μ ++ l) := ⟨by simp, fun n hn _ => List.getElem?_append_left hn⟩
theorem Kp.set {xs : List Nat} {μ : Mu} {n o} (h : n ∈ xs) : Kp xs μ (μ.set n o) := ⟨by simp, fun m _ hx => List.getElem?_set_ne fun e => hx (by rw [← e]; exact h)⟩
theorem Kp.set' {xs : List Nat} {μ μ' : Mu} {n o} (k : Kp xs μ μ') (h : μ.length ≤ n) : Kp xs μ (μ'.set n o) := ⟨by simpa using k.len, fun m hm hx => by rw [List.getElem?_set_ne (by omega), k.at_ m hm hx]⟩
theorem Kp.get {xs : List Nat} {μ μ' : Mu} {n o} (k : Kp xs μ μ') (h : μ[n]? = some o) (hx : n ∉ xs) : μ'[n]? = some o := by
  rw [k.at_ n (at_lt h) hx, h]


theorem strEq_t {x y : Str} (h : (x == y) = true) : (x = y) = True := eq_true (eq_of_beq h)
theorem strEq_f {x y : Str} (h : (x == y) = false) : (x = y) = False := eq_false (beq_eq_false_iff_ne.mp h)
def smallB (j : Int) : Bool := decide (-18446744073709551616 < j) && decide (j < 18446744073709551616)
theorem small_u {j : Int} : smallB j = (decide (-18446744073709551616 < j) && decide (j < 18446744073709551616)) := rfl
theorem cmulS_r {i j : Int} (h : smallB j = true) : cmulB i j = true := by
  unfold smallB at h
  simp only [Bool.and_eq_true, decide_eq_true_eq] at h
  exact cmul_r ⟨by omega, by omega⟩
theorem cmulS_l {i j : Int} (h : smallB i = true) : cmulB i j = true := by
  unfold smallB at h
  simp only [Bool.and_eq_true, decide_eq_true_eq] at h
  exact cmul_l ⟨by omega, by omega⟩
theorem bindG_n {i : Nat} {d : D} {δ : Dl} : bindG (.name i) d δ = some (δ.set i (some d)) := by unfold bindG; rfl
theorem bindG_t {ts : List Tg} {ds : List D} {δ : Dl} : bindG (.tup ts) (.tup ds) δ = bindGs ts ds δ := by rw [bindG]
theorem bindGs_n {δ : Dl} : bindGs [] [] δ = some δ := by unfold bindGs; rfl
theorem bindGs_c {t : Tg} {ts : List Tg} {d : D} {ds : List D} {δ : Dl} : bindGs (t :: ts) (d :: ds) δ = (bindG t d δ).bind (bindGs ts ds) := by rw [bindGs]
def asgO (o : Option Dl) (μ : Mu) : RS := match o with
  | some δ1 => .nx δ1 μ
  | none => .stuck
theorem asgO_s {δ : Dl} {μ : Mu} : asgO (some δ) μ = .nx δ μ := rfl
theorem asgR_u {t : Tg} {d : D} {δ : Dl} {μ : Mu} : asgR t d δ μ = asgO (bindG t d δ) μ := rfl
theorem idx_inj {tbl : List Str} {x y : Str} {i : Nat} (hx : tbl.idxOf? x = some i) (hy : tbl.idxOf? y = some i) : x = y := by
  rw [List.idxOf?_eq_some_iff] at hx hy
  obtain ⟨h1, h2, _⟩ := hx
  obtain ⟨h3, h4, _⟩ := hy
  have e1 : tbl[i] = x := by simpa using h2
  have e2 : tbl[i] = y := by simpa using h4
  rw [← e1, ← e2]
theorem str_eq {tbl : List Str} {x y : Str} (hx : (tbl.idxOf? x).isSome = true) : (x = y) = (tbl.idxOf? x = tbl.idxOf? y) := by
  refine propext ⟨fun h => by rw [h], fun h => ?_⟩
  obtain ⟨i, hi⟩ := Option.isSome_iff_exists.mp hx
  exact idx_inj hi (h ▸ hi)
theorem str_beq {tbl : List Str} {x y : Str} (hx : (tbl.idxOf? x).isSome = true) : (x == y) = (tbl.idxOf? x == tbl.idxOf? y) := by
  rw [Bool.eq_iff_iff]
  simp only [beq_iff_eq]
  exact iff_of_eq (str_eq hx)
end Tk
local macro_rules | `(tactic| simp_all! only [$ls,*]) => `(tactic| simp only [Tk.kBind_ap, Tk.kBin2_ap, Tk.kBin1_ap, Tk.kNeg_ap, Tk.kCmp2_ap, Tk.kCmp1_ap, Tk.kChn3_ap, Tk.kChn2_ap, Tk.kChn1_ap, Tk.kAnd_ap, Tk.kOr_ap, Tk.kNot_ap, Tk.kIte_ap, Tk.kIx2_ap, Tk.kIx1_ap, Tk.kSl3_ap, Tk.kSl2_ap, Tk.kSl1_ap, Tk.kCall_ap, Tk.kBlt_ap, Tk.kMth2_ap, Tk.kMth1_ap, Tk.kTup_ap, Tk.kLst_ap, Tk.kLc_ap, Tk.kIn2_ap, Tk.kLc2_ap, Tk.kDic_ap, Tk.kCons2_ap, Tk.kCons1_ap, Tk.kOs_ap, Tk.kVal_ap, Tk.kR1_ap, Tk.kR2b_ap, Tk.kR2a_ap, Tk.kPc3_ap, Tk.kPc2_ap, Tk.kPc1_ap, Tk.tAnd_ap, Tk.tOr_ap, Tk.tNot_ap, Tk.kBo_ap, Tk.kTru_ap, Tk.kAsg_ap, Tk.kX_ap, Tk.kSet4_ap, Tk.kSet3_ap, Tk.kSet2_ap, Tk.kSet1_ap, Tk.kAug3_ap, Tk.kAug2_ap, Tk.kAug1_ap, Tk.kExp_ap, Tk.kIfs_ap, Tk.kFor_ap, Tk.seqK_n, Tk.seqK_r, Tk.seqK_b, Tk.seqK_c, Tk.seqK_x, Tk.runK_n, Tk.runK_r, Tk.runK_b, Tk.runK_c, Tk.runK_x, Tk.w_ok, Tk.w_stuck, Tk.ws_nx, Tk.ws_ret, Tk.ws_stuck, Tk.w_bind, Tk.w_ifs, Tk.rdV_0, Tk.rdV_s, Tk.andR_b, Tk.orR_b, Tk.w_v, Tk.w_c, Tk.w_tup, Tk.w_lst, Tk.w_bin, Tk.w_neg, Tk.w_cmp, Tk.w_chn, Tk.w_and, Tk.w_or, Tk.w_not, Tk.w_ite, Tk.w_ix, Tk.w_sl, Tk.w_call, Tk.w_blt, Tk.w_mth, Tk.w_lc, Tk.w_lc2, Tk.w_dic, Tk.w_nil, Tk.w_cons, Tk.w_on, Tk.w_os, Tk.w_tn, Tk.w_ts, Tk.w_iv, Tk.w_i1, Tk.w_i2, Tk.w_pn, Tk.w_pc, Tk.t_and, Tk.t_or, Tk.t_not, Tk.t_cmp, Tk.t_chn, Tk.t_v, Tk.t_c, Tk.t_ix, Tk.t_call, Tk.t_blt, Tk.t_mth, Tk.s_asg, Tk.s_setix, Tk.s_aug, Tk.s_expr, Tk.s_ret, Tk.s_retn, Tk.s_ifs, Tk.s_for, Tk.s_while, Tk.s_pass, Tk.s_brk, Tk.s_cont, Tk.s_nil, Tk.s_cons, Tk.w_runB, Tk.w_in2, Tk.sizeLine_eq, Tk.setR_s, Tk.ixN_0, Tk.ixN_1, Tk.ixN_l, Tk.resO_s, Tk.ix_tup, Tk.atI_0, Tk.atI_1, Tk.atI_l, Tk.b_add, Tk.b_sub, Tk.b_mul, Tk.b_pow, Tk.cmulS_r, Tk.cmulS_l, Tk.small_u, Tk.natAbs_l, Tk.b_div, Tk.b_mod, Tk.b_tup, Tk.b_str, Tk.a_add, Tk.a_sub, Tk.n_int, Tk.optB_s, Tk.c_eq, Tk.c_ne, Tk.c_lt, Tk.c_le, Tk.c_gt, Tk.c_ge, Tk.c_in, Tk.c_ni, Tk.inD_tup, Tk.eqD_ii, Tk.eqD_ss, Tk.eqD_nn, Tk.eqD_bb, Tk.eqD_iv, Tk.eqF_ii, Tk.eqF_ss, Tk.bl_len_tup, Tk.bl_int, Tk.bl_bool, Tk.bl_max, Tk.bl_min, Tk.optN_s, Tk.bl_list_tup, Tk.bl_isi, Tk.newl_eq, Tk.tru_b, Tk.tru_n, Tk.tru_i, Tk.not_b, Tk.valS_t, Tk.rng1_i, Tk.rng2_i, Tk.optI_i, Tk.inF, Tk.flatD, Tk.at_app, Tk.at_app0, Tk.set_app, Tk.set_app0, Tk.lst_u, Tk.lstO_l, Tk.lstO_f, Tk.ix_u, Tk.optK_s, Tk.len_u, Tk.max_u, Tk.min_u, Tk.list_u, Tk.tuple_u, Tk.optJ_s, Tk.sorted_u, Tk.in_u, Tk.valO_s, Tk.valS_u, Tk.isLO_l, Tk.mk_u, Tk.appR_l, Tk.m_u, Tk.isDO_d, Tk.mk_g, Tk.getO_s, Tk.getO_i, Tk.g_u, Tk.disO_d, Tk.dis_u, Tk.key_s, Tk.key_i, Tk.valD_c, Tk.valD_n, Tk.setO_l, Tk.set_u, Tk.intsD, Tk.intsD_map, Tk.minI_c, Tk.maxI_c, Tk.boD_b, Tk.bindG_n, Tk.bindG_t, Tk.bindGs_n, Tk.bindGs_c, Tk.asgO_s, Tk.asgR_u, Nat.reduceAdd, Nat.reduceSub, Nat.reduceLeDiff, Nat.reduceLT, Int.reduceLT, Int.reduceLE, Int.reducePow, Int.reduceToNat, Int.reduceNeg, Nat.reducePow, Int.reduceAbs, List.all_cons, List.all_nil, List.any_cons, List.any_nil, Bool.and_true, Bool.true_and, Bool.or_false, Bool.false_or, Bool.or_true, Bool.true_or, Bool.and_false, Bool.false_and, Bool.not_true, Bool.not_false, Option.map_some, Option.bind_some, Option.isSome_some, Option.getD_some, Option.getD_none, and_self, true_and, and_true, decide_eq_true_eq, decide_true, beq_iff_eq, Bool.false_eq_true, beq_self_eq_true, if_true, if_false, List.set_set, List.append_assoc, Nat.add_assoc, List.length_append, List.set_cons_zero, List.set_cons_succ, List.getElem?_nil, List.getElem?_cons_zero, List.getElem?_cons_succ, List.length_cons, List.length_nil, List.map_cons, List.map_nil, List.cons_append, List.nil_append, List.replicate_succ, List.replicate_zero, $ls,*])

namespace Tk
open PySem PySem.Spec PyProof.Rows L2

/-! ### loops -/
abbrev noX : XQ := fun _ _ _ => False
section
variable {α : Type} {bind : D → Dl → Option Dl} {test : Dl → Mu → Res Bool} {elt : Dl → Mu → Res D} {src : Src} {ℓ fu : Nat} {δ : Dl} {μ : Mu} {k : KS} {body : Dl → Mu → RS} {N : D → Mu → Prop} {X : XQ}
theorem forN_inv' (I : Nat → Dl → Mu → Prop)
    (step : ∀ i δ μ, i < fu → I i δ μ → match src.at_ i μ with
      | none => False
      | some none => k.n δ μ
      | some (some d) => i + 1 < fu ∧ ∃ δ1, bind d δ = some δ1 ∧ WS (body δ1 μ) (loopK k (I (i + 1)))) :
    ∀ (f i : Nat) (δ : Dl) (μ : Mu), f + i = fu → 0 < f → I i δ μ → WS (forN bind body src f i δ μ) k
  | 0, i, δ, μ, hf, hp, h => absurd hp (Nat.lt_irrefl 0)
  | f + 1, i, δ, μ, hf, hp, h => by
    have s := step i δ μ (by omega) h
    unfold forN
    cases ha : src.at_ i μ with
    | none => rw [ha] at s; exact s.elim
    | some o =>
      rw [ha] at s
      cases o with
      | none => exact s
      | some d =>
        obtain ⟨hi, δ1, h1, h2⟩ := s
        dsimp only
        rw [h1]
        dsimp only
        cases hb : body δ1 μ with
        | nx δ2 μ2 => rw [hb] at h2; exact forN_inv' I step f (i + 1) δ2 μ2 (by omega) (by omega) h2
        | cont δ2 μ2 => rw [hb] at h2; exact forN_inv' I step f (i + 1) δ2 μ2 (by omega) (by omega) h2
        | brk δ2 μ2 => rw [hb] at h2; exact h2
        | ret d2 μ2 => rw [hb] at h2; exact h2
        | exc c fs δ2 μ2 => rw [hb] at h2; exact h2
        | stuck => rw [hb] at h2; exact h2
/-- for i in range -/
theorem forN_rng {lo : Int} {n : Nat} (I : Nat → Dl → Mu → Prop) (h0 : I 0 δ μ) (hf : n < fu)
    (step : ∀ i δ μ, i < n → I i δ μ → ∃ δ1, bind (.int (lo + i)) δ = some δ1 ∧ WS (body δ1 μ) (loopK k (I (i + 1)))) (fin : ∀ δ μ, I n δ μ → k.n δ μ) : WS (forN bind body (.rng lo n) fu 0 δ μ) k := by
  refine forN_inv' (fu := fu) (fun i δ μ => i ≤ n ∧ I i δ μ) (fun i δ μ hi h => ?_) fu 0 δ μ (by omega) (by omega) ⟨Nat.zero_le _, h0⟩
  show match (some (if i < n then some (D.int (lo + i)) else none) : Option (Option D)) with
    | none => False
    | some none => k.n δ μ
    | some (some d) => _
  by_cases q : i < n
  · rw [if_pos q]
    obtain ⟨δ1, h1, h2⟩ := step i δ μ q h.2
    refine ⟨by omega, δ1, h1, ?_⟩
    cases hb : body δ1 μ with
    | nx δ2 μ2 => rw [hb] at h2; exact ⟨q, h2⟩
    | cont δ2 μ2 => rw [hb] at h2; exact ⟨q, h2⟩
    | brk δ2 μ2 => rw [hb] at h2; exact h2
    | ret d2 μ2 => rw [hb] at h2; exact h2
    | exc c fs δ2 μ2 => rw [hb] at h2; exact h2
    | stuck => rw [hb] at h2; exact h2
  · rw [if_neg q]
    have : i = n := by omega
    subst this
    exact fin δ μ h.2
/-- for d in a tuple -/
theorem forN_items {ds : List D} (I : Nat → Dl → Mu → Prop) (h0 : I 0 δ μ) (hf : ds.length < fu)
    (step : ∀ i d δ μ, ds[i]? = some d → I i δ μ → ∃ δ1, bind d δ = some δ1 ∧ WS (body δ1 μ) (loopK k (I (i + 1)))) (fin : ∀ δ μ, I ds.length δ μ → k.n δ μ) : WS (forN bind body (.items ds) fu 0 δ μ) k := by
  refine forN_inv' (fu := fu) (fun i δ μ => i ≤ ds.length ∧ I i δ μ) (fun i δ μ hi h => ?_) fu 0 δ μ (by omega) (by omega) ⟨Nat.zero_le _, h0⟩
  show match (some ds[i]? : Option (Option D)) with
    | none => False
    | some none => k.n δ μ
    | some (some d) => _
  cases q : ds[i]? with
  | some d =>
    have hl := (List.getElem?_eq_some_iff.mp q).1
    obtain ⟨δ1, h1, h2⟩ := step i d δ μ q h.2
    refine ⟨by omega, δ1, h1, ?_⟩
    cases hb : body δ1 μ with
    | nx δ2 μ2 => rw [hb] at h2; exact ⟨hl, h2⟩
    | cont δ2 μ2 => rw [hb] at h2; exact ⟨hl, h2⟩
    | brk δ2 μ2 => rw [hb] at h2; exact h2
    | ret d2 μ2 => rw [hb] at h2; exact h2
    | exc c fs δ2 μ2 => rw [hb] at h2; exact h2
    | stuck => rw [hb] at h2; exact h2
  | none =>
    have hl := List.getElem?_eq_none_iff.mp q
    have : i = ds.length := by omega
    subst this
    exact fin δ μ h.2
/-- for d in a list that the loop leaves as it is -/
theorem forN_live {n : Nat} {ds : List D} (I : Nat → Dl → Mu → Prop) (hl : ∀ i δ μ, I i δ μ → lstAt μ n = some ds) (h0 : I 0 δ μ) (hf : ds.length < fu)
    (step : ∀ i d δ μ, ds[i]? = some d → I i δ μ → ∃ δ1, bind d δ = some δ1 ∧ WS (body δ1 μ) (loopK k (I (i + 1)))) (fin : ∀ δ μ, I ds.length δ μ → k.n δ μ) : WS (forN bind body (.live n) fu 0 δ μ) k := by
  refine forN_inv' (fu := fu) (fun i δ μ => i ≤ ds.length ∧ I i δ μ) (fun i δ μ hi h => ?_) fu 0 δ μ (by omega) (by omega) ⟨Nat.zero_le _, h0⟩
  show match (lstAt μ n).map (fun xs => xs[i]?) with
    | none => False
    | some none => k.n δ μ
    | some (some d) => _
  rw [hl i δ μ h.2]
  show match (some ds[i]? : Option (Option D)) with
    | none => False
    | some none => k.n δ μ
    | some (some d) => _
  cases q : ds[i]? with
  | some d =>
    have hl := (List.getElem?_eq_some_iff.mp q).1
    obtain ⟨δ1, h1, h2⟩ := step i d δ μ q h.2
    refine ⟨by omega, δ1, h1, ?_⟩
    cases hb : body δ1 μ with
    | nx δ2 μ2 => rw [hb] at h2; exact ⟨hl, h2⟩
    | cont δ2 μ2 => rw [hb] at h2; exact ⟨hl, h2⟩
    | brk δ2 μ2 => rw [hb] at h2; exact h2
    | ret d2 μ2 => rw [hb] at h2; exact h2
    | exc c fs δ2 μ2 => rw [hb] at h2; exact h2
    | stuck => rw [hb] at h2; exact h2
  | none =>
    have hl := List.getElem?_eq_none_iff.mp q
    have : i = ds.length := by omega
    subst this
    exact fin δ μ h.2
def whK (body : Dl → Mu → RS) (k : KS) (J : Dl → Mu → Prop) (δ : Dl) : Bool → Mu → Prop := fun b μ1 => if b = true then WS (body δ μ1) (loopK k J) else k.n δ μ1
theorem whK_t {J : Dl → Mu → Prop} : whK body k J δ true μ = WS (body δ μ) (loopK k J) := rfl
theorem whK_f {J : Dl → Mu → Prop} : whK body k J δ false μ = k.n δ μ := rfl
/-- a while loop: a measure falls -/
theorem whileN_inv (I : Nat → Dl → Mu → Prop) (step : ∀ m δ μ, I m δ μ → W (test δ μ) (whK body k (fun δ2 μ2 => ∃ m2, m2 < m ∧ I m2 δ2 μ2) δ) (kX δ k)) :
    ∀ (f m : Nat) (δ : Dl) (μ : Mu), m < f → I m δ μ → WS (whileN test body f δ μ) k
  | 0, m, δ, μ, hf, h => absurd hf (Nat.not_lt_zero _)
  | f + 1, m, δ, μ, hf, h => by
    have s := step m δ μ h
    unfold whileN
    rw [w_of]
    cases ht : test δ μ with
    | ok b μ1 =>
      rw [ht] at s
      cases b with
      | true =>
        have s' : WS (body δ μ1) (loopK k fun δ2 μ2 => ∃ m2, m2 < m ∧ I m2 δ2 μ2) := s
        show WS (match body δ μ1 with
          | .nx δ2 μ2 => whileN test body f δ2 μ2
          | .cont δ2 μ2 => whileN test body f δ2 μ2
          | .brk δ2 μ2 => .nx δ2 μ2
          | r => r) k
        cases hb : body δ μ1 with
        | nx δ2 μ2 => rw [hb] at s'; obtain ⟨m2, h1, h2⟩ := s'; exact whileN_inv I step f m2 δ2 μ2 (by omega) h2
        | cont δ2 μ2 => rw [hb] at s'; obtain ⟨m2, h1, h2⟩ := s'; exact whileN_inv I step f m2 δ2 μ2 (by omega) h2
        | brk δ2 μ2 => rw [hb] at s'; exact s'
        | ret d2 μ2 => rw [hb] at s'; exact s'
        | exc c fs δ2 μ2 => rw [hb] at s'; exact s'
        | stuck => rw [hb] at s'; exact s'
      | false => exact s
    | exc c fs μ1 => rw [ht] at s; exact s
    | stuck => rw [ht] at s; exact s
/-- a comprehension -/
theorem lcN_inv' (I : Nat → List D → Mu → Prop)
    (step : ∀ i acc μ, i < fu → I i acc μ → μ[ℓ]? = some (.lst acc) ∧ match src.at_ i μ with
      | none => False
      | some none => N (.loc ℓ) μ
      | some (some d) => i + 1 < fu ∧ ∃ δ1, bind d δ = some δ1 ∧ W (test δ1 μ) (fun b μ2 => if b = true then W (elt δ1 μ2) (fun y μ3 => μ3[ℓ]? = some (.lst acc) ∧ acc.length < sizeLine ∧ I (i + 1) (acc ++ [y]) (μ3.set ℓ (.lst (acc ++ [y])))) noX else I (i + 1) acc μ2) noX) :
    ∀ (f i : Nat) (acc : List D) (μ : Mu), f + i = fu → 0 < f → I i acc μ → W (lcN bind test elt src ℓ δ f i μ) N X
  | 0, i, acc, μ, hf, hp, h => absurd hp (Nat.lt_irrefl 0)
  | f + 1, i, acc, μ, hf, hp, h => by
    obtain ⟨hl, s⟩ := step i acc μ (by omega) h
    unfold lcN
    cases ha : src.at_ i μ with
    | none => rw [ha] at s; exact s.elim
    | some o =>
      rw [ha] at s
      cases o with
      | none => exact s
      | some d =>
        obtain ⟨hi, δ1, h1, h2⟩ := s
        dsimp only
        rw [h1]
        dsimp only
        rw [w_bind, w_noexc]
        refine W.imp h2 (fun b μ2 hb => ?_) fun _ _ _ z => z.elim
        cases b with
        | false => exact lcN_inv' I step f (i + 1) acc μ2 (by omega) (by omega) hb
        | true =>
          show W (Res.bind _ _) N X
          rw [w_bind, w_noexc]
          refine W.imp (show W (elt δ1 μ2) _ noX from hb) (fun y μ3 hy => ?_) fun _ _ _ z => z.elim
          obtain ⟨g1, g2, g3⟩ := hy
          rw [kBind_ap, g1]
          dsimp only
          rw [if_pos g2]
          exact lcN_inv' I step f (i + 1) _ _ (by omega) (by omega) g3
/-- over a list or a tuple, nothing else touched -/
theorem lcN_pure {ds : List D} {p : D → Bool} {g : D → D} (hs : (src = .items ds) ∨ ∃ n, src = .live n ∧ lstAt μ n = some ds) (hf : ds.length < fu) (hz : ds.length ≤ sizeLine)
    (step : ∀ d ∈ ds, ∀ acc, ∃ δ1, bind d δ = some δ1 ∧ test δ1 (μ ++ [.lst acc]) = .ok (p d) (μ ++ [.lst acc]) ∧ (p d = true → elt δ1 (μ ++ [.lst acc]) = .ok (g d) (μ ++ [.lst acc])))
    (h : N (.loc μ.length) (μ ++ [.lst ((ds.filter p).map g)])) : W (lcN bind test elt src μ.length δ fu 0 (μ ++ [.lst []])) N X := by
  refine lcN_inv' (fu := fu) (ℓ := μ.length) (fun i acc μ' => i ≤ ds.length ∧ acc = ((ds.take i).filter p).map g ∧ μ' = μ ++ [.lst acc]) (fun i acc μ' hi hI => ?_) fu 0 [] _ (by omega) (by omega) ⟨Nat.zero_le _, rfl, rfl⟩
  obtain ⟨h1, h2, rfl⟩ := hI
  refine ⟨at_new, ?_⟩
  have ha : src.at_ i (μ ++ [.lst acc]) = some ds[i]? := by
    rcases hs with rfl | ⟨n, rfl, hn⟩
    · rfl
    · show (lstAt (μ ++ [.lst acc]) n).map _ = _
      have : lstAt (μ ++ [.lst acc]) n = lstAt μ n := by
        have hl : n < μ.length := by
          rcases Nat.lt_or_ge n μ.length with q | q
          · exact q
          · unfold lstAt at hn; rw [List.getElem?_eq_none q] at hn; cases hn
        unfold lstAt
        rw [List.getElem?_append_left hl]
      rw [this, hn]
      rfl
  rw [ha]
  cases q : ds[i]? with
  | none =>
    have hl := List.getElem?_eq_none_iff.mp q
    have : i = ds.length := by omega
    subst this
    rw [List.take_length] at h2
    show N (.loc μ.length) (μ ++ [.lst acc])
    rw [h2]
    exact h
  | some d =>
    obtain ⟨hl, hd⟩ := List.getElem?_eq_some_iff.mp q
    obtain ⟨δ1, g1, g2, g3⟩ := step d (List.mem_of_getElem? q) acc
    refine ⟨by omega, δ1, g1, ?_⟩
    rw [g2]
    have ht : ds.take (i + 1) = ds.take i ++ [d] := by rw [List.take_succ, q]; rfl
    show if p d = true then _ else _
    by_cases hp : p d = true
    · rw [if_pos hp, g3 hp]
      refine ⟨at_new, ?_, hl, ?_, ?_⟩
      · rw [h2, List.length_map]
        have := List.length_filter_le p (ds.take i)
        rw [List.length_take] at this
        omega
      · rw [ht, List.filter_append, List.map_append, h2]
        simp [hp]
      · simp
    · rw [if_neg hp]
      refine ⟨hl, ?_, rfl⟩
      rw [ht, List.filter_append, List.map_append, h2]
      simp [hp]
theorem lcN_at {μ0 μ' : Mu} {ds : List D} (p : D → Bool) (g : D → D) (hμ : μ' = μ0 ++ [.lst []]) (hℓ : ℓ = μ0.length) (hs : (src = .items ds) ∨ ∃ n, src = .live n ∧ lstAt μ0 n = some ds) (hf : ds.length < fu) (hz : ds.length ≤ sizeLine)
    (step : ∀ d ∈ ds, ∀ acc, ∃ δ1, bind d δ = some δ1 ∧ test δ1 (μ0 ++ [.lst acc]) = .ok (p d) (μ0 ++ [.lst acc]) ∧ (p d = true → elt δ1 (μ0 ++ [.lst acc]) = .ok (g d) (μ0 ++ [.lst acc])))
    (h : N (.loc ℓ) (μ0 ++ [.lst ((ds.filter p).map g)])) : W (lcN bind test elt src ℓ δ fu 0 μ') N X := by
  subst hμ hℓ
  exact lcN_pure hs hf hz step h
end
/-! ### turns, one by one -/
section
variable {α : Type} {bind : D → Dl → Option Dl} {test : Dl → Mu → Res Bool} {elt : Dl → Mu → Res D} {inner : Dl → Mu → Res Unit} {src : Src} {ℓ f i : Nat} {δ : Dl} {μ : Mu} {k : KS} {body : Dl → Mu → RS} {N : D → Mu → Prop} {X : XQ}
theorem at_items {ds : List D} : (Src.items ds).at_ i μ = some ds[i]? := rfl
theorem at_live {ds : List D} {n : Nat} (h : lstAt μ n = some ds) : (Src.live n).at_ i μ = some ds[i]? := by
  show (lstAt μ n).map _ = _
  rw [h]
  rfl
/-- the parts of a loop's turn, named -/
def wL (o : Option MO) (B : List D → Prop) : Prop := match o with
  | some (.lst acc) => B acc
  | _ => False
def lcW (bind : D → Dl → Option Dl) (test : Dl → Mu → Res Bool) (elt : Dl → Mu → Res D) (src : Src) (ℓ : Nat) (δ : Dl) (f i : Nat) (μ : Mu) (N : D → Mu → Prop) (X : XQ) : Prop := W (lcN bind test elt src ℓ δ f i μ) N X
def lcA (bind : D → Dl → Option Dl) (test : Dl → Mu → Res Bool) (elt : Dl → Mu → Res D) (src : Src) (ℓ : Nat) (δ : Dl) (f i : Nat) (N : D → Mu → Prop) (X : XQ) : D → Mu → Prop := fun y μ3 => wL μ3[ℓ]? fun acc => acc.length < sizeLine ∧ W (lcN bind test elt src ℓ δ f (i + 1) (μ3.set ℓ (.lst (acc ++ [y])))) N X
def lcB (o : Option MO) (y : D) (bind : D → Dl → Option Dl) (test : Dl → Mu → Res Bool) (elt : Dl → Mu → Res D) (src : Src) (ℓ : Nat) (δ : Dl) (f i : Nat) (μ3 : Mu) (N : D → Mu → Prop) (X : XQ) : Prop := match o with
  | some (.lst acc) => acc.length < sizeLine ∧ W (lcN bind test elt src ℓ δ f (i + 1) (μ3.set ℓ (.lst (acc ++ [y])))) N X
  | _ => False
theorem lcA_ap {y : D} {μ3 : Mu} : lcA bind test elt src ℓ δ f i N X y μ3 = lcB μ3[ℓ]? y bind test elt src ℓ δ f i μ3 N X := rfl
theorem lcB_s {y : D} {acc : List D} {μ3 : Mu} : lcB (some (.lst acc)) y bind test elt src ℓ δ f i μ3 N X = (acc.length < sizeLine ∧ W (lcN bind test elt src ℓ δ f (i + 1) (μ3.set ℓ (.lst (acc ++ [y])))) N X) := rfl
def lcT (bind : D → Dl → Option Dl) (test : Dl → Mu → Res Bool) (elt : Dl → Mu → Res D) (src : Src) (ℓ : Nat) (δ δ1 : Dl) (f i : Nat) (N : D → Mu → Prop) (X : XQ) : Bool → Mu → Prop := fun b μ2 => if b = true then W (elt δ1 μ2) (lcA bind test elt src ℓ δ f i N X) noX else W (lcN bind test elt src ℓ δ f (i + 1) μ2) N X
theorem lcT_t {δ1 : Dl} {μ2 : Mu} : lcT bind test elt src ℓ δ δ1 f i N X true μ2 = W (elt δ1 μ2) (lcA bind test elt src ℓ δ f i N X) noX := rfl
theorem lcT_f {δ1 : Dl} {μ2 : Mu} : lcT bind test elt src ℓ δ δ1 f i N X false μ2 = W (lcN bind test elt src ℓ δ f (i + 1) μ2) N X := rfl
def lcD (o : Option Dl) (bind : D → Dl → Option Dl) (test : Dl → Mu → Res Bool) (elt : Dl → Mu → Res D) (src : Src) (ℓ : Nat) (δ : Dl) (f i : Nat) (μ : Mu) (N : D → Mu → Prop) (X : XQ) : Prop := match o with
  | some δ1 => W (test δ1 μ) (lcT bind test elt src ℓ δ δ1 f i N X) noX
  | none => False
theorem lcD_s {δ1 : Dl} : lcD (some δ1) bind test elt src ℓ δ f i μ N X = W (test δ1 μ) (lcT bind test elt src ℓ δ δ1 f i N X) noX := rfl
def lcO (o : Option (Option D)) (bind : D → Dl → Option Dl) (test : Dl → Mu → Res Bool) (elt : Dl → Mu → Res D) (src : Src) (ℓ : Nat) (δ : Dl) (f i : Nat) (μ : Mu) (N : D → Mu → Prop) (X : XQ) : Prop := match o with
  | some none => N (.loc ℓ) μ
  | some (some d) => lcD (bind d δ) bind test elt src ℓ δ f i μ N X
  | none => False
theorem lcO_n : lcO (some none) bind test elt src ℓ δ f i μ N X = N (.loc ℓ) μ := rfl
theorem lcO_s {d : D} : lcO (some (some d)) bind test elt src ℓ δ f i μ N X = lcD (bind d δ) bind test elt src ℓ δ f i μ N X := rfl
theorem lcN_s : W (lcN bind test elt src ℓ δ (f + 1) i μ) N X = lcO (src.at_ i μ) bind test elt src ℓ δ f i μ N X := by
  rw [lcN]
  cases src.at_ i μ with
  | none => rfl
  | some o =>
    cases o with
    | none => rfl
    | some d =>
      rw [lcO_s]
      dsimp only
      cases bind d δ with
      | none => rfl
      | some δ1 =>
        rw [lcD_s]
        dsimp only
        rw [w_bind, w_noexc]
        congr 1
        funext b μ2
        cases b with
        | false => rfl
        | true =>
          rw [kBind_ap, if_pos rfl, lcT_t, w_bind, w_noexc]
          congr 1
          funext y μ3
          rw [kBind_ap, lcA_ap]
          cases μ3[ℓ]? with
          | none => rfl
          | some o =>
            cases o with
            | lst acc =>
              rw [lcB_s]
              dsimp only
              rw [w_ifs]
            | _ => rfl
def liB (o : Option MO) (y : D) (bind : D → Dl → Option Dl) (elt : Dl → Mu → Res D) (src : Src) (ℓ : Nat) (δ : Dl) (f i : Nat) (μ3 : Mu) (N : Unit → Mu → Prop) (X : XQ) : Prop := match o with
  | some (.lst acc) => acc.length < sizeLine ∧ W (lc2I bind elt src ℓ δ f (i + 1) (μ3.set ℓ (.lst (acc ++ [y])))) N X
  | _ => False
def liA (bind : D → Dl → Option Dl) (elt : Dl → Mu → Res D) (src : Src) (ℓ : Nat) (δ : Dl) (f i : Nat) (N : Unit → Mu → Prop) (X : XQ) : D → Mu → Prop := fun y μ3 => liB μ3[ℓ]? y bind elt src ℓ δ f i μ3 N X
def liD (o : Option Dl) (bind : D → Dl → Option Dl) (elt : Dl → Mu → Res D) (src : Src) (ℓ : Nat) (δ : Dl) (f i : Nat) (μ : Mu) (N : Unit → Mu → Prop) (X : XQ) : Prop := match o with
  | some δ1 => W (elt δ1 μ) (liA bind elt src ℓ δ f i N X) noX
  | none => False
def liO (o : Option (Option D)) (bind : D → Dl → Option Dl) (elt : Dl → Mu → Res D) (src : Src) (ℓ : Nat) (δ : Dl) (f i : Nat) (μ : Mu) (N : Unit → Mu → Prop) (X : XQ) : Prop := match o with
  | some none => N () μ
  | some (some d) => liD (bind d δ) bind elt src ℓ δ f i μ N X
  | none => False
section
variable {N : Unit → Mu → Prop}
theorem liA_ap {y : D} {μ3 : Mu} : liA bind elt src ℓ δ f i N X y μ3 = liB μ3[ℓ]? y bind elt src ℓ δ f i μ3 N X := rfl
theorem liB_s {y : D} {acc : List D} {μ3 : Mu} : liB (some (.lst acc)) y bind elt src ℓ δ f i μ3 N X = (acc.length < sizeLine ∧ W (lc2I bind elt src ℓ δ f (i + 1) (μ3.set ℓ (.lst (acc ++ [y])))) N X) := rfl
theorem liD_s {δ1 : Dl} : liD (some δ1) bind elt src ℓ δ f i μ N X = W (elt δ1 μ) (liA bind elt src ℓ δ f i N X) noX := rfl
theorem liO_n : liO (some none) bind elt src ℓ δ f i μ N X = N () μ := rfl
theorem liO_s {d : D} : liO (some (some d)) bind elt src ℓ δ f i μ N X = liD (bind d δ) bind elt src ℓ δ f i μ N X := rfl
theorem lc2I_s : W (lc2I bind elt src ℓ δ (f + 1) i μ) N X = liO (src.at_ i μ) bind elt src ℓ δ f i μ N X := by
  rw [lc2I]
  cases src.at_ i μ with
  | none => rfl
  | some o =>
    cases o with
    | none => rfl
    | some d =>
      rw [liO_s]
      dsimp only
      cases bind d δ with
      | none => rfl
      | some δ1 =>
        rw [liD_s]
        dsimp only
        rw [w_bind, w_noexc]
        congr 1
        funext y μ3
        rw [kBind_ap, liA_ap]
        cases μ3[ℓ]? with
        | none => rfl
        | some o =>
          cases o with
          | lst acc =>
            rw [liB_s]
            dsimp only
            rw [w_ifs]
          | _ => rfl
end
def l2A (bind : D → Dl → Option Dl) (inner : Dl → Mu → Res Unit) (src : Src) (ℓ : Nat) (δ : Dl) (f i : Nat) (N : D → Mu → Prop) (X : XQ) : Unit → Mu → Prop := fun _u μ2 => W (lc2N bind inner src ℓ δ f (i + 1) μ2) N X
def l2D (o : Option Dl) (bind : D → Dl → Option Dl) (inner : Dl → Mu → Res Unit) (src : Src) (ℓ : Nat) (δ : Dl) (f i : Nat) (μ : Mu) (N : D → Mu → Prop) (X : XQ) : Prop := match o with
  | some δ1 => W (inner δ1 μ) (l2A bind inner src ℓ δ f i N X) noX
  | none => False
def l2O (o : Option (Option D)) (bind : D → Dl → Option Dl) (inner : Dl → Mu → Res Unit) (src : Src) (ℓ : Nat) (δ : Dl) (f i : Nat) (μ : Mu) (N : D → Mu → Prop) (X : XQ) : Prop := match o with
  | some none => N (.loc ℓ) μ
  | some (some d) => l2D (bind d δ) bind inner src ℓ δ f i μ N X
  | none => False
theorem l2A_ap {u : Unit} {μ2 : Mu} : l2A bind inner src ℓ δ f i N X u μ2 = W (lc2N bind inner src ℓ δ f (i + 1) μ2) N X := rfl
theorem l2D_s {δ1 : Dl} : l2D (some δ1) bind inner src ℓ δ f i μ N X = W (inner δ1 μ) (l2A bind inner src ℓ δ f i N X) noX := rfl
theorem l2O_n : l2O (some none) bind inner src ℓ δ f i μ N X = N (.loc ℓ) μ := rfl
theorem l2O_s {d : D} : l2O (some (some d)) bind inner src ℓ δ f i μ N X = l2D (bind d δ) bind inner src ℓ δ f i μ N X := rfl
theorem lc2N_s : W (lc2N bind inner src ℓ δ (f + 1) i μ) N X = l2O (src.at_ i μ) bind inner src ℓ δ f i μ N X := by
  rw [lc2N]
  cases src.at_ i μ with
  | none => rfl
  | some o =>
    cases o with
    | none => rfl
    | some d =>
      rw [l2O_s]
      dsimp only
      cases bind d δ with
      | none => rfl
      | some δ1 =>
        rw [l2D_s]
        dsimp only
        rw [w_bind, w_noexc]
        rfl
def turnK (bind : D → Dl → Option Dl) (body : Dl → Mu → RS) (src : Src) (f i : Nat) (k : KS) : KS := loopK k fun δ2 μ2 => WS (forN bind body src f (i + 1) δ2 μ2) k
section
variable {c : Nat} {fs : List (Str × D)}
theorem turnK_n : (turnK bind body src f i k).n δ μ = WS (forN bind body src f (i + 1) δ μ) k := rfl
theorem turnK_c : (turnK bind body src f i k).c δ μ = WS (forN bind body src f (i + 1) δ μ) k := rfl
theorem turnK_b : (turnK bind body src f i k).b = k.n := rfl
theorem turnK_r : (turnK bind body src f i k).r = k.r := rfl
theorem turnK_x : (turnK bind body src f i k).x = k.x := rfl
end
def foD (o : Option Dl) (bind : D → Dl → Option Dl) (body : Dl → Mu → RS) (src : Src) (f i : Nat) (μ : Mu) (k : KS) : Prop := match o with
  | some δ1 => WS (body δ1 μ) (turnK bind body src f i k)
  | none => False
def foO (o : Option (Option D)) (bind : D → Dl → Option Dl) (body : Dl → Mu → RS) (src : Src) (f i : Nat) (δ : Dl) (μ : Mu) (k : KS) : Prop := match o with
  | some none => k.n δ μ
  | some (some d) => foD (bind d δ) bind body src f i μ k
  | none => False
theorem foD_s {δ1 : Dl} : foD (some δ1) bind body src f i μ k = WS (body δ1 μ) (turnK bind body src f i k) := rfl
theorem foO_n : foO (some none) bind body src f i δ μ k = k.n δ μ := rfl
theorem foO_s {d : D} : foO (some (some d)) bind body src f i δ μ k = foD (bind d δ) bind body src f i μ k := rfl
theorem forN_s : WS (forN bind body src (f + 1) i δ μ) k = foO (src.at_ i μ) bind body src f i δ μ k := by
  rw [forN]
  cases src.at_ i μ with
  | none => rfl
  | some o =>
    cases o with
    | none => rfl
    | some d =>
      rw [foO_s]
      dsimp only
      cases bind d δ with
      | none => rfl
      | some δ1 =>
        rw [foD_s]
        dsimp only
        cases body δ1 μ <;> rfl
end
/-! ### the laws' draws -/
structure DSt (s c : Nat) (ns : List Int) (μ : Mu) : Prop where
  scr : μ[c]? = some (.fl (ns.map .int))
  st : ∃ a b, μ[s]? = some (.lst [.int a, .int b]) ∧ 0 ≤ a ∧ 0 ≤ b
theorem DSt.keep {s c ns μ μ' xs} (h : DSt s c ns μ) (k : Kp xs μ μ') (h1 : s ∉ xs) (h2 : c ∉ xs) : DSt s c ns μ' := by
  obtain ⟨a, b, e, x⟩ := h.st
  exact ⟨k.get h.scr h2, a, b, k.get e h1, x⟩
end Tk
local macro_rules | `(tactic| simp_all! only [$ls,*]) => `(tactic| simp only [Tk.kBind_ap, Tk.kBin2_ap, Tk.kBin1_ap, Tk.kNeg_ap, Tk.kCmp2_ap, Tk.kCmp1_ap, Tk.kChn3_ap, Tk.kChn2_ap, Tk.kChn1_ap, Tk.kAnd_ap, Tk.kOr_ap, Tk.kNot_ap, Tk.kIte_ap, Tk.kIx2_ap, Tk.kIx1_ap, Tk.kSl3_ap, Tk.kSl2_ap, Tk.kSl1_ap, Tk.kCall_ap, Tk.kBlt_ap, Tk.kMth2_ap, Tk.kMth1_ap, Tk.kTup_ap, Tk.kLst_ap, Tk.kLc_ap, Tk.kIn2_ap, Tk.kLc2_ap, Tk.kDic_ap, Tk.kCons2_ap, Tk.kCons1_ap, Tk.kOs_ap, Tk.kVal_ap, Tk.kR1_ap, Tk.kR2b_ap, Tk.kR2a_ap, Tk.kPc3_ap, Tk.kPc2_ap, Tk.kPc1_ap, Tk.tAnd_ap, Tk.tOr_ap, Tk.tNot_ap, Tk.kBo_ap, Tk.kTru_ap, Tk.kAsg_ap, Tk.kX_ap, Tk.kSet4_ap, Tk.kSet3_ap, Tk.kSet2_ap, Tk.kSet1_ap, Tk.kAug3_ap, Tk.kAug2_ap, Tk.kAug1_ap, Tk.kExp_ap, Tk.kIfs_ap, Tk.kFor_ap, Tk.seqK_n, Tk.seqK_r, Tk.seqK_b, Tk.seqK_c, Tk.seqK_x, Tk.runK_n, Tk.runK_r, Tk.runK_b, Tk.runK_c, Tk.runK_x, Tk.w_ok, Tk.w_stuck, Tk.ws_nx, Tk.ws_ret, Tk.ws_stuck, Tk.w_bind, Tk.w_ifs, Tk.rdV_0, Tk.rdV_s, Tk.andR_b, Tk.orR_b, Tk.w_v, Tk.w_c, Tk.w_tup, Tk.w_lst, Tk.w_bin, Tk.w_neg, Tk.w_cmp, Tk.w_chn, Tk.w_and, Tk.w_or, Tk.w_not, Tk.w_ite, Tk.w_ix, Tk.w_sl, Tk.w_call, Tk.w_blt, Tk.w_mth, Tk.w_lc, Tk.w_lc2, Tk.w_dic, Tk.w_nil, Tk.w_cons, Tk.w_on, Tk.w_os, Tk.w_tn, Tk.w_ts, Tk.w_iv, Tk.w_i1, Tk.w_i2, Tk.w_pn, Tk.w_pc, Tk.t_and, Tk.t_or, Tk.t_not, Tk.t_cmp, Tk.t_chn, Tk.t_v, Tk.t_c, Tk.t_ix, Tk.t_call, Tk.t_blt, Tk.t_mth, Tk.s_asg, Tk.s_setix, Tk.s_aug, Tk.s_expr, Tk.s_ret, Tk.s_retn, Tk.s_ifs, Tk.s_for, Tk.s_while, Tk.s_pass, Tk.s_brk, Tk.s_cont, Tk.s_nil, Tk.s_cons, Tk.w_runB, Tk.w_in2, Tk.sizeLine_eq, Tk.setR_s, Tk.ixN_0, Tk.ixN_1, Tk.ixN_l, Tk.resO_s, Tk.ix_tup, Tk.atI_0, Tk.atI_1, Tk.atI_l, Tk.b_add, Tk.b_sub, Tk.b_mul, Tk.b_pow, Tk.cmulS_r, Tk.cmulS_l, Tk.small_u, Tk.natAbs_l, Tk.b_div, Tk.b_mod, Tk.b_tup, Tk.b_str, Tk.a_add, Tk.a_sub, Tk.n_int, Tk.optB_s, Tk.c_eq, Tk.c_ne, Tk.c_lt, Tk.c_le, Tk.c_gt, Tk.c_ge, Tk.c_in, Tk.c_ni, Tk.inD_tup, Tk.eqD_ii, Tk.eqD_ss, Tk.eqD_nn, Tk.eqD_bb, Tk.eqD_iv, Tk.eqF_ii, Tk.eqF_ss, Tk.bl_len_tup, Tk.bl_int, Tk.bl_bool, Tk.bl_max, Tk.bl_min, Tk.optN_s, Tk.bl_list_tup, Tk.bl_isi, Tk.newl_eq, Tk.tru_b, Tk.tru_n, Tk.tru_i, Tk.not_b, Tk.valS_t, Tk.rng1_i, Tk.rng2_i, Tk.optI_i, Tk.inF, Tk.flatD, Tk.at_app, Tk.at_app0, Tk.set_app, Tk.set_app0, Tk.lst_u, Tk.lstO_l, Tk.lstO_f, Tk.ix_u, Tk.optK_s, Tk.len_u, Tk.max_u, Tk.min_u, Tk.list_u, Tk.tuple_u, Tk.optJ_s, Tk.sorted_u, Tk.in_u, Tk.valO_s, Tk.valS_u, Tk.isLO_l, Tk.mk_u, Tk.appR_l, Tk.m_u, Tk.isDO_d, Tk.mk_g, Tk.getO_s, Tk.getO_i, Tk.g_u, Tk.disO_d, Tk.dis_u, Tk.key_s, Tk.key_i, Tk.valD_c, Tk.valD_n, Tk.setO_l, Tk.set_u, Tk.intsD, Tk.intsD_map, Tk.minI_c, Tk.maxI_c, Tk.boD_b, Tk.bindG_n, Tk.bindG_t, Tk.bindGs_n, Tk.bindGs_c, Tk.asgO_s, Tk.asgR_u, Nat.reduceAdd, Nat.reduceSub, Nat.reduceLeDiff, Nat.reduceLT, Int.reduceLT, Int.reduceLE, Int.reducePow, Int.reduceToNat, Int.reduceNeg, Nat.reducePow, Int.reduceAbs, List.all_cons, List.all_nil, List.any_cons, List.any_nil, Bool.and_true, Bool.true_and, Bool.or_false, Bool.false_or, Bool.or_true, Bool.true_or, Bool.and_false, Bool.false_and, Bool.not_true, Bool.not_false, Option.map_some, Option.bind_some, Option.isSome_some, Option.getD_some, Option.getD_none, and_self, true_and, and_true, decide_eq_true_eq, decide_true, beq_iff_eq, Bool.false_eq_true, beq_self_eq_true, if_true, if_false, List.set_set, List.append_assoc, Nat.add_assoc, List.length_append, List.set_cons_zero, List.set_cons_succ, List.getElem?_nil, List.getElem?_cons_zero, List.getElem?_cons_succ, List.length_cons, List.length_nil, List.map_cons, List.map_nil, List.cons_append, List.nil_append, List.replicate_succ, List.replicate_zero, Tk.at_items, Tk.lcA_ap, Tk.lcB_s, Tk.lcT_t, Tk.lcT_f, Tk.lcD_s, Tk.lcO_n, Tk.lcO_s, Tk.liA_ap, Tk.liB_s, Tk.liD_s, Tk.liO_n, Tk.liO_s, Tk.l2A_ap, Tk.l2D_s, Tk.l2O_n, Tk.l2O_s, Tk.turnK_n, Tk.turnK_c, Tk.turnK_b, Tk.turnK_r, Tk.turnK_x, Tk.foD_s, Tk.foO_n, Tk.foO_s, Tk.w_in2, Tk.whK_t, Tk.whK_f, $ls,*])

namespace Tk
open PySem PySem.Spec PyProof.Rows L2
def drawT : Ss :=
  (.cons (.asg (.name 5) (.bin .Mod (.blt .int (.cons (.ix (.v 0) (.c (.int (1)))) .nil)) (.v 2)))
  (.cons (.setix (.v 0) (.c (.int (1))) (.bin .FloorDiv (.ix (.v 0) (.c (.int (1)))) (.v 2)))
  (.cons (.ret (.v 5))
  .nil)))
def drawR : Ss :=
    (.cons (.asg (.name 4) (.bin .Mod (.blt .int (.cons (.bin .Mult (.bin .Add (.bin .Add (.v 3) (.bin .Mult (.ix (.v 0) (.c (.int (0)))) (.c (.int (7919))))) (.c (.int (1)))) (.c (.int (48271)))) .nil)) (.c (.int (2147483647)))))
    (.cons (.setix (.v 0) (.c (.int (1))) (.bin .Mod (.blt .int (.cons (.bin .Add (.bin .Mult (.v 4) (.c (.int (69621)))) (.bin .Mult (.ix (.v 0) (.c (.int (0)))) (.c (.int (104729))))) .nil)) (.c (.int (4294967291)))))
    (.cons (.ifs (.and (.cmp .GtE (.v 3) (.bin .Pow (.c (.int (10))) (.c (.int (18))))) (.cmp .Lt (.ix (.v 0) (.c (.int (0)))) (.blt .len (.cons (.v 1) .nil)))) (.cons (.setix (.v 0) (.c (.int (1))) (.v 3))
      .nil) .nil)
    (.cons (.setix (.v 0) (.c (.int (0))) (.bin .Add (.ix (.v 0) (.c (.int (0)))) (.c (.int (1)))))
    .nil))))
def drawH : S :=
  (.ifs (.cmp .Eq (.ix (.v 0) (.c (.int (1)))) (.c (.int (0)))) (.cons (.asg (.name 3) (.c (.int (0))))
    (.cons (.ifs (.cmp .Gt (.blt .len (.cons (.v 1) .nil)) (.c (.int (0)))) (.cons (.asg (.name 3) (.ix (.v 1) (.bin .Mod (.ix (.v 0) (.c (.int (0)))) (.blt .len (.cons (.v 1) .nil)))))
      .nil) .nil)
    (.cons (.ifs (.cmp .Lt (.v 3) (.c (.int (0)))) (.cons (.asg (.name 3) (.bin .Sub (.c (.int (1))) (.bin .Mult (.c (.int (2))) (.v 3))))
      .nil) .nil)
    drawR))) .nil)
def drawB : Ss := .cons drawH drawT
section
variable {Ω : Om} {s c : Nat} {ns : List Int} {μ : Mu} {size : Int} {N : D → Mu → Prop} {X : XQ}
theorem draw_tail (h : DSt s c ns μ) (hsc : s ≠ c) (h0 : 0 < size) (h1 : size < 1073741824) {o3 o4 o5 : Option D} (hN : ∀ d μ', 0 ≤ d → d < size → Kp [s] μ μ' → DSt s c ns μ' → N (.int d) μ') {k : KS} (hk : k.r = N) :
    WS (evSs Ω drawT [some (.loc s), some (.loc c), some (.int size), o3, o4, o5] μ) k := by
  obtain ⟨a, b, e, ha, hb⟩ := h.st
  have l1 := lst_l e
  unfold drawT
  simp_all! only [e, h0, h1]
  rw [hk]
  refine hN _ _ (Int.emod_nonneg _ (by omega)) (Int.emod_lt_of_pos _ h0) (Kp.set (by simp)) ⟨by rw [at_ne hsc]; exact h.scr, a, b / size, at_set e, ha, Int.ediv_nonneg hb (by omega)⟩
theorem draw_rest (h : DSt s c ns μ) (hsc : s ≠ c) (hl : ns.length < 4294967296) {x : Int} (hx : 0 ≤ x) {o4 o5 : Option D} {k : KS} {sz : D} (hk : ∀ o3 o4 μ', Kp [s] μ μ' → DSt s c ns μ' → k.n [some (.loc s), some (.loc c), some sz, o3, o4, o5] μ') :
    WS (evSs Ω drawR [some (.loc s), some (.loc c), some sz, some (.int x), o4, o5] μ) k := by
  obtain ⟨a, b, e, ha, hb⟩ := h.st
  have l1 := lst_l e
  have l2 := lst_f h.scr
  have e2 := fun o => at_set (o := o) e
  have e4 := fun o : MO => show (μ.set s o)[c]? = _ from (at_ne hsc).trans h.scr
  unfold drawR
  simp_all! only [e, e2, e4, h.scr, List.length_map]
  have fin : ∀ y, 0 ≤ y → k.n [some (D.loc s), some (D.loc c), some sz, some (D.int x), some (D.int ((x + a * 7919 + 1) * 48271 % 2147483647)), o5] (List.set μ s (.lst [.int (a + 1), .int y])) := fun y hy =>
    hk _ _ _ (Kp.set (by simp)) ⟨by rw [at_ne hsc]; exact h.scr, a + 1, y, at_set e, by omega, hy⟩
  have hp : 0 ≤ ((x + a * 7919 + 1) * 48271 % 2147483647 * 69621 + a * 104729) % 4294967291 := Int.emod_nonneg _ (by omega)
  by_cases h1 : 1000000000000000000 ≤ x
  · rw [if_pos h1]
    simp_all! only [e, e2, e4, h.scr, List.length_map]
    by_cases h2 : a < ns.length
    · rw [if_pos h2]
      simp_all! only [e, e2, e4]
      exact fin _ hx
    · rw [if_neg h2]
      simp_all! only [e, e2, e4]
      exact fin _ hp
  · rw [if_neg h1]
    simp_all! only [e, e2, e4]
    exact fin _ hp
theorem draw_head (h : DSt s c ns μ) (hsc : s ≠ c) (hl : ns.length < 4294967296) {o3 o4 o5 : Option D} {k : KS} {sz : D} (hk : ∀ o3 o4 μ', Kp [s] μ μ' → DSt s c ns μ' → k.n [some (.loc s), some (.loc c), some sz, o3, o4, o5] μ') :
    WS (evS Ω drawH [some (.loc s), some (.loc c), some sz, o3, o4, o5] μ) k := by
  obtain ⟨a, b, e, ha, hb⟩ := h.st
  have l1 := lst_l e
  have l2 := lst_f h.scr
  unfold drawH
  simp_all! only [e, h.scr, List.length_map]
  by_cases hb0 : b = 0
  · rw [if_pos hb0]
    simp_all! only [e, h.scr, List.length_map]
    by_cases hn : 0 < ns.length
    · rw [if_pos (by omega)]
      simp_all! only [e, h.scr, List.length_map]
      have ht : (a % (ns.length : Int)).toNat < ns.length := by
        have := Int.emod_lt_of_pos a (show (0 : Int) < ns.length by omega)
        have := Int.emod_nonneg a (show (ns.length : Int) ≠ 0 by omega)
        omega
      refine ⟨by omega, ?_⟩
      rw [atI_nn (Int.emod_nonneg _ (by omega)), List.getElem?_map, List.getElem?_eq_getElem ht]
      simp_all! only []
      by_cases hc : ns[(a % (ns.length : Int)).toNat] < 0
      · rw [if_pos hc]
        simp_all! only []
        exact draw_rest h hsc hl (by omega) hk
      · rw [if_neg hc]
        simp_all! only []
        exact draw_rest h hsc hl (by omega) hk
    · rw [if_neg (by omega)]
      simp_all! only [e, h.scr, List.length_map]
      exact draw_rest h hsc hl (by omega) hk
  · rw [if_neg hb0]
    simp_all! only []
    exact hk _ _ _ Kp.refl h
theorem w_draw (h : DSt s c ns μ) (hsc : s ≠ c) (hl : ns.length < 4294967296) (h0 : 0 < size) (h1 : size < 1073741824) (hN : ∀ d μ', 0 ≤ d → d < size → Kp [s] μ μ' → DSt s c ns μ' → N (.int d) μ') :
    W (runB Ω 6 drawB [.loc s, .loc c, .int size] μ) N X := by
  rw [w_runB, drawB]
  simp_all! only []
  exact draw_head h hsc hl fun o3 o4 μ' k h' => draw_tail h' hsc h0 h1 (fun d μ2 g1 g2 g3 g4 => hN d μ2 g1 g2 (k.trans g3) g4) rfl
end
/-! ### sorted numbers -/
theorem mem_insI {x y : Int} : ∀ {l : List Int}, y ∈ insI x l ↔ y = x ∨ y ∈ l
  | [] => by simp [insI]
  | z :: r => by
    unfold insI
    split
    · simp
    · rw [List.mem_cons, mem_insI (l := r), List.mem_cons]
      constructor
      · rintro (h | h | h)
        · exact .inr (.inl h)
        · exact .inl h
        · exact .inr (.inr h)
      · rintro (h | h | h)
        · exact .inr (.inl h)
        · exact .inl h
        · exact .inr (.inr h)
theorem mem_sortI {y : Int} : ∀ {l : List Int}, y ∈ sortI l ↔ y ∈ l
  | [] => by simp [sortI]
  | z :: r => by rw [sortI, mem_insI, mem_sortI (l := r), List.mem_cons]
theorem len_insI {x : Int} : ∀ {l : List Int}, (insI x l).length = l.length + 1
  | [] => rfl
  | z :: r => by
    unfold insI
    split
    · rfl
    · rw [List.length_cons, len_insI (l := r), List.length_cons]
theorem len_sortI : ∀ {l : List Int}, (sortI l).length = l.length
  | [] => rfl
  | z :: r => by rw [sortI, len_insI, len_sortI (l := r), List.length_cons]
theorem inc_insI {x : Int} : ∀ {l : List Int}, l.Pairwise (· ≤ ·) → (insI x l).Pairwise (· ≤ ·)
  | [], _ => by simp [insI]
  | z :: r, h => by
    obtain ⟨h1, h2⟩ := List.pairwise_cons.mp h
    unfold insI
    split
    · rename_i hx
      refine List.pairwise_cons.mpr ⟨fun y hy => ?_, h⟩
      rcases List.mem_cons.mp hy with rfl | hy
      · exact hx
      · exact Int.le_trans hx (h1 y hy)
    · refine List.pairwise_cons.mpr ⟨fun y hy => ?_, inc_insI h2⟩
      rcases mem_insI.mp hy with rfl | hy
      · omega
      · exact h1 y hy
theorem inc_sortI : ∀ {l : List Int}, (sortI l).Pairwise (· ≤ ·)
  | [] => List.Pairwise.nil
  | z :: r => inc_insI (inc_sortI (l := r))
theorem all_flat_int {es : List Int} : (es.map D.int).all flatD = true := by
  rw [List.all_map]
  exact List.all_eq_true.mpr fun _ _ => rfl
end Tk

namespace K31
open PySem PySem.Spec PyProof.Rows L2 Tk

def top (i : Nat) : Stmt := PySem.Challenge.pw_ticksahead_k31_intervals.main.body.getD i (.Pass ⟨0, 0, 0, 0⟩)
def G : List (Str × GV) := [("min", .free), ("max", .free), ("ALL", .con (.tup [(.int (-32768)), (.int (32767))])), ("within", .fn 1 2), ("compared", .fn 4 3), ("truth_of", .fn 5 2), ("int", .free), ("place_below", .fn 7 2), ("place_above", .fn 8 2), ("len", .free), ("_law_wrapped", .fn 10 1), ("_law_draw", .fn 9 3), ("_law_number", .fn 12 2), ("range", .free), ("sum_interval", .fn 3 3), ("sorted", .free), ("_law_pair", .fn 13 2), ("_law_joined", .fn 11 3), ("joined", .fn 0 2), ("cut", .fn 2 3), ("rounded", .fn 6 2), ("_law_due", .fn 14 3), ("isinstance", .free), ("tuple", .free), ("list", .free)]
abbrev s_joined : Stmt := top 4
def N_joined : List Str := ["first", "second"]
abbrev s_within : Stmt := top 5
def N_within : List Str := ["inner", "outer"]
abbrev s_cut : Stmt := top 6
def N_cut : List Str := ["one", "low", "high", "found"]
abbrev s_sum_interval : Stmt := top 7
def N_sum_interval : List Str := ["kind", "one", "two", "found", "products", "a", "b"]
abbrev s_compared : Stmt := top 8
def N_compared : List Str := ["kind", "one", "two", "apart", "same"]
abbrev s_truth_of : Stmt := top 9
def N_truth_of : List Str := ["always", "never"]
abbrev s_rounded : Stmt := top 10
def N_rounded : List Str := ["one", "ends"]
abbrev s_place_below : Stmt := top 11
def N_place_below : List Str := ["ends", "number", "low", "high", "middle"]
abbrev s_place_above : Stmt := top 12
def N_place_above : List Str := ["ends", "number", "low", "high", "middle"]
abbrev s__law_draw : Stmt := top 14
def N__law_draw : List Str := ["state", "script", "size", "cell", "mixed", "digit"]
abbrev s__law_wrapped : Stmt := top 15
def N__law_wrapped : List Str := ["number"]
abbrev s__law_joined : Stmt := top 16
def N__law_joined : List Str := ["kind", "first", "second"]
abbrev s__law_number : Stmt := top 17
def N__law_number : List Str := ["state", "script", "kind"]
abbrev s__law_pair : Stmt := top 18
def N__law_pair : List Str := ["state", "script", "first", "second"]
abbrev s__law_due : Stmt := top 19
def N__law_due : List Str := ["kind", "one", "two", "exact", "a", "b", "shared", "single"]
abbrev s_law : Stmt := top 20
def N_law : List Str := ["script", "state", "kinds", "k", "one", "two", "kind", "told", "j", "a", "b", "made", "due", "ends", "end", "low"]
def b_joined_0_0 : Ss := .cons (.ret (.tup (.cons (.blt .min (.cons (.ix (.v 0) (.c (.int (0)))) (.cons (.ix (.v 1) (.c (.int (0)))) .nil))) (.cons (.blt .max (.cons (.ix (.v 0) (.c (.int (1)))) (.cons (.ix (.v 1) (.c (.int (1)))) .nil))) .nil)))) .nil
def b_joined : Ss := b_joined_0_0
def d_joined : Dd := ⟨s_joined, "joined", N_joined, 2, b_joined⟩
theorem c_joined : trSs (trS 40 40 (d_joined.df.ctx G)) (defBody d_joined.st) = some d_joined.b := by kernel_rfl
theorem u_joined : bindOk d_joined := fun _ _ _ _ _ _ us hl => match us, hl with | [_, _], _ => rfl
def b_within_0_0 : Ss := .cons (.ret (.and (.cmp .LtE (.ix (.v 1) (.c (.int (0)))) (.ix (.v 0) (.c (.int (0))))) (.cmp .LtE (.ix (.v 0) (.c (.int (1)))) (.ix (.v 1) (.c (.int (1))))))) .nil
def b_within : Ss := b_within_0_0
def d_within : Dd := ⟨s_within, "within", N_within, 2, b_within⟩
theorem c_within : trSs (trS 40 40 (d_within.df.ctx G)) (defBody d_within.st) = some d_within.b := by kernel_rfl
theorem u_within : bindOk d_within := fun _ _ _ _ _ _ us hl => match us, hl with | [_, _], _ => rfl
def b_cut_0_1 : Ss := .cons (.ret (.ite (.cmp .LtE (.ix (.v 3) (.c (.int (0)))) (.ix (.v 3) (.c (.int (1))))) (.v 3) (.c .non))) .nil
def b_cut_0_0 : Ss := .cons (.asg (.name 3) (.tup (.cons (.blt .max (.cons (.ix (.v 0) (.c (.int (0)))) (.cons (.v 1) .nil))) (.cons (.blt .min (.cons (.ix (.v 0) (.c (.int (1)))) (.cons (.v 2) .nil))) .nil)))) b_cut_0_1
def b_cut : Ss := b_cut_0_0
def d_cut : Dd := ⟨s_cut, "cut", N_cut, 3, b_cut⟩
theorem c_cut : trSs (trS 40 40 (d_cut.df.ctx G)) (defBody d_cut.st) = some d_cut.b := by kernel_rfl
theorem u_cut : bindOk d_cut := fun _ _ _ _ _ _ us hl => match us, hl with | [_, _, _], _ => rfl
def b_sum_interval_0_1 : Ss := .cons (.ret (.ite (.call 1 (.cons (.v 3) (.cons (.c (.tup [(.int (-32768)), (.int (32767))])) .nil))) (.v 3) (.c (.tup [(.int (-32768)), (.int (32767))])))) .nil
def b_sum_interval_1_0 : Ss := .cons (.asg (.name 3) (.tup (.cons (.bin .Add (.ix (.v 1) (.c (.int (0)))) (.ix (.v 2) (.c (.int (0))))) (.cons (.bin .Add (.ix (.v 1) (.c (.int (1)))) (.ix (.v 2) (.c (.int (1))))) .nil)))) .nil
def b_sum_interval_3_0 : Ss := .cons (.asg (.name 3) (.tup (.cons (.bin .Sub (.ix (.v 1) (.c (.int (0)))) (.ix (.v 2) (.c (.int (1))))) (.cons (.bin .Sub (.ix (.v 1) (.c (.int (1)))) (.ix (.v 2) (.c (.int (0))))) .nil)))) .nil
def b_sum_interval_5_1 : Ss := .cons (.asg (.name 3) (.tup (.cons (.blt .min (.cons (.v 4) .nil)) (.cons (.blt .max (.cons (.v 4) .nil)) .nil)))) .nil
def b_sum_interval_5_0 : Ss := .cons (.asg (.name 4) (.lc2 [5, 6] (.name 5) (.val (.v 1)) [6] (.name 6) (.val (.v 2)) (.bin .Mult (.v 5) (.v 6)))) b_sum_interval_5_1
def b_sum_interval_7_0 : Ss := .cons (.asg (.name 3) (.tup (.cons (.blt .max (.cons (.ix (.v 1) (.c (.int (0)))) (.cons (.ix (.v 2) (.c (.int (0)))) .nil))) (.cons (.blt .max (.cons (.ix (.v 1) (.c (.int (1)))) (.cons (.ix (.v 2) (.c (.int (1)))) .nil))) .nil)))) .nil
def b_sum_interval_8_0 : Ss := .cons (.asg (.name 3) (.call 4 (.cons (.v 0) (.cons (.v 1) (.cons (.v 2) .nil))))) .nil
def b_sum_interval_6_0 : Ss := .cons (.ifs (.cmp .Eq (.v 0) (.c (.str "or"))) b_sum_interval_7_0 b_sum_interval_8_0) .nil
def b_sum_interval_4_0 : Ss := .cons (.ifs (.cmp .In (.v 0) (.tup (.cons (.c (.str "times")) (.cons (.c (.str "and")) .nil)))) b_sum_interval_5_0 b_sum_interval_6_0) .nil
def b_sum_interval_2_0 : Ss := .cons (.ifs (.cmp .Eq (.v 0) (.c (.str "minus"))) b_sum_interval_3_0 b_sum_interval_4_0) .nil
def b_sum_interval_0_0 : Ss := .cons (.ifs (.cmp .Eq (.v 0) (.c (.str "plus"))) b_sum_interval_1_0 b_sum_interval_2_0) b_sum_interval_0_1
def b_sum_interval : Ss := b_sum_interval_0_0
def d_sum_interval : Dd := ⟨s_sum_interval, "sum_interval", N_sum_interval, 3, b_sum_interval⟩
theorem c_sum_interval : trSs (trS 40 40 (d_sum_interval.df.ctx G)) (defBody d_sum_interval.st) = some d_sum_interval.b := by kernel_rfl
theorem u_sum_interval : bindOk d_sum_interval := fun _ _ _ _ _ _ us hl => match us, hl with | [_, _, _], _ => rfl
def b_compared_0_5 : Ss := .cons (.ret (.call 5 (.cons (.v 3) (.cons (.v 4) .nil)))) .nil
def b_compared_1_0 : Ss := .cons (.ret (.call 5 (.cons (.v 4) (.cons (.v 3) .nil)))) .nil
def b_compared_0_4 : Ss := .cons (.ifs (.cmp .Eq (.v 0) (.c (.str "equal"))) b_compared_1_0 .nil) b_compared_0_5
def b_compared_0_3 : Ss := .cons (.asg (.name 4) (.and (.cmp .Eq (.ix (.v 1) (.c (.int (0)))) (.ix (.v 1) (.c (.int (1))))) (.cmp .Eq (.v 1) (.v 2)))) b_compared_0_4
def b_compared_0_2 : Ss := .cons (.asg (.name 3) (.or (.cmp .Lt (.ix (.v 1) (.c (.int (1)))) (.ix (.v 2) (.c (.int (0))))) (.cmp .Lt (.ix (.v 2) (.c (.int (1)))) (.ix (.v 1) (.c (.int (0))))))) b_compared_0_3
def b_compared_3_0 : Ss := .cons (.ret (.call 5 (.cons (.cmp .LtE (.ix (.v 1) (.c (.int (1)))) (.ix (.v 2) (.c (.int (0))))) (.cons (.cmp .Gt (.ix (.v 1) (.c (.int (0)))) (.ix (.v 2) (.c (.int (1))))) .nil)))) .nil
def b_compared_0_1 : Ss := .cons (.ifs (.cmp .Eq (.v 0) (.c (.str "most"))) b_compared_3_0 .nil) b_compared_0_2
def b_compared_5_0 : Ss := .cons (.ret (.call 5 (.cons (.cmp .Lt (.ix (.v 1) (.c (.int (1)))) (.ix (.v 2) (.c (.int (0))))) (.cons (.cmp .GtE (.ix (.v 1) (.c (.int (0)))) (.ix (.v 2) (.c (.int (1))))) .nil)))) .nil
def b_compared_0_0 : Ss := .cons (.ifs (.cmp .Eq (.v 0) (.c (.str "less"))) b_compared_5_0 .nil) b_compared_0_1
def b_compared : Ss := b_compared_0_0
def d_compared : Dd := ⟨s_compared, "compared", N_compared, 3, b_compared⟩
theorem c_compared : trSs (trS 40 40 (d_compared.df.ctx G)) (defBody d_compared.st) = some d_compared.b := by kernel_rfl
theorem u_compared : bindOk d_compared := fun _ _ _ _ _ _ us hl => match us, hl with | [_, _, _], _ => rfl
def b_truth_of_0_0 : Ss := .cons (.ret (.tup (.cons (.blt .int (.cons (.v 0) .nil)) (.cons (.bin .Sub (.c (.int (1))) (.blt .int (.cons (.v 1) .nil))) .nil)))) .nil
def b_truth_of : Ss := b_truth_of_0_0
def d_truth_of : Dd := ⟨s_truth_of, "truth_of", N_truth_of, 2, b_truth_of⟩
theorem c_truth_of : trSs (trS 40 40 (d_truth_of.df.ctx G)) (defBody d_truth_of.st) = some d_truth_of.b := by kernel_rfl
theorem u_truth_of : bindOk d_truth_of := fun _ _ _ _ _ _ us hl => match us, hl with | [_, _], _ => rfl
def b_rounded_0_0 : Ss := .cons (.ret (.tup (.cons (.ix (.v 1) (.call 7 (.cons (.v 1) (.cons (.ix (.v 0) (.c (.int (0)))) .nil)))) (.cons (.ix (.v 1) (.call 8 (.cons (.v 1) (.cons (.ix (.v 0) (.c (.int (1)))) .nil)))) .nil)))) .nil
def b_rounded : Ss := b_rounded_0_0
def d_rounded : Dd := ⟨s_rounded, "rounded", N_rounded, 2, b_rounded⟩
theorem c_rounded : trSs (trS 40 40 (d_rounded.df.ctx G)) (defBody d_rounded.st) = some d_rounded.b := by kernel_rfl
theorem u_rounded : bindOk d_rounded := fun _ _ _ _ _ _ us hl => match us, hl with | [_, _], _ => rfl
def b_place_below_0_2 : Ss := .cons (.ret (.v 2)) .nil
def b_place_below_2_0 : Ss := .cons (.asg (.name 2) (.v 4)) .nil
def b_place_below_3_0 : Ss := .cons (.asg (.name 3) (.bin .Sub (.v 4) (.c (.int (1))))) .nil
def b_place_below_1_1 : Ss := .cons (.ifs (.cmp .LtE (.ix (.v 0) (.v 4)) (.v 1)) b_place_below_2_0 b_place_below_3_0) .nil
def b_place_below_1_0 : Ss := .cons (.asg (.name 4) (.bin .FloorDiv (.bin .Add (.bin .Add (.v 2) (.v 3)) (.c (.int (1)))) (.c (.int (2))))) b_place_below_1_1
def b_place_below_0_1 : Ss := .cons (.while_ (.cmp .Lt (.v 2) (.v 3)) b_place_below_1_0) b_place_below_0_2
def b_place_below_0_0 : Ss := .cons (.asg (.tup [(.name 2), (.name 3)]) (.tup (.cons (.c (.int (0))) (.cons (.bin .Sub (.blt .len (.cons (.v 0) .nil)) (.c (.int (1)))) .nil)))) b_place_below_0_1
def b_place_below : Ss := b_place_below_0_0
def d_place_below : Dd := ⟨s_place_below, "place_below", N_place_below, 2, b_place_below⟩
theorem c_place_below : trSs (trS 40 40 (d_place_below.df.ctx G)) (defBody d_place_below.st) = some d_place_below.b := by kernel_rfl
theorem u_place_below : bindOk d_place_below := fun _ _ _ _ _ _ us hl => match us, hl with | [_, _], _ => rfl
def b_place_above_0_2 : Ss := .cons (.ret (.v 2)) .nil
def b_place_above_2_0 : Ss := .cons (.asg (.name 3) (.v 4)) .nil
def b_place_above_3_0 : Ss := .cons (.asg (.name 2) (.bin .Add (.v 4) (.c (.int (1))))) .nil
def b_place_above_1_1 : Ss := .cons (.ifs (.cmp .GtE (.ix (.v 0) (.v 4)) (.v 1)) b_place_above_2_0 b_place_above_3_0) .nil
def b_place_above_1_0 : Ss := .cons (.asg (.name 4) (.bin .FloorDiv (.bin .Add (.v 2) (.v 3)) (.c (.int (2))))) b_place_above_1_1
def b_place_above_0_1 : Ss := .cons (.while_ (.cmp .Lt (.v 2) (.v 3)) b_place_above_1_0) b_place_above_0_2
def b_place_above_0_0 : Ss := .cons (.asg (.tup [(.name 2), (.name 3)]) (.tup (.cons (.c (.int (0))) (.cons (.bin .Sub (.blt .len (.cons (.v 0) .nil)) (.c (.int (1)))) .nil)))) b_place_above_0_1
def b_place_above : Ss := b_place_above_0_0
def d_place_above : Dd := ⟨s_place_above, "place_above", N_place_above, 2, b_place_above⟩
theorem c_place_above : trSs (trS 40 40 (d_place_above.df.ctx G)) (defBody d_place_above.st) = some d_place_above.b := by kernel_rfl
theorem u_place_above : bindOk d_place_above := fun _ _ _ _ _ _ us hl => match us, hl with | [_, _], _ => rfl
def b__law_draw_0_3 : Ss := .cons (.ret (.v 5)) .nil
def b__law_draw_0_2 : Ss := .cons (.setix (.v 0) (.c (.int (1))) (.bin .FloorDiv (.ix (.v 0) (.c (.int (1)))) (.v 2))) b__law_draw_0_3
def b__law_draw_0_1 : Ss := .cons (.asg (.name 5) (.bin .Mod (.blt .int (.cons (.ix (.v 0) (.c (.int (1)))) .nil)) (.v 2))) b__law_draw_0_2
def b__law_draw_1_6 : Ss := .cons (.setix (.v 0) (.c (.int (0))) (.bin .Add (.ix (.v 0) (.c (.int (0)))) (.c (.int (1))))) .nil
def b__law_draw_2_0 : Ss := .cons (.setix (.v 0) (.c (.int (1))) (.v 3)) .nil
def b__law_draw_1_5 : Ss := .cons (.ifs (.and (.cmp .GtE (.v 3) (.bin .Pow (.c (.int (10))) (.c (.int (18))))) (.cmp .Lt (.ix (.v 0) (.c (.int (0)))) (.blt .len (.cons (.v 1) .nil)))) b__law_draw_2_0 .nil) b__law_draw_1_6
def b__law_draw_1_4 : Ss := .cons (.setix (.v 0) (.c (.int (1))) (.bin .Mod (.blt .int (.cons (.bin .Add (.bin .Mult (.v 4) (.c (.int (69621)))) (.bin .Mult (.ix (.v 0) (.c (.int (0)))) (.c (.int (104729))))) .nil)) (.c (.int (4294967291))))) b__law_draw_1_5
def b__law_draw_1_3 : Ss := .cons (.asg (.name 4) (.bin .Mod (.blt .int (.cons (.bin .Mult (.bin .Add (.bin .Add (.v 3) (.bin .Mult (.ix (.v 0) (.c (.int (0)))) (.c (.int (7919))))) (.c (.int (1)))) (.c (.int (48271)))) .nil)) (.c (.int (2147483647))))) b__law_draw_1_4
def b__law_draw_4_0 : Ss := .cons (.asg (.name 3) (.bin .Sub (.c (.int (1))) (.bin .Mult (.c (.int (2))) (.v 3)))) .nil
def b__law_draw_1_2 : Ss := .cons (.ifs (.cmp .Lt (.v 3) (.c (.int (0)))) b__law_draw_4_0 .nil) b__law_draw_1_3
def b__law_draw_6_0 : Ss := .cons (.asg (.name 3) (.ix (.v 1) (.bin .Mod (.ix (.v 0) (.c (.int (0)))) (.blt .len (.cons (.v 1) .nil))))) .nil
def b__law_draw_1_1 : Ss := .cons (.ifs (.cmp .Gt (.blt .len (.cons (.v 1) .nil)) (.c (.int (0)))) b__law_draw_6_0 .nil) b__law_draw_1_2
def b__law_draw_1_0 : Ss := .cons (.asg (.name 3) (.c (.int (0)))) b__law_draw_1_1
def b__law_draw_0_0 : Ss := .cons (.ifs (.cmp .Eq (.ix (.v 0) (.c (.int (1)))) (.c (.int (0)))) b__law_draw_1_0 .nil) b__law_draw_0_1
def b__law_draw : Ss := b__law_draw_0_0
def d__law_draw : Dd := ⟨s__law_draw, "_law_draw", N__law_draw, 3, b__law_draw⟩
theorem c__law_draw : trSs (trS 40 40 (d__law_draw.df.ctx G)) (defBody d__law_draw.st) = some d__law_draw.b := by kernel_rfl
theorem u__law_draw : bindOk d__law_draw := fun _ _ _ _ _ _ us hl => match us, hl with | [_, _, _], _ => rfl
def b__law_wrapped_0_0 : Ss := .cons (.ret (.bin .Sub (.bin .Mod (.blt .int (.cons (.bin .Add (.v 0) (.c (.int (32768)))) .nil)) (.c (.int (65536)))) (.c (.int (32768))))) .nil
def b__law_wrapped : Ss := b__law_wrapped_0_0
def d__law_wrapped : Dd := ⟨s__law_wrapped, "_law_wrapped", N__law_wrapped, 1, b__law_wrapped⟩
theorem c__law_wrapped : trSs (trS 40 40 (d__law_wrapped.df.ctx G)) (defBody d__law_wrapped.st) = some d__law_wrapped.b := by kernel_rfl
theorem u__law_wrapped : bindOk d__law_wrapped := fun _ _ _ _ _ _ us hl => match us, hl with | [_], _ => rfl
def b__law_joined_0_8 : Ss := .cons (.ret (.blt .int (.cons (.cmp .NotEq (.v 1) (.v 2)) .nil))) .nil
def b__law_joined_1_0 : Ss := .cons (.ret (.blt .int (.cons (.cmp .Eq (.v 1) (.v 2)) .nil))) .nil
def b__law_joined_0_7 : Ss := .cons (.ifs (.cmp .Eq (.v 0) (.c (.str "equal"))) b__law_joined_1_0 .nil) b__law_joined_0_8
def b__law_joined_3_0 : Ss := .cons (.ret (.blt .int (.cons (.cmp .LtE (.v 1) (.v 2)) .nil))) .nil
def b__law_joined_0_6 : Ss := .cons (.ifs (.cmp .Eq (.v 0) (.c (.str "most"))) b__law_joined_3_0 .nil) b__law_joined_0_7
def b__law_joined_5_0 : Ss := .cons (.ret (.blt .int (.cons (.cmp .Lt (.v 1) (.v 2)) .nil))) .nil
def b__law_joined_0_5 : Ss := .cons (.ifs (.cmp .Eq (.v 0) (.c (.str "less"))) b__law_joined_5_0 .nil) b__law_joined_0_6
def b__law_joined_7_0 : Ss := .cons (.ret (.blt .max (.cons (.v 1) (.cons (.v 2) .nil)))) .nil
def b__law_joined_0_4 : Ss := .cons (.ifs (.cmp .Eq (.v 0) (.c (.str "or"))) b__law_joined_7_0 .nil) b__law_joined_0_5
def b__law_joined_9_0 : Ss := .cons (.ret (.bin .Mult (.v 1) (.v 2))) .nil
def b__law_joined_0_3 : Ss := .cons (.ifs (.cmp .Eq (.v 0) (.c (.str "and"))) b__law_joined_9_0 .nil) b__law_joined_0_4
def b__law_joined_11_0 : Ss := .cons (.ret (.call 10 (.cons (.bin .Mult (.v 1) (.v 2)) .nil))) .nil
def b__law_joined_0_2 : Ss := .cons (.ifs (.cmp .Eq (.v 0) (.c (.str "times"))) b__law_joined_11_0 .nil) b__law_joined_0_3
def b__law_joined_13_0 : Ss := .cons (.ret (.call 10 (.cons (.bin .Sub (.v 1) (.v 2)) .nil))) .nil
def b__law_joined_0_1 : Ss := .cons (.ifs (.cmp .Eq (.v 0) (.c (.str "minus"))) b__law_joined_13_0 .nil) b__law_joined_0_2
def b__law_joined_15_0 : Ss := .cons (.ret (.call 10 (.cons (.bin .Add (.v 1) (.v 2)) .nil))) .nil
def b__law_joined_0_0 : Ss := .cons (.ifs (.cmp .Eq (.v 0) (.c (.str "plus"))) b__law_joined_15_0 .nil) b__law_joined_0_1
def b__law_joined : Ss := b__law_joined_0_0
def d__law_joined : Dd := ⟨s__law_joined, "_law_joined", N__law_joined, 3, b__law_joined⟩
theorem c__law_joined : trSs (trS 40 40 (d__law_joined.df.ctx G)) (defBody d__law_joined.st) = some d__law_joined.b := by kernel_rfl
theorem u__law_joined : bindOk d__law_joined := fun _ _ _ _ _ _ us hl => match us, hl with | [_, _, _], _ => rfl
def b__law_number_0_3 : Ss := .cons (.ret (.bin .Sub (.call 9 (.cons (.v 0) (.cons (.v 1) (.cons (.c (.int (40))) .nil)))) (.c (.int (20))))) .nil
def b__law_number_1_0 : Ss := .cons (.ret (.bin .Sub (.call 9 (.cons (.v 0) (.cons (.v 1) (.cons (.c (.int (65536))) .nil)))) (.c (.int (32768))))) .nil
def b__law_number_0_2 : Ss := .cons (.ifs (.cmp .Lt (.v 2) (.c (.int (3)))) b__law_number_1_0 .nil) b__law_number_0_3
def b__law_number_3_0 : Ss := .cons (.ret (.ix (.lst (.cons (.neg (.c (.int (32768)))) (.cons (.c (.int (32767))) (.cons (.c (.int (0))) (.cons (.c (.int (1))) (.cons (.neg (.c (.int (1)))) (.cons (.c (.int (181))) (.cons (.c (.int (182))) (.cons (.neg (.c (.int (182)))) .nil))))))))) (.call 9 (.cons (.v 0) (.cons (.v 1) (.cons (.c (.int (8))) .nil)))))) .nil
def b__law_number_0_1 : Ss := .cons (.ifs (.cmp .Eq (.v 2) (.c (.int (0)))) b__law_number_3_0 .nil) b__law_number_0_2
def b__law_number_0_0 : Ss := .cons (.asg (.name 2) (.call 9 (.cons (.v 0) (.cons (.v 1) (.cons (.c (.int (6))) .nil))))) b__law_number_0_1
def b__law_number : Ss := b__law_number_0_0
def d__law_number : Dd := ⟨s__law_number, "_law_number", N__law_number, 2, b__law_number⟩
theorem c__law_number : trSs (trS 40 40 (d__law_number.df.ctx G)) (defBody d__law_number.st) = some d__law_number.b := by kernel_rfl
theorem u__law_number : bindOk d__law_number := fun _ _ _ _ _ _ us hl => match us, hl with | [_, _], _ => rfl
def b__law_pair_0_1 : Ss := .cons (.ret (.tup (.cons (.blt .min (.cons (.v 2) (.cons (.v 3) .nil))) (.cons (.blt .max (.cons (.v 2) (.cons (.v 3) .nil))) .nil)))) .nil
def b__law_pair_0_0 : Ss := .cons (.asg (.tup [(.name 2), (.name 3)]) (.tup (.cons (.call 12 (.cons (.v 0) (.cons (.v 1) .nil))) (.cons (.call 12 (.cons (.v 0) (.cons (.v 1) .nil))) .nil)))) b__law_pair_0_1
def b__law_pair : Ss := b__law_pair_0_0
def d__law_pair : Dd := ⟨s__law_pair, "_law_pair", N__law_pair, 2, b__law_pair⟩
theorem c__law_pair : trSs (trS 40 40 (d__law_pair.df.ctx G)) (defBody d__law_pair.st) = some d__law_pair.b := by kernel_rfl
theorem u__law_pair : bindOk d__law_pair := fun _ _ _ _ _ _ us hl => match us, hl with | [_, _], _ => rfl
def b__law_due_0_4 : Ss := .cons (.ret (.tup (.cons (.blt .min (.cons (.v 3) .nil)) (.cons (.blt .max (.cons (.v 3) .nil)) .nil)))) .nil
def b__law_due_1_0 : Ss := .cons (.ret (.tup (.cons (.neg (.c (.int (32768)))) (.cons (.c (.int (32767))) .nil)))) .nil
def b__law_due_0_3 : Ss := .cons (.ifs (.or (.cmp .Lt (.blt .min (.cons (.v 3) .nil)) (.neg (.c (.int (32768))))) (.cmp .Gt (.blt .max (.cons (.v 3) .nil)) (.c (.int (32767))))) b__law_due_1_0 .nil) b__law_due_0_4
def b__law_due_4_0 : Ss := .cons (.asg (.name 3) (.lst (.cons (.bin .Sub (.c (.int (1))) (.blt .int (.cons (.v 6) .nil))) (.cons (.bin .Sub (.c (.int (1))) (.blt .int (.cons (.v 7) .nil))) .nil)))) .nil
def b__law_due_3_3 : Ss := .cons (.ifs (.cmp .Eq (.v 0) (.c (.str "unlike"))) b__law_due_4_0 .nil) .nil
def b__law_due_3_2 : Ss := .cons (.asg (.name 3) (.lst (.cons (.blt .int (.cons (.v 7) .nil)) (.cons (.blt .int (.cons (.v 6) .nil)) .nil)))) b__law_due_3_3
def b__law_due_3_1 : Ss := .cons (.asg (.name 7) (.and (.cmp .Eq (.ix (.v 1) (.c (.int (0)))) (.ix (.v 1) (.c (.int (1))))) (.and (.cmp .Eq (.ix (.v 2) (.c (.int (0)))) (.ix (.v 2) (.c (.int (1))))) (.cmp .Eq (.v 1) (.v 2))))) b__law_due_3_2
def b__law_due_3_0 : Ss := .cons (.asg (.name 6) (.cmp .LtE (.blt .max (.cons (.ix (.v 1) (.c (.int (0)))) (.cons (.ix (.v 2) (.c (.int (0)))) .nil))) (.blt .min (.cons (.ix (.v 1) (.c (.int (1)))) (.cons (.ix (.v 2) (.c (.int (1)))) .nil))))) b__law_due_3_1
def b__law_due_0_2 : Ss := .cons (.ifs (.or (.cmp .Eq (.v 0) (.c (.str "equal"))) (.cmp .Eq (.v 0) (.c (.str "unlike")))) b__law_due_3_0 .nil) b__law_due_0_3
def b__law_due_8_0 : Ss := .cons (.expr (.mth .append (.v 3) (.cons (.mth .get (.dic (.cons (.c (.str "plus")) (.bin .Add (.v 4) (.v 5)) (.cons (.c (.str "minus")) (.bin .Sub (.v 4) (.v 5)) (.cons (.c (.str "times")) (.bin .Mult (.v 4) (.v 5)) (.cons (.c (.str "and")) (.bin .Mult (.v 4) (.v 5)) (.cons (.c (.str "or")) (.blt .max (.cons (.v 4) (.cons (.v 5) .nil))) (.cons (.c (.str "less")) (.blt .int (.cons (.cmp .Lt (.v 4) (.v 5)) .nil)) (.cons (.c (.str "most")) (.blt .int (.cons (.cmp .LtE (.v 4) (.v 5)) .nil)) .nil)))))))) (.cons (.v 0) (.cons (.c (.int (0))) .nil))) .nil))) .nil
def b__law_due_7_0 : Ss := .cons (.for_ (.name 5) (.val (.v 2)) b__law_due_8_0) .nil
def b__law_due_0_1 : Ss := .cons (.for_ (.name 4) (.val (.v 1)) b__law_due_7_0) b__law_due_0_2
def b__law_due_0_0 : Ss := .cons (.asg (.name 3) (.lst .nil)) b__law_due_0_1
def b__law_due : Ss := b__law_due_0_0
def d__law_due : Dd := ⟨s__law_due, "_law_due", N__law_due, 3, b__law_due⟩
theorem c__law_due : trSs (trS 40 40 (d__law_due.df.ctx G)) (defBody d__law_due.st) = some d__law_due.b := by kernel_rfl
theorem u__law_due : bindOk d__law_due := fun _ _ _ _ _ _ us hl => match us, hl with | [_, _, _], _ => rfl
def b_law_0_3 : Ss := .cons (.ret (.c (.bl true))) .nil
def b_law_2_0 : Ss := .cons (.ret (.c (.bl false))) .nil
def b_law_1_15 : Ss := .cons (.ifs (.cmp .NotEq (.call 6 (.cons (.v 4) (.cons (.blt .list (.cons (.v 13) .nil)) .nil))) (.tup (.cons (.v 15) (.cons (.blt .min (.cons (.lc [14] (.name 14) (.val (.v 13)) (.some (.cmp .GtE (.v 14) (.ix (.v 4) (.c (.int (1)))))) (.v 14)) .nil)) .nil)))) b_law_2_0 .nil) .nil
def b_law_1_14 : Ss := .cons (.asg (.name 15) (.blt .max (.cons (.lc [14] (.name 14) (.val (.v 13)) (.some (.cmp .LtE (.v 14) (.ix (.v 4) (.c (.int (0)))))) (.v 14)) .nil))) b_law_1_15
def b_law_1_13 : Ss := .cons (.asg (.name 13) (.blt .sorted (.cons (.v 13) .nil))) b_law_1_14
def b_law_5_0 : Ss := .cons (.expr (.mth .append (.v 13) (.cons (.v 14) .nil))) .nil
def b_law_4_1 : Ss := .cons (.ifs (.cmp .NotIn (.v 14) (.v 13)) b_law_5_0 .nil) .nil
def b_law_4_0 : Ss := .cons (.asg (.name 14) (.call 12 (.cons (.v 1) (.cons (.v 0) .nil)))) b_law_4_1
def b_law_1_12 : Ss := .cons (.for_ (.name 8) (.rng1 (.c (.int (6)))) b_law_4_0) b_law_1_13
def b_law_1_11 : Ss := .cons (.asg (.name 13) (.lst (.cons (.neg (.c (.int (32768)))) (.cons (.c (.int (32767))) .nil)))) b_law_1_12
def b_law_7_0 : Ss := .cons (.ret (.c (.bl false))) .nil
def b_law_1_10 : Ss := .cons (.ifs (.cmp .NotEq (.call 2 (.cons (.v 4) (.cons (.ix (.v 5) (.c (.int (0)))) (.cons (.ix (.v 5) (.c (.int (1)))) .nil)))) (.v 12)) b_law_7_0 .nil) b_law_1_11
def b_law_9_0 : Ss := .cons (.asg (.name 12) (.c .non)) .nil
def b_law_1_9 : Ss := .cons (.ifs (.cmp .Gt (.ix (.v 12) (.c (.int (0)))) (.ix (.v 12) (.c (.int (1))))) b_law_9_0 .nil) b_law_1_10
def b_law_1_8 : Ss := .cons (.asg (.name 12) (.tup (.cons (.blt .max (.cons (.ix (.v 4) (.c (.int (0)))) (.cons (.ix (.v 5) (.c (.int (0)))) .nil))) (.cons (.blt .min (.cons (.ix (.v 4) (.c (.int (1)))) (.cons (.ix (.v 5) (.c (.int (1)))) .nil))) .nil)))) b_law_1_9
def b_law_11_0 : Ss := .cons (.ret (.c (.bl false))) .nil
def b_law_1_7 : Ss := .cons (.ifs (.cmp .NotEq (.call 1 (.cons (.v 4) (.cons (.v 5) .nil))) (.and (.cmp .LtE (.ix (.v 5) (.c (.int (0)))) (.ix (.v 4) (.c (.int (0))))) (.cmp .LtE (.ix (.v 4) (.c (.int (1)))) (.ix (.v 5) (.c (.int (1))))))) b_law_11_0 .nil) b_law_1_8
def b_law_13_0 : Ss := .cons (.ret (.c (.bl false))) .nil
def b_law_1_6 : Ss := .cons (.ifs (.cmp .NotEq (.call 0 (.cons (.v 4) (.cons (.v 5) .nil))) (.tup (.cons (.blt .min (.cons (.ix (.v 4) (.c (.int (0)))) (.cons (.ix (.v 5) (.c (.int (0)))) .nil))) (.cons (.blt .max (.cons (.ix (.v 4) (.c (.int (1)))) (.cons (.ix (.v 5) (.c (.int (1)))) .nil))) .nil)))) b_law_13_0 .nil) b_law_1_7
def b_law_16_0 : Ss := .cons (.ret (.c (.bl false))) .nil
def b_law_15_3 : Ss := .cons (.ifs (.and (.chn .LtE .LtE (.neg (.c (.int (32768)))) (.v 11) (.c (.int (32767)))) (.not (.chn .LtE .LtE (.ix (.v 7) (.c (.int (0)))) (.v 11) (.ix (.v 7) (.c (.int (1))))))) b_law_16_0 .nil) .nil
def b_law_15_2 : Ss := .cons (.asg (.name 11) (.call 11 (.cons (.v 6) (.cons (.v 9) (.cons (.v 10) .nil))))) b_law_15_3
def b_law_15_1 : Ss := .cons (.asg (.name 10) (.bin .Add (.ix (.v 5) (.c (.int (0)))) (.call 9 (.cons (.v 1) (.cons (.v 0) (.cons (.bin .Add (.bin .Sub (.ix (.v 5) (.c (.int (1)))) (.ix (.v 5) (.c (.int (0))))) (.c (.int (1)))) .nil)))))) b_law_15_2
def b_law_15_0 : Ss := .cons (.asg (.name 9) (.bin .Add (.ix (.v 4) (.c (.int (0)))) (.call 9 (.cons (.v 1) (.cons (.v 0) (.cons (.bin .Add (.bin .Sub (.ix (.v 4) (.c (.int (1)))) (.ix (.v 4) (.c (.int (0))))) (.c (.int (1)))) .nil)))))) b_law_15_1
def b_law_1_5 : Ss := .cons (.for_ (.name 8) (.rng1 (.c (.int (4)))) b_law_15_0) b_law_1_6
def b_law_18_0 : Ss := .cons (.ret (.c (.bl false))) .nil
def b_law_1_4 : Ss := .cons (.ifs (.or (.cmp .NotEq (.v 7) (.call 14 (.cons (.v 6) (.cons (.v 4) (.cons (.v 5) .nil))))) (.not (.blt .isi (.cons (.v 7) (.cons (.c (.ty "tuple")) .nil))))) b_law_18_0 .nil) b_law_1_5
def b_law_1_3 : Ss := .cons (.asg (.name 7) (.call 3 (.cons (.v 6) (.cons (.v 4) (.cons (.v 5) .nil))))) b_law_1_4
def b_law_1_2 : Ss := .cons (.asg (.name 6) (.ix (.v 2) (.call 9 (.cons (.v 1) (.cons (.v 0) (.cons (.c (.int (9))) .nil)))))) b_law_1_3
def b_law_20_0 : Ss := .cons (.asg (.name 5) (.v 4)) .nil
def b_law_1_1 : Ss := .cons (.ifs (.cmp .Eq (.call 9 (.cons (.v 1) (.cons (.v 0) (.cons (.c (.int (4))) .nil)))) (.c (.int (0)))) b_law_20_0 .nil) b_law_1_2
def b_law_1_0 : Ss := .cons (.asg (.tup [(.name 4), (.name 5)]) (.tup (.cons (.call 13 (.cons (.v 1) (.cons (.v 0) .nil))) (.cons (.call 13 (.cons (.v 1) (.cons (.v 0) .nil))) .nil)))) b_law_1_1
def b_law_0_2 : Ss := .cons (.for_ (.name 3) (.rng1 (.c (.int (12)))) b_law_1_0) b_law_0_3
def b_law_0_1 : Ss := .cons (.asg (.name 2) (.lst (.cons (.c (.str "plus")) (.cons (.c (.str "minus")) (.cons (.c (.str "times")) (.cons (.c (.str "and")) (.cons (.c (.str "or")) (.cons (.c (.str "less")) (.cons (.c (.str "most")) (.cons (.c (.str "equal")) (.cons (.c (.str "unlike")) .nil))))))))))) b_law_0_2
def b_law_0_0 : Ss := .cons (.asg (.name 1) (.lst (.cons (.c (.int (0))) (.cons (.c (.int (0))) .nil)))) b_law_0_1
def b_law : Ss := b_law_0_0
def d_law : Dd := ⟨s_law, "law", N_law, 1, b_law⟩
theorem c_law : trSs (trS 40 40 (d_law.df.ctx G)) (defBody d_law.st) = some d_law.b := by kernel_rfl
theorem u_law : bindOk d_law := fun _ _ _ _ _ _ us hl => match us, hl with | [_], _ => rfl
def tbl : List Str := ["plus", "minus", "times", "and", "or", "less", "most", "equal", "unlike"]
def sIx (x : Str) : Option Nat := tbl.idxOf? x
theorem sx_0 : sIx "plus" = some 0 := by decide +kernel
theorem sx_1 : sIx "minus" = some 1 := by decide +kernel
theorem sx_2 : sIx "times" = some 2 := by decide +kernel
theorem sx_3 : sIx "and" = some 3 := by decide +kernel
theorem sx_4 : sIx "or" = some 4 := by decide +kernel
theorem sx_5 : sIx "less" = some 5 := by decide +kernel
theorem sx_6 : sIx "most" = some 6 := by decide +kernel
theorem sx_7 : sIx "equal" = some 7 := by decide +kernel
theorem sx_8 : sIx "unlike" = some 8 := by decide +kernel
theorem str_b {x y : Str} (hx : (sIx x).isSome = true) (hy : (sIx y).isSome = true) : (x == y) = (sIx x == sIx y) := str_beq hx
theorem str_e {x y : Str} (hx : (sIx x).isSome = true) (hy : (sIx y).isSome = true) : (x = y) = (sIx x = sIx y) := str_eq hx
def T : List Dd := [d_joined, d_within, d_cut, d_sum_interval, d_compared, d_truth_of, d_rounded, d_place_below, d_place_above, d__law_draw, d__law_wrapped, d__law_joined, d__law_number, d__law_pair, d__law_due, d_law]
def p : Pg := ⟨T, G⟩
theorem p_ok : p.ok = true := by decide +kernel
theorem p_b : ∀ (i : Nat) (d : Dd), p.T[i]? = some d → trSs (trS 40 40 (d.df.ctx p.G)) (defBody d.st) = some d.b
  | 0, d, h => by cases (show some d_joined = some d from h); exact c_joined
  | 1, d, h => by cases (show some d_within = some d from h); exact c_within
  | 2, d, h => by cases (show some d_cut = some d from h); exact c_cut
  | 3, d, h => by cases (show some d_sum_interval = some d from h); exact c_sum_interval
  | 4, d, h => by cases (show some d_compared = some d from h); exact c_compared
  | 5, d, h => by cases (show some d_truth_of = some d from h); exact c_truth_of
  | 6, d, h => by cases (show some d_rounded = some d from h); exact c_rounded
  | 7, d, h => by cases (show some d_place_below = some d from h); exact c_place_below
  | 8, d, h => by cases (show some d_place_above = some d from h); exact c_place_above
  | 9, d, h => by cases (show some d__law_draw = some d from h); exact c__law_draw
  | 10, d, h => by cases (show some d__law_wrapped = some d from h); exact c__law_wrapped
  | 11, d, h => by cases (show some d__law_joined = some d from h); exact c__law_joined
  | 12, d, h => by cases (show some d__law_number = some d from h); exact c__law_number
  | 13, d, h => by cases (show some d__law_pair = some d from h); exact c__law_pair
  | 14, d, h => by cases (show some d__law_due = some d from h); exact c__law_due
  | 15, d, h => by cases (show some d_law = some d from h); exact c_law
  | i + 16, d, h => by cases (show (none : Option Dd) = some d from h)
theorem p_bind : ∀ (i : Nat) (d : Dd), p.T[i]? = some d → bindOk d
  | 0, d, h => by cases (show some d_joined = some d from h); exact u_joined
  | 1, d, h => by cases (show some d_within = some d from h); exact u_within
  | 2, d, h => by cases (show some d_cut = some d from h); exact u_cut
  | 3, d, h => by cases (show some d_sum_interval = some d from h); exact u_sum_interval
  | 4, d, h => by cases (show some d_compared = some d from h); exact u_compared
  | 5, d, h => by cases (show some d_truth_of = some d from h); exact u_truth_of
  | 6, d, h => by cases (show some d_rounded = some d from h); exact u_rounded
  | 7, d, h => by cases (show some d_place_below = some d from h); exact u_place_below
  | 8, d, h => by cases (show some d_place_above = some d from h); exact u_place_above
  | 9, d, h => by cases (show some d__law_draw = some d from h); exact u__law_draw
  | 10, d, h => by cases (show some d__law_wrapped = some d from h); exact u__law_wrapped
  | 11, d, h => by cases (show some d__law_joined = some d from h); exact u__law_joined
  | 12, d, h => by cases (show some d__law_number = some d from h); exact u__law_number
  | 13, d, h => by cases (show some d__law_pair = some d from h); exact u__law_pair
  | 14, d, h => by cases (show some d__law_due = some d from h); exact u__law_due
  | 15, d, h => by cases (show some d_law = some d from h); exact u_law
  | i + 16, d, h => by cases (show (none : Option Dd) = some d from h)
abbrev i_joined : Nat := 0
theorem f_joined {fu k : Nat} {μ : Mu} {a0 a1 : D} : phi T fu (k + 1) 0 [a0, a1] μ = runB ⟨phi T fu k, fu⟩ 2 b_joined [a0, a1] μ := rfl
abbrev i_within : Nat := 1
theorem f_within {fu k : Nat} {μ : Mu} {a0 a1 : D} : phi T fu (k + 1) 1 [a0, a1] μ = runB ⟨phi T fu k, fu⟩ 2 b_within [a0, a1] μ := rfl
abbrev i_cut : Nat := 2
theorem f_cut {fu k : Nat} {μ : Mu} {a0 a1 a2 : D} : phi T fu (k + 1) 2 [a0, a1, a2] μ = runB ⟨phi T fu k, fu⟩ 4 b_cut [a0, a1, a2] μ := rfl
abbrev i_sum_interval : Nat := 3
theorem f_sum_interval {fu k : Nat} {μ : Mu} {a0 a1 a2 : D} : phi T fu (k + 1) 3 [a0, a1, a2] μ = runB ⟨phi T fu k, fu⟩ 7 b_sum_interval [a0, a1, a2] μ := rfl
abbrev i_compared : Nat := 4
theorem f_compared {fu k : Nat} {μ : Mu} {a0 a1 a2 : D} : phi T fu (k + 1) 4 [a0, a1, a2] μ = runB ⟨phi T fu k, fu⟩ 5 b_compared [a0, a1, a2] μ := rfl
abbrev i_truth_of : Nat := 5
theorem f_truth_of {fu k : Nat} {μ : Mu} {a0 a1 : D} : phi T fu (k + 1) 5 [a0, a1] μ = runB ⟨phi T fu k, fu⟩ 2 b_truth_of [a0, a1] μ := rfl
abbrev i_rounded : Nat := 6
theorem f_rounded {fu k : Nat} {μ : Mu} {a0 a1 : D} : phi T fu (k + 1) 6 [a0, a1] μ = runB ⟨phi T fu k, fu⟩ 2 b_rounded [a0, a1] μ := rfl
abbrev i_place_below : Nat := 7
theorem f_place_below {fu k : Nat} {μ : Mu} {a0 a1 : D} : phi T fu (k + 1) 7 [a0, a1] μ = runB ⟨phi T fu k, fu⟩ 5 b_place_below [a0, a1] μ := rfl
abbrev i_place_above : Nat := 8
theorem f_place_above {fu k : Nat} {μ : Mu} {a0 a1 : D} : phi T fu (k + 1) 8 [a0, a1] μ = runB ⟨phi T fu k, fu⟩ 5 b_place_above [a0, a1] μ := rfl
abbrev i__law_draw : Nat := 9
theorem f__law_draw {fu k : Nat} {μ : Mu} {a0 a1 a2 : D} : phi T fu (k + 1) 9 [a0, a1, a2] μ = runB ⟨phi T fu k, fu⟩ 6 b__law_draw [a0, a1, a2] μ := rfl
abbrev i__law_wrapped : Nat := 10
theorem f__law_wrapped {fu k : Nat} {μ : Mu} {a0 : D} : phi T fu (k + 1) 10 [a0] μ = runB ⟨phi T fu k, fu⟩ 1 b__law_wrapped [a0] μ := rfl
abbrev i__law_joined : Nat := 11
theorem f__law_joined {fu k : Nat} {μ : Mu} {a0 a1 a2 : D} : phi T fu (k + 1) 11 [a0, a1, a2] μ = runB ⟨phi T fu k, fu⟩ 3 b__law_joined [a0, a1, a2] μ := rfl
abbrev i__law_number : Nat := 12
theorem f__law_number {fu k : Nat} {μ : Mu} {a0 a1 : D} : phi T fu (k + 1) 12 [a0, a1] μ = runB ⟨phi T fu k, fu⟩ 3 b__law_number [a0, a1] μ := rfl
abbrev i__law_pair : Nat := 13
theorem f__law_pair {fu k : Nat} {μ : Mu} {a0 a1 : D} : phi T fu (k + 1) 13 [a0, a1] μ = runB ⟨phi T fu k, fu⟩ 4 b__law_pair [a0, a1] μ := rfl
abbrev i__law_due : Nat := 14
theorem f__law_due {fu k : Nat} {μ : Mu} {a0 a1 a2 : D} : phi T fu (k + 1) 14 [a0, a1, a2] μ = runB ⟨phi T fu k, fu⟩ 8 b__law_due [a0, a1, a2] μ := rfl
abbrev i_law : Nat := 15
theorem f_law {fu k : Nat} {μ : Mu} {a0 : D} : phi T fu (k + 1) 15 [a0] μ = runB ⟨phi T fu k, fu⟩ 16 b_law [a0] μ := rfl
end K31
local macro_rules | `(tactic| simp_all! only [$ls,*]) => `(tactic| simp only [Tk.kBind_ap, Tk.kBin2_ap, Tk.kBin1_ap, Tk.kNeg_ap, Tk.kCmp2_ap, Tk.kCmp1_ap, Tk.kChn3_ap, Tk.kChn2_ap, Tk.kChn1_ap, Tk.kAnd_ap, Tk.kOr_ap, Tk.kNot_ap, Tk.kIte_ap, Tk.kIx2_ap, Tk.kIx1_ap, Tk.kSl3_ap, Tk.kSl2_ap, Tk.kSl1_ap, Tk.kCall_ap, Tk.kBlt_ap, Tk.kMth2_ap, Tk.kMth1_ap, Tk.kTup_ap, Tk.kLst_ap, Tk.kLc_ap, Tk.kIn2_ap, Tk.kLc2_ap, Tk.kDic_ap, Tk.kCons2_ap, Tk.kCons1_ap, Tk.kOs_ap, Tk.kVal_ap, Tk.kR1_ap, Tk.kR2b_ap, Tk.kR2a_ap, Tk.kPc3_ap, Tk.kPc2_ap, Tk.kPc1_ap, Tk.tAnd_ap, Tk.tOr_ap, Tk.tNot_ap, Tk.kBo_ap, Tk.kTru_ap, Tk.kAsg_ap, Tk.kX_ap, Tk.kSet4_ap, Tk.kSet3_ap, Tk.kSet2_ap, Tk.kSet1_ap, Tk.kAug3_ap, Tk.kAug2_ap, Tk.kAug1_ap, Tk.kExp_ap, Tk.kIfs_ap, Tk.kFor_ap, Tk.seqK_n, Tk.seqK_r, Tk.seqK_b, Tk.seqK_c, Tk.seqK_x, Tk.runK_n, Tk.runK_r, Tk.runK_b, Tk.runK_c, Tk.runK_x, Tk.w_ok, Tk.w_stuck, Tk.ws_nx, Tk.ws_ret, Tk.ws_stuck, Tk.w_bind, Tk.w_ifs, Tk.rdV_0, Tk.rdV_s, Tk.andR_b, Tk.orR_b, Tk.w_v, Tk.w_c, Tk.w_tup, Tk.w_lst, Tk.w_bin, Tk.w_neg, Tk.w_cmp, Tk.w_chn, Tk.w_and, Tk.w_or, Tk.w_not, Tk.w_ite, Tk.w_ix, Tk.w_sl, Tk.w_call, Tk.w_blt, Tk.w_mth, Tk.w_lc, Tk.w_lc2, Tk.w_dic, Tk.w_nil, Tk.w_cons, Tk.w_on, Tk.w_os, Tk.w_tn, Tk.w_ts, Tk.w_iv, Tk.w_i1, Tk.w_i2, Tk.w_pn, Tk.w_pc, Tk.t_and, Tk.t_or, Tk.t_not, Tk.t_cmp, Tk.t_chn, Tk.t_v, Tk.t_c, Tk.t_ix, Tk.t_call, Tk.t_blt, Tk.t_mth, Tk.s_asg, Tk.s_setix, Tk.s_aug, Tk.s_expr, Tk.s_ret, Tk.s_retn, Tk.s_ifs, Tk.s_for, Tk.s_while, Tk.s_pass, Tk.s_brk, Tk.s_cont, Tk.s_nil, Tk.s_cons, Tk.w_runB, Tk.w_in2, Tk.sizeLine_eq, Tk.setR_s, Tk.ixN_0, Tk.ixN_1, Tk.ixN_l, Tk.resO_s, Tk.ix_tup, Tk.atI_0, Tk.atI_1, Tk.atI_l, Tk.b_add, Tk.b_sub, Tk.b_mul, Tk.b_pow, Tk.cmulS_r, Tk.cmulS_l, Tk.small_u, Tk.natAbs_l, Tk.b_div, Tk.b_mod, Tk.b_tup, Tk.b_str, Tk.a_add, Tk.a_sub, Tk.n_int, Tk.optB_s, Tk.c_eq, Tk.c_ne, Tk.c_lt, Tk.c_le, Tk.c_gt, Tk.c_ge, Tk.c_in, Tk.c_ni, Tk.inD_tup, Tk.eqD_ii, Tk.eqD_ss, Tk.eqD_nn, Tk.eqD_bb, Tk.eqD_iv, Tk.eqF_ii, Tk.eqF_ss, Tk.bl_len_tup, Tk.bl_int, Tk.bl_bool, Tk.bl_max, Tk.bl_min, Tk.optN_s, Tk.bl_list_tup, Tk.bl_isi, Tk.newl_eq, Tk.tru_b, Tk.tru_n, Tk.tru_i, Tk.not_b, Tk.valS_t, Tk.rng1_i, Tk.rng2_i, Tk.optI_i, Tk.inF, Tk.flatD, Tk.at_app, Tk.at_app0, Tk.set_app, Tk.set_app0, Tk.lst_u, Tk.lstO_l, Tk.lstO_f, Tk.ix_u, Tk.optK_s, Tk.len_u, Tk.max_u, Tk.min_u, Tk.list_u, Tk.tuple_u, Tk.optJ_s, Tk.sorted_u, Tk.in_u, Tk.valO_s, Tk.valS_u, Tk.isLO_l, Tk.mk_u, Tk.appR_l, Tk.m_u, Tk.isDO_d, Tk.mk_g, Tk.getO_s, Tk.getO_i, Tk.g_u, Tk.disO_d, Tk.dis_u, Tk.key_s, Tk.key_i, Tk.valD_c, Tk.valD_n, Tk.setO_l, Tk.set_u, Tk.intsD, Tk.intsD_map, Tk.minI_c, Tk.maxI_c, Tk.boD_b, Tk.bindG_n, Tk.bindG_t, Tk.bindGs_n, Tk.bindGs_c, Tk.asgO_s, Tk.asgR_u, Nat.reduceAdd, Nat.reduceSub, Nat.reduceLeDiff, Nat.reduceLT, Int.reduceLT, Int.reduceLE, Int.reducePow, Int.reduceToNat, Int.reduceNeg, Nat.reducePow, Int.reduceAbs, List.all_cons, List.all_nil, List.any_cons, List.any_nil, Bool.and_true, Bool.true_and, Bool.or_false, Bool.false_or, Bool.or_true, Bool.true_or, Bool.and_false, Bool.false_and, Bool.not_true, Bool.not_false, Option.map_some, Option.bind_some, Option.isSome_some, Option.getD_some, Option.getD_none, and_self, true_and, and_true, decide_eq_true_eq, decide_true, beq_iff_eq, Bool.false_eq_true, beq_self_eq_true, if_true, if_false, List.set_set, List.append_assoc, Nat.add_assoc, List.length_append, List.set_cons_zero, List.set_cons_succ, List.getElem?_nil, List.getElem?_cons_zero, List.getElem?_cons_succ, List.length_cons, List.length_nil, List.map_cons, List.map_nil, List.cons_append, List.nil_append, List.replicate_succ, List.replicate_zero, Tk.at_items, Tk.lcA_ap, Tk.lcB_s, Tk.lcT_t, Tk.lcT_f, Tk.lcD_s, Tk.lcO_n, Tk.lcO_s, Tk.liA_ap, Tk.liB_s, Tk.liD_s, Tk.liO_n, Tk.liO_s, Tk.l2A_ap, Tk.l2D_s, Tk.l2O_n, Tk.l2O_s, Tk.turnK_n, Tk.turnK_c, Tk.turnK_b, Tk.turnK_r, Tk.turnK_x, Tk.foD_s, Tk.foO_n, Tk.foO_s, Tk.w_in2, Tk.whK_t, Tk.whK_f, K31.str_b, K31.str_e, K31.sx_0, K31.sx_1, K31.sx_2, K31.sx_3, K31.sx_4, K31.sx_5, K31.sx_6, K31.sx_7, K31.sx_8, Option.some_beq_some, Option.some.injEq, Nat.reduceBEq, Nat.reduceEqDiff, $ls,*])

namespace K31
open PySem PySem.Spec PyProof.Rows L2 Tk
abbrev iv (a b : Int) : D := .tup [.int a, .int b]
section
variable {fu k : Nat} {μ : Mu} {N : D → Mu → Prop} {X : XQ} {a b c d : Int}
theorem w_joined : W (phi T fu (k + 1) 0 [iv a b, iv c d] μ) N X = N (iv (min a c) (max b d)) μ := by
  rw [f_joined]; simp only [b_joined, b_joined_0_0]
  simp_all! only []
theorem w_within : W (phi T fu (k + 1) 1 [iv a b, iv c d] μ) N X = N (.bl (decide (c ≤ a) && decide (b ≤ d))) μ := by
  rw [f_within]; simp only [b_within, b_within_0_0]
  simp_all! only []
  by_cases h : c ≤ a
  · rw [if_pos h]; simp_all! only []; simp [h]
  · rw [if_neg h]; simp_all! only []; simp [h]
theorem w_cut : W (phi T fu (k + 1) 2 [iv a b, .int c, .int d] μ) N X = N (if max a c ≤ min b d then iv (max a c) (min b d) else .non) μ := by
  rw [f_cut]; simp only [b_cut, b_cut_0_0, b_cut_0_1]
  simp_all! only []
  by_cases h : max a c ≤ min b d
  · rw [if_pos h, if_pos h]; simp_all! only []
  · rw [if_neg h, if_neg h]; simp_all! only []
def b2i (x : Bool) : Int := if x then 1 else 0
theorem w_truth {x y : Bool} : W (phi T fu (k + 1) 5 [.bl x, .bl y] μ) N X = N (iv (b2i x) (1 - b2i y)) μ := by
  rw [f_truth_of]; simp only [b_truth_of, b_truth_of_0_0]
  simp_all! only []
  rfl
def kS : Nat → Str
  | 0 => "plus" | 1 => "minus" | 2 => "times" | 3 => "and" | 4 => "or" | 5 => "less" | 6 => "most" | 7 => "equal" | _ => "unlike"
def apart (a b c d : Int) : Bool := decide (b < c) || decide (d < a)
def same (a b c d : Int) : Bool := a == b && (a == c && b == d)
theorem w_less : W (phi T fu (k + 2) 4 [.str "less", iv a b, iv c d] μ) N X = N (iv (b2i (b < c)) (1 - b2i (d ≤ a))) μ := by
  rw [f_compared]; simp only [b_compared, b_compared_0_0, b_compared_5_0, b_compared_0_1, b_compared_3_0, b_compared_0_2, b_compared_0_3, b_compared_0_4, b_compared_1_0, b_compared_0_5]
  simp_all! only [↓w_truth]
theorem w_most : W (phi T fu (k + 2) 4 [.str "most", iv a b, iv c d] μ) N X = N (iv (b2i (b ≤ c)) (1 - b2i (d < a))) μ := by
  rw [f_compared]; simp only [b_compared, b_compared_0_0, b_compared_5_0, b_compared_0_1, b_compared_3_0, b_compared_0_2, b_compared_0_3, b_compared_0_4, b_compared_1_0, b_compared_0_5]
  simp_all! only [↓w_truth]
theorem w_equal : W (phi T fu (k + 2) 4 [.str "equal", iv a b, iv c d] μ) N X = N (iv (b2i (same a b c d)) (1 - b2i (apart a b c d))) μ := by
  rw [f_compared]; simp only [b_compared, b_compared_0_0, b_compared_5_0, b_compared_0_1, b_compared_3_0, b_compared_0_2, b_compared_0_3, b_compared_0_4, b_compared_1_0, b_compared_0_5]
  simp_all! only [↓w_truth]
  by_cases h1 : b < c
  · rw [if_pos h1]
    simp_all! only []
    by_cases h2 : a = b
    · rw [if_pos h2]; simp_all! only [↓w_truth]; simp [apart, same, h1, h2]
    · rw [if_neg h2]; simp_all! only [↓w_truth]; simp [apart, same, h1, h2, beq_eq_false_iff_ne.mpr h2]
  · rw [if_neg h1]
    simp_all! only []
    by_cases h2 : a = b
    · rw [if_pos h2]; simp_all! only [↓w_truth]; simp [apart, same, h1, h2]
    · rw [if_neg h2]; simp_all! only [↓w_truth]; simp [apart, same, h1, h2, beq_eq_false_iff_ne.mpr h2]
theorem w_unlike : W (phi T fu (k + 2) 4 [.str "unlike", iv a b, iv c d] μ) N X = N (iv (b2i (apart a b c d)) (1 - b2i (same a b c d))) μ := by
  rw [f_compared]; simp only [b_compared, b_compared_0_0, b_compared_5_0, b_compared_0_1, b_compared_3_0, b_compared_0_2, b_compared_0_3, b_compared_0_4, b_compared_1_0, b_compared_0_5]
  simp_all! only [↓w_truth]
  by_cases h1 : b < c
  · rw [if_pos h1]
    simp_all! only []
    by_cases h2 : a = b
    · rw [if_pos h2]; simp_all! only [↓w_truth]; simp [apart, same, h1, h2]
    · rw [if_neg h2]; simp_all! only [↓w_truth]; simp [apart, same, h1, h2, beq_eq_false_iff_ne.mpr h2]
  · rw [if_neg h1]
    simp_all! only []
    by_cases h2 : a = b
    · rw [if_pos h2]; simp_all! only [↓w_truth]; simp [apart, same, h1, h2]
    · rw [if_neg h2]; simp_all! only [↓w_truth]; simp [apart, same, h1, h2, beq_eq_false_iff_ne.mpr h2]
/-! sums -/
/-- the told interval, before it is cut -/
def told (kk : Nat) (a b c d : Int) : Int × Int := match kk with
  | 0 => (a + c, b + d)
  | 1 => (a - d, b - c)
  | 2 => (minL (a * c) [a * d, b * c, b * d], maxL (a * c) [a * d, b * c, b * d])
  | 3 => (minL (a * c) [a * d, b * c, b * d], maxL (a * c) [a * d, b * c, b * d])
  | 4 => (max a c, max b d)
  | 5 => (b2i (b < c), 1 - b2i (d ≤ a))
  | 6 => (b2i (b ≤ c), 1 - b2i (d < a))
  | 7 => (b2i (same a b c d), 1 - b2i (apart a b c d))
  | _ => (b2i (apart a b c d), 1 - b2i (same a b c d))
def cutI (p : Int × Int) : D := if -32768 ≤ p.1 ∧ p.2 ≤ 32767 then iv p.1 p.2 else iv (-32768) 32767
def R16 (a : Int) : Prop := -32768 ≤ a ∧ a ≤ 32767
theorem cm {a b : Int} (h : R16 a) : cmulB a b = true := cmul_l ⟨by have := h.1; omega, by have := h.2; omega⟩
theorem cutI_t {x y : Int} {N : D → Prop} (h : (decide (-32768 ≤ x) && decide (y ≤ 32767)) = true) (hN : N (cutI (x, y))) : N (iv x y) := by
  simp only [Bool.and_eq_true, decide_eq_true_eq] at h
  unfold cutI at hN
  rw [if_pos h] at hN
  exact hN
theorem cutI_f {x y : Int} {N : D → Prop} (h : ¬ (decide (-32768 ≤ x) && decide (y ≤ 32767)) = true) (hN : N (cutI (x, y))) : N (iv (-32768) 32767) := by
  simp only [Bool.and_eq_true, decide_eq_true_eq] at h
  unfold cutI at hN
  rw [if_neg h] at hN
  exact hN
theorem w_sum (kk : Nat) (ha : R16 a) (hb : R16 b) (hN : ∀ μ', Kp [] μ μ' → N (cutI (told kk a b c d)) μ') : W (phi T (fu + 9) (k + 3) 3 [.str (kS kk), iv a b, iv c d] μ) N X := by
  rw [f_sum_interval]; simp only [b_sum_interval, b_sum_interval_0_0, b_sum_interval_2_0, b_sum_interval_4_0, b_sum_interval_6_0, b_sum_interval_8_0, b_sum_interval_7_0, b_sum_interval_5_0, b_sum_interval_5_1, b_sum_interval_3_0, b_sum_interval_1_0, b_sum_interval_0_1]
  match kk with
  | 0 => simp_all! only [kS, ↓w_within]; split <;> rename_i h <;> simp_all! only [] <;> first | (refine cutI_t (N := fun z => N z _) h ?_; exact hN _ Kp.refl) | (refine cutI_f (N := fun z => N z _) h ?_; exact hN _ Kp.refl)
  | 1 => simp_all! only [kS, ↓w_within]; split <;> rename_i h <;> simp_all! only [] <;> first | (refine cutI_t (N := fun z => N z _) h ?_; exact hN _ Kp.refl) | (refine cutI_f (N := fun z => N z _) h ?_; exact hN _ Kp.refl)
  | 2 => simp_all! only [kS, ↓lc2N_s, ↓lc2I_s, at_items, ↓w_noexc, wipeD, cm ha, cm hb, ↓w_within]; split <;> rename_i h <;> simp_all! only [] <;> first | (refine cutI_t (N := fun z => N z _) h ?_; exact hN _ Kp.app) | (refine cutI_f (N := fun z => N z _) h ?_; exact hN _ Kp.app)
  | 3 => simp_all! only [kS, ↓lc2N_s, ↓lc2I_s, at_items, ↓w_noexc, wipeD, cm ha, cm hb, ↓w_within]; split <;> rename_i h <;> simp_all! only [] <;> first | (refine cutI_t (N := fun z => N z _) h ?_; exact hN _ Kp.app) | (refine cutI_f (N := fun z => N z _) h ?_; exact hN _ Kp.app)
  | 4 => simp_all! only [kS, ↓w_within]; split <;> rename_i h <;> simp_all! only [] <;> first | (refine cutI_t (N := fun z => N z _) h ?_; exact hN _ Kp.refl) | (refine cutI_f (N := fun z => N z _) h ?_; exact hN _ Kp.refl)
  | 5 => simp_all! only [kS, ↓w_less, ↓w_within]; split <;> rename_i h <;> simp_all! only [] <;> first | (refine cutI_t (N := fun z => N z _) h ?_; exact hN _ Kp.refl) | (refine cutI_f (N := fun z => N z _) h ?_; exact hN _ Kp.refl)
  | 6 => simp_all! only [kS, ↓w_most, ↓w_within]; split <;> rename_i h <;> simp_all! only [] <;> first | (refine cutI_t (N := fun z => N z _) h ?_; exact hN _ Kp.refl) | (refine cutI_f (N := fun z => N z _) h ?_; exact hN _ Kp.refl)
  | 7 => simp_all! only [kS, ↓w_equal, ↓w_within]; split <;> rename_i h <;> simp_all! only [] <;> first | (refine cutI_t (N := fun z => N z _) h ?_; exact hN _ Kp.refl) | (refine cutI_f (N := fun z => N z _) h ?_; exact hN _ Kp.refl)
  | n + 8 => simp_all! only [kS, ↓w_unlike, ↓w_within]; split <;> rename_i h <;> simp_all! only [] <;> first | (refine cutI_t (N := fun z => N z _) h ?_; exact hN _ Kp.refl) | (refine cutI_f (N := fun z => N z _) h ?_; exact hN _ Kp.refl)
/-! what the law awaits -/
theorem dict7 (v0 v1 v2 v3 v4 v5 v6 : D) : mergeD [] [(.str "plus", v0), (.str "minus", v1), (.str "times", v2), (.str "and", v3), (.str "or", v4), (.str "less", v5), (.str "most", v6)] = [(.str "plus", v0), (.str "minus", v1), (.str "times", v2), (.str "and", v3), (.str "or", v4), (.str "less", v5), (.str "most", v6)] := by
  simp_all! only [mergeD, List.foldl_cons, List.foldl_nil, putD]
def corner (kk : Nat) (x y : Int) : Int := match kk with
  | 0 => x + y
  | 1 => x - y
  | 2 => x * y
  | 3 => x * y
  | 4 => max x y
  | 5 => if x < y then 1 else 0
  | 6 => if x ≤ y then 1 else 0
  | _ => 0
theorem due_turn {x y : Int} {Ω : Om} (kk : Nat) (hx : R16 x) {o1 o2 o3 o6 o7 : Option D} (hN : N (.int (corner kk x y)) (μ ++ [.dic [(.str "plus", .int (x + y)), (.str "minus", .int (x - y)), (.str "times", .int (x * y)), (.str "and", .int (x * y)), (.str "or", .int (max x y)), (.str "less", .int (if x < y then 1 else 0)), (.str "most", .int (if x ≤ y then 1 else 0))]])) :
    W (ev Ω (.mth .get (.dic (.cons (.c (.str "plus")) (.bin .Add (.v 4) (.v 5)) (.cons (.c (.str "minus")) (.bin .Sub (.v 4) (.v 5)) (.cons (.c (.str "times")) (.bin .Mult (.v 4) (.v 5)) (.cons (.c (.str "and")) (.bin .Mult (.v 4) (.v 5)) (.cons (.c (.str "or")) (.blt .max (.cons (.v 4) (.cons (.v 5) .nil))) (.cons (.c (.str "less")) (.blt .int (.cons (.cmp .Lt (.v 4) (.v 5)) .nil)) (.cons (.c (.str "most")) (.blt .int (.cons (.cmp .LtE (.v 4) (.v 5)) .nil)) .nil)))))))) (.cons (.v 0) (.cons (.c (.int (0))) .nil))) [some (.str (kS kk)), o1, o2, o3, some (.int x), some (.int y), o6, o7] μ) N X := by
  match kk with
  | 0 => simp_all! only [kS, cm hx, dict7]; exact hN
  | 1 => simp_all! only [kS, cm hx, dict7]; exact hN
  | 2 => simp_all! only [kS, cm hx, dict7]; exact hN
  | 3 => simp_all! only [kS, cm hx, dict7]; exact hN
  | 4 => simp_all! only [kS, cm hx, dict7]; exact hN
  | 5 => simp_all! only [kS, cm hx, dict7]; exact hN
  | 6 => simp_all! only [kS, cm hx, dict7]; exact hN
  | 7 => simp_all! only [kS, cm hx, dict7]; exact hN
  | n + 8 => simp_all! only [kS, cm hx, dict7]; exact hN
theorem due_tail {e : Nat} {x : Int} {r : List Int} {Ω : Om} {o0 o1 o2 o4 o5 o6 o7 : Option D} {k' : KS} (h : μ[e]? = some (.lst ((x :: r).map .int))) (hk : k'.r = N) (hN : N (cutI (minL x r, maxL x r)) μ) :
    WS (evSs Ω b__law_due_0_3 [o0, o1, o2, some (.loc e), o4, o5, o6, o7] μ) k' := by
  unfold b__law_due_0_3 b__law_due_0_4
  simp_all! only [h]
  unfold cutI at hN
  by_cases h1 : minL x r < -32768
  · rw [if_pos h1]
    rw [if_neg (by dsimp only; omega)] at hN
    simp_all! only [b__law_due_1_0]
    rw [hk]
    exact hN
  · rw [if_neg h1]
    simp_all! only [h]
    by_cases h2 : 32767 < maxL x r
    · rw [if_pos h2]
      rw [if_neg (by dsimp only; omega)] at hN
      simp_all! only [b__law_due_1_0]
      rw [hk]
      exact hN
    · rw [if_neg h2]
      rw [if_pos (by dsimp only; omega)] at hN
      simp_all! only [h]
      rw [hk]
      exact hN
def shared (a b c d : Int) : Bool := decide (max a c ≤ min b d)
def single (a b c d : Int) : Bool := a == b && (c == d && (a == c && b == d))
theorem due_eq {Ω : Om} {o3 o4 o5 o6 o7 : Option D} {k' : KS} (hn : ∀ o6 o7, k'.n [some (.str "equal"), some (iv a b), some (iv c d), some (.loc μ.length), o4, o5, o6, o7] (μ ++ [.lst [.int (b2i (single a b c d)), .int (b2i (shared a b c d))]])) :
    WS (evSs Ω b__law_due_3_0 [some (.str "equal"), some (iv a b), some (iv c d), o3, o4, o5, o6, o7] μ) k' := by
  unfold b__law_due_3_0 b__law_due_3_1
  simp_all! only []
  have hn' := hn (some (.bl (shared a b c d))) (some (.bl (single a b c d)))
  unfold b2i at hn'
  by_cases h1 : a = b
  · rw [if_pos h1]
    simp_all! only []
    by_cases h2 : c = d
    · rw [if_pos h2]
      simp_all! only [b__law_due_3_2, b__law_due_3_3]
      rw [show single a b c d = (a == c && b == d) by simp [single, h1, h2]] at hn'
      simpa only [shared, decide_eq_true_eq, Bool.false_eq_true, if_false] using hn'
    · rw [if_neg h2]
      simp_all! only [b__law_due_3_2, b__law_due_3_3]
      rw [show single a b c d = false by simp [single, h2]] at hn'
      simpa only [shared, decide_eq_true_eq, Bool.false_eq_true, if_false] using hn'
  · rw [if_neg h1]
    simp_all! only [b__law_due_3_2, b__law_due_3_3]
    rw [show single a b c d = false by unfold single; rw [beq_eq_false_iff_ne.mpr h1]; rfl] at hn'
    simpa only [shared, decide_eq_true_eq, Bool.false_eq_true, if_false] using hn'
theorem due_un {Ω : Om} {o3 o4 o5 o6 o7 : Option D} {k' : KS} (hn : ∀ o6 o7, k'.n [some (.str "unlike"), some (iv a b), some (iv c d), some (.loc (μ.length + 1)), o4, o5, o6, o7] (μ ++ [.lst [.int (b2i (single a b c d)), .int (b2i (shared a b c d))], .lst [.int (1 - b2i (shared a b c d)), .int (1 - b2i (single a b c d))]])) :
    WS (evSs Ω b__law_due_3_0 [some (.str "unlike"), some (iv a b), some (iv c d), o3, o4, o5, o6, o7] μ) k' := by
  unfold b__law_due_3_0 b__law_due_3_1
  simp_all! only []
  have hn' := hn (some (.bl (shared a b c d))) (some (.bl (single a b c d)))
  unfold b2i at hn'
  by_cases h1 : a = b
  · rw [if_pos h1]
    simp_all! only []
    by_cases h2 : c = d
    · rw [if_pos h2]
      simp_all! only [b__law_due_3_2, b__law_due_3_3, b__law_due_4_0]
      rw [show single a b c d = (a == c && b == d) by simp [single, h1, h2]] at hn'
      simpa only [shared, decide_eq_true_eq, Bool.false_eq_true, if_false] using hn'
    · rw [if_neg h2]
      simp_all! only [b__law_due_3_2, b__law_due_3_3, b__law_due_4_0]
      rw [show single a b c d = false by simp [single, h2]] at hn'
      simpa only [shared, decide_eq_true_eq, Bool.false_eq_true, if_false] using hn'
  · rw [if_neg h1]
    simp_all! only [b__law_due_3_2, b__law_due_3_3, b__law_due_4_0]
    rw [show single a b c d = false by unfold single; rw [beq_eq_false_iff_ne.mpr h1]; rfl] at hn'
    simpa only [shared, decide_eq_true_eq, Bool.false_eq_true, if_false] using hn'
theorem eq_told (h1 : a ≤ b) (h2 : c ≤ d) : (minL (b2i (single a b c d)) [b2i (shared a b c d)], maxL (b2i (single a b c d)) [b2i (shared a b c d)]) = told 7 a b c d := by
  have hs : shared a b c d = !apart a b c d := by
    unfold shared apart
    rw [Bool.eq_iff_iff]
    simp only [decide_eq_true_eq, Bool.not_eq_true', Bool.or_eq_false_iff, decide_eq_false_iff_not]
    omega
  have hq : single a b c d = same a b c d := by
    unfold single same
    rw [Bool.eq_iff_iff]
    simp only [Bool.and_eq_true, beq_iff_eq]
    omega
  have ho : same a b c d = true → apart a b c d = false := fun h => by
    unfold same at h
    simp only [Bool.and_eq_true, beq_iff_eq] at h
    unfold apart
    simp only [Bool.or_eq_false_iff, decide_eq_false_iff_not]
    omega
  rw [hs, hq]
  cases q1 : same a b c d with
  | true => rw [ho q1]; simp only [told, minL, maxL, b2i, q1, ho q1]; decide
  | false => cases q2 : apart a b c d <;> simp only [told, minL, maxL, b2i, q1, q2] <;> decide
theorem un_told (h1 : a ≤ b) (h2 : c ≤ d) : (minL (1 - b2i (shared a b c d)) [1 - b2i (single a b c d)], maxL (1 - b2i (shared a b c d)) [1 - b2i (single a b c d)]) = told 8 a b c d := by
  have h := eq_told h1 h2
  simp only [told, minL, maxL, Prod.mk.injEq] at h ⊢
  omega
theorem w_due (kk : Nat) (ha : R16 a) (hb : R16 b) (hab : a ≤ b) (hcd : c ≤ d) (hN : ∀ μ', Kp [] μ μ' → N (cutI (told kk a b c d)) μ') : W (phi T (fu + 9) (k + 1) 14 [.str (kS kk), iv a b, iv c d] μ) N X := by
  rw [f__law_due]
  match kk with
  | 0 =>
    simp_all! only [b__law_due, b__law_due_0_0, b__law_due_0_1, b__law_due_0_2, b__law_due_7_0, b__law_due_8_0, kS, cm ha, cm hb, dict7, ↓forN_s, at_items, loopK]
    refine due_tail (N := N) (x := a + c) (r := [a + d, b + c, b + d]) at_app0 rfl ?_
    rw [show (minL (a + c) [a + d, b + c, b + d], maxL (a + c) [a + d, b + c, b + d]) = told 0 a b c d from ?_]
    · exact hN _ Kp.app
    · simp only [minL, maxL, told, Prod.mk.injEq]; omega
  | 1 =>
    simp_all! only [b__law_due, b__law_due_0_0, b__law_due_0_1, b__law_due_0_2, b__law_due_7_0, b__law_due_8_0, kS, cm ha, cm hb, dict7, ↓forN_s, at_items, loopK]
    refine due_tail (N := N) (x := a - c) (r := [a - d, b - c, b - d]) at_app0 rfl ?_
    rw [show (minL (a - c) [a - d, b - c, b - d], maxL (a - c) [a - d, b - c, b - d]) = told 1 a b c d from ?_]
    · exact hN _ Kp.app
    · simp only [minL, maxL, told, Prod.mk.injEq]; omega
  | 2 =>
    simp_all! only [b__law_due, b__law_due_0_0, b__law_due_0_1, b__law_due_0_2, b__law_due_7_0, b__law_due_8_0, kS, cm ha, cm hb, dict7, ↓forN_s, at_items, loopK]
    refine due_tail (N := N) (x := a * c) (r := [a * d, b * c, b * d]) at_app0 rfl ?_
    rw [show (minL (a * c) [a * d, b * c, b * d], maxL (a * c) [a * d, b * c, b * d]) = told 2 a b c d from ?_]
    · exact hN _ Kp.app
    · rfl
  | 3 =>
    simp_all! only [b__law_due, b__law_due_0_0, b__law_due_0_1, b__law_due_0_2, b__law_due_7_0, b__law_due_8_0, kS, cm ha, cm hb, dict7, ↓forN_s, at_items, loopK]
    refine due_tail (N := N) (x := a * c) (r := [a * d, b * c, b * d]) at_app0 rfl ?_
    rw [show (minL (a * c) [a * d, b * c, b * d], maxL (a * c) [a * d, b * c, b * d]) = told 3 a b c d from ?_]
    · exact hN _ Kp.app
    · rfl
  | 4 =>
    simp_all! only [b__law_due, b__law_due_0_0, b__law_due_0_1, b__law_due_0_2, b__law_due_7_0, b__law_due_8_0, kS, cm ha, cm hb, dict7, ↓forN_s, at_items, loopK]
    refine due_tail (N := N) (x := max a c) (r := [max a d, max b c, max b d]) at_app0 rfl ?_
    rw [show (minL (max a c) [max a d, max b c, max b d], maxL (max a c) [max a d, max b c, max b d]) = told 4 a b c d from ?_]
    · exact hN _ Kp.app
    · simp only [minL, maxL, told, Prod.mk.injEq]; omega
  | 5 =>
    simp_all! only [b__law_due, b__law_due_0_0, b__law_due_0_1, b__law_due_0_2, b__law_due_7_0, b__law_due_8_0, kS, cm ha, cm hb, dict7, ↓forN_s, at_items, loopK]
    refine due_tail (N := N) (x := if a < c then 1 else 0) (r := [if a < d then 1 else 0, if b < c then 1 else 0, if b < d then 1 else 0]) at_app0 rfl ?_
    rw [show (minL (if a < c then 1 else 0) [if a < d then 1 else 0, if b < c then 1 else 0, if b < d then 1 else 0], maxL (if a < c then 1 else 0) [if a < d then 1 else 0, if b < c then 1 else 0, if b < d then 1 else 0]) = told 5 a b c d from ?_]
    · exact hN _ Kp.app
    · simp only [minL, maxL, told, Prod.mk.injEq, b2i, decide_eq_true_eq]; (repeat' split) <;> omega
  | 6 =>
    simp_all! only [b__law_due, b__law_due_0_0, b__law_due_0_1, b__law_due_0_2, b__law_due_7_0, b__law_due_8_0, kS, cm ha, cm hb, dict7, ↓forN_s, at_items, loopK]
    refine due_tail (N := N) (x := if a ≤ c then 1 else 0) (r := [if a ≤ d then 1 else 0, if b ≤ c then 1 else 0, if b ≤ d then 1 else 0]) at_app0 rfl ?_
    rw [show (minL (if a ≤ c then 1 else 0) [if a ≤ d then 1 else 0, if b ≤ c then 1 else 0, if b ≤ d then 1 else 0], maxL (if a ≤ c then 1 else 0) [if a ≤ d then 1 else 0, if b ≤ c then 1 else 0, if b ≤ d then 1 else 0]) = told 6 a b c d from ?_]
    · exact hN _ Kp.app
    · simp only [minL, maxL, told, Prod.mk.injEq, b2i, decide_eq_true_eq]; (repeat' split) <;> omega
  | 7 =>
    simp_all! only [b__law_due, b__law_due_0_0, b__law_due_0_1, b__law_due_0_2, b__law_due_7_0, b__law_due_8_0, kS, cm ha, cm hb, dict7, ↓forN_s, at_items, loopK]
    refine due_eq fun o6 o7 => ?_
    simp_all! only []
    refine due_tail (N := N) (x := b2i (single a b c d)) (r := [b2i (shared a b c d)]) at_app rfl ?_
    rw [eq_told hab hcd]
    exact hN _ Kp.app
  | n + 8 =>
    simp_all! only [b__law_due, b__law_due_0_0, b__law_due_0_1, b__law_due_0_2, b__law_due_7_0, b__law_due_8_0, kS, cm ha, cm hb, dict7, ↓forN_s, at_items, loopK]
    refine due_un fun o6 o7 => ?_
    simp_all! only []
    refine due_tail (N := N) (x := 1 - b2i (shared a b c d)) (r := [1 - b2i (single a b c d)]) at_app rfl ?_
    rw [un_told hab hcd]
    exact hN _ Kp.app
end
end K31

namespace K31
open PySem PySem.Spec PyProof.Rows L2 Tk
section
variable {fu k : Nat} {μ : Mu} {N : D → Mu → Prop} {X : XQ} {a b c d : Int} {ns : List Int}
theorem w_dr (h : DSt 1 0 ns μ) (hl : ns.length ≤ 63) {size : Int} (h0 : 0 < size) (h1 : size < 1073741824) (hN : ∀ d μ', 0 ≤ d → d < size → Kp [1] μ μ' → DSt 1 0 ns μ' → N (.int d) μ') : W (phi T fu (k + 1) 9 [.loc 1, .loc 0, .int size] μ) N X := by
  rw [f__law_draw]
  exact w_draw h (by decide) (by omega) h0 h1 hN
theorem w_wrapped : W (phi T fu (k + 1) 10 [.int a] μ) N X = N (.int ((a + 32768) % 65536 - 32768)) μ := by
  rw [f__law_wrapped]; simp only [b__law_wrapped, b__law_wrapped_0_0]
  simp_all! only []
def madeI (kk : Nat) (a b : Int) : Int := match kk with
  | 0 => (a + b + 32768) % 65536 - 32768
  | 1 => (a - b + 32768) % 65536 - 32768
  | 2 => (a * b + 32768) % 65536 - 32768
  | 3 => a * b
  | 4 => max a b
  | 5 => if a < b then 1 else 0
  | 6 => if a ≤ b then 1 else 0
  | 7 => if a = b then 1 else 0
  | _ => 1 - if a = b then 1 else 0
theorem w_made (kk : Nat) (ha : R16 a) (hN : N (.int (madeI kk a b)) μ) : W (phi T fu (k + 2) 11 [.str (kS kk), .int a, .int b] μ) N X := by
  rw [f__law_joined]; simp only [b__law_joined, b__law_joined_0_0, b__law_joined_15_0, b__law_joined_0_1, b__law_joined_13_0, b__law_joined_0_2, b__law_joined_11_0, b__law_joined_0_3, b__law_joined_9_0, b__law_joined_0_4, b__law_joined_7_0, b__law_joined_0_5, b__law_joined_5_0, b__law_joined_0_6, b__law_joined_3_0, b__law_joined_0_7, b__law_joined_1_0, b__law_joined_0_8]
  match kk with
  | 0 => simp_all! only [kS, ↓w_wrapped]; exact hN
  | 1 => simp_all! only [kS, ↓w_wrapped]; exact hN
  | 2 => simp_all! only [kS, ↓w_wrapped, cm ha]; exact hN
  | 3 => simp_all! only [kS, ↓w_wrapped, cm ha]; exact hN
  | 4 => simp_all! only [kS, ↓w_wrapped]; exact hN
  | 5 => simp_all! only [kS, ↓w_wrapped]; exact hN
  | 6 => simp_all! only [kS, ↓w_wrapped]; exact hN
  | 7 => simp_all! only [kS, ↓w_wrapped]; exact hN
  | n + 8 =>
    simp_all! only [kS, ↓w_wrapped]
    rw [show (if (!(a == b)) = true then (1 : Int) else 0) = madeI (n + 8) a b by unfold madeI; by_cases h : a = b <;> simp [h]]
    exact hN
theorem w_number (h : DSt 1 0 ns μ) (hl : ns.length ≤ 63) (hN : ∀ a μ', R16 a → Kp [1] μ μ' → DSt 1 0 ns μ' → N (.int a) μ') : W (phi T fu (k + 2) 12 [.loc 1, .loc 0] μ) N X := by
  rw [f__law_number]; simp only [b__law_number, b__law_number_0_0, b__law_number_0_1, b__law_number_3_0, b__law_number_0_2, b__law_number_1_0, b__law_number_0_3]
  simp_all! only []
  refine w_dr h hl (by decide) (by decide) fun d μ1 d0 d1 k1 h1 => ?_
  simp_all! only []
  by_cases e0 : d = 0
  · rw [if_pos e0]
    simp_all! only []
    refine w_dr (h1.keep Kp.new (xs := []) (by simp) (by simp)) hl (by decide) (by decide) fun d2 μ2 g0 g1 k2 h2 => ?_
    have hm : μ2[μ1.length]? = some (.lst [.int (-32768), .int 32767, .int 0, .int 1, .int (-1), .int 181, .int 182, .int (-182)]) := k2.get at_new (by have := at_lt h1.scr; obtain ⟨_, _, e, _⟩ := h1.st; have := at_lt e; simp; omega)
    have kk : Kp [1] μ μ2 := k1.trans ((Kp.new).trans k2)
    have hd : d2 = 0 ∨ d2 = 1 ∨ d2 = 2 ∨ d2 = 3 ∨ d2 = 4 ∨ d2 = 5 ∨ d2 = 6 ∨ d2 = 7 := by omega
    rcases hd with rfl | rfl | rfl | rfl | rfl | rfl | rfl | rfl <;> (simp_all! only [hm]; exact hN _ _ (by unfold R16; omega) kk h2)
  · rw [if_neg e0]
    simp_all! only []
    by_cases e1 : d < 3
    · rw [if_pos e1]
      simp_all! only []
      refine w_dr h1 hl (by decide) (by decide) fun d2 μ2 g0 g1 k2 h2 => ?_
      simp_all! only []
      exact hN _ _ (by unfold R16; omega) (k1.trans k2) h2
    · rw [if_neg e1]
      simp_all! only []
      refine w_dr h1 hl (by decide) (by decide) fun d2 μ2 g0 g1 k2 h2 => ?_
      simp_all! only []
      exact hN _ _ (by unfold R16; omega) (k1.trans k2) h2
theorem w_pair (h : DSt 1 0 ns μ) (hl : ns.length ≤ 63) (hN : ∀ a b μ', R16 a → R16 b → a ≤ b → Kp [1] μ μ' → DSt 1 0 ns μ' → N (iv a b) μ') : W (phi T fu (k + 3) 13 [.loc 1, .loc 0] μ) N X := by
  rw [f__law_pair]; simp only [b__law_pair, b__law_pair_0_0, b__law_pair_0_1]
  simp_all! only []
  refine w_number h hl fun a μ1 ha k1 h1 => ?_
  simp_all! only []
  refine w_number h1 hl fun b μ2 hb k2 h2 => ?_
  simp_all! only []
  refine hN _ _ _ ?_ ?_ ?_ (k1.trans k2) h2
  all_goals unfold R16 at *; omega
/-! places -/
theorem atI_int {es : List Int} {i : Int} (h0 : 0 ≤ i) (h1 : i < es.length) : atI (es.map D.int) i = some (.int (es.getD i.toNat 0)) := by
  have hl : i.toNat < es.length := by omega
  rw [atI_nn h0, List.getElem?_map, List.getElem?_eq_getElem hl, List.getD_eq_getElem?_getD, List.getElem?_eq_getElem hl]
  rfl
def Inc (es : List Int) : Prop := ∀ i j : Nat, i ≤ j → j < es.length → es.getD i 0 ≤ es.getD j 0
theorem w_below {n : Nat} {es : List Int} {x : Int} (h : μ[n]? = some (.lst (es.map .int))) (hi : Inc es) (hl : es.length < fu) (h0 : 0 < es.length) (hx : es.getD 0 0 ≤ x)
    (hN : ∀ i : Nat, i < es.length → es.getD i 0 ≤ x → (∀ j : Nat, i < j → j < es.length → x < es.getD j 0) → N (.int i) μ) : W (phi T fu (k + 1) 7 [.loc n, .int x] μ) N X := by
  rw [f_place_below]
  simp_all! only [b_place_below, b_place_below_0_0, b_place_below_0_1, h, List.length_map]
  refine whileN_inv (fun m δ μ' => ∃ (lo hi : Int) (o : Option D), δ = [some (.loc n), some (.int x), some (.int lo), some (.int hi), o] ∧ μ' = μ ∧ 0 ≤ lo ∧ lo ≤ hi ∧ hi < es.length ∧ es.getD lo.toNat 0 ≤ x ∧ (∀ j : Nat, hi < j → j < es.length → x < es.getD j 0) ∧ m = (hi - lo).toNat) (fun m δ μ' hI => ?_) fu (es.length - 1) _ _ (by omega) ⟨0, es.length - 1, none, rfl, rfl, by omega, by omega, by omega, hx, fun j h1 h2 => by omega, by omega⟩
  obtain ⟨lo, hi', o, rfl, rfl, q1, q2, q3, q4, q5, rfl⟩ := hI
  simp_all! only []
  by_cases hc : lo < hi'
  · rw [decide_eq_true hc]
    simp_all! only [b_place_below_1_0, b_place_below_1_1, h]
    rw [atI_int (by omega) (by omega)]
    simp_all! only []
    by_cases hd : es.getD ((lo + hi' + 1) / 2).toNat 0 ≤ x
    · rw [if_pos hd]
      simp_all! only [b_place_below_2_0, loopK]
      exact ⟨_, by omega, _, _, _, rfl, by omega, by omega, by omega, hd, q5, rfl⟩
    · rw [if_neg hd]
      simp_all! only [b_place_below_3_0, loopK]
      refine ⟨_, by omega, _, _, _, rfl, by omega, by omega, by omega, q4, fun j h1 h2 => ?_, rfl⟩
      have := hi ((lo + hi' + 1) / 2).toNat j (by omega) h2
      omega
  · rw [decide_eq_false hc]
    simp_all! only [b_place_below_0_2]
    have : hi' = lo := by omega
    subst this
    rw [show (D.int hi') = D.int (hi'.toNat : Int) by congr 1; omega]
    exact hN _ (by omega) q4 fun j h1 h2 => q5 j (by omega) h2
theorem w_above {n : Nat} {es : List Int} {x : Int} (h : μ[n]? = some (.lst (es.map .int))) (hi : Inc es) (hl : es.length < fu) (h0 : 0 < es.length) (hx : x ≤ es.getD (es.length - 1) 0)
    (hN : ∀ i : Nat, i < es.length → x ≤ es.getD i 0 → (∀ j : Nat, j < i → es.getD j 0 < x) → N (.int i) μ) : W (phi T fu (k + 1) 8 [.loc n, .int x] μ) N X := by
  rw [f_place_above]
  simp_all! only [b_place_above, b_place_above_0_0, b_place_above_0_1, h, List.length_map]
  refine whileN_inv (fun m δ μ' => ∃ (lo hi : Int) (o : Option D), δ = [some (.loc n), some (.int x), some (.int lo), some (.int hi), o] ∧ μ' = μ ∧ 0 ≤ lo ∧ lo ≤ hi ∧ hi < es.length ∧ x ≤ es.getD hi.toNat 0 ∧ (∀ j : Nat, j < lo → es.getD j 0 < x) ∧ m = (hi - lo).toNat) (fun m δ μ' hI => ?_) fu (es.length - 1) _ _ (by omega) ⟨0, es.length - 1, none, rfl, rfl, by omega, by omega, by omega, by rw [show ((es.length : Int) - 1).toNat = es.length - 1 by omega]; exact hx, fun j h1 => by omega, by omega⟩
  obtain ⟨lo, hi', o, rfl, rfl, q1, q2, q3, q4, q5, rfl⟩ := hI
  simp_all! only []
  by_cases hc : lo < hi'
  · rw [decide_eq_true hc]
    simp_all! only [b_place_above_1_0, b_place_above_1_1, h]
    rw [atI_int (by omega) (by omega)]
    simp_all! only []
    by_cases hd : x ≤ es.getD ((lo + hi') / 2).toNat 0
    · rw [if_pos hd]
      simp_all! only [b_place_above_2_0, loopK]
      exact ⟨_, by omega, _, _, _, rfl, by omega, by omega, by omega, hd, q5, rfl⟩
    · rw [if_neg hd]
      simp_all! only [b_place_above_3_0, loopK]
      refine ⟨_, by omega, _, _, _, rfl, by omega, by omega, by omega, q4, fun j h1 => ?_, rfl⟩
      have := hi j ((lo + hi') / 2).toNat (by omega) (by omega)
      omega
  · rw [decide_eq_false hc]
    simp_all! only [b_place_above_0_2]
    have : hi' = lo := by omega
    subst this
    rw [show (D.int hi') = D.int (hi'.toNat : Int) by congr 1; omega]
    exact hN _ (by omega) q4 fun j h1 => q5 j (by omega)
theorem minL_at {r : List Int} {x : Int} {m : Int} (hm : m ∈ x :: r) (hle : ∀ y ∈ x :: r, m ≤ y) : minL x r = m := by
  have h1 := minL_le r x m hm
  have h2 := hle _ (minL_mem r x)
  omega
theorem maxL_at {r : List Int} {x : Int} {m : Int} (hm : m ∈ x :: r) (hle : ∀ y ∈ x :: r, y ≤ m) : maxL x r = m := by
  have h1 := maxL_le r x m hm
  have h2 := hle _ (maxL_mem r x)
  omega
theorem maxI_at {l : List Int} {m : Int} (hm : m ∈ l) (hle : ∀ y ∈ l, y ≤ m) : maxI l = some m := by
  cases l with
  | nil => cases hm
  | cons x r => rw [maxI_c, maxL_at hm hle]
theorem minI_at {l : List Int} {m : Int} (hm : m ∈ l) (hle : ∀ y ∈ l, m ≤ y) : minI l = some m := by
  cases l with
  | nil => cases hm
  | cons x r => rw [minI_c, minL_at hm hle]
theorem getD_mem {es : List Int} {i : Nat} (h : i < es.length) : es.getD i 0 ∈ es := by
  rw [List.getD_eq_getElem?_getD, List.getElem?_eq_getElem h]
  exact List.getElem_mem h
theorem mem_getD {es : List Int} {y : Int} (h : y ∈ es) : ∃ i, i < es.length ∧ es.getD i 0 = y := by
  obtain ⟨i, hi, e⟩ := List.getElem_of_mem h
  exact ⟨i, hi, by rw [List.getD_eq_getElem?_getD, List.getElem?_eq_getElem hi]; exact e⟩
/-- rounding down, up -/
def downI (es : List Int) (x : Int) : Int := (maxI (es.filter fun e => decide (e ≤ x))).getD 0
def upI (es : List Int) (x : Int) : Int := (minI (es.filter fun e => decide (x ≤ e))).getD 0
theorem w_rounded {n : Nat} {es : List Int} (h : μ[n]? = some (.lst (es.map .int))) (hi : Inc es) (hl : es.length < fu) (h0 : 0 < es.length) (ha : es.getD 0 0 ≤ a) (hb : b ≤ es.getD (es.length - 1) 0)
    (hN : N (iv (downI es a) (upI es b)) μ) : W (phi T fu (k + 2) 6 [iv a b, .loc n] μ) N X := by
  rw [f_rounded]; simp only [b_rounded, b_rounded_0_0]
  simp_all! only []
  refine w_below h hi hl h0 ha fun i i1 i2 i3 => ?_
  simp_all! only [h]
  rw [atI_int (by omega) (by omega)]
  simp_all! only []
  refine w_above h hi hl h0 hb fun j j1 j2 j3 => ?_
  simp_all! only [h]
  rw [atI_int (by omega) (by omega)]
  simp_all! only []
  have e1 : downI es a = es.getD i 0 := by
    unfold downI
    rw [maxI_at (m := es.getD i 0)]
    · rfl
    · exact List.mem_filter.mpr ⟨getD_mem i1, decide_eq_true i2⟩
    · intro y hy
      obtain ⟨hy1, hy2⟩ := List.mem_filter.mp hy
      obtain ⟨q, hq, rfl⟩ := mem_getD hy1
      have hy3 := of_decide_eq_true hy2
      by_cases hqi : q ≤ i
      · exact hi q i hqi i1
      · have := i3 q (by omega) hq
        omega
  have e2 : upI es b = es.getD j 0 := by
    unfold upI
    rw [minI_at (m := es.getD j 0)]
    · rfl
    · exact List.mem_filter.mpr ⟨getD_mem j1, decide_eq_true j2⟩
    · intro y hy
      obtain ⟨hy1, hy2⟩ := List.mem_filter.mp hy
      obtain ⟨q, hq, rfl⟩ := mem_getD hy1
      have hy3 := of_decide_eq_true hy2
      by_cases hqi : j ≤ q
      · exact hi j q hqi hq
      · have := j3 q (by omega)
        omega
  rw [e1, e2] at hN
  exact hN
end
end K31

namespace K31
open PySem PySem.Spec PyProof.Rows L2 Tk
/-! plain facts -/
section
variable {a b c d : Int}
def cutP (p : Int × Int) : Int × Int := if -32768 ≤ p.1 ∧ p.2 ≤ 32767 then p else (-32768, 32767)
theorem cutI_eq (p : Int × Int) : cutI p = iv (cutP p).1 (cutP p).2 := by
  unfold cutI cutP
  split <;> rfl
theorem mul_between {p q x y : Int} (h1 : p ≤ x) (h2 : x ≤ q) : (p * y ≤ x * y ∧ x * y ≤ q * y) ∨ (q * y ≤ x * y ∧ x * y ≤ p * y) := by
  rcases Int.le_total 0 y with h | h
  · exact .inl ⟨Int.mul_le_mul_of_nonneg_right h1 h, Int.mul_le_mul_of_nonneg_right h2 h⟩
  · exact .inr ⟨Int.mul_le_mul_of_nonpos_right h2 h, Int.mul_le_mul_of_nonpos_right h1 h⟩
theorem mul_corner {x y : Int} (h1 : a ≤ x) (h2 : x ≤ b) (h3 : c ≤ y) (h4 : y ≤ d) : minL (a * c) [a * d, b * c, b * d] ≤ x * y ∧ x * y ≤ maxL (a * c) [a * d, b * c, b * d] := by
  have e1 := mul_between (y := y) h1 h2
  have e2 := mul_between (y := a) h3 h4
  have e3 := mul_between (y := b) h3 h4
  rw [Int.mul_comm c a, Int.mul_comm y a, Int.mul_comm d a] at e2
  rw [Int.mul_comm c b, Int.mul_comm y b, Int.mul_comm d b] at e3
  simp only [minL, maxL]
  omega
theorem holds (kk : Nat) {x y : Int} (h1 : a ≤ x) (h2 : x ≤ b) (h3 : c ≤ y) (h4 : y ≤ d) (hm : -32768 ≤ madeI kk x y ∧ madeI kk x y ≤ 32767) :
    (cutP (told kk a b c d)).1 ≤ madeI kk x y ∧ madeI kk x y ≤ (cutP (told kk a b c d)).2 := by
  unfold cutP
  split
  · rename_i hc
    match kk with
    | 0 => simp only [told, madeI] at hc hm ⊢; omega
    | 1 => simp only [told, madeI] at hc hm ⊢; omega
    | 2 =>
      have := mul_corner h1 h2 h3 h4
      simp only [told, madeI] at hc hm ⊢
      generalize minL (a * c) [a * d, b * c, b * d] = p at *
      generalize maxL (a * c) [a * d, b * c, b * d] = q at *
      generalize x * y = z at *
      omega
    | 3 =>
      have := mul_corner h1 h2 h3 h4
      simp only [told, madeI] at hc hm ⊢
      exact this
    | 4 => simp only [told, madeI] at hc hm ⊢; omega
    | 5 => simp only [told, madeI, b2i, decide_eq_true_eq] at hc hm ⊢; (repeat' split) <;> omega
    | 6 => simp only [told, madeI, b2i, decide_eq_true_eq] at hc hm ⊢; (repeat' split) <;> omega
    | 7 =>
      simp only [told, madeI, b2i, same, apart, Bool.and_eq_true, Bool.or_eq_true, beq_iff_eq, decide_eq_true_eq] at hc hm ⊢
      (repeat' split) <;> omega
    | n + 8 =>
      simp only [told, madeI, b2i, same, apart, Bool.and_eq_true, Bool.or_eq_true, beq_iff_eq, decide_eq_true_eq] at hc hm ⊢
      (repeat' split) <;> omega
  · exact hm
theorem down_some {es : List Int} {x : Int} (h : ∃ e ∈ es, e ≤ x) : maxI (es.filter fun e => decide (e ≤ x)) = some (downI es x) := by
  unfold downI
  cases q : es.filter fun e => decide (e ≤ x) with
  | nil =>
    obtain ⟨e, h1, h2⟩ := h
    have : e ∈ es.filter fun e => decide (e ≤ x) := List.mem_filter.mpr ⟨h1, decide_eq_true h2⟩
    rw [q] at this
    cases this
  | cons z r => rw [maxI_c]; rfl
theorem up_some {es : List Int} {x : Int} (h : ∃ e ∈ es, x ≤ e) : minI (es.filter fun e => decide (x ≤ e)) = some (upI es x) := by
  unfold upI
  cases q : es.filter fun e => decide (x ≤ e) with
  | nil =>
    obtain ⟨e, h1, h2⟩ := h
    have : e ∈ es.filter fun e => decide (x ≤ e) := List.mem_filter.mpr ⟨h1, decide_eq_true h2⟩
    rw [q] at this
    cases this
  | cons z r => rw [minI_c]; rfl
theorem inc_of {es : List Int} (h : es.Pairwise (· ≤ ·)) : Inc es := by
  intro i j hij hj
  rw [List.getD_eq_getElem?_getD, List.getD_eq_getElem?_getD, List.getElem?_eq_getElem hj, List.getElem?_eq_getElem (by omega)]
  show es[i] ≤ es[j]
  by_cases e : i = j
  · subst e; exact Int.le_refl _
  · exact List.pairwise_iff_getElem.mp h i j (by omega) hj (by omega)
theorem filt_int {p : D → Bool} {g : D → D} {q : Int → Bool} (hp : ∀ i, p (.int i) = q i) (hg : ∀ i, g (.int i) = .int i) : ∀ (es : List Int), ((es.map D.int).filter p).map g = (es.filter q).map D.int
  | [] => rfl
  | e :: es => by
    rw [List.map_cons, List.filter_cons, List.filter_cons, hp]
    cases q e with
    | true => simp only [if_true, List.map_cons, hg, filt_int hp hg es]
    | false => simpa using filt_int hp hg es
end
def kindsL : List D := [.str "plus", .str "minus", .str "times", .str "and", .str "or", .str "less", .str "most", .str "equal", .str "unlike"]
theorem kinds_at {d : Int} (h0 : 0 ≤ d) (h1 : d < 9) : atI kindsL d = some (.str (kS d.toNat)) := by
  have hd : d = 0 ∨ d = 1 ∨ d = 2 ∨ d = 3 ∨ d = 4 ∨ d = 5 ∨ d = 6 ∨ d = 7 ∨ d = 8 := by omega
  rcases hd with rfl | rfl | rfl | rfl | rfl | rfl | rfl | rfl | rfl <;> rfl
end K31

namespace K31
open PySem PySem.Spec PyProof.Rows L2 Tk
abbrev Om0 : Om := ⟨phi T 2000 5, 2000⟩
def GoodK (ns : List Int) (k' : KS) : Prop := ∀ (r : Dl) (μ' : Mu), r.length = 13 → DSt 1 0 ns μ' → μ'[2]? = some (.lst kindsL) → k'.n (some (.loc 0) :: some (.loc 1) :: some (.loc 2) :: r) μ'
section
variable {μ : Mu} {a b c d : Int} {ns : List Int} {k' : KS}
variable {o3 o5 o6 o7 o8 o9 o10 o11 o12 o13 o14 o15 : Option D}
theorem dst3 {μ : Mu} (h : DSt 1 0 ns μ) (hk : μ[2]? = some (.lst kindsL)) : 3 ≤ μ.length := by
  have := at_lt hk
  omega
theorem part_ends (hg : GoodK ns k') (h : DSt 1 0 ns μ) (hk : μ[2]? = some (.lst kindsL)) {e : Nat} {es : List Int} (he : μ[e]? = some (.lst (es.map .int))) (e1 : -32768 ∈ es) (e2 : 32767 ∈ es) (e3 : es.length ≤ 8) (ha : R16 a) (hb : R16 b) :
    WS (evSs Om0 b_law_1_13 [some (.loc 0), some (.loc 1), some (.loc 2), o3, some (iv a b), o5, o6, o7, o8, o9, o10, o11, o12, some (.loc e), o14, o15] μ) k' := by
  have h3 := dst3 h hk
  simp_all! only [b_law_1_13, b_law_1_14, he]
  have hs1 : -32768 ∈ sortI es := mem_sortI.mpr e1
  have hs2 : 32767 ∈ sortI es := mem_sortI.mpr e2
  have hs3 : (sortI es).length ≤ 8 := by rw [len_sortI]; exact e3
  have hs4 := inc_of (inc_sortI (l := es))
  generalize sortI es = fs at *
  have hd := down_some ⟨_, hs1, ha.1⟩
  have hu := up_some ⟨_, hs2, hb.2⟩
  refine lcN_at (μ0 := μ ++ [.lst (fs.map .int)]) (ds := fs.map .int) (fun d => match d with | .int i => decide (i ≤ a) | _ => false) (fun d => d) (by simp) (by simp) (.inr ⟨_, rfl, lst_l at_app0⟩) (by rw [List.length_map]; omega) (by rw [List.length_map, Tk.sizeLine_eq]; omega) (fun d hdm acc => ?_) ?_
  · obtain ⟨i, _, rfl⟩ := List.mem_map.mp hdm
    refine ⟨_, rfl, W.okof ?_, fun _ => W.okof ?_⟩
    · simp_all! only [wipeD]
    · simp_all! only [wipeD]
  rw [filt_int (q := fun e => decide (e ≤ a)) (fun _ => rfl) (fun _ => rfl)]
  simp_all! only [hd, b_law_1_15]
  have h0 : 0 < fs.length := List.length_pos_of_mem hs1
  obtain ⟨q1, q2, q3⟩ := mem_getD hs1
  obtain ⟨q4, q5, q6⟩ := mem_getD hs2
  have g1 := hs4 0 q1 (Nat.zero_le _) q2
  have g2 := hs4 q4 (fs.length - 1) (by omega) (by omega)
  have ha1 := ha.1
  have hb2 := hb.2
  refine w_rounded at_app hs4 (by omega) h0 (by omega) (by omega) ?_
  simp_all! only []
  refine lcN_at (μ0 := μ ++ [MO.lst (List.map D.int fs), MO.lst (List.map D.int (List.filter (fun e => decide (e ≤ a)) fs)), MO.lst (List.map D.int fs)]) (ds := fs.map .int) (fun d => match d with | .int i => decide (b ≤ i) | _ => false) (fun d => d) (by simp) (by simp) (.inr ⟨_, rfl, lst_l at_app0⟩) (by rw [List.length_map]; omega) (by rw [List.length_map, Tk.sizeLine_eq]; omega) (fun d hdm acc => ?_) ?_
  · obtain ⟨i, _, rfl⟩ := List.mem_map.mp hdm
    refine ⟨_, rfl, W.okof ?_, fun _ => W.okof ?_⟩
    · simp_all! only [wipeD]
    · simp_all! only [wipeD]
  rw [filt_int (q := fun e => decide (b ≤ e)) (fun _ => rfl) (fun _ => rfl)]
  simp_all! only [hu, b_law_2_0]
  exact hg _ _ rfl (h.keep Kp.app (xs := []) (by simp) (by simp)) (at_appl hk)
theorem part_loop (hl : ns.length ≤ 63) (hg : GoodK ns k') (h : DSt 1 0 ns μ) (hk : μ[2]? = some (.lst kindsL)) (ha : R16 a) (hb : R16 b) :
    WS (evSs Om0 b_law_1_11 [some (.loc 0), some (.loc 1), some (.loc 2), o3, some (iv a b), o5, o6, o7, o8, o9, o10, o11, o12, o13, o14, o15] μ) k' := by
  have h3 := dst3 h hk
  simp_all! only [b_law_1_11, b_law_1_12]
  refine forN_rng (fun i δ μ' => ∃ (o8 o14 : Option D) (es : List Int), δ = [some (.loc 0), some (.loc 1), some (.loc 2), o3, some (iv a b), o5, o6, o7, o8, o9, o10, o11, o12, some (.loc μ.length), o14, o15] ∧ DSt 1 0 ns μ' ∧ μ'[2]? = some (.lst kindsL) ∧ μ'[μ.length]? = some (.lst (es.map .int)) ∧ -32768 ∈ es ∧ 32767 ∈ es ∧ es.length ≤ 2 + i) ?_ (by decide) (fun i δ μ' hi hI => ?_) (fun δ μ' hI => ?_)
  · exact ⟨_, _, [-32768, 32767], rfl, h.keep Kp.app (xs := []) (by simp) (by simp), at_appl hk, at_app0, by simp, by simp, by simp⟩
  · obtain ⟨p8, p14, es, rfl, g1, g2, g3, g4, g5, g6⟩ := hI
    refine ⟨_, rfl, ?_⟩
    have hi6 : i < 6 := hi
    simp_all! only [b_law_4_0]
    refine w_number g1 hl fun x μ1 hx k1 h1 => ?_
    have m2 : μ1[2]? = some (.lst kindsL) := k1.get g2 (by simp)
    have m3 : μ1[μ.length]? = some (.lst (es.map .int)) := k1.get g3 (by simp; omega)
    simp_all! only [b_law_4_1, m3, all_flat_int]
    cases hin : (es.map D.int).any fun y => eqF y (.int x) with
    | true =>
      simp_all! only [b_law_5_0, loopK]
      exact ⟨_, _, es, rfl, h1, m2, m3, g4, g5, by omega⟩
    | false =>
      simp_all! only [b_law_5_0, loopK, m3, List.length_map]
      refine ⟨by omega, _, _, es ++ [x], rfl, h1.keep (Kp.set (xs := [μ.length]) (by simp)) (by simp; omega) (by simp; omega), by rw [at_ne (by omega)]; exact m2, ?_, by simp [g4], by simp [g5], by simp; omega⟩
      rw [at_set m3]
      simp
  · obtain ⟨p8, p14, es, rfl, g1, g2, g3, g4, g5, g6⟩ := hI
    simp_all! only []
    exact part_ends hg g1 g2 g3 g4 g5 (by have : (6 : Int).toNat = 6 := rfl; omega) ha hb
theorem part_checks (hl : ns.length ≤ 63) (hg : GoodK ns k') (h : DSt 1 0 ns μ) (hk : μ[2]? = some (.lst kindsL)) (ha : R16 a) (hb : R16 b) :
    WS (evSs Om0 b_law_1_6 [some (.loc 0), some (.loc 1), some (.loc 2), o3, some (iv a b), some (iv c d), o6, o7, o8, o9, o10, o11, o12, o13, o14, o15] μ) k' := by
  have cutd : ∀ (oo : D), oo = (if max a c ≤ min b d then iv (max a c) (min b d) else .non) → WS (evSs Om0 b_law_1_10 [some (.loc 0), some (.loc 1), some (.loc 2), o3, some (iv a b), some (iv c d), o6, o7, o8, o9, o10, o11, some oo, o13, o14, o15] μ) k' := fun oo ho => by
    subst ho
    simp_all! only [b_law_1_10, ↓w_cut]
    by_cases hc : max a c ≤ min b d
    · simp only [if_pos hc]
      simp_all! only [b_law_7_0]
      exact part_loop hl hg h hk ha hb
    · simp only [if_neg hc]
      simp_all! only [b_law_7_0]
      exact part_loop hl hg h hk ha hb
  have cuts : WS (evSs Om0 b_law_1_8 [some (.loc 0), some (.loc 1), some (.loc 2), o3, some (iv a b), some (iv c d), o6, o7, o8, o9, o10, o11, o12, o13, o14, o15] μ) k' := by
    simp_all! only [b_law_1_8, b_law_1_9]
    by_cases hc : max a c ≤ min b d
    · rw [if_neg (by omega)]
      simp_all! only []
      exact cutd _ (if_pos hc).symm
    · rw [if_pos (by omega)]
      simp_all! only [b_law_9_0]
      exact cutd _ (if_neg hc).symm
  simp_all! only [b_law_1_6, ↓w_joined, b_law_13_0, b_law_1_7, ↓w_within]
  by_cases h1 : c ≤ a
  · rw [if_pos h1]
    simp_all! only [b_law_11_0]
    rw [show decide (c ≤ a) = true from decide_eq_true h1]
    simp_all! only []
    exact cuts
  · rw [if_neg h1]
    simp_all! only [b_law_11_0]
    rw [show decide (c ≤ a) = false from decide_eq_false h1]
    simp_all! only []
    exact cuts
theorem part_inner (kk : Nat) (hl : ns.length ≤ 63) (hg : GoodK ns k') (h : DSt 1 0 ns μ) (hk : μ[2]? = some (.lst kindsL)) (ha : R16 a) (hb : R16 b) (hc : R16 c) (hd : R16 d) (hab : a ≤ b) (hcd : c ≤ d) :
    WS (evSs Om0 b_law_1_5 [some (.loc 0), some (.loc 1), some (.loc 2), o3, some (iv a b), some (iv c d), some (.str (kS kk)), some (iv (cutP (told kk a b c d)).1 (cutP (told kk a b c d)).2), o8, o9, o10, o11, o12, o13, o14, o15] μ) k' := by
  have ha' := ha
  have hb' := hb
  have hc' := hc
  have hd' := hd
  unfold R16 at ha' hb' hc' hd'
  simp_all! only [b_law_1_5]
  refine forN_rng (fun i δ μ' => ∃ (o8 o9 o10 o11 : Option D), δ = [some (.loc 0), some (.loc 1), some (.loc 2), o3, some (iv a b), some (iv c d), some (.str (kS kk)), some (iv (cutP (told kk a b c d)).1 (cutP (told kk a b c d)).2), o8, o9, o10, o11, o12, o13, o14, o15] ∧ DSt 1 0 ns μ' ∧ μ'[2]? = some (.lst kindsL)) ⟨_, _, _, _, rfl, h, hk⟩ (by decide) (fun i δ μ' hi hI => ?_) (fun δ μ' hI => ?_)
  · obtain ⟨p8, p9, p10, p11, rfl, g1, g2⟩ := hI
    refine ⟨_, rfl, ?_⟩
    simp_all! only [b_law_15_0]
    refine w_dr g1 hl (by omega) (by omega) fun x μ1 x0 x1 k1 h1 => ?_
    have m2 : μ1[2]? = some (.lst kindsL) := k1.get g2 (by simp)
    simp_all! only [b_law_15_1]
    refine w_dr h1 hl (by omega) (by omega) fun y μ2 y0 y1 k2 h2 => ?_
    have m3 : μ2[2]? = some (.lst kindsL) := k2.get m2 (by simp)
    simp_all! only [b_law_15_2]
    refine w_made kk (by unfold R16; omega) ?_
    have hh := holds kk (x := a + x) (y := c + y) (a := a) (b := b) (c := c) (d := d) (by omega) (by omega) (by omega) (by omega)
    generalize madeI kk (a + x) (c + y) = m at *
    generalize (cutP (told kk a b c d)).1 = tl at *
    generalize (cutP (told kk a b c d)).2 = th at *
    simp_all! only [b_law_15_3, b_law_16_0, loopK]
    by_cases c1 : -32768 ≤ m
    · rw [if_pos c1]
      simp_all! only []
      by_cases c2 : m ≤ 32767
      · rw [if_pos c2]
        obtain ⟨q1, q2⟩ := hh ⟨c1, c2⟩
        simp_all! only [q1, q2]
        exact ⟨_, _, _, _, rfl, h2, m3⟩
      · rw [if_neg c2]
        simp_all! only []
        exact ⟨_, _, _, _, rfl, h2, m3⟩
    · rw [if_neg c1]
      simp_all! only []
      exact ⟨_, _, _, _, rfl, h2, m3⟩
  · obtain ⟨p8, p9, p10, p11, rfl, g1, g2⟩ := hI
    exact part_checks hl hg g1 g2 ha hb
theorem part_rest (hl : ns.length ≤ 63) (hg : GoodK ns k') (h : DSt 1 0 ns μ) (hk : μ[2]? = some (.lst kindsL)) (ha : R16 a) (hb : R16 b) (hc : R16 c) (hd : R16 d) (hab : a ≤ b) (hcd : c ≤ d) :
    WS (evSs Om0 b_law_1_2 [some (.loc 0), some (.loc 1), some (.loc 2), o3, some (iv a b), some (iv c d), o6, o7, o8, o9, o10, o11, o12, o13, o14, o15] μ) k' := by
  simp_all! only [b_law_1_2]
  refine w_dr h hl (by omega) (by omega) fun x μ1 x0 x1 k1 h1 => ?_
  have m2 : μ1[2]? = some (.lst kindsL) := k1.get hk (by simp)
  simp_all! only [m2, kinds_at x0 x1, b_law_1_3]
  refine w_sum (fu := 1991) x.toNat ha hb fun μ2 k2 => ?_
  rw [cutI_eq]
  have h2 := h1.keep k2 (by simp) (by simp)
  have m3 : μ2[2]? = some (.lst kindsL) := k2.get m2 (by simp)
  simp_all! only [b_law_1_4]
  refine w_due (fu := 1991) x.toNat ha hb hab hcd fun μ3 k3 => ?_
  rw [cutI_eq]
  have h3 := h2.keep k3 (by simp) (by simp)
  have m4 : μ3[2]? = some (.lst kindsL) := k3.get m3 (by simp)
  simp_all! only [b_law_18_0]
  exact part_inner x.toNat hl hg h3 m4 ha hb hc hd hab hcd
theorem part_body (hl : ns.length ≤ 63) (hg : GoodK ns k') (h : DSt 1 0 ns μ) (hk : μ[2]? = some (.lst kindsL)) {o4 : Option D} :
    WS (evSs Om0 b_law_1_0 [some (.loc 0), some (.loc 1), some (.loc 2), o3, o4, o5, o6, o7, o8, o9, o10, o11, o12, o13, o14, o15] μ) k' := by
  simp_all! only [b_law_1_0]
  refine w_pair h hl fun a b μ1 ha hb hab k1 h1 => ?_
  have m1 : μ1[2]? = some (.lst kindsL) := k1.get hk (by simp)
  simp_all! only []
  refine w_pair h1 hl fun c d μ2 hc hd hcd k2 h2 => ?_
  have m2 : μ2[2]? = some (.lst kindsL) := k2.get m1 (by simp)
  simp_all! only [b_law_1_1]
  refine w_dr h2 hl (by omega) (by omega) fun x μ3 x0 x1 k3 h3 => ?_
  have m3 : μ3[2]? = some (.lst kindsL) := k3.get m2 (by simp)
  simp_all! only []
  by_cases e : x = 0
  · rw [if_pos e]
    simp_all! only [b_law_20_0]
    exact part_rest hl hg h3 m3 ha hb ha hb hab hab
  · rw [if_neg e]
    simp_all! only []
    exact part_rest hl hg h3 m3 ha hb hc hd hab hcd
end
theorem law_ok (ns : List Int) (hl : ns.length ≤ 63) : ∃ μ, phi p.T 2000 6 i_law [.loc 0] [.fl (ns.map .int)] = .ok (.bl true) μ := by
  refine W.get ?_
  show W (phi T 2000 (5 + 1) 15 [.loc 0] [.fl (ns.map .int)]) _ _
  rw [f_law]
  simp_all! only [b_law, b_law_0_0, b_law_0_1, b_law_0_2]
  refine forN_rng (fun i δ μ' => ∃ r : Dl, δ = some (.loc 0) :: some (.loc 1) :: some (.loc 2) :: r ∧ r.length = 13 ∧ DSt 1 0 ns μ' ∧ μ'[2]? = some (.lst kindsL)) ?_ (by decide) (fun i δ μ' hi hI => ?_) (fun δ μ' hI => ?_)
  · exact ⟨_, rfl, rfl, ⟨rfl, 0, 0, rfl, by decide, by decide⟩, rfl⟩
  · obtain ⟨r, rfl, hr, g1, g2⟩ := hI
    match r, hr with
    | [o3, o4, o5, o6, o7, o8, o9, o10, o11, o12, o13, o14, o15], _ =>
      refine ⟨_, rfl, ?_⟩
      refine part_body hl (fun r μ' h1 h2 h3 => ?_) g1 g2
      exact ⟨r, rfl, h1, h2, h3⟩
  · obtain ⟨r, rfl, hr, g1, g2⟩ := hI
    simp_all! only [b_law_0_3]
end K31

namespace K31
open PySem PySem.Spec PyProof.Rows L2 Tk
abbrev R : PySem.W.OpenRow := PySem.W.OpenLaw.row PySem.Challenge.rw_ticksahead_k31_intervals
abbrev fa : List He.Fa := gFa p.G ++ [.glo d_law.name]
abbrev fn : List He.DefD := p.T.map Dd.he
theorem run (w : World) : HandSHeadRun.RunEq R (PySem.W.view R.prog [20]) (hookM 4 fa fn (exM p)) (obM 4 fa fn (exM p)) 4000 ["LOW", "HIGH", "ALL", "joined", "within", "cut", "sum_interval", "compared", "truth_of", "rounded", "place_below", "place_above", "_law_draw", "_law_wrapped", "_law_joined", "_law_number", "_law_pair", "_law_due"] w := by
  intro os
  kernel_rfl
end K31
open PySem PySem.W PySem.Calls PyProof.Rows
theorem PySem.Challenge.cw_ticksahead_k31_intervals_holds : PySem.Challenge.rw_ticksahead_k31_intervals.Holds := by
  w_on; o_law
  refine HandSHeadRun.head_any (r := OpenLaw.row PySem.Challenge.rw_ticksahead_k31_intervals) (q := view (OpenLaw.row PySem.Challenge.rw_ticksahead_k31_intervals).prog [20]) (H := Tk.hookM 4 K31.fa K31.fn (Tk.exM K31.p)) (ob := Tk.obM 4 K31.fa K31.fn (Tk.exM K31.p)) (M := 4000) (loose := ["LOW", "HIGH", "ALL", "joined", "within", "cut", "sum_interval", "compared", "truth_of", "rounded", "place_below", "place_above", "_law_draw", "_law_wrapped", "_law_joined", "_law_number", "_law_pair", "_law_due"]) (d := HandSHeadRun.topDef (OpenLaw.row PySem.Challenge.rw_ticksahead_k31_intervals).prog 20) (kwd := []) Tk.obM_eq
    (by kernel_rfl) (fun s => by kernel_rfl) K31.run (by kernel_rfl) (by kernel_rfl) (by kernel_rfl) (by rfl) (by first | assumption | decide +kernel) (by decide +kernel) ⟨rfl, rfl, rfl, rfl, rfl, by decide +kernel⟩ ?hw ?hc
  case hw => w_witness2
  case hc =>
    exact Tk.law_walk (l := PySem.Challenge.rw_ticksahead_k31_intervals) (n := 63) (k := 6) (p := K31.p) (iL := K31.i_law) (fu := 2000) (m := 40) (dl := K31.d_law) (x := "script") rfl (by decide) (by kernel_rfl) ⟨rfl, by decide, by decide⟩ (by kernel_rfl) (by kernel_rfl) (by kernel_rfl) rfl K31.p_ok K31.p_b K31.p_bind K31.law_ok
