import PyProof.Rows.All
import Wide.All
import OpenK.AllK
import Wide.FinOn
import HandS.ForMost
import HandS.ForExc
import HandS.AnyAll
import HandS.IsInst
import HandS.TupAny
import HandS.SortInts
import KE.DataEq
import HandS.TupMul
import HandS.GenOver
import HandS.Lambda
import HandS.Star
import HandS.WordsDict
import HandS.DictComp
import PyProof.EnumMake
import PyProof.Draws
import KE.GoesMore
import HandS.Nested
import HandS.ExcInit
import HandS.ExcField
import HandS.More
import KE.KExcSuper
import HandS.Head0
import HandS.Head1
import HandS.Head2
import HandS.HeadEnd
import HandS.HeadHook1
import HandS.HeadHook2
import HandS.HeadHook4
import HandS.EndTab
import HandS.WordsExc
import PySem.Challenge.RW_ticksahead_k00_numbers_and_errors
set_option Elab.async false
set_option linter.all false
set_option maxRecDepth 100000
set_option maxHeartbeats 4000000
namespace Tk
open PySem PySem.Spec PyProof.Rows L2

/-- a value: tuples are data, what can change stands at a place -/
inductive D where
  | non | bl (b : Bool) | int (i : Int) | str (x : Str) | ty (n : String) | tup (xs : List D) | loc (n : Nat)
  deriving Inhabited
/-- what stands at a place -/
inductive MO where
  | lst (xs : List D) | fl (xs : List D) | dic (kvs : List (D × D)) | dit (kvs : List (D × D)) | ins (c : Nat) (fs : List (Str × D)) | xd (fs : List (Str × D))
  deriving Inhabited
abbrev Mu := List MO
/-- the outcome of an evaluation -/
inductive Res (α : Type) where
  | ok (a : α) (m : Mu) | exc (c : Nat) (fs : List (Str × D)) (m : Mu) | stuck
def Res.bind {α β : Type} (r : Res α) (f : α → Mu → Res β) : Res β := match r with
  | .ok a m => f a m
  | .exc c fs m => .exc c fs m
  | .stuck => .stuck

/-- K, where the classes stand, the tables of code objects -/
structure Kx where
  K : PySem.W.Frag
  cl : Nat → Addr
  tabs : List Addr
  xl : Nat → Addr

section
variable (κ : Kx) (ρ : List Addr) (H : Hp)
mutual
def Rep : D → V → Prop
  | .non, v => v = .non
  | .bl b, v => v = .bl b
  | .int i, v => v = .int i
  | .str x, v => v = .str x
  | .ty n, v => v = .ty n
  | .loc n, v => ∃ a, ρ[n]? = some a ∧ v = .ref a
  | .tup ds, v => ∃ a xs, v = .ref a ∧ SqT κ.K H a xs ∧ Reps ds xs
def Reps : List D → List V → Prop
  | [], vs => vs = []
  | d :: ds, vs => ∃ v r, vs = v :: r ∧ Rep d v ∧ Reps ds r
end
end
/-- a key of a dict -/
def keyD : D → Option Key
  | .int i => some (.inl i)
  | .str x => some (.inr x)
  | _ => none
def keysD : List D → Option (List Key)
  | [] => some []
  | d :: ds => (keyD d).bind fun k => (keysD ds).map fun ks => k :: ks
def RepK (κ : Kx) (ρ : List Addr) (H : Hp) : List (D × D) → List (Key × V) → Prop
  | [], vs => vs = []
  | d :: ds, vs => ∃ k v r, vs = (k, v) :: r ∧ keyD d.1 = some k ∧ Rep κ ρ H d.2 v ∧ RepK κ ρ H ds r
def RepT (κ : Kx) (ρ : List Addr) (H : Hp) : List (D × D) → List (List Key × V) → Prop
  | [], vs => vs = []
  | d :: ds, vs => ∃ xs k v r, vs = (k, v) :: r ∧ d.1 = .tup xs ∧ keysD xs = some k ∧ Rep κ ρ H d.2 v ∧ RepT κ ρ H ds r
def RepF (κ : Kx) (ρ : List Addr) (H : Hp) : List (Str × D) → List (Str × V) → Prop
  | [], vs => vs = []
  | d :: ds, vs => ∃ v r, vs = (d.1, v) :: r ∧ Rep κ ρ H d.2 v ∧ RepF κ ρ H ds r
def RepO (κ : Kx) (ρ : List Addr) (H : Hp) : MO → Addr → Prop
  | .lst ds, a => ∃ xs, H a = some (.lst xs) ∧ Reps κ ρ H ds xs
  | .fl ds, a => ∃ xs, Rd H a (.lst xs) ∧ Reps κ ρ H ds xs
  | .dic kvs, a => ∃ ks, H a = some (.dK ks) ∧ RepK κ ρ H kvs ks
  | .dit kvs, a => ∃ ks, H a = some (.dT ks) ∧ RepT κ ρ H kvs ks
  | .ins c fs, a => ∃ dx gs, H a = some (.ins (κ.cl c) dx gs) ∧ RepF κ ρ H fs gs
  | .xd fs, a => ∃ gs, H a = some (.xd gs) ∧ RepF κ ρ H fs gs

structure Rel (κ : Kx) (ρ : List Addr) (H : Hp) (μ : Mu) : Prop where
  len : ρ.length = μ.length
  nd : ρ.Nodup
  obj : ∀ (n : Nat) (o : MO), μ[n]? = some o → ∃ a, ρ[n]? = some a ∧ RepO κ ρ H o a
  tab : ∀ P ∈ κ.tabs, GxR.TabG H P
/-- later: places stay, tuples stay -/
structure Ext (ρ : List Addr) (H : Hp) (ρ' : List Addr) (H' : Hp) : Prop where
  pre : ∀ (n : Nat) a, ρ[n]? = some a → ρ'[n]? = some a
  tup : ∀ a xs, Rd H a (.tup xs) → Rd H' a (.tup xs)
theorem Ext.refl {ρ H} : Ext ρ H ρ H := ⟨fun _ _ h => h, fun _ _ h => h⟩
theorem Ext.trans {ρ H ρ1 H1 ρ2 H2} (a : Ext ρ H ρ1 H1) (b : Ext ρ1 H1 ρ2 H2) : Ext ρ H ρ2 H2 := ⟨fun n x h => b.pre n x (a.pre n x h), fun x xs h => b.tup x xs (a.tup x xs h)⟩
theorem Ext.sqt {K ρ H ρ1 H1 a xs} (e : Ext ρ H ρ1 H1) (h : SqT K H a xs) : SqT K H1 a xs := by
  rcases h with h | h
  · exact .inl (e.tup a xs h)
  · exact .inr h
section
variable {κ : Kx} {ρ ρ' : List Addr} {H H' : Hp}
mutual
theorem Rep.ext (e : Ext ρ H ρ' H') : ∀ (d : D) (v : V), Rep κ ρ H d v → Rep κ ρ' H' d v
  | .non, v, h => by unfold Rep at h ⊢; exact h
  | .bl b, v, h => by unfold Rep at h ⊢; exact h
  | .int i, v, h => by unfold Rep at h ⊢; exact h
  | .str x, v, h => by unfold Rep at h ⊢; exact h
  | .ty n, v, h => by unfold Rep at h ⊢; exact h
  | .loc n, v, h => by
    unfold Rep at h ⊢
    obtain ⟨a, h1, h2⟩ := h
    exact ⟨a, e.pre n a h1, h2⟩
  | .tup ds, v, h => by
    unfold Rep at h ⊢
    obtain ⟨a, xs, h1, h2, h3⟩ := h
    exact ⟨a, xs, h1, e.sqt h2, Reps.ext e ds xs h3⟩
theorem Reps.ext (e : Ext ρ H ρ' H') : ∀ (ds : List D) (vs : List V), Reps κ ρ H ds vs → Reps κ ρ' H' ds vs
  | [], vs, h => by unfold Reps at h ⊢; exact h
  | d :: ds, vs, h => by
    unfold Reps at h ⊢
    obtain ⟨v, r, h1, h2, h3⟩ := h
    exact ⟨v, r, h1, Rep.ext e d v h2, Reps.ext e ds r h3⟩
end
theorem RepK.ext (e : Ext ρ H ρ' H') : ∀ {ds vs}, RepK κ ρ H ds vs → RepK κ ρ' H' ds vs
  | [], _, h => h
  | d :: ds, _, h => by
    obtain ⟨k, v, r, h1, h2, h3, h4⟩ := h
    exact ⟨k, v, r, h1, h2, h3.ext e, h4.ext e⟩
theorem RepT.ext (e : Ext ρ H ρ' H') : ∀ {ds vs}, RepT κ ρ H ds vs → RepT κ ρ' H' ds vs
  | [], _, h => h
  | d :: ds, _, h => by
    obtain ⟨xs, k, v, r, h1, h2, h3, h4, h5⟩ := h
    exact ⟨xs, k, v, r, h1, h2, h3, h4.ext e, h5.ext e⟩
theorem RepF.ext (e : Ext ρ H ρ' H') : ∀ {ds vs}, RepF κ ρ H ds vs → RepF κ ρ' H' ds vs
  | [], _, h => h
  | d :: ds, _, h => by
    obtain ⟨v, r, h1, h2, h3⟩ := h
    exact ⟨v, r, h1, h2.ext e, h3.ext e⟩
end
end Tk

namespace Tk
open PySem PySem.Spec PyProof.Rows L2

theorem not_tup_lst {H : Hp} {a : Addr} {xs : List V} (h : H a = some (.lst xs)) : ∀ ys, ¬ Rd H a (.tup ys) := fun ys r => by
  rcases r with r | ⟨o, r⟩ <;> (rw [h] at r; cases r)
theorem not_tup_dK {H : Hp} {a : Addr} {xs : List (Key × V)} (h : H a = some (.dK xs)) : ∀ ys, ¬ Rd H a (.tup ys) := fun ys r => by
  rcases r with r | ⟨o, r⟩ <;> (rw [h] at r; cases r)
theorem not_tup_dT {H : Hp} {a : Addr} {xs : List (List Key × V)} (h : H a = some (.dT xs)) : ∀ ys, ¬ Rd H a (.tup ys) := fun ys r => by
  rcases r with r | ⟨o, r⟩ <;> (rw [h] at r; cases r)
theorem not_tup_ins {H : Hp} {a C dx : Addr} {fs : List (Str × V)} (h : H a = some (.ins C dx fs)) : ∀ ys, ¬ Rd H a (.tup ys) := fun ys r => by
  rcases r with r | ⟨o, r⟩ <;> (rw [h] at r; cases r)
section
variable {κ : Kx} {ρ ρ' : List Addr} {H H' : Hp} {μ : Mu}
theorem Ext.write {a : Addr} {o : HO} (hn : ∀ ys, ¬ Rd H a (.tup ys)) : Ext ρ H ρ (upd H a o) := ⟨fun _ _ h => h, fun b xs r => by
  have hb : b ≠ a := fun e => hn xs (by rw [← e]; exact r)
  rcases r with r | ⟨u, r⟩
  · exact .inl (by rw [upd_ne hb]; exact r)
  · exact .inr ⟨u, by rw [upd_ne hb]; exact r⟩⟩
theorem rd_ne {a p : Addr} {u : HO} (r : Rd H a u) (hp : H p = none) : a ≠ p := fun e => by
  rcases r with r | ⟨o, r⟩ <;> (rw [e, hp] at r; cases r)
theorem Ext.newt {p : Addr} {o : HO} (hp : H p = none) : Ext ρ H ρ (upd H p o) := .write fun ys r => rd_ne r hp rfl
theorem Ext.new {p : Addr} {o : HO} (hp : H p = none) : Ext ρ H (ρ ++ [p]) (upd H p o) := ⟨fun n a h => by
  have hn : n < ρ.length := (List.getElem?_eq_some_iff.mp h).1
  rw [List.getElem?_append_left hn]; exact h, Ext.newt (ρ := ρ) hp |>.tup⟩
theorem RepO.ext (e : Ext ρ H ρ' H') {a : Addr} (ha : H' a = H a) {o : MO} (h : RepO κ ρ H o a) : RepO κ ρ' H' o a := by
  cases o with
  | lst ds =>
    obtain ⟨xs, h1, h2⟩ := h
    exact ⟨xs, by rw [ha]; exact h1, h2.ext e⟩
  | fl ds =>
    obtain ⟨xs, h1, h2⟩ := h
    exact ⟨xs, by unfold Rd; rw [ha]; exact h1, h2.ext e⟩
  | dic ks =>
    obtain ⟨xs, h1, h2⟩ := h
    exact ⟨xs, by rw [ha]; exact h1, h2.ext e⟩
  | dit ks =>
    obtain ⟨xs, h1, h2⟩ := h
    exact ⟨xs, by rw [ha]; exact h1, h2.ext e⟩
  | ins c fs =>
    obtain ⟨dx, gs, h1, h2⟩ := h
    exact ⟨dx, gs, by rw [ha]; exact h1, h2.ext e⟩
  | xd fs =>
    obtain ⟨gs, h1, h2⟩ := h
    exact ⟨gs, by rw [ha]; exact h1, h2.ext e⟩
theorem RepO.some {a : Addr} {o : MO} (h : RepO κ ρ H o a) : H a ≠ none := by
  cases o with
  | lst ds =>
    obtain ⟨xs, h1, h2⟩ := h
    rw [h1]; exact fun z => nomatch z
  | fl ds =>
    obtain ⟨xs, h1, h2⟩ := h
    rcases h1 with h1 | ⟨o, h1⟩ <;> (rw [h1]; exact fun z => nomatch z)
  | dic ks =>
    obtain ⟨xs, h1, h2⟩ := h
    rw [h1]; exact fun z => nomatch z
  | dit ks =>
    obtain ⟨xs, h1, h2⟩ := h
    rw [h1]; exact fun z => nomatch z
  | ins c fs =>
    obtain ⟨dx, gs, h1, h2⟩ := h
    rw [h1]; exact fun z => nomatch z
  | xd fs =>
    obtain ⟨gs, h1, h2⟩ := h
    rw [h1]; exact fun z => nomatch z
theorem RepO.ntbl {a : Addr} {o : MO} (h : RepO κ ρ H o a) (ps : Array Value) : H a ≠ Option.some (HO.tbl ps) := by
  cases o with
  | lst ds =>
    obtain ⟨xs, h1, h2⟩ := h
    rw [h1]; exact fun z => nomatch z
  | fl ds =>
    obtain ⟨xs, h1, h2⟩ := h
    rcases h1 with h1 | ⟨o, h1⟩ <;> (rw [h1]; exact fun z => nomatch z)
  | dic ks =>
    obtain ⟨xs, h1, h2⟩ := h
    rw [h1]; exact fun z => nomatch z
  | dit ks =>
    obtain ⟨xs, h1, h2⟩ := h
    rw [h1]; exact fun z => nomatch z
  | ins c fs =>
    obtain ⟨dx, gs, h1, h2⟩ := h
    rw [h1]; exact fun z => nomatch z
  | xd fs =>
    obtain ⟨gs, h1, h2⟩ := h
    rw [h1]; exact fun z => nomatch z
theorem tab_upd {l : List Addr} (r : ∀ P ∈ l, GxR.TabG H P) {p : Addr} {o : HO} (hp : ∀ ps, H p ≠ some (.tbl ps)) : ∀ P ∈ l, GxR.TabG (upd H p o) P := fun P hP => by
  obtain ⟨ps, h1, h2⟩ := r P hP
  have hne : P ≠ p := fun e => hp ps (by rw [← e]; exact h1)
  exact ⟨ps, by rw [upd_ne hne]; exact h1, h2⟩
/-- the tables have grown -/
theorem Rel.tabbed (r : Rel κ ρ H μ) {P : Addr} (hP : GxR.TabG H P) (t : GxR.Tabbed P H H') : Rel κ ρ H' μ ∧ Ext ρ H ρ H' := by
  obtain ⟨ps, h1, h2⟩ := hP
  have et : Ext ρ H ρ H' := ⟨fun _ _ h => h, fun a xs h => by
    have ha : a ≠ P := fun e => by
      rcases h with h | ⟨o, h⟩ <;> (rw [e, h1] at h; cases h)
    unfold Rd
    rw [t.2 a ha]
    exact h⟩
  refine ⟨⟨r.len, r.nd, fun n o h => ?_, fun Q hQ => ?_⟩, et⟩
  · obtain ⟨a, h3, h4⟩ := r.obj n o h
    exact ⟨a, h3, h4.ext et (t.2 a fun e => h4.ntbl ps (by rw [e]; exact h1))⟩
  · by_cases e : Q = P
    · rw [e]; exact t.1
    · obtain ⟨qs, h3, h4⟩ := r.tab Q hQ
      exact ⟨qs, by rw [t.2 Q e]; exact h3, h4⟩
theorem Rel.at (r : Rel κ ρ H μ) {n : Nat} {a : Addr} (h : ρ[n]? = some a) : ∃ o, μ[n]? = some o ∧ RepO κ ρ H o a := by
  have hn : n < μ.length := by rw [← r.len]; exact (List.getElem?_eq_some_iff.mp h).1
  obtain ⟨b, h1, h2⟩ := r.obj n μ[n] (List.getElem?_eq_getElem hn)
  rw [h] at h1; cases h1
  exact ⟨_, List.getElem?_eq_getElem hn, h2⟩
theorem Rel.ne_none (r : Rel κ ρ H μ) {n : Nat} {a : Addr} (h : ρ[n]? = some a) : H a ≠ none := by
  obtain ⟨o, _, h2⟩ := r.at h
  exact h2.some
/-- an object that no place names is new, or is written -/
theorem Rel.other (r : Rel κ ρ H μ) {p : Addr} {o : HO} (hp : ∀ n : Nat, ρ[n]? ≠ some p) (hn : ∀ ys, ¬ Rd H p (.tup ys)) (ht : ∀ ps, H p ≠ some (.tbl ps)) : Rel κ ρ (upd H p o) μ :=
  ⟨r.len, r.nd, fun n u h => by
    obtain ⟨a, h1, h2⟩ := r.obj n u h
    exact ⟨a, h1, h2.ext (.write hn) (upd_ne fun e => hp n (by rw [← e]; exact h1))⟩, tab_upd r.tab ht⟩
theorem Rel.newt (r : Rel κ ρ H μ) {p : Addr} {o : HO} (hp : H p = none) : Rel κ ρ (upd H p o) μ :=
  r.other (fun n h => r.ne_none h hp) (fun ys x => rd_ne x hp rfl) fun ps h => by rw [hp] at h; cases h
theorem nodup_at {ρ : List Addr} (h : ρ.Nodup) {i j : Nat} {a : Addr} (hi : ρ[i]? = some a) (hj : ρ[j]? = some a) : i = j := by
  obtain ⟨h1, e1⟩ := List.getElem?_eq_some_iff.mp hi
  obtain ⟨h2, e2⟩ := List.getElem?_eq_some_iff.mp hj
  exact (List.getElem_inj h).mp (e1.trans e2.symm)
theorem Rel.write (r : Rel κ ρ H μ) {n : Nat} {a : Addr} {mo : MO} {ho : HO} (ha : ρ[n]? = some a) (hn : ∀ ys, ¬ Rd H a (.tup ys)) (new : RepO κ ρ (upd H a ho) mo a) : Rel κ ρ (upd H a ho) (μ.set n mo) :=
  ⟨by rw [List.length_set]; exact r.len, r.nd, fun m u h => by
    have hl : n < μ.length := by rw [← r.len]; exact (List.getElem?_eq_some_iff.mp ha).1
    by_cases hm : m = n
    · subst hm
      rw [List.getElem?_set_self hl] at h
      cases h
      exact ⟨a, ha, new⟩
    · rw [List.getElem?_set_ne (Ne.symm hm)] at h
      obtain ⟨b, h1, h2⟩ := r.obj m u h
      exact ⟨b, h1, h2.ext (.write hn) (upd_ne fun e => hm (nodup_at r.nd (by rw [← e]; exact h1) ha))⟩, by
    obtain ⟨o, _, h2⟩ := r.at ha
    exact tab_upd r.tab fun ps => h2.ntbl ps⟩
theorem Rel.alloc (r : Rel κ ρ H μ) {p : Addr} {mo : MO} {ho : HO} (hp : H p = none) (new : RepO κ (ρ ++ [p]) (upd H p ho) mo p) : Rel κ (ρ ++ [p]) (upd H p ho) (μ ++ [mo]) :=
  ⟨by rw [List.length_append, List.length_append, r.len]; rfl, by
    rw [List.nodup_append]
    refine ⟨r.nd, by simp, fun a ha b hb e => ?_⟩
    have hb' : b = p := by simpa using hb
    obtain ⟨i, hi, e1⟩ := List.getElem_of_mem ha
    exact r.ne_none (n := i) (a := p) (by rw [List.getElem?_eq_getElem hi, e1, e, hb']) hp, fun m u h => by
    by_cases hm : m < μ.length
    · rw [List.getElem?_append_left hm] at h
      obtain ⟨b, h1, h2⟩ := r.obj m u h
      exact ⟨b, by rw [List.getElem?_append_left (by rw [r.len]; exact hm)]; exact h1, h2.ext (.new hp) (upd_ne fun e => r.ne_none h1 (by rw [e]; exact hp))⟩
    · have hm2 : m = μ.length := by
        have := (List.getElem?_eq_some_iff.mp h).1
        rw [List.length_append, List.length_singleton] at this
        omega
      subst hm2
      rw [List.getElem?_append_right (Nat.le_refl _), Nat.sub_self] at h
      cases h
      exact ⟨p, by rw [List.getElem?_append_right (by rw [r.len]; exact Nat.le_refl _), r.len, Nat.sub_self]; rfl, new⟩, tab_upd r.tab fun ps h => by rw [hp] at h; cases h⟩
end

/-! ### slots -/
abbrev Dl := List (Option D)
structure RepS (κ : Kx) (ρ : List Addr) (H : Hp) (δ : Dl) (σ : L2.St) : Prop where
  len : δ.length = σ.length
  at_ : ∀ (i : Nat) d, δ[i]? = some (some d) → ∃ v, σ[i]? = some (some v) ∧ Rep κ ρ H d v
section
variable {κ : Kx} {ρ ρ' : List Addr} {H H' : Hp} {δ : Dl} {σ : L2.St}
theorem RepS.ext (e : Ext ρ H ρ' H') (h : RepS κ ρ H δ σ) : RepS κ ρ' H' δ σ := ⟨h.len, fun i d hd => by
  obtain ⟨v, h1, h2⟩ := h.at_ i d hd
  exact ⟨v, h1, h2.ext e⟩⟩
theorem RepS.set (h : RepS κ ρ H δ σ) {d : D} {v : V} (hv : Rep κ ρ H d v) (i : Nat) : RepS κ ρ H (δ.set i (some d)) (σ.set i (some v)) := ⟨by rw [List.length_set, List.length_set, h.len], fun j e he => by
  by_cases hj : j = i
  · subst hj
    by_cases hl : j < δ.length
    · rw [List.getElem?_set_self hl] at he
      cases he
      exact ⟨v, List.getElem?_set_self (by rw [← h.len]; exact hl), hv⟩
    · rw [List.getElem?_eq_none (by simpa using hl)] at he; cases he
  · rw [List.getElem?_set_ne (Ne.symm hj)] at he
    obtain ⟨u, h1, h2⟩ := h.at_ j e he
    exact ⟨u, by rw [List.getElem?_set_ne (Ne.symm hj)]; exact h1, h2⟩⟩
theorem RepS.off (h : RepS κ ρ H δ σ) (i : Nat) : RepS κ ρ H (δ.set i none) (σ.set i none) := ⟨by rw [List.length_set, List.length_set, h.len], fun j e he => by
  by_cases hj : j = i
  · subst hj
    by_cases hl : j < δ.length
    · rw [List.getElem?_set_self hl] at he
      cases he
    · rw [List.getElem?_eq_none (by simpa using hl)] at he; cases he
  · rw [List.getElem?_set_ne (Ne.symm hj)] at he
    obtain ⟨u, h1, h2⟩ := h.at_ j e he
    exact ⟨u, by rw [List.getElem?_set_ne (Ne.symm hj)]; exact h1, h2⟩⟩
theorem Reps.len : ∀ {ds : List D} {vs : List V}, Reps κ ρ H ds vs → ds.length = vs.length
  | [], _, h => by unfold Reps at h; rw [h]; rfl
  | d :: ds, _, h => by
    unfold Reps at h
    obtain ⟨v, r, h1, h2, h3⟩ := h
    rw [h1, List.length_cons, List.length_cons, Reps.len h3]
theorem Reps.at_ : ∀ {ds : List D} {vs : List V}, Reps κ ρ H ds vs → ∀ (i : Nat) d, ds[i]? = some d → ∃ v, vs[i]? = some v ∧ Rep κ ρ H d v
  | [], _, h, i, d, e => by simp at e
  | d :: ds, _, h, 0, d', e => by
    unfold Reps at h
    obtain ⟨v, r, h1, h2, h3⟩ := h
    cases e
    exact ⟨v, by rw [h1]; rfl, h2⟩
  | d :: ds, _, h, i + 1, d', e => by
    unfold Reps at h
    obtain ⟨v, r, h1, h2, h3⟩ := h
    obtain ⟨u, h4, h5⟩ := Reps.at_ h3 i d' e
    exact ⟨u, by rw [h1]; exact h4, h5⟩
theorem Reps.nil : Reps κ ρ H [] [] := by unfold Reps; rfl
theorem Reps.cons {d v ds vs} (h : Rep κ ρ H d v) (r : Reps κ ρ H ds vs) : Reps κ ρ H (d :: ds) (v :: vs) := by unfold Reps; exact ⟨v, vs, rfl, h, r⟩
theorem Reps.append : ∀ {ds es : List D} {vs ws : List V}, Reps κ ρ H ds vs → Reps κ ρ H es ws → Reps κ ρ H (ds ++ es) (vs ++ ws)
  | [], es, vs, ws, h, g => by
    unfold Reps at h
    subst h
    exact g
  | d :: ds, es, vs, ws, h, g => by
    unfold Reps at h
    obtain ⟨v, r, h1, h2, h3⟩ := h
    subst h1
    exact .cons h2 (Reps.append h3 g)
theorem Reps.of_at : ∀ {ds : List D} {vs : List V}, ds.length = vs.length → (∀ (i : Nat) d v, ds[i]? = some d → vs[i]? = some v → Rep κ ρ H d v) → Reps κ ρ H ds vs
  | [], [], _, _ => .nil
  | [], _ :: _, h, _ => by cases h
  | _ :: _, [], h, _ => by cases h
  | d :: ds, v :: vs, h, g => .cons (g 0 d v rfl rfl) (Reps.of_at (Nat.succ.inj h) fun i a b h1 h2 => g (i + 1) a b h1 h2)
theorem Reps.set {ds : List D} {vs : List V} (h : Reps κ ρ H ds vs) {d v} (hv : Rep κ ρ H d v) (i : Nat) : Reps κ ρ H (ds.set i d) (vs.set i v) := by
  refine .of_at (by rw [List.length_set, List.length_set, h.len]) fun j a b h1 h2 => ?_
  by_cases hj : j = i
  · subst hj
    have hl : j < ds.length := by have := (List.getElem?_eq_some_iff.mp h1).1; simpa using this
    rw [List.getElem?_set_self hl] at h1
    rw [List.getElem?_set_self (by rw [← h.len]; exact hl)] at h2
    cases h1; cases h2
    exact hv
  · rw [List.getElem?_set_ne (Ne.symm hj)] at h1 h2
    obtain ⟨u, h3, h4⟩ := h.at_ j a h1
    rw [h2] at h3; cases h3
    exact h4
theorem Reps.drop {ds : List D} {vs : List V} (h : Reps κ ρ H ds vs) (n : Nat) : Reps κ ρ H (ds.drop n) (vs.drop n) := by
  refine .of_at (by rw [List.length_drop, List.length_drop, h.len]) fun j a b h1 h2 => ?_
  rw [List.getElem?_drop] at h1 h2
  obtain ⟨u, h3, h4⟩ := h.at_ _ a h1
  rw [h2] at h3; cases h3
  exact h4
theorem Reps.take {ds : List D} {vs : List V} (h : Reps κ ρ H ds vs) (n : Nat) : Reps κ ρ H (ds.take n) (vs.take n) := by
  refine .of_at (by rw [List.length_take, List.length_take, h.len]) fun j a b h1 h2 => ?_
  rw [List.getElem?_take] at h1 h2
  split at h1
  · rename_i hj
    rw [if_pos hj] at h2
    obtain ⟨u, h3, h4⟩ := h.at_ _ a h1
    rw [h2] at h3; cases h3
    exact h4
  · cases h1
theorem Reps.slot {ds : List D} {vs : List V} (h : Reps κ ρ H ds vs) (n : Nat) : RepS κ ρ H (ds.map some ++ List.replicate n none) (vs.map some ++ List.replicate n none) := by
  refine ⟨by simp [h.len], fun i d hd => ?_⟩
  by_cases hi : i < ds.length
  · rw [List.getElem?_append_left (by simpa using hi), List.getElem?_map] at hd
    cases e : ds[i]? with
    | none => rw [e] at hd; cases hd
    | some d' =>
      rw [e] at hd
      cases hd
      obtain ⟨v, h1, h2⟩ := h.at_ i d e
      exact ⟨v, by rw [List.getElem?_append_left (by rw [List.length_map, ← h.len]; exact hi), List.getElem?_map, h1]; rfl, h2⟩
  · rw [List.getElem?_append_right (by simpa using hi), List.getElem?_replicate] at hd
    split at hd <;> cases hd
end

/-- an exception's dict that no place names -/
def XdAt (ρ : List Addr) (H : Hp) (dd : Addr) (gs : List (Str × V)) : Prop := H dd = some (.xd gs) ∧ ∀ n : Nat, ρ[n]? ≠ some dd
/-- .. is named from now on -/
theorem Rel.adopt {κ : Kx} {ρ : List Addr} {H : Hp} {μ : Mu} {dd : Addr} {gs : List (Str × V)} {fs : List (Str × D)} (r : Rel κ ρ H μ) (h : XdAt ρ H dd gs) (hf : RepF κ ρ H fs gs) : Rel κ (ρ ++ [dd]) H (μ ++ [.xd fs]) ∧ Ext ρ H (ρ ++ [dd]) H := by
  have e : Ext ρ H (ρ ++ [dd]) H := ⟨fun n a h => by
    have hn : n < ρ.length := (List.getElem?_eq_some_iff.mp h).1
    rw [List.getElem?_append_left hn]; exact h, fun _ _ h => h⟩
  refine ⟨⟨by rw [List.length_append, List.length_append, r.len]; rfl, ?_, fun m u hu => ?_, r.tab⟩, e⟩
  · rw [List.nodup_append]
    refine ⟨r.nd, by simp, fun a ha b hb z => ?_⟩
    have hb' : b = dd := by simpa using hb
    obtain ⟨i, hi, e1⟩ := List.getElem_of_mem ha
    exact h.2 i (by rw [List.getElem?_eq_getElem hi, e1, z, hb'])
  · by_cases hm : m < μ.length
    · rw [List.getElem?_append_left hm] at hu
      obtain ⟨b, h1, h2⟩ := r.obj m u hu
      exact ⟨b, e.pre m b h1, h2.ext e rfl⟩
    · have hm2 : m = μ.length := by
        have := (List.getElem?_eq_some_iff.mp hu).1
        rw [List.length_append, List.length_singleton] at this
        omega
      subst hm2
      rw [List.getElem?_append_right (Nat.le_refl _), Nat.sub_self] at hu
      cases hu
      exact ⟨dd, by rw [List.getElem?_append_right (by rw [r.len]; exact Nat.le_refl _), r.len, Nat.sub_self]; rfl, gs, h.1, hf.ext e⟩
/-- one name's value is forgotten -/
theorem RepS.hole {κ : Kx} {ρ : List Addr} {H : Hp} {δ : Dl} {σ : L2.St} (h : RepS κ ρ H δ σ) (i : Nat) (o : Option V) : RepS κ ρ H (δ.set i none) (σ.set i o) := ⟨by rw [List.length_set, List.length_set, h.len], fun j e he => by
  by_cases hj : j = i
  · subst hj
    by_cases hl : j < δ.length
    · rw [List.getElem?_set_self hl] at he
      cases he
    · rw [List.getElem?_eq_none (by simpa using hl)] at he; cases he
  · rw [List.getElem?_set_ne (Ne.symm hj)] at he
    obtain ⟨u, h1, h2⟩ := h.at_ j e he
    exact ⟨u, by rw [List.getElem?_set_ne (Ne.symm hj)]; exact h1, h2⟩⟩

/-! ### what is wanted behind an evaluation -/
def Post (κ : Kx) {α β : Type} (Ra : List Addr → Hp → α → β → Prop) (W : WX) (σ : L2.St) (ρ : List Addr) (H : Hp) (r : Res α) (Q : β → Hp → Prop) : Prop := match r with
  | .ok d μ' => ∀ ρ' H' v, Ext ρ H ρ' H' → Rel κ ρ' H' μ' → Ra ρ' H' d v → Q v H'
  | .exc c fs μ' => ∀ ρ' H' dd gs, Ext ρ H ρ' H' → Rel κ ρ' H' μ' → XdAt ρ' H' dd gs → RepF κ ρ' H' fs gs → W (.ref (κ.xl c)) (some dd) σ H'
  | .stuck => False
section
variable {κ : Kx} {α β γ δ' : Type} {Ra : List Addr → Hp → α → β → Prop} {Rc : List Addr → Hp → γ → δ' → Prop} {W : WX} {σ : L2.St} {ρ ρ' : List Addr} {H H' : Hp}
theorem Post.ext (e : Ext ρ H ρ' H') {r : Res α} {Q : β → Hp → Prop} (h : Post κ Ra W σ ρ H r Q) : Post κ Ra W σ ρ' H' r Q := by
  cases r with
  | ok d μ => exact fun ρ2 H2 v e2 => h ρ2 H2 v (e.trans e2)
  | exc c fs μ => exact fun ρ2 H2 dd gs e2 => h ρ2 H2 dd gs (e.trans e2)
  | stuck => exact h
theorem Post.bind {r : Res α} {f : α → Mu → Res γ} {Q : δ' → Hp → Prop} (h : Post κ Rc W σ ρ H (r.bind f) Q) :
    Post κ Ra W σ ρ H r (fun v H1 => ∃ ρ1 a μ1, Ext ρ H ρ1 H1 ∧ Rel κ ρ1 H1 μ1 ∧ Ra ρ1 H1 a v ∧ Post κ Rc W σ ρ1 H1 (f a μ1) Q) := by
  cases r with
  | ok d μ => exact fun ρ2 H2 v e2 r2 a2 => ⟨ρ2, d, μ, e2, r2, a2, Post.ext e2 h⟩
  | exc c fs μ => exact h
  | stuck => exact h
theorem Post.mono {r : Res α} {Q Q' : β → Hp → Prop} (h : Post κ Ra W σ ρ H r Q) (hq : ∀ v H, Q v H → Q' v H) : Post κ Ra W σ ρ H r Q' := by
  cases r with
  | ok d μ => exact fun ρ2 H2 v e2 r2 a2 => hq _ _ (h ρ2 H2 v e2 r2 a2)
  | exc c fs μ => exact h
  | stuck => exact h
end
/-- a reading by an evaluation -/
def tG (κ : Kx) {α β : Type} (Ra : List Addr → Hp → α → β → Prop) (W : WX) (m : Dl → Mu → Res α) : L2.St → Hp → (β → Hp → Prop) → Prop := fun σ H Q =>
  ∃ ρ δ μ, RepS κ ρ H δ σ ∧ Rel κ ρ H μ ∧ Post κ Ra W σ ρ H (m δ μ) Q
abbrev RB : List Addr → Hp → Bool → Bool → Prop := fun _ _ a b => a = b
abbrev tE (κ : Kx) (W : WX) (m : Dl → Mu → Res D) : TE := tG κ (Rep κ) W m
abbrev tT (κ : Kx) (W : WX) (m : Dl → Mu → Res Bool) : TT := tG κ RB W m
abbrev tA (κ : Kx) (W : WX) (m : Dl → Mu → Res (List D)) : TA := tG κ (Reps κ) W m
section
variable {κ : Kx} {α β γ δ' : Type} {Ra : List Addr → Hp → α → β → Prop} {Rc : List Addr → Hp → γ → δ' → Prop} {W : WX} {σ : L2.St} {ρ ρ' : List Addr} {H H' : Hp} {δ : Dl} {μ : Mu}
/-- from the whole to its first part -/
theorem go {m : Dl → Mu → Res α} {f : α → Mu → Res γ} {Q : δ' → Hp → Prop} (s : RepS κ ρ H δ σ) (r : Rel κ ρ H μ) (h : Post κ Rc W σ ρ H ((m δ μ).bind f) Q) :
    tG κ Ra W m σ H (fun v H1 => ∃ ρ1 a μ1, Ext ρ H ρ1 H1 ∧ RepS κ ρ1 H1 δ σ ∧ Rel κ ρ1 H1 μ1 ∧ Ra ρ1 H1 a v ∧ Post κ Rc W σ ρ1 H1 (f a μ1) Q) :=
  ⟨ρ, δ, μ, s, r, (Post.bind h).mono fun v H1 ⟨ρ1, a, μ1, e, r1, x, p⟩ => ⟨ρ1, a, μ1, e, s.ext e, r1, x, p⟩⟩
end
section
variable {X : Cx}
theorem pe_imp {e : Expr} {t t' : TE} (h : PE X e t) (hi : ∀ σ H Q, t' σ H Q → t σ H Q) : PE X e t' := ⟨fun pins s σ H Q I q => h.run pins s σ H Q I (hi σ H Q q)⟩
theorem pt_imp {e : Expr} {t t' : TT} (h : PT X e t) (hi : ∀ σ H Q, t' σ H Q → t σ H Q) : PT X e t' := ⟨fun pins s σ H Q I q => h.run pins s σ H Q I (hi σ H Q q)⟩
theorem pw_imp {e : Expr} {t t' : TT} (h : PW X e t) (hi : ∀ σ H Q, t' σ H Q → t σ H Q) : PW X e t' := ⟨fun wh pins s σ H Q I q => h.run wh pins s σ H Q I (hi σ H Q q)⟩
theorem pa_imp {e : List Expr} {t t' : TA} (h : PA X e t) (hi : ∀ σ H Q, t' σ H Q → t σ H Q) : PA X e t' := ⟨fun pos pins s σ H Q I q => h.run pos pins s σ H Q I (hi σ H Q q)⟩
theorem ps_imp {e : Stmt} {t t' : TS} (h : PS X e t) (hi : ∀ D σ H, t' D σ H → t D σ H) : PS X e t' := ⟨fun pins s σ H D I q => h.run pins s σ H D I (hi D σ H q)⟩
theorem pss_imp {e : List Stmt} {t t' : TS} (h : PSs X e t) (hi : ∀ D σ H, t' D σ H → t D σ H) : PSs X e t' := ⟨fun pins s σ H D I q => h.run pins s σ H D I (hi D σ H q)⟩
theorem pg_imp {e : Expr} {t t' : TG} (h : PG X e t) (hi : ∀ v σ H Q, t' v σ H Q → t v σ H Q) : PG X e t' := ⟨fun pins s σ H v u Q I r q => h.run pins s σ H v u Q I r (hi v σ H Q q)⟩
theorem pi_imp {tg e : Expr} {t t' : TI} (h : PI X tg e t) (hi : ∀ σ H Q, t' σ H Q → t σ H Q) : PI X tg e t' := ⟨fun pins s σ H Q I q => h.run pins s σ H Q I (hi σ H Q q)⟩
end
end Tk

namespace Tk
open PySem PySem.Spec PyProof.Rows L2

/-! ### the small language -/
inductive Tg where
  | name (i : Nat) | tup (ts : List Tg)
  deriving Inhabited
inductive Blt where
  | len | int | max | min | sorted | list | tuple | abs | str | isi
  deriving DecidableEq, Inhabited
inductive Mth where
  | append | get | pop | extend | index | insert | remove
  deriving DecidableEq, Inhabited
mutual
inductive E where
  | v (i : Nat) | c (d : D)
  | tup (es : Es) | lst (es : Es)
  | bin (o : Operator) (a b : E) | neg (a : E)
  | cmp (o : CmpOp) (a b : E) | chn (o p : CmpOp) (a b c : E)
  | and (a b : E) | or (a b : E) | not (a : E)
  | ite (t a b : E)
  | ix (a i : E) | sl (a : E) (lo hi : Eo)
  | call (f : Nat) (es : Es)
  | blt (b : Blt) (es : Es)
  | mth (m : Mth) (a : E) (es : Es)
  | lc (own : List Nat) (t : Tg) (it : It') (fs : Eo) (e : E)
  | lc2 (own : List Nat) (t : Tg) (it : It') (own2 : List Nat) (t2 : Tg) (it2 : It') (e : E)
  | dic (ps : Ep)
  | fld (a : E) (f : Str)
  | mc (m : Str) (a : E) (es : Es)
  | mk (c : Nat) (es : Es)
  | dc (own : List Nat) (t : Tg) (it : It') (k v : E)
  | callL (f : Nat) (es : Es)
  | all (own : List Nat) (t : Tg) (it : It') (e : E)
  | xf (i : Nat) (f : Str)
inductive Es where
  | nil | cons (e : E) (r : Es)
inductive Eo where
  | none | some (e : E)
inductive Ep where
  | nil | cons (k v : E) (r : Ep)
inductive It' where
  | val (e : E) | rng1 (a : E) | rng2 (a b : E) | enm (e : E) | rev (e : E)
end
mutual
inductive S where
  | asg (t : Tg) (e : E) | setix (o i e : E)
  | aug (i : Nat) (o : Operator) (e : E)
  | expr (e : E) | ret (e : E) | retn
  | ifs (t : E) (a b : Ss) | for_ (t : Tg) (it : It') (b : Ss) | while_ (t : E) (b : Ss)
  | pass | brk | cont
  | setfld (o : E) (f : Str) (e : E) | set2 (o1 i1 o2 i2 e : E) | bad
  | raise_ (c : Nat) (es : Es) | tryR (b : Ss) (c i : Nat) (e : E)
inductive Ss where
  | nil | cons (s : S) (r : Ss)
end

/-! ### what operations do -/
def lstAt (μ : Mu) (n : Nat) : Option (List D) := match μ[n]? with
  | some (.lst xs) => some xs
  | some (.fl xs) => some xs
  | _ => none
def newl (μ : Mu) (xs : List D) : Res D := .ok (.loc μ.length) (μ ++ [.lst xs])
def cmulB (i j : Int) : Bool := (decide (-(2 ^ 64) < i) && decide (i < 2 ^ 64)) || (decide (-(2 ^ 64) < j) && decide (j < 2 ^ 64))
def addD : D → D → Mu → Res D
  | .int i, .int j, μ => .ok (.int (i + j)) μ
  | .str a, .str b, μ => if a.length + b.length ≤ sizeLine then .ok (.str (a ++ b)) μ else .stuck
  | .tup a, .tup b, μ => if a.length + b.length ≤ sizeLine then .ok (.tup (a ++ b)) μ else .stuck
  | .loc m, .loc n, μ => match μ[m]?, μ[n]? with
    | some (.lst a), some (.lst b) => if a.length + b.length ≤ sizeLine then newl μ (a ++ b) else .stuck
    | _, _ => .stuck
  | _, _, _ => .stuck
def subD : D → D → Mu → Res D
  | .int i, .int j, μ => .ok (.int (i - j)) μ
  | _, _, _ => .stuck
def mulD : D → D → Mu → Res D
  | .int i, .int j, μ => if cmulB i j = true then .ok (.int (i * j)) μ else .stuck
  | .loc m, .int k, μ => match μ[m]? with
    | some (.lst a) => if -(2 ^ 63) ≤ k ∧ k < 2 ^ 63 ∧ a.length * k.toNat ≤ sizeLine then newl μ (List.replicate k.toNat a).flatten else .stuck
    | _ => .stuck
  | .tup a, .int k, μ => if a ≠ [] ∧ 1 ≤ k ∧ k ≤ 1000 ∧ a.length ≤ 1000 then .ok (.tup (List.replicate k.toNat a).flatten) μ else .stuck
  | _, _, _ => .stuck
def divD : D → D → Mu → Res D
  | .int i, .int j, μ => if 0 < j ∧ j < 1073741824 then .ok (.int (i / j)) μ else .stuck
  | _, _, _ => .stuck
def modD : D → D → Mu → Res D
  | .int i, .int j, μ => if 0 < j then .ok (.int (i % j)) μ else .stuck
  | _, _, _ => .stuck
def powD : D → D → Mu → Res D
  | .int i, .int j, μ => if 0 ≤ j ∧ j ≤ 1000000 ∧ i.natAbs < 2 ^ 64 then .ok (.int (i ^ j.toNat)) μ else .stuck
  | _, _, _ => .stuck
def binD : Operator → D → D → Mu → Res D
  | .Add => addD
  | .Sub => subD
  | .Mult => mulD
  | .FloorDiv => divD
  | .Mod => modD
  | .Pow => powD
  | _ => fun _ _ _ => .stuck
def augD : Operator → D → D → Mu → Res D
  | .Add, .int i, .int j, μ => .ok (.int (i + j)) μ
  | .Sub, .int i, .int j, μ => .ok (.int (i - j)) μ
  | _, _, _, _ => .stuck
def negD : D → Mu → Res D
  | .int i, μ => .ok (.int (-i)) μ
  | _, _ => .stuck

def allS {α : Type} : List (Option α) → Option (List α)
  | [] => some []
  | none :: _ => none
  | some a :: r => (allS r).map (a :: ·)
def pyD (μ : Mu) : Nat → D → Option PyData
  | 0, _ => none
  | k + 1, d => match d with
    | .non => some .none
    | .bl b => some (.bool b)
    | .int i => some (.int i)
    | .str x => some (.str x)
    | .ty _ => none
    | .loc n => (lstAt μ n).bind fun xs => (allS (xs.map (pyD μ k))).map .list
    | .tup ds => (allS (ds.map (pyD μ k))).map .tuple
def eqD (μ : Mu) (x y : D) : Option Bool := (pyD μ 40 x).bind fun a => (pyD μ 40 y).bind fun b => some (PyData.eqv a b)
def seqD (μ : Mu) : D → Option (List D)
  | .tup xs => some xs
  | .loc n => lstAt μ n
  | _ => none
/-- x in xs, all flat -/
def flatD : D → Bool
  | .non => true
  | .bl _ => true
  | .int _ => true
  | .str _ => true
  | _ => false
def eqF : D → D → Bool
  | .non, .non => true
  | .bl a, .bl b => a == b
  | .bl a, .int b => (if a then 1 else 0) == b
  | .int a, .bl b => a == (if b then 1 else 0)
  | .int a, .int b => a == b
  | .str a, .str b => a == b
  | _, _ => false
def inF (x : D) (xs : List D) : Bool := xs.any fun y => eqF y x
def valD (kvs : List (D × D)) (k : D) : Option D := (kvs.find? fun kv => eqF kv.1 k).map (·.2)
def inD (μ : Mu) (x y : D) : Option Bool := match y with
  | .str t => (match x with
    | .str s => some (!(Builtin.Str.occurrences t s 0 t.length 1).isEmpty)
    | _ => none)
  | y => (seqD μ y).bind fun ys => if flatD x = true ∧ ys.all flatD = true then some (inF x ys) else none
def dicAt (μ : Mu) (x : D) : Option (List (D × D)) := match x with
  | .loc n => (match μ[n]? with
    | some (.dic kvs) => some kvs
    | _ => none)
  | _ => none
def cmpQ : CmpOp → D → D → Mu → Res D
  | .Eq, x, y, μ => match eqD μ x y with
    | some b => .ok (.bl b) μ
    | none => .stuck
  | .NotEq, x, y, μ => match eqD μ x y with
    | some b => .ok (.bl (!b)) μ
    | none => .stuck
  | .Lt, .int i, .int j, μ => .ok (.bl (decide (i < j))) μ
  | .LtE, .int i, .int j, μ => .ok (.bl (decide (i ≤ j))) μ
  | .Gt, .int i, .int j, μ => .ok (.bl (decide (j < i))) μ
  | .GtE, .int i, .int j, μ => .ok (.bl (decide (j ≤ i))) μ
  | .Is, x, .non, μ => .ok (.bl (match x with | .non => true | _ => false)) μ
  | .IsNot, x, .non, μ => .ok (.bl (match x with | .non => false | _ => true)) μ
  | .In, x, y, μ => match inD μ x y with
    | some b => .ok (.bl b) μ
    | none => .stuck
  | .NotIn, x, y, μ => match inD μ x y with
    | some b => .ok (.bl (!b)) μ
    | none => .stuck
  | _, _, _, _ => .stuck
def cmpD (o : CmpOp) (x y : D) (μ : Mu) : Res D := match o with
  | .In => (match dicAt μ y with
    | some kvs => (match keyD x with
      | some _ => .ok (.bl (kvs.any fun kv => eqF kv.1 x)) μ
      | none => .stuck)
    | none => cmpQ .In x y μ)
  | .NotIn => (match dicAt μ y with
    | some kvs => (match keyD x with
      | some _ => .ok (.bl (!kvs.any fun kv => eqF kv.1 x)) μ
      | none => .stuck)
    | none => cmpQ .NotIn x y μ)
  | o => cmpQ o x y μ
def ixT (z : Str) (k : Int) (μ : Mu) : Res D := if z.length ≤ sizeLine then (match atI z.cps.toList k with
  | some c => .ok (.str ⟨#[c]⟩) μ
  | none => .stuck) else .stuck
def ixQ (x i : D) (μ : Mu) : Res D := match i with
  | .int k => (match x with
    | .str z => ixT z k μ
    | x => (match seqD μ x with
      | some xs => (match atI xs k with
        | some d => .ok d μ
        | none => .stuck)
      | none => .stuck))
  | _ => .stuck
def ixD (x i : D) (μ : Mu) : Res D := match dicAt μ x with
  | some kvs => (match keyD i with
    | some _ => (match valD kvs i with
      | some d => .ok d μ
      | none => .stuck)
    | none => .stuck)
  | none => ixQ x i μ
def cutD (xs : List D) (lo hi : Option Int) : List D := (xs.drop (HT.sIx xs.length 0 lo)).take (HT.sIx xs.length xs.length hi - HT.sIx xs.length 0 lo)
def slD (x : D) (lo hi : Option Int) (μ : Mu) : Res D := match x with
  | .tup xs => .ok (.tup (cutD xs lo hi)) μ
  | .loc n => (match lstAt μ n with
    | some xs => newl μ (cutD xs lo hi)
    | none => .stuck)
  | _ => .stuck
def truD (x : D) (μ : Mu) : Res Bool := match x with
  | .bl b => .ok b μ
  | .non => .ok false μ
  | .int i => .ok (i != 0) μ
  | _ => .stuck
def intsD : List D → Option (List Int)
  | [] => some []
  | .int i :: r => (intsD r).map (i :: ·)
  | _ => none
def maxI : List Int → Option Int
  | [] => none
  | [x] => some x
  | x :: r => (maxI r).map fun m => if x > m then x else m
def minI : List Int → Option Int
  | [] => none
  | [x] => some x
  | x :: r => (minI r).map fun m => if x < m then x else m
def insI (x : Int) : List Int → List Int
  | [] => [x]
  | y :: r => if x ≤ y then x :: y :: r else y :: insI x r
def sortI : List Int → List Int
  | [] => []
  | x :: r => insI x (sortI r)
def tyD : D → Mu → Option String
  | .non, _ => some "NoneType"
  | .bl _, _ => some "bool"
  | .int _, _ => some "int"
  | .str _, _ => some "str"
  | .tup _, _ => some "tuple"
  | .loc n, μ => (match μ[n]? with
    | some (.lst _) => some "list"
    | some (.fl _) => some "list"
    | some (.dic _) => some "dict"
    | some (.dit _) => some "dict"
    | _ => none)
  | _, _ => none
instance : Inhabited (Res D) := ⟨.stuck⟩
def bltQ : Blt → List D → Mu → Res D
  | .len, [.str x], μ => if x.length ≤ sizeLine then .ok (.int x.length) μ else .stuck
  | .len, [x], μ => (match seqD μ x with
    | some xs => .ok (.int xs.length) μ
    | none => .stuck)
  | .int, [.int i], μ => .ok (.int i) μ
  | .int, [.bl b], μ => .ok (.int (if b then 1 else 0)) μ
  | .max, [.int i, .int j], μ => .ok (.int (if j > i then j else i)) μ
  | .min, [.int i, .int j], μ => .ok (.int (if j < i then j else i)) μ
  | .max, [.loc n], μ => (match (lstAt μ n).bind intsD with
    | some ns => (match maxI ns with
      | some m => .ok (.int m) μ
      | none => .stuck)
    | none => .stuck)
  | .min, [.loc n], μ => (match (lstAt μ n).bind intsD with
    | some ns => (match minI ns with
      | some m => .ok (.int m) μ
      | none => .stuck)
    | none => .stuck)
  | .sorted, [.loc n], μ => (match (lstAt μ n).bind intsD with
    | some ns => newl μ ((sortI ns).map .int)
    | none => .stuck)
  | .list, [x], μ => (match seqD μ x with
    | some xs => newl μ xs
    | none => .stuck)
  | .tuple, [x], μ => (match seqD μ x with
    | some xs => .ok (.tup xs) μ
    | none => .stuck)
  | .abs, [.int i], μ => .ok (.int (if i < 0 then -i else i)) μ
  | .isi, [x, .ty n], μ => (match tyD x μ with
    | some t => (match kitB t n with
      | some b => .ok (.bl b) μ
      | none => .stuck)
    | none => .stuck)
  | _, _, _ => .stuck
def bltD (b : Blt) (ds : List D) (μ : Mu) : Res D := match b with
  | .len => (match ds with
    | [x] => (match dicAt μ x with
      | some kvs => .ok (.int kvs.length) μ
      | none => bltQ .len ds μ)
    | _ => .stuck)
  | .str => (match ds with
    | [.int i] => if i.natAbs.log2 < 1920 then .ok (.str (Str.ofString (toString i))) μ else .stuck
    | _ => .stuck)
  | b => bltQ b ds μ
/-- the receiver is of the method's kind -/
def isLst (x : D) (μ : Mu) : Bool := match x with
  | .loc n => (match μ[n]? with
    | some (.lst _) => true
    | _ => false)
  | _ => false
def isDic (x : D) (μ : Mu) : Bool := match x with
  | .loc n => (match μ[n]? with
    | some (.dic _) => true
    | _ => false)
  | _ => false
def mkD (m : Mth) : D → Mu → Bool := match m with
  | .append => isLst
  | .pop => isLst
  | .extend => isLst
  | .index => isLst
  | .insert => isLst
  | .remove => isLst
  | .get => isDic
def appendD (x : D) (ds : List D) (μ : Mu) : Res D := match x, ds with
  | .loc n, [d] => (match μ[n]? with
    | some (.lst xs) => if xs.length < sizeLine then .ok .non (μ.set n (.lst (xs ++ [d]))) else .stuck
    | _ => .stuck)
  | _, _ => .stuck
def getD (x : D) (ds : List D) (μ : Mu) : Res D := match x, ds with
  | .loc n, [k, d] => (match μ[n]? with
    | some (.dic kvs) => (match keyD k with
      | some _ => .ok ((valD kvs k).getD d) μ
      | none => .stuck)
    | _ => .stuck)
  | .loc n, [k] => (match μ[n]? with
    | some (.dic kvs) => (match keyD k with
      | some _ => .ok ((valD kvs k).getD .non) μ
      | none => .stuck)
    | _ => .stuck)
  | _, _ => .stuck
def extendD (x : D) (ds : List D) (μ : Mu) : Res D := match x, ds with
  | .loc n, [.loc m] => (match μ[n]?, μ[m]? with
    | some (.lst xs), some (.lst ys) => if xs.length + ys.length ≤ sizeLine then .ok .non (μ.set n (.lst (xs ++ ys))) else .stuck
    | _, _ => .stuck)
  | _, _ => .stuck
def indexD (x : D) (ds : List D) (μ : Mu) : Res D := match x, ds with
  | .loc n, [y] => (match lstAt μ n with
    | some xs => if flatD y = true ∧ xs.all flatD = true then (match xs.findIdx? (fun z => eqF z y) with
      | some j => .ok (.int j) μ
      | none => .stuck) else .stuck
    | none => .stuck)
  | _, _ => .stuck
def popD (x : D) (ds : List D) (μ : Mu) : Res D := match x, ds with
  | .loc n, [.int i] => (match μ[n]? with
    | some (.lst xs) => if -(2 ^ 63) ≤ i ∧ i < 2 ^ 63 then (match ixN xs.length i with
      | some k => (match xs[k]? with
        | some d => .ok d (μ.set n (.lst (xs.eraseIdx k)))
        | none => .stuck)
      | none => .stuck) else .stuck
    | _ => .stuck)
  | _, _ => .stuck
def mthD (m : Mth) : D → List D → Mu → Res D := match m with
  | .append => appendD
  | .get => getD
  | .extend => extendD
  | .index => indexD
  | .pop => popD
  | _ => fun _ _ _ => .stuck
def putD (kvs : List (D × D)) (k v : D) : List (D × D) :=
  if (kvs.any fun kv => eqF kv.1 k) = true then kvs.map (fun kv => if eqF kv.1 k = true then (kv.1, v) else kv) else kvs ++ [(k, v)]
def mergeD (kvs more : List (D × D)) : List (D × D) := more.foldl (fun acc kv => putD acc kv.1 kv.2) kvs
def setixD (x i v : D) (μ : Mu) : Res Unit := match x with
  | .loc n => (match μ[n]? with
    | some (.lst xs) => (match i with
      | .int k => (match ixN xs.length k with
        | some j => .ok () (μ.set n (.lst (xs.set j v)))
        | none => .stuck)
      | _ => .stuck)
    | some (.dic kvs) => (match keyD i with
      | some _ => if kvs.length < sizeLine then .ok () (μ.set n (.dic (putD kvs i v))) else .stuck
      | none => .stuck)
    | _ => .stuck)
  | _ => .stuck

/-! ### classes -/
/-- a class of the text: its methods (the defs' places), the names its instances may hold -/
structure Cd where
  name : Str
  ms : List (Str × Nat)
  fs : List Str
def insAt (μ : Mu) (x : D) : Option (Nat × List (Str × D)) := match x with
  | .loc n => (match μ[n]? with
    | some (.ins c fs) => some (c, fs)
    | _ => none)
  | _ => none
def fldD (C : List Cd) (f : Str) (x : D) (μ : Mu) : Res D := match insAt μ x with
  | some (c, fs) => (match C[c]? with
    | some k => if k.fs.contains f = true then (match fs.lookup f with
      | some d => .ok d μ
      | none => .stuck) else .stuck
    | none => .stuck)
  | none => .stuck
def methI (C : List Cd) (m : Str) (x : D) (μ : Mu) : Option (Nat × Nat) := match insAt μ x with
  | some (c, fs) => (match C[c]? with
    | some k => if (fs.lookup m).isNone = true then (k.ms.lookup m).map fun j => (c, j) else none
    | none => none)
  | none => none
def initI (C : List Cd) (c : Nat) : Option Nat := match C[c]? with
  | some k => k.ms.lookup ("__init__" : Str)
  | none => none
def putFD (f : Str) (v : D) : List (Str × D) → List (Str × D)
  | [] => [(f, v)]
  | (g, x) :: r => if g = f then (g, v) :: r else (g, x) :: putFD f v r
def setfD (C : List Cd) (f : Str) (x d : D) (μ : Mu) : Res Unit := match x with
  | .loc n => (match μ[n]? with
    | some (.ins c fs) => (match C[c]? with
      | some k => if k.fs.contains f = true ∧ fs.length < 1000 then .ok () (μ.set n (.ins c (putFD f d fs))) else .stuck
      | none => .stuck)
    | _ => .stuck)
  | _ => .stuck

/-! ### what is walked -/
inductive Src where
  | items (ds : List D) | live (n : Nat) | rng (lo : Int) (n : Nat) | ent (ds : List D) | enl (n : Nat) | rvl (n len : Nat)
  deriving Inhabited
def Src.at_ (s : Src) (i : Nat) (μ : Mu) : Option (Option D) := match s with
  | .items ds => some ds[i]?
  | .live n => (lstAt μ n).map fun xs => xs[i]?
  | .rng lo n => some (if i < n then some (.int (lo + i)) else none)
  | .ent ds => some (ds[i]?.map fun d => .tup [.int i, d])
  | .enl n => (lstAt μ n).map fun xs => xs[i]?.map fun d => .tup [.int i, d]
  | .rvl n len => (lstAt μ n).bind fun xs => if i < len then xs[len - 1 - i]?.map some else some none
mutual
def bindG : Tg → D → Dl → Option Dl
  | .name i, d, δ => some (δ.set i (some d))
  | .tup ts, .tup ds, δ => bindGs ts ds δ
  | .tup _, _, _ => none
def bindGs : List Tg → List D → Dl → Option Dl
  | [], [], δ => some δ
  | t :: ts, d :: ds, δ => (bindG t d δ).bind fun δ1 => bindGs ts ds δ1
  | _, _, _ => none
end
def wipeD (δ : Dl) : List Nat → Dl
  | [] => δ
  | v :: vs => (wipeD δ vs).set v none

/-- the outcome of a statement -/
inductive RS where
  | nx (δ : Dl) (μ : Mu) | ret (d : D) (μ : Mu) | brk (δ : Dl) (μ : Mu) | cont (δ : Dl) (μ : Mu)
  | exc (c : Nat) (fs : List (Str × D)) (δ : Dl) (μ : Mu) | stuck
  deriving Inhabited
def RS.of {α : Type} (δ : Dl) (r : Res α) (f : α → Mu → RS) : RS := match r with
  | .ok a μ => f a μ
  | .exc c fs μ => .exc c fs δ μ
  | .stuck => .stuck
def RS.seq (r : RS) (f : Dl → Mu → RS) : RS := match r with
  | .nx δ μ => f δ μ
  | r => r
def Res.noexc {α : Type} : Res α → Res α
  | .exc .. => .stuck
  | r => r

/-- a comprehension's turns: the new list stands at ℓ -/
def lcN (bind : D → Dl → Option Dl) (test : Dl → Mu → Res Bool) (elt : Dl → Mu → Res D) (src : Src) (ℓ : Nat) (δ : Dl) : Nat → Nat → Mu → Res D
  | 0, _, _ => .stuck
  | f + 1, i, μ => match src.at_ i μ with
    | none => .stuck
    | some none => .ok (.loc ℓ) μ
    | some (some d) => match bind d δ with
      | none => .stuck
      | some δ1 => (test δ1 μ).noexc.bind fun b μ2 => if b = true then
          (elt δ1 μ2).noexc.bind fun y μ3 => match μ3[ℓ]? with
            | some (.lst acc) => if acc.length < sizeLine then lcN bind test elt src ℓ δ f (i + 1) (μ3.set ℓ (.lst (acc ++ [y]))) else .stuck
            | _ => .stuck
        else lcN bind test elt src ℓ δ f (i + 1) μ2
/-- all(..) of a generator expression: its turns -/
def allN (bind : D → Dl → Option Dl) (elt : Dl → Mu → Res D) (src : Src) (δ : Dl) : Nat → Nat → Mu → Res D
  | 0, _, _ => .stuck
  | f + 1, i, μ => match src.at_ i μ with
    | none => .stuck
    | some none => .ok (.bl true) μ
    | some (some d) => match bind d δ with
      | none => .stuck
      | some δ1 => (elt δ1 μ).noexc.bind fun y μ2 => match y with
        | .bl true => allN bind elt src δ f (i + 1) μ2
        | .bl false => .ok (.bl false) μ2
        | _ => .stuck
/-- a dict comprehension's turns -/
def dcN (bind : D → Dl → Option Dl) (key val : Dl → Mu → Res D) (src : Src) (ℓ : Nat) (δ : Dl) : Nat → Nat → Mu → Res D
  | 0, _, _ => .stuck
  | f + 1, i, μ => match src.at_ i μ with
    | none => .stuck
    | some none => .ok (.loc ℓ) μ
    | some (some d) => match bind d δ with
      | none => .stuck
      | some δ1 => (key δ1 μ).noexc.bind fun x μ2 => (val δ1 μ2).noexc.bind fun y μ3 => match μ3[ℓ]?, keyD x with
        | some (.dic kvs), some _ => if kvs.length < sizeLine then dcN bind key val src ℓ δ f (i + 1) (μ3.set ℓ (.dic (putD kvs x y))) else .stuck
        | _, _ => .stuck
/-- with two fors: the inner walk -/
def lc2I (bind : D → Dl → Option Dl) (elt : Dl → Mu → Res D) (src : Src) (ℓ : Nat) (δ : Dl) : Nat → Nat → Mu → Res Unit
  | 0, _, _ => .stuck
  | f + 1, i, μ => match src.at_ i μ with
    | none => .stuck
    | some none => .ok () μ
    | some (some d) => match bind d δ with
      | none => .stuck
      | some δ1 => (elt δ1 μ).noexc.bind fun y μ3 => match μ3[ℓ]? with
        | some (.lst acc) => if acc.length < sizeLine then lc2I bind elt src ℓ δ f (i + 1) (μ3.set ℓ (.lst (acc ++ [y]))) else .stuck
        | _ => .stuck
def lc2N (bind : D → Dl → Option Dl) (inner : Dl → Mu → Res Unit) (src : Src) (ℓ : Nat) (δ : Dl) : Nat → Nat → Mu → Res D
  | 0, _, _ => .stuck
  | f + 1, i, μ => match src.at_ i μ with
    | none => .stuck
    | some none => .ok (.loc ℓ) μ
    | some (some d) => match bind d δ with
      | none => .stuck
      | some δ1 => (inner δ1 μ).noexc.bind fun _ μ2 => lc2N bind inner src ℓ δ f (i + 1) μ2
def forN (bind : D → Dl → Option Dl) (body : Dl → Mu → RS) (src : Src) : Nat → Nat → Dl → Mu → RS
  | 0, _, _, _ => .stuck
  | f + 1, i, δ, μ => match src.at_ i μ with
    | none => .stuck
    | some none => .nx δ μ
    | some (some d) => match bind d δ with
      | none => .stuck
      | some δ1 => match body δ1 μ with
        | .nx δ2 μ2 => forN bind body src f (i + 1) δ2 μ2
        | .cont δ2 μ2 => forN bind body src f (i + 1) δ2 μ2
        | .brk δ2 μ2 => .nx δ2 μ2
        | r => r
def whileN (test : Dl → Mu → Res Bool) (body : Dl → Mu → RS) : Nat → Dl → Mu → RS
  | 0, _, _ => .stuck
  | f + 1, δ, μ => RS.of δ (test δ μ) fun b μ1 => if b = true then (match body δ μ1 with
      | .nx δ2 μ2 => whileN test body f δ2 μ2
      | .cont δ2 μ2 => whileN test body f δ2 μ2
      | .brk δ2 μ2 => .nx δ2 μ2
      | r => r) else .nx δ μ1

/-- the defs, the turns that a loop may take -/
structure Om where
  Φ : Nat → List D → Mu → Res D
  Ψ : Nat → List D → Mu → Res D
  fu : Nat
  C : List Cd
  lo : Bool
  X : List Str
  xo : Bool
def signsD (x : Str) : List D := x.cps.toList.map fun c => .str ⟨#[c]⟩
def dispD (kvs : List (D × D)) (ℓ : Nat) (μ : Mu) : Res D := match μ[ℓ]? with
  | some (.dic []) => if (kvs.all fun kv => (keyD kv.1).isSome) = true ∧ kvs.length ≤ 15 then .ok (.loc ℓ) (μ.set ℓ (.dic (mergeD [] kvs))) else .stuck
  | _ => .stuck
/-- an exception that is made: the fields that its class's __init__ and the first class's leave -/
def mkX (X : List Str) (c : Nat) (d : D) : List (Str × D) := match c with
  | 0 => [("name", .str (X.getD 0 Str.empty)), ("place", d)]
  | c + 1 => [("name", .str (X.getD (c + 1) Str.empty)), ("name", .str (X.getD 0 Str.empty)), ("place", d)]
/-- the class b is a, or is over a -/
def xsub (a b : Nat) : Bool := b == 0 || a == b
def xfD (f : Str) (μ : Mu) (o : Option (Option D)) : Res D := match o with
  | some (some (.loc n)) => (match μ[n]? with
    | some (.xd fs) => (match fs.lookup f with
      | some d => .ok d μ
      | none => .stuck)
    | _ => .stuck)
  | _ => .stuck
def raiseR (Ω : Om) (c : Nat) (ds : List D) (δ : Dl) (μ : Mu) : RS := match ds with
  | [d] => .exc c (mkX Ω.X c d) δ μ
  | _ => .stuck
/-- behind a try's body -/
def tryK (Ω : Om) (m : Dl → Mu → Res D) (c i : Nat) (r : RS) : RS := match r with
  | .exc c' fs δ μ => if c' < Ω.X.length ∧ c < Ω.X.length then (if xsub c' c = true then RS.of (δ.set i (some (.loc μ.length))) (m (δ.set i (some (.loc μ.length))) (μ ++ [.xd fs])).noexc fun d μ1 => .ret d μ1 else .exc c' fs δ μ) else .stuck
  | r => r
mutual
def ev (Ω : Om) : E → Dl → Mu → Res D
  | .v i, δ, μ => match δ[i]? with
    | some (some d) => .ok d μ
    | _ => .stuck
  | .c d, δ, μ => .ok d μ
  | .tup es, δ, μ => (evs Ω es δ μ).bind fun ds μ1 => if ds.length ≤ sizeLine then .ok (.tup ds) μ1 else .stuck
  | .lst es, δ, μ => (evs Ω es δ μ).bind fun ds μ1 => if ds.length ≤ sizeLine then newl μ1 ds else .stuck
  | .bin o a b, δ, μ => (ev Ω a δ μ).bind fun x μ1 => (ev Ω b δ μ1).bind fun y μ2 => binD o x y μ2
  | .neg a, δ, μ => (ev Ω a δ μ).bind fun x μ1 => negD x μ1
  | .cmp o a b, δ, μ => (ev Ω a δ μ).bind fun x μ1 => (ev Ω b δ μ1).bind fun y μ2 => cmpD o x y μ2
  | .chn o p a b c, δ, μ => (ev Ω a δ μ).bind fun x μ1 => (ev Ω b δ μ1).bind fun y μ2 => (cmpD o x y μ2).bind fun z μ3 => match z with
    | .bl true => (ev Ω c δ μ3).bind fun w μ4 => cmpD p y w μ4
    | .bl false => .ok (.bl false) μ3
    | _ => .stuck
  | .and a b, δ, μ => (ev Ω a δ μ).bind fun x μ1 => match x with
    | .bl true => ev Ω b δ μ1
    | .bl false => .ok (.bl false) μ1
    | _ => .stuck
  | .or a b, δ, μ => (ev Ω a δ μ).bind fun x μ1 => match x with
    | .bl true => .ok (.bl true) μ1
    | .bl false => ev Ω b δ μ1
    | _ => .stuck
  | .not a, δ, μ => (ev Ω a δ μ).bind fun x μ1 => match x with
    | .bl b => .ok (.bl (!b)) μ1
    | _ => .stuck
  | .ite t a b, δ, μ => (tv Ω t δ μ).bind fun c μ1 => if c = true then ev Ω a δ μ1 else ev Ω b δ μ1
  | .ix a i, δ, μ => (ev Ω a δ μ).bind fun x μ1 => (ev Ω i δ μ1).bind fun y μ2 => ixD x y μ2
  | .sl a lo hi, δ, μ => (ev Ω a δ μ).bind fun x μ1 => (evo Ω lo δ μ1).bind fun l μ2 => (evo Ω hi δ μ2).bind fun h μ3 => slD x l h μ3
  | .call f es, δ, μ => (evs Ω es δ μ).bind fun ds μ1 => Ω.Φ f ds μ1
  | .blt b es, δ, μ => (evs Ω es δ μ).bind fun ds μ1 => bltD b ds μ1
  | .mth m a es, δ, μ => (ev Ω a δ μ).bind fun x μ1 => if mkD m x μ1 = true then (evs Ω es δ μ1).bind fun ds μ2 => mthD m x ds μ2 else .stuck
  | .lc own t it fs e, δ, μ => (evi Ω it δ μ).bind fun src μ1 =>
    lcN (bindG t) (tvo Ω fs) (ev Ω e) src μ1.length (wipeD δ own) Ω.fu 0 (μ1 ++ [.lst []])
  | .lc2 own t it own2 t2 it2 e, δ, μ => (evi Ω it δ μ).bind fun src μ1 =>
    lc2N (bindG t) (fun δ1 μ2 => (evi Ω it2 δ1 μ2).noexc.bind fun s2 μ3 => lc2I (bindG t2) (ev Ω e) s2 μ1.length (wipeD δ1 own2) Ω.fu 0 μ3) src μ1.length (wipeD δ own) Ω.fu 0 (μ1 ++ [.lst []])
  | .dic ps, δ, μ => (evp Ω ps δ (μ ++ [.dic []])).bind fun kvs μ1 => dispD kvs μ.length μ1
  | .fld a f, δ, μ => (ev Ω a δ μ).bind fun x μ1 => fldD Ω.C f x μ1
  | .mc m a es, δ, μ => (ev Ω a δ μ).bind fun x μ1 => match methI Ω.C m x μ1 with
    | some (_, j) => (evs Ω es δ μ1).bind fun ds μ2 => Ω.Φ j (x :: ds) μ2
    | none => .stuck
  | .mk c es, δ, μ => (evs Ω es δ μ).bind fun ds μ1 => match initI Ω.C c with
    | some j => (Ω.Ψ j (.loc μ1.length :: ds) (μ1 ++ [.ins c []])).bind fun r μ2 => (match r with
      | .non => .ok (.loc μ1.length) μ2
      | _ => .stuck)
    | none => .stuck
  | .dc own t it k v, δ, μ => (evi Ω it δ μ).bind fun src μ1 =>
    dcN (bindG t) (ev Ω k) (ev Ω v) src μ1.length (wipeD δ own) Ω.fu 0 (μ1 ++ [.dic []])
  | .callL f es, δ, μ => (evs Ω es δ μ).bind fun ds μ1 => Ω.Ψ f ds μ1
  | .all own t it e, δ, μ => if Ω.lo = true then (evi Ω it δ μ).bind fun src μ1 => allN (bindG t) (ev Ω e) src (wipeD δ own) Ω.fu 0 μ1 else .stuck
  | .xf i f, δ, μ => xfD f μ δ[i]?
def evs (Ω : Om) : Es → Dl → Mu → Res (List D)
  | .nil, δ, μ => .ok [] μ
  | .cons e r, δ, μ => (ev Ω e δ μ).bind fun d μ1 => (evs Ω r δ μ1).bind fun ds μ2 => .ok (d :: ds) μ2
def evo (Ω : Om) : Eo → Dl → Mu → Res (Option Int)
  | .none, δ, μ => .ok none μ
  | .some e, δ, μ => (ev Ω e δ μ).bind fun d μ1 => match d with
    | .int i => .ok (some i) μ1
    | _ => .stuck
def tvo (Ω : Om) : Eo → Dl → Mu → Res Bool
  | .none, δ, μ => .ok true μ
  | .some e, δ, μ => tv Ω e δ μ
def evi (Ω : Om) : It' → Dl → Mu → Res Src
  | .val e, δ, μ => (ev Ω e δ μ).bind fun d μ1 => match d with
    | .tup ds => .ok (.items ds) μ1
    | .str x => .ok (.items (signsD x)) μ1
    | .loc n => (match lstAt μ1 n with
      | some _ => .ok (.live n) μ1
      | none => .stuck)
    | _ => .stuck
  | .rev e, δ, μ => (ev Ω e δ μ).bind fun d μ1 => match d with
    | .loc n => (match lstAt μ1 n with
      | some xs => .ok (.rvl n xs.length) μ1
      | none => .stuck)
    | _ => .stuck
  | .rng1 a, δ, μ => (ev Ω a δ μ).bind fun d μ1 => match d with
    | .int n => if -(2 ^ 62) ≤ n ∧ n < 2 ^ 62 then .ok (.rng 0 n.toNat) μ1 else .stuck
    | _ => .stuck
  | .rng2 a b, δ, μ => (ev Ω a δ μ).bind fun d μ1 => (ev Ω b δ μ1).bind fun d2 μ2 => match d, d2 with
    | .int i, .int j => if -(2 ^ 62) ≤ i ∧ i < 2 ^ 62 ∧ -(2 ^ 62) ≤ j ∧ j < 2 ^ 62 then .ok (.rng i (j - i).toNat) μ2 else .stuck
    | _, _ => .stuck
  | .enm e, δ, μ => (ev Ω e δ μ).bind fun d μ1 => match d with
    | .tup ds => .ok (.ent ds) μ1
    | .loc n => (match lstAt μ1 n with
      | some _ => .ok (.enl n) μ1
      | none => .stuck)
    | _ => .stuck
def evp (Ω : Om) : Ep → Dl → Mu → Res (List (D × D))
  | .cons k v r, δ, μ => (ev Ω k δ μ).bind fun x μ1 => (ev Ω v δ μ1).bind fun y μ2 => (evp Ω r δ μ2).bind fun ps μ3 => .ok ((x, y) :: ps) μ3
  | .nil, δ, μ => .ok [] μ
/-- as a test -/
def tv (Ω : Om) : E → Dl → Mu → Res Bool
  | .and a b, δ, μ => (tv Ω a δ μ).bind fun c μ1 => if c = true then tv Ω b δ μ1 else .ok false μ1
  | .or a b, δ, μ => (tv Ω a δ μ).bind fun c μ1 => if c = true then .ok true μ1 else tv Ω b δ μ1
  | .not a, δ, μ => (tv Ω a δ μ).bind fun c μ1 => .ok (!c) μ1
  | .cmp o a b, δ, μ => (ev Ω a δ μ).bind fun x μ1 => (ev Ω b δ μ1).bind fun y μ2 => (cmpD o x y μ2).bind fun z μ3 => match z with
    | .bl c => .ok c μ3
    | _ => .stuck
  | .chn o p a b c, δ, μ => (ev Ω a δ μ).bind fun x μ1 => (ev Ω b δ μ1).bind fun y μ2 => (cmpD o x y μ2).bind fun z μ3 => match z with
    | .bl true => (ev Ω c δ μ3).bind fun w μ4 => (cmpD p y w μ4).bind fun z2 μ5 => (match z2 with
      | .bl d => .ok d μ5
      | _ => .stuck)
    | .bl false => .ok false μ3
    | _ => .stuck
  | .v i, δ, μ => match δ[i]? with
    | some (some d) => truD d μ
    | _ => .stuck
  | .c d, δ, μ => truD d μ
  | .ix a i, δ, μ => ((ev Ω a δ μ).bind fun x μ1 => (ev Ω i δ μ1).bind fun y μ2 => ixD x y μ2).bind fun x μ1 => truD x μ1
  | .call f es, δ, μ => ((evs Ω es δ μ).bind fun ds μ1 => Ω.Φ f ds μ1).bind fun x μ1 => truD x μ1
  | .fld a f, δ, μ => ((ev Ω a δ μ).bind fun x μ1 => fldD Ω.C f x μ1).bind fun x μ1 => truD x μ1
  | .mc m a es, δ, μ => ((ev Ω a δ μ).bind fun x μ1 => match methI Ω.C m x μ1 with
    | some (_, j) => (evs Ω es δ μ1).bind fun ds μ2 => Ω.Φ j (x :: ds) μ2
    | none => .stuck).bind fun x μ1 => truD x μ1
  | .callL f es, δ, μ => ((evs Ω es δ μ).bind fun ds μ1 => Ω.Ψ f ds μ1).bind fun x μ1 => truD x μ1
  | .all own t it e, δ, μ => (if Ω.lo = true then (evi Ω it δ μ).bind fun src μ1 => allN (bindG t) (ev Ω e) src (wipeD δ own) Ω.fu 0 μ1 else .stuck).bind fun x μ1 => truD x μ1
  | .blt b es, δ, μ => ((evs Ω es δ μ).bind fun ds μ1 => bltD b ds μ1).bind fun x μ1 => truD x μ1
  | .mth m a es, δ, μ => ((ev Ω a δ μ).bind fun x μ1 => if mkD m x μ1 = true then (evs Ω es δ μ1).bind fun ds μ2 => mthD m x ds μ2 else .stuck).bind fun x μ1 => truD x μ1
  | _, _, _ => .stuck
end
mutual
def evS (Ω : Om) : S → Dl → Mu → RS
  | .asg t e, δ, μ => RS.of δ (ev Ω e δ μ) fun d μ1 => match bindG t d δ with
    | some δ1 => .nx δ1 μ1
    | none => .stuck
  | .setix o i e, δ, μ => RS.of δ ((ev Ω e δ μ).bind fun d μ1 => (ev Ω o δ μ1).bind fun x μ2 => (ev Ω i δ μ2).bind fun k μ3 => setixD x k d μ3) fun _ μ1 => .nx δ μ1
  | .aug i o e, δ, μ => match δ[i]? with
    | some (some x) => RS.of δ ((ev Ω e δ μ).bind fun y μ1 => augD o x y μ1) fun z μ1 => .nx (δ.set i (some z)) μ1
    | _ => .stuck
  | .expr e, δ, μ => RS.of δ (ev Ω e δ μ) fun _ μ1 => .nx δ μ1
  | .ret e, δ, μ => RS.of δ (ev Ω e δ μ) fun d μ1 => .ret d μ1
  | .retn, δ, μ => .ret .non μ
  | .ifs t a b, δ, μ => RS.of δ (tv Ω t δ μ) fun c μ1 => if c = true then evSs Ω a δ μ1 else evSs Ω b δ μ1
  | .for_ t it b, δ, μ => RS.of δ (evi Ω it δ μ) fun src μ1 => forN (bindG t) (evSs Ω b) src Ω.fu 0 δ μ1
  | .while_ t b, δ, μ => whileN (tv Ω t) (evSs Ω b) Ω.fu δ μ
  | .pass, δ, μ => .nx δ μ
  | .brk, δ, μ => .brk δ μ
  | .cont, δ, μ => .cont δ μ
  | .setfld o f e, δ, μ => RS.of δ ((ev Ω e δ μ).bind fun d μ1 => (ev Ω o δ μ1).bind fun x μ2 => setfD Ω.C f x d μ2) fun _ μ1 => .nx δ μ1
  | .set2 o1 i1 o2 i2 e, δ, μ => RS.of δ ((ev Ω e δ μ).bind fun d μ1 => match d with
    | .tup [d1, d2] => (ev Ω o1 δ μ1).bind fun x1 μ2 => (ev Ω i1 δ μ2).bind fun k1 μ3 => (setixD x1 k1 d1 μ3).bind fun _ μ4 => (ev Ω o2 δ μ4).bind fun x2 μ5 => (ev Ω i2 δ μ5).bind fun k2 μ6 => setixD x2 k2 d2 μ6
    | _ => .stuck) fun _ μ1 => .nx δ μ1
  | .bad, _, _ => .stuck
  | .raise_ c es, δ, μ => if Ω.xo = true ∧ c < Ω.X.length then RS.of δ (evs Ω es δ μ) fun ds μ1 => raiseR Ω c ds δ μ1 else .stuck
  | .tryR b c i e, δ, μ => tryK Ω (ev Ω e) c i (evSs Ω b δ μ)
def evSs (Ω : Om) : Ss → Dl → Mu → RS
  | .nil, δ, μ => .nx δ μ
  | .cons s r, δ, μ => (evS Ω s δ μ).seq (evSs Ω r)
end
def RS.res : RS → Res D
  | .nx _ μ => .ok .non μ
  | .ret d μ => .ok d μ
  | .exc c fs _ μ => .exc c fs μ
  | _ => .stuck
/-- a def's body at its arguments: N names -/
def runB (Ω : Om) (N : Nat) (b : Ss) (ds : List D) (μ : Mu) : Res D := (evSs Ω b (ds.map some ++ List.replicate (N - ds.length) none) μ).res
end Tk

namespace Tk
open PySem PySem.Spec PyProof.Rows L2
theorem tuple_mul1 (l : Addr) (items : Array Value) (n : Nat) (dd : Option Addr) (sl : Array (Option Value)) (u : Tok) :
    Meets (Builtin.«tuple.__mul__» ⟨[.ref l, .int 1 u], []⟩) (fun _ R s => s.heap.get? l = some { cls := .type "tuple", dict := dd, data := .seq items n, slots := sl } ∧ R (.ok (.ret (Value.ref l))) s) :=
  .of_wp fun prog w A R s h => by
    obtain ⟨hp, g, d, tk, os⟩ := s
    obtain ⟨hl, h⟩ := h
    have f1 := AutoSeq1.idx_int
    wp_walk using wpAny_loadPart' hl
    exact ⟨_, rfl, h⟩
/-- a tuple once: the same object -/
theorem op_tup1 {X : Cx} {pins : List (Addr × Obj)} {s : Shared} {σ : L2.St} {H : Hp} {l : Addr} {xs : List V} {t : Tok} {Q : VK} (I : Inv X pins σ H s) (hT : SqT X.K H l xs) (q : Q (.ref l) H) :
    wpAny (model X.prog X.w) X.A (binaryOp .Mult (.ref l) (.int 1 t)) (EP X pins σ Q) X.xe s := by
  obtain ⟨its, r, ⟨⟨cls, dd, data, sl⟩, ho, hc, n, hd⟩, hs⟩ := I.tuple hT
  simp only at hc hd
  subst hc hd
  have m1 := tuple_mul1 l its.toArray n dd sl t
  have m2 := int_rmul_tuple 1 t l its.toArray n dd sl
  refine wpAny_binaryOp_repeat_ref (T := "tuple") (U := "int") (by decide) ⟨_, ho, rfl⟩ (fun s' => typeIs_int s' 1 t) noFill_tuple_mul F.fills_int_mul F.slot_int_rmul repeat_tuple F.slot_int_index.lookup ?_
  refine call_meets F.slot_int_rmul (typeIs_int s 1 t) F.entry_int_rmul (F.args_int_rmul_2 _ _) m2 ⟨ho, rfl, ⟨_, ho, rfl⟩, ?_⟩
  exact call_meets F.slot_tuple_mul ⟨_, ho, rfl⟩ F.entry_tuple_mul (F.args_tuple_mul_2 _ _) m1 ⟨ho, .ref l, H, I, rfl, q⟩

section
variable {κ : Kx} {α β γ δ' : Type} {Ra : List Addr → Hp → α → β → Prop} {W : WX} {σ : L2.St} {ρ ρ' : List Addr} {H H' : Hp} {μ : Mu}
theorem rep_non {v} : Rep κ ρ H .non v ↔ v = .non := by unfold Rep; exact Iff.rfl
theorem rep_bl {b v} : Rep κ ρ H (.bl b) v ↔ v = .bl b := by unfold Rep; exact Iff.rfl
theorem rep_int {i v} : Rep κ ρ H (.int i) v ↔ v = .int i := by unfold Rep; exact Iff.rfl
theorem rep_str {i v} : Rep κ ρ H (.str i) v ↔ v = .str i := by unfold Rep; exact Iff.rfl
theorem rep_ty {i v} : Rep κ ρ H (.ty i) v ↔ v = .ty i := by unfold Rep; exact Iff.rfl
theorem rep_loc {i v} : Rep κ ρ H (.loc i) v ↔ ∃ a, ρ[i]? = some a ∧ v = .ref a := by unfold Rep; exact Iff.rfl
theorem rep_tup {ds v} : Rep κ ρ H (.tup ds) v ↔ ∃ a xs, v = .ref a ∧ SqT κ.K H a xs ∧ Reps κ ρ H ds xs := by
  constructor
  · intro h; unfold Rep at h; exact h
  · intro h; unfold Rep; exact h
/-- a value is there -/
theorem Post.ok {d : α} {v : β} {Q : β → Hp → Prop} (h : Post κ Ra W σ ρ H (.ok d μ) Q) (r : Rel κ ρ H μ) (a : Ra ρ H d v) : Q v H := h ρ H v .refl r a
/-- a new list -/
theorem Post.newl {ds : List D} {vs : List V} {Q : V → Hp → Prop} (h : Post κ (Rep κ) W σ ρ H (Tk.newl μ ds) Q) (r : Rel κ ρ H μ) (a : Reps κ ρ H ds vs) {p : Addr} (hp : H p = none) : Q (.ref p) (upd H p (.lst vs)) := by
  refine h (ρ ++ [p]) _ _ (.new hp) (r.alloc hp ⟨vs, upd_same, a.ext (.new hp)⟩) (rep_loc.mpr ⟨p, ?_, rfl⟩)
  rw [List.getElem?_append_right (by rw [r.len]; exact Nat.le_refl _), r.len, Nat.sub_self]
  rfl
theorem Post.newt {ds : List D} {vs : List V} {Q : V → Hp → Prop} (h : Post κ (Rep κ) W σ ρ H (.ok (.tup ds) μ) Q) (r : Rel κ ρ H μ) (a : Reps κ ρ H ds vs) {p : Addr} (hp : H p = none) : Q (.ref p) (upd H p (.tup vs)) :=
  h ρ _ _ (.newt hp) (r.newt hp) (rep_tup.mpr ⟨p, vs, rfl, SqT.of upd_same, a.ext (.newt hp)⟩)
theorem Rel.sql (r : Rel κ ρ H μ) {n : Nat} {a : Addr} {ds : List D} (h : lstAt μ n = some ds) (ha : ρ[n]? = some a) : ∃ vs, SqL κ.K H a vs ∧ Reps κ ρ H ds vs := by
  obtain ⟨o, h1, h2⟩ := r.at ha
  unfold lstAt at h
  rw [h1] at h
  cases o with
  | lst xs =>
    cases h
    obtain ⟨vs, h3, h4⟩ := h2
    exact ⟨vs, SqL.of h3, h4⟩
  | fl xs =>
    cases h
    obtain ⟨vs, h3, h4⟩ := h2
    exact ⟨vs, .inl h3, h4⟩
  | dic _ => cases h
  | dit _ => cases h
  | ins _ _ => cases h
  | xd _ => cases h
theorem Rel.lst (r : Rel κ ρ H μ) {n : Nat} {a : Addr} {ds : List D} (h : μ[n]? = some (.lst ds)) (ha : ρ[n]? = some a) : ∃ vs, H a = some (.lst vs) ∧ Reps κ ρ H ds vs := by
  obtain ⟨o, h1, h2⟩ := r.at ha
  rw [h1] at h
  cases h
  exact h2
theorem Rel.wlst (r : Rel κ ρ H μ) {n : Nat} {a : Addr} {vs ws : List V} {es : List D} (ha : ρ[n]? = some a) (h : H a = some (.lst vs)) (hs : Reps κ ρ H es ws) : Rel κ ρ (upd H a (.lst ws)) (μ.set n (.lst es)) ∧ Ext ρ H ρ (upd H a (.lst ws)) :=
  ⟨r.write ha (not_tup_lst h) ⟨ws, upd_same, hs.ext (.write (not_tup_lst h))⟩, .write (not_tup_lst h)⟩
end

/-! ### operations -/
def OpJ (κ : Kx) (X : Cx) (f : Value → Value → Sem Value) (g : D → D → Mu → Res D) : Prop :=
  OpR X f (fun x y H Q => ∃ ρ μ dx dy W σ, Rel κ ρ H μ ∧ Rep κ ρ H dx x ∧ Rep κ ρ H dy y ∧ Post κ (Rep κ) W σ ρ H (g dx dy μ) Q)
section
variable {κ : Kx} {X : Cx} (hK : X.K = κ.K)
include hK
theorem oj_add : OpJ κ X (binaryOp .Add) addD := by
  intro pins s σ H x y v u Q I rx ry h
  obtain ⟨ρ, μ, dx, dy, W, σ', r, hx, hy, p⟩ := h
  unfold addD at p
  split at p
  · obtain rfl := rep_int.mp hx; obtain rfl := rep_int.mp hy
    exact op_add pins s σ H _ _ v u Q I rx ry ⟨_, _, rfl, rfl, p.ok r (rep_int.mpr rfl)⟩
  · obtain rfl := rep_str.mp hx; obtain rfl := rep_str.mp hy
    split at p
    · exact op_add_str pins s σ H _ _ v u Q I rx ry ⟨_, _, rfl, rfl, by assumption, p.ok r (rep_str.mpr rfl)⟩
    · exact p.elim
  · obtain ⟨a, xs, rfl, h1, h2⟩ := rep_tup.mp hx; obtain ⟨b, ys, rfl, h3, h4⟩ := rep_tup.mp hy
    split at p
    · rename_i hl
      rw [h2.len, h4.len] at hl
      refine op_catA pins s σ H _ _ v u Q I rx ry ⟨a, b, xs, ys, rfl, rfl, hK ▸ h1, hK ▸ h3, hl, fun e => ?_, fun _ e => ?_, fun _ _ q hq => p.newt r (h2.append h4) hq⟩
      · subst e
        refine p.ok r (rep_tup.mpr ⟨b, ys, rfl, h3, ?_⟩)
        have := h2.append h4
        rwa [List.nil_append] at this
      · subst e
        refine p.ok r (rep_tup.mpr ⟨a, xs, rfl, h1, ?_⟩)
        have := h2.append h4
        rwa [List.append_nil] at this
    · exact p.elim
  · obtain ⟨a, e1, rfl⟩ := rep_loc.mp hx; obtain ⟨b, e2, rfl⟩ := rep_loc.mp hy
    split at p
    · rename_i da db m1 m2
      obtain ⟨xs, h1, h2⟩ := r.lst m1 e1
      obtain ⟨ys, h3, h4⟩ := r.lst m2 e2
      split at p
      · rename_i hl
        rw [h2.len, h4.len] at hl
        exact op_cat pins s σ H _ _ v u Q I rx ry ⟨a, b, xs, ys, rfl, rfl, h1, h3, hl, fun q hq => p.newl r (h2.append h4) hq⟩
      · exact p.elim
    · exact p.elim
  · exact p.elim
omit hK in
theorem oj_sub : OpJ κ X (binaryOp .Sub) subD := by
  intro pins s σ H x y v u Q I rx ry h
  obtain ⟨ρ, μ, dx, dy, W, σ', r, hx, hy, p⟩ := h
  unfold subD at p
  split at p
  · obtain rfl := rep_int.mp hx; obtain rfl := rep_int.mp hy
    exact op_sub pins s σ H _ _ v u Q I rx ry ⟨_, _, rfl, rfl, p.ok r (rep_int.mpr rfl)⟩
  · exact p.elim
omit hK in
theorem cmul_ok {i j : Int} (h : cmulB i j = true) : CMul i j := by
  unfold cmulB at h
  simp only [Bool.or_eq_true, Bool.and_eq_true, decide_eq_true_eq] at h
  exact h
omit hK in
theorem Reps.rep {ρ H} : ∀ {ds : List D} {vs : List V} (k : Nat), Reps κ ρ H ds vs → Reps κ ρ H (List.replicate k ds).flatten (List.replicate k vs).flatten
  | _, _, 0, _ => .nil
  | ds, vs, k + 1, h => by
    rw [List.replicate_succ, List.replicate_succ, List.flatten_cons, List.flatten_cons]
    exact h.append (Reps.rep k h)
theorem oj_mul : OpJ κ X (binaryOp .Mult) mulD := by
  intro pins s σ H x y v u Q I rx ry h
  obtain ⟨ρ, μ, dx, dy, W, σ', r, hx, hy, p⟩ := h
  unfold mulD at p
  split at p
  · obtain rfl := rep_int.mp hx; obtain rfl := rep_int.mp hy
    split at p
    · rename_i hc
      exact op_mul pins s σ H _ _ v u Q I rx ry ⟨_, _, rfl, rfl, cmul_ok hc, p.ok r (rep_int.mpr rfl)⟩
    · exact p.elim
  · obtain ⟨a, e1, rfl⟩ := rep_loc.mp hx; obtain rfl := rep_int.mp hy
    split at p
    · rename_i da m1
      obtain ⟨xs, h1, h2⟩ := r.lst m1 e1
      split at p
      · rename_i hl
        rw [h2.len] at hl
        exact op_rep pins s σ H _ _ v u Q I rx ry ⟨a, _, xs, rfl, rfl, h1, hl.1, hl.2.1, hl.2.2, fun q hq => p.newl r (h2.rep _) hq⟩
      · exact p.elim
    · exact p.elim
  · rename_i da k
    obtain ⟨a, xs, rfl, h1, h2⟩ := rep_tup.mp hx
    obtain rfl := rep_int.mp hy
    split at p
    · rename_i hl
      obtain ⟨l1, l2, l3, l4⟩ := hl
      by_cases hk : k = 1
      · subst hk
        obtain rfl : v = Value.ref a := rx
        obtain ⟨t, rfl⟩ := ry
        refine op_tup1 I (hK ▸ h1) (p.ok r (rep_tup.mpr ⟨a, xs, rfl, h1, ?_⟩))
        have e : (List.replicate (1 : Int).toNat da).flatten = da := by
          show (List.replicate 1 da).flatten = da
          simp
        rw [e]
        exact h2
      · have hne : xs ≠ [] := fun e => l1 (List.eq_nil_of_length_eq_zero (by rw [h2.len, e]; rfl))
        refine op_repT pins s σ H _ _ v u Q I rx ry ⟨a, k, xs, rfl, rfl, hK ▸ h1, hne, by omega, l3, by rw [← h2.len]; exact l4, fun q hq => p.newt r (h2.rep _) hq⟩
    · exact p.elim
  · exact p.elim
omit hK in
theorem oj_div : OpJ κ X (binaryOp .FloorDiv) divD := by
  intro pins s σ H x y v u Q I rx ry h
  obtain ⟨ρ, μ, dx, dy, W, σ', r, hx, hy, p⟩ := h
  unfold divD at p
  split at p
  · obtain rfl := rep_int.mp hx; obtain rfl := rep_int.mp hy
    split at p
    · rename_i hc
      exact op_fdiv pins s σ H _ _ v u Q I rx ry ⟨_, _, rfl, rfl, hc, p.ok r (rep_int.mpr rfl)⟩
    · exact p.elim
  · exact p.elim
omit hK in
theorem oj_mod : OpJ κ X (binaryOp .Mod) modD := by
  intro pins s σ H x y v u Q I rx ry h
  obtain ⟨ρ, μ, dx, dy, W, σ', r, hx, hy, p⟩ := h
  unfold modD at p
  split at p
  · obtain rfl := rep_int.mp hx; obtain rfl := rep_int.mp hy
    split at p
    · rename_i hc
      exact op_mod pins s σ H _ _ v u Q I rx ry ⟨_, _, rfl, rfl, hc, p.ok r (rep_int.mpr rfl)⟩
    · exact p.elim
  · exact p.elim
omit hK in
theorem oj_pow : OpJ κ X (binaryOp .Pow) powD := by
  intro pins s σ H x y v u Q I rx ry h
  obtain ⟨ρ, μ, dx, dy, W, σ', r, hx, hy, p⟩ := h
  unfold powD at p
  split at p
  · obtain rfl := rep_int.mp hx; obtain rfl := rep_int.mp hy
    split at p
    · rename_i hc
      exact op_pow pins s σ H _ _ v u Q I rx ry ⟨_, _, rfl, rfl, hc, p.ok r (rep_int.mpr rfl)⟩
    · exact p.elim
  · exact p.elim
omit hK in
theorem oj_none {o : Operator} : OpJ κ X (binaryOp o) (fun _ _ _ => .stuck) := by
  intro pins s σ H x y v u Q I rx ry h
  obtain ⟨ρ, μ, dx, dy, W, σ', r, hx, hy, p⟩ := h
  exact p.elim
theorem oj_bin (o : Operator) : OpJ κ X (binaryOp o) (binD o) := by
  cases o with
  | Add => exact oj_add hK
  | Sub => exact oj_sub
  | Mult => exact oj_mul hK
  | FloorDiv => exact oj_div
  | Mod => exact oj_mod
  | Pow => exact oj_pow
  | _ => exact oj_none
omit hK in
theorem ij_aug (o : Operator) : OpJ κ X (inplaceOp o) (augD o) := by
  intro pins s σ H x y v u Q I rx ry h
  obtain ⟨ρ, μ, dx, dy, W, σ', r, hx, hy, p⟩ := h
  unfold augD at p
  split at p
  · obtain rfl := rep_int.mp hx; obtain rfl := rep_int.mp hy
    exact iop_add pins s σ H _ _ v u Q I rx ry ⟨_, _, rfl, rfl, p.ok r (rep_int.mpr rfl)⟩
  · obtain rfl := rep_int.mp hx; obtain rfl := rep_int.mp hy
    exact iop_sub pins s σ H _ _ v u Q I rx ry ⟨_, _, rfl, rfl, p.ok r (rep_int.mpr rfl)⟩
  · exact p.elim
end

/-! ### equality, membership -/
section
variable {κ : Kx} {ρ : List Addr} {H : Hp} {μ : Mu}
theorem dps_of {f : D → Option PyData} (hf : ∀ d v p, f d = some p → Rep κ ρ H d v → Dp κ.K H v p) : ∀ (ds : List D) (vs : List V) (ps : List PyData), allS (ds.map f) = some ps → Reps κ ρ H ds vs → DpAll κ.K H vs ps
  | [], vs, ps, h, r => by
    cases h
    unfold Reps at r
    subst r
    exact .nil
  | d :: ds, vs, ps, h, r => by
    rw [List.map_cons] at h
    unfold Reps at r
    obtain ⟨v, w, rfl, h4, h5⟩ := r
    cases h1 : f d with
    | none => rw [h1] at h; cases h
    | some p =>
      rw [h1] at h
      obtain ⟨qs, h3, rfl⟩ := Option.map_eq_some_iff.mp (show (allS (ds.map f)).map (p :: ·) = some ps from h)
      exact .cons (hf d v p h1 h4) (dps_of hf ds w qs h3 h5)
theorem allS_mem {α β : Type} {f : α → Option β} : ∀ (ds : List α) (ps : List β), allS (ds.map f) = some ps → ∀ p ∈ ps, ∃ d ∈ ds, f d = some p
  | [], ps, h, p, hp => by cases h; cases hp
  | d :: ds, ps, h, p, hp => by
    rw [List.map_cons] at h
    cases h1 : f d with
    | none => rw [h1] at h; cases h
    | some q =>
      rw [h1] at h
      obtain ⟨qs, h3, rfl⟩ := Option.map_eq_some_iff.mp (show (allS (ds.map f)).map (q :: ·) = some ps from h)
      rcases List.mem_cons.mp hp with rfl | hp
      · exact ⟨d, List.mem_cons_self, h1⟩
      · obtain ⟨e, he, h4⟩ := allS_mem ds qs h3 p hp
        exact ⟨e, List.mem_cons_of_mem _ he, h4⟩
theorem pyD_ok (r : Rel κ ρ H μ) : ∀ (k : Nat) (d : D) (v : V) (p : PyData), pyD μ k d = some p → Rep κ ρ H d v → Dp κ.K H v p
  | 0, d, v, p, h, _ => by unfold pyD at h; cases h
  | k + 1, d, v, p, h, rp => by
    unfold pyD at h
    cases d with
    | non => cases h; rw [rep_non.mp rp]; exact .non
    | bl b => cases h; rw [rep_bl.mp rp]; exact .bl b
    | int b => cases h; rw [rep_int.mp rp]; exact .int b
    | str b => cases h; rw [rep_str.mp rp]; exact .str b
    | ty b => cases h
    | loc n =>
      obtain ⟨a, h0, rfl⟩ := rep_loc.mp rp
      obtain ⟨xs, h1, h2⟩ := Option.bind_eq_some_iff.mp h
      obtain ⟨qs, h3, rfl⟩ := Option.map_eq_some_iff.mp h2
      obtain ⟨vs, h4, h5⟩ := r.sql h1 h0
      exact .lst h4 (dps_of (pyD_ok r k) xs vs qs h3 h5)
    | tup ds =>
      obtain ⟨ps, h1, rfl⟩ := Option.map_eq_some_iff.mp h
      obtain ⟨a, xs, rfl, h2, h3⟩ := rep_tup.mp rp
      exact .tup h2 (dps_of (pyD_ok r k) ds xs ps h1 h3)
theorem depthAll_le {k : Nat} : ∀ (ps : List PyData), (∀ p ∈ ps, p.depth ≤ k ∧ p.plain = true) → PyData.depthAll ps ≤ k ∧ PyData.plainAll ps = true
  | [], _ => ⟨Nat.zero_le _, rfl⟩
  | p :: ps, h => by
    obtain ⟨h1, h2⟩ := h p List.mem_cons_self
    obtain ⟨h3, h4⟩ := depthAll_le ps fun q hq => h q (List.mem_cons_of_mem _ hq)
    unfold PyData.depthAll PyData.plainAll
    exact ⟨Nat.max_le.mpr ⟨h1, h3⟩, by rw [h2, h4]; rfl⟩
theorem pyD_plain : ∀ (k : Nat) (d : D) (p : PyData), pyD μ k d = some p → p.depth ≤ k ∧ p.plain = true
  | 0, d, p, h => by unfold pyD at h; cases h
  | k + 1, d, p, h => by
    unfold pyD at h
    cases d with
    | non => cases h; exact ⟨Nat.zero_le _, rfl⟩
    | bl b => cases h; exact ⟨Nat.zero_le _, rfl⟩
    | int b => cases h; exact ⟨Nat.zero_le _, rfl⟩
    | str b => cases h; exact ⟨Nat.zero_le _, rfl⟩
    | ty b => cases h
    | loc n =>
      obtain ⟨xs, h1, h2⟩ := Option.bind_eq_some_iff.mp h
      obtain ⟨qs, h3, rfl⟩ := Option.map_eq_some_iff.mp h2
      obtain ⟨g1, g2⟩ := depthAll_le qs fun q hq => by
        obtain ⟨e, _, h4⟩ := allS_mem xs qs h3 q hq
        exact pyD_plain k e q h4
      unfold PyData.depth PyData.plain
      exact ⟨Nat.succ_le_succ g1, g2⟩
    | tup ds =>
      obtain ⟨qs, h3, rfl⟩ := Option.map_eq_some_iff.mp h
      obtain ⟨g1, g2⟩ := depthAll_le qs fun q hq => by
        obtain ⟨e, _, h4⟩ := allS_mem ds qs h3 q hq
        exact pyD_plain k e q h4
      unfold PyData.depth PyData.plain
      exact ⟨Nat.succ_le_succ g1, g2⟩
def toV : D → V
  | .bl b => .bl b
  | .int i => .int i
  | .str x => .str x
  | _ => .non
theorem rep_flat {d : D} {v : V} (f : flatD d = true) (r : Rep κ ρ H d v) : v = toV d ∧ flatV v = true := by
  cases d with
  | non => rw [rep_non.mp r]; exact ⟨rfl, rfl⟩
  | bl b => rw [rep_bl.mp r]; exact ⟨rfl, rfl⟩
  | int b => rw [rep_int.mp r]; exact ⟨rfl, rfl⟩
  | str b => rw [rep_str.mp r]; exact ⟨rfl, rfl⟩
  | _ => cases f
theorem eqV_toV {x y : D} (fx : flatD x = true) (fy : flatD y = true) : eqV (toV x) (toV y) = eqF x y := by
  cases x <;> cases y <;> first | rfl | (cases fx; done) | (cases fy; done)
theorem inV_of {x : D} {v : V} (fx : flatD x = true) (rx : Rep κ ρ H x v) : ∀ {ds : List D} {vs : List V}, ds.all flatD = true → Reps κ ρ H ds vs → vs.all flatV = true ∧ inV v vs = inF x ds
  | [], vs, _, r => by
    unfold Reps at r
    subst r
    exact ⟨rfl, rfl⟩
  | d :: ds, vs, f, r => by
    unfold Reps at r
    obtain ⟨u, w, rfl, h4, h5⟩ := r
    obtain ⟨f1, f2⟩ := Bool.and_eq_true_iff.mp (show (flatD d && ds.all flatD) = true from f)
    obtain ⟨g1, g2⟩ := inV_of fx rx f2 h5
    obtain ⟨e1, e2⟩ := rep_flat f1 h4
    obtain ⟨e3, e4⟩ := rep_flat fx rx
    refine ⟨by rw [List.all_cons, e2, g1]; rfl, ?_⟩
    show (eqV u v || inV v w) = (eqF d x || inF x ds)
    rw [g2, e1, e3, eqV_toV f1 fx]
end
section
variable {κ : Kx} {X : Cx} (hK : X.K = κ.K) (hu : X.A.units + 64 < cLine)
include hK hu
theorem oj_cmp (o : CmpOp) : OpJ κ X (compareOp o) (cmpQ o) := by
  intro pins s σ H x y v u Q I rx ry h
  obtain ⟨ρ, μ, dx, dy, W, σ', r, hx, hy, p⟩ := h
  have eqs : ∀ b, eqD μ dx dy = some b → ∃ d e, Dp X.K H x d ∧ Dp X.K H y e ∧ d.plain = true ∧ e.plain = true ∧ d.depth ≤ 64 ∧ PyData.eqv d e = b := fun b hb => by
    unfold eqD at hb
    obtain ⟨d, h1, h2⟩ := Option.bind_eq_some_iff.mp hb
    obtain ⟨e, h3, h4⟩ := Option.bind_eq_some_iff.mp h2
    cases h4
    rw [hK]
    obtain ⟨p1, p2⟩ := pyD_plain 40 dx d h1
    exact ⟨d, e, pyD_ok r 40 dx x d h1 hx, pyD_ok r 40 dy y e h3 hy, p2, (pyD_plain 40 dy e h3).2, by omega, rfl⟩
  have ins : ∀ b, inD μ dx dy = some b → ((∃ i j, x = .str i ∧ y = .str j ∧ b = (!(Builtin.Str.occurrences j i 0 j.length 1).isEmpty)) ∨
      ∃ q xs, y = .ref q ∧ (SqL X.K H q xs ∨ SqT X.K H q xs) ∧ flatV x = true ∧ xs.all flatV = true ∧ inV x xs = b) := fun b hb => by
    unfold inD at hb
    split at hb
    · split at hb
      · cases hb
        exact .inl ⟨_, _, rep_str.mp hx, rep_str.mp hy, rfl⟩
      · cases hb
    · obtain ⟨ys, h1, h2⟩ := Option.bind_eq_some_iff.mp hb
      split at h2
      · rename_i hf
        cases h2
        obtain ⟨f1, f2⟩ := hf
        have e4 := (rep_flat f1 hx).2
        unfold seqD at h1
        split at h1
        · cases h1
          obtain ⟨a, xs, rfl, g1, g2⟩ := rep_tup.mp hy
          obtain ⟨g3, g4⟩ := inV_of f1 hx f2 g2
          exact .inr ⟨a, xs, rfl, .inr (hK ▸ g1), e4, g3, g4⟩
        · obtain ⟨a, g0, rfl⟩ := rep_loc.mp hy
          obtain ⟨xs, g1, g2⟩ := r.sql h1 g0
          obtain ⟨g3, g4⟩ := inV_of f1 hx f2 g2
          exact .inr ⟨a, xs, rfl, .inl (hK ▸ g1), e4, g3, g4⟩
        · cases h1
      · cases h2
  unfold cmpQ at p
  split at p
  · split at p
    · rename_i b hb
      obtain ⟨d, e, h1, h2, h3, h4, h5, rfl⟩ := eqs b hb
      obtain ⟨as, r1⟩ := Dp.reads I d x v h1 rx
      obtain ⟨bs, r2⟩ := Dp.reads I e y u h2 ry
      exact SeqAt.eq_plain r1 r2 h3 h4 (by omega) ⟨.bl _, H, I, rfl, p.ok r (rep_bl.mpr rfl)⟩
    · exact p.elim
  · split at p
    · rename_i b hb
      obtain ⟨d, e, h1, h2, h3, h4, h5, rfl⟩ := eqs b hb
      obtain ⟨as, r1⟩ := Dp.reads I d x v h1 rx
      obtain ⟨bs, r2⟩ := Dp.reads I e y u h2 ry
      exact SeqAt.ne_plain r1 r2 h3 h4 (by omega) ⟨.bl _, H, I, rfl, p.ok r (rep_bl.mpr rfl)⟩
    · exact p.elim
  · obtain rfl := rep_int.mp hx; obtain rfl := rep_int.mp hy
    exact op_lt pins s σ H _ _ v u Q I rx ry ⟨_, _, rfl, rfl, p.ok r (rep_bl.mpr rfl)⟩
  · obtain rfl := rep_int.mp hx; obtain rfl := rep_int.mp hy
    exact op_le pins s σ H _ _ v u Q I rx ry ⟨_, _, rfl, rfl, p.ok r (rep_bl.mpr rfl)⟩
  · obtain rfl := rep_int.mp hx; obtain rfl := rep_int.mp hy
    exact op_gt pins s σ H _ _ v u Q I rx ry ⟨_, _, rfl, rfl, p.ok r (rep_bl.mpr rfl)⟩
  · obtain rfl := rep_int.mp hx; obtain rfl := rep_int.mp hy
    exact op_ge pins s σ H _ _ v u Q I rx ry ⟨_, _, rfl, rfl, p.ok r (rep_bl.mpr rfl)⟩
  · obtain rfl := rep_non.mp hy
    refine op_isN pins s σ H _ _ v u Q I rx ry ⟨rfl, p.ok r (rep_bl.mpr ?_)⟩
    cases dx with
    | non => rw [rep_non.mp hx]; rfl
    | bl b => rw [rep_bl.mp hx]; rfl
    | int b => rw [rep_int.mp hx]; rfl
    | str b => rw [rep_str.mp hx]; rfl
    | ty b => rw [rep_ty.mp hx]; rfl
    | tup b => obtain ⟨a, xs, rfl, _⟩ := rep_tup.mp hx; rfl
    | loc b => obtain ⟨a, _, rfl⟩ := rep_loc.mp hx; rfl
  · obtain rfl := rep_non.mp hy
    refine op_notN pins s σ H _ _ v u Q I rx ry ⟨rfl, p.ok r (rep_bl.mpr ?_)⟩
    cases dx with
    | non => rw [rep_non.mp hx]; rfl
    | bl b => rw [rep_bl.mp hx]; rfl
    | int b => rw [rep_int.mp hx]; rfl
    | str b => rw [rep_str.mp hx]; rfl
    | ty b => rw [rep_ty.mp hx]; rfl
    | tup b => obtain ⟨a, xs, rfl, _⟩ := rep_tup.mp hx; rfl
    | loc b => obtain ⟨a, _, rfl⟩ := rep_loc.mp hx; rfl
  · split at p
    · rename_i b hb
      rcases ins b hb with ⟨i, j, rfl, rfl, rfl⟩ | ⟨q, xs, rfl, h1, h2, h3, rfl⟩
      · exact op_in_str pins s σ H _ _ v u Q I rx ry ⟨_, _, rfl, rfl, p.ok r (rep_bl.mpr rfl)⟩
      · exact op_in_seq pins s σ H _ _ v u Q I rx ry ⟨q, xs, rfl, h1, h2, h3, p.ok r (rep_bl.mpr rfl)⟩
    · exact p.elim
  · split at p
    · rename_i b hb
      rcases ins b hb with ⟨i, j, rfl, rfl, rfl⟩ | ⟨q, xs, rfl, h1, h2, h3, rfl⟩
      · exact op_notin_str pins s σ H _ _ v u Q I rx ry ⟨_, _, rfl, rfl, p.ok r (rep_bl.mpr rfl)⟩
      · exact op_notIn_seq pins s σ H _ _ v u Q I rx ry ⟨q, xs, rfl, h1, h2, h3, p.ok r (rep_bl.mpr rfl)⟩
    · exact p.elim
  · exact p.elim
end
end Tk

namespace Tk
open PySem PySem.Spec PyProof.Rows L2

section
variable {κ : Kx} {α β γ δ' : Type} {Ra : List Addr → Hp → α → β → Prop} {Rc : List Addr → Hp → γ → δ' → Prop} {W : WX} {σ : L2.St} {ρ ρ' : List Addr} {H H' : Hp} {δ : Dl} {μ : Mu}
theorem gox {m : Dl → Mu → Res α} {f : α → Mu → Res γ} {Q : δ' → Hp → Prop} {Q' : β → Hp → Prop} (s : RepS κ ρ H δ σ) (r : Rel κ ρ H μ) (h : Post κ Rc W σ ρ H ((m δ μ).bind f) Q)
    (k : ∀ ρ1 H1 a v μ1, Ext ρ H ρ1 H1 → RepS κ ρ1 H1 δ σ → Rel κ ρ1 H1 μ1 → Ra ρ1 H1 a v → Post κ Rc W σ ρ1 H1 (f a μ1) Q → Q' v H1) : tG κ Ra W m σ H Q' :=
  ⟨ρ, δ, μ, s, r, (Post.bind h).mono fun v H1 ⟨ρ1, a, μ1, e, r1, x, p⟩ => k ρ1 H1 a v μ1 e (s.ext e) r1 x p⟩
theorem gol {m : Dl → Mu → Res α} {Q : β → Hp → Prop} (s : RepS κ ρ H δ σ) (r : Rel κ ρ H μ) (h : Post κ Ra W σ ρ H (m δ μ) Q) : tG κ Ra W m σ H Q := ⟨ρ, δ, μ, s, r, h⟩
end

/-! ### expressions -/
section
variable {κ : Kx} {X : Cx} {W : WX} {e a b c : Expr} {es : List Expr} {pos : Pos} {m ma mb mc : Dl → Mu → Res D} {mt mu mw : Dl → Mu → Res Bool} {ms : Dl → Mu → Res (List D)}
abbrev JE (κ : Kx) (X : Cx) (W : WX) (e : Expr) (m : Dl → Mu → Res D) : Prop := PE X e (tE κ W m)
abbrev JT (κ : Kx) (X : Cx) (W : WX) (e : Expr) (m : Dl → Mu → Res Bool) : Prop := PT X e (tT κ W m)
abbrev JW (κ : Kx) (X : Cx) (W : WX) (e : Expr) (m : Dl → Mu → Res Bool) : Prop := PW X e (tT κ W m)
abbrev JA (κ : Kx) (X : Cx) (W : WX) (e : List Expr) (m : Dl → Mu → Res (List D)) : Prop := PA X e (tA κ W m)

theorem je_v {i : Nat} {x : Str} (h : PE X (.Name x pos) (tVar i)) : JE κ X W (.Name x pos) (fun δ μ => match δ[i]? with
    | some (some d) => .ok d μ
    | _ => .stuck) := by
  refine pe_imp h fun σ H Q ⟨ρ, δ, μ, s, r, p⟩ => ?_
  dsimp only at p
  split at p
  · rename_i d hd
    obtain ⟨v, h1, h2⟩ := s.at_ i d hd
    exact ⟨v, h1, p.ok r h2⟩
  · exact p.elim
theorem je_c {d : D} {v : V} (h : PE X e (tC v)) (hd : ∀ ρ H, Rep κ ρ H d v) : JE κ X W e (fun _ μ => .ok d μ) :=
  pe_imp h fun σ H Q ⟨ρ, δ, μ, s, r, p⟩ => p.ok r (hd ρ H)
theorem ja_nil : JA κ X W [] (fun _ μ => .ok [] μ) := pa_imp pa_nil fun σ H Q ⟨ρ, δ, μ, s, r, p⟩ => p.ok r .nil
theorem ja_cons (ha : JE κ X W a ma) (hr : JA κ X W es ms) (hs : starEach (a :: es) X.env = (false, eval a X.env) :: starEach es X.env) :
    JA κ X W (a :: es) (fun δ μ => (ma δ μ).bind fun d μ1 => (ms δ μ1).bind fun ds μ2 => .ok (d :: ds) μ2) :=
  pa_imp (pa_cons ha hr hs) fun σ H Q ⟨ρ, δ, μ, s, r, p⟩ =>
    gox s r p fun ρ1 H1 d v μ1 e1 s1 r1 x1 p1 => gox s1 r1 p1 fun ρ2 H2 ds vs μ2 e2 s2 r2 x2 p2 => p2.ok r2 (.cons (x1.ext e2) x2)
theorem je_tup {k : Nat} (h : JA κ X W es ms) : JE κ X W (.Tuple es k pos) (fun δ μ => (ms δ μ).bind fun ds μ1 => if ds.length ≤ sizeLine then .ok (.tup ds) μ1 else .stuck) :=
  pe_imp (pe_tup h) fun σ H Q ⟨ρ, δ, μ, s, r, p⟩ => gox s r p fun ρ1 H1 ds vs μ1 e1 s1 r1 x1 p1 => by
    split at p1
    · rename_i hl
      exact ⟨by rw [← x1.len]; exact hl, fun q hq => p1.newt r1 x1 hq⟩
    · exact p1.elim
theorem je_lst (h : JA κ X W es ms) : JE κ X W (.List es pos) (fun δ μ => (ms δ μ).bind fun ds μ1 => if ds.length ≤ sizeLine then newl μ1 ds else .stuck) :=
  pe_imp (pe_lst h) fun σ H Q ⟨ρ, δ, μ, s, r, p⟩ => gox s r p fun ρ1 H1 ds vs μ1 e1 s1 r1 x1 p1 => by
    split at p1
    · rename_i hl
      exact ⟨by rw [← x1.len]; exact hl, fun q hq => p1.newl r1 x1 hq⟩
    · exact p1.elim
theorem go2 {g : D → D → Mu → Res D} {r2 : R2} {σ : L2.St} {H : Hp} {Q : VK} (hr : ∀ x y H Q, (∃ ρ μ dx dy W σ, Rel κ ρ H μ ∧ Rep κ ρ H dx x ∧ Rep κ ρ H dy y ∧ Post κ (Rep κ) W σ ρ H (g dx dy μ) Q) → r2 x y H Q)
    (h : tE κ W (fun δ μ => (ma δ μ).bind fun x μ1 => (mb δ μ1).bind fun y μ2 => g x y μ2) σ H Q) : tOp r2 (tE κ W ma) (tE κ W mb) σ H Q := by
  obtain ⟨ρ, δ, μ, s, r, p⟩ := h
  exact gox s r p fun ρ1 H1 d v μ1 e1 s1 r1 x1 p1 => gox s1 r1 p1 fun ρ2 H2 d2 v2 μ2 e2 s2 r2 x2 p2 => hr _ _ _ _ ⟨ρ2, μ2, d, d2, W, σ, r2, x1.ext e2, x2, p2⟩
theorem je_bin {o : Operator} {g : D → D → Mu → Res D} (ho : OpJ κ X (binaryOp o) g) (ha : JE κ X W a ma) (hb : JE κ X W b mb) :
    JE κ X W (.BinOp a o b pos) (fun δ μ => (ma δ μ).bind fun x μ1 => (mb δ μ1).bind fun y μ2 => g x y μ2) :=
  pe_imp (pe_op ho ha hb) fun σ H Q h => go2 (fun _ _ _ _ z => z) h
theorem je_neg (ha : JE κ X W a ma) : JE κ X W (.UnaryOp .USub a pos) (fun δ μ => (ma δ μ).bind fun x μ1 => negD x μ1) :=
  pe_imp (pe_un un_neg ha) fun σ H Q ⟨ρ, δ, μ, s, r, p⟩ => gox s r p fun ρ1 H1 d v μ1 e1 s1 r1 x1 p1 => by
    unfold negD at p1
    split at p1
    · obtain rfl := rep_int.mp x1
      exact ⟨_, rfl, p1.ok r1 (rep_int.mpr rfl)⟩
    · exact p1.elim
theorem je_cmp {o : CmpOp} {g : D → D → Mu → Res D} (ho : OpJ κ X (compareOp o) g) (ha : JE κ X W a ma) (hb : JE κ X W b mb) (hm : behindInMarks o b = false) :
    JE κ X W (.Compare a [o] [b] pos) (fun δ μ => (ma δ μ).bind fun x μ1 => (mb δ μ1).bind fun y μ2 => g x y μ2) :=
  pe_imp (pe_cmpR ho ha hb hm) fun σ H Q h => go2 (fun _ _ _ _ z => z) h
theorem jt_cmp {o : CmpOp} {g : D → D → Mu → Res D} (ho : OpJ κ X (compareOp o) g) (ha : JE κ X W a ma) (hb : JE κ X W b mb) (hm : behindInMarks o b = false) :
    JT κ X W (.Compare a [o] [b] pos) (fun δ μ => (ma δ μ).bind fun x μ1 => (mb δ μ1).bind fun y μ2 => (g x y μ2).bind fun z μ3 => match z with
      | .bl c => .ok c μ3
      | _ => .stuck) :=
  pt_imp (pt_cmpR ho ha hb hm) fun σ H Q ⟨ρ, δ, μ, s, r, p⟩ =>
    gox s r p fun ρ1 H1 d v μ1 e1 s1 r1 x1 p1 => gox s1 r1 p1 fun ρ2 H2 d2 v2 μ2 e2 s2 r2 x2 p2 => ⟨ρ2, μ2, d, d2, W, σ, r2, x1.ext e2, x2, (Post.bind p2).mono fun v3 H3 ⟨ρ3, d3, μ3, e3, r3, x3, p3⟩ => by
      split at p3
      · obtain rfl := rep_bl.mp x3
        exact ⟨_, rfl, p3.ok r3 rfl⟩
      · exact p3.elim⟩
theorem je_chn {o o' : CmpOp} {g g' : D → D → Mu → Res D} (ho : OpJ κ X (compareOp o) g) (ho' : OpJ κ X (compareOp o') g') (ha : JE κ X W a ma) (hb : JE κ X W b mb) (hc : JE κ X W c mc) (hm : lastMarks [o, o'] [b, c] = false) :
    JE κ X W (.Compare a [o, o'] [b, c] pos) (fun δ μ => (ma δ μ).bind fun x μ1 => (mb δ μ1).bind fun y μ2 => (g x y μ2).bind fun z μ3 => match z with
      | .bl true => (mc δ μ3).bind fun w μ4 => g' y w μ4
      | .bl false => .ok (.bl false) μ3
      | _ => .stuck) :=
  pe_imp (pe_chain ho ho' ha hb hc hm) fun σ H Q ⟨ρ, δ, μ, s, r, p⟩ =>
    gox s r p fun ρ1 H1 d v μ1 e1 s1 r1 x1 p1 => gox s1 r1 p1 fun ρ2 H2 d2 v2 μ2 e2 s2 r2 x2 p2 => ⟨ρ2, μ2, d, d2, W, σ, r2, x1.ext e2, x2, (Post.bind p2).mono fun v3 H3 ⟨ρ3, d3, μ3, e3, r3, x3, p3⟩ => by
      split at p3
      · obtain rfl := rep_bl.mp x3
        refine ⟨true, rfl, ?_⟩
        rw [if_pos rfl]
        exact gox (s2.ext e3) r3 p3 fun ρ4 H4 d4 v4 μ4 e4 s4 r4 x4 p4 => ⟨ρ4, μ4, d2, d4, W, σ, r4, x2.ext (e3.trans e4), x4, p4⟩
      · obtain rfl := rep_bl.mp x3
        refine ⟨false, rfl, ?_⟩
        rw [if_neg Bool.false_ne_true]
        exact p3.ok r3 (rep_bl.mpr rfl)
      · exact p3.elim⟩
theorem jt_chn {o o' : CmpOp} {g g' : D → D → Mu → Res D} (ho : OpJ κ X (compareOp o) g) (ho' : OpJ κ X (compareOp o') g') (ha : JE κ X W a ma) (hb : JE κ X W b mb) (hc : JE κ X W c mc) (hm : lastMarks [o, o'] [b, c] = false) :
    JT κ X W (.Compare a [o, o'] [b, c] pos) (fun δ μ => (ma δ μ).bind fun x μ1 => (mb δ μ1).bind fun y μ2 => (g x y μ2).bind fun z μ3 => match z with
      | .bl true => (mc δ μ3).bind fun w μ4 => (g' y w μ4).bind fun z2 μ5 => (match z2 with
        | .bl d => .ok d μ5
        | _ => .stuck)
      | .bl false => .ok false μ3
      | _ => .stuck) :=
  pt_imp (pt_chain ho ho' ha hb hc hm) fun σ H Q ⟨ρ, δ, μ, s, r, p⟩ =>
    gox s r p fun ρ1 H1 d v μ1 e1 s1 r1 x1 p1 => gox s1 r1 p1 fun ρ2 H2 d2 v2 μ2 e2 s2 r2 x2 p2 => ⟨ρ2, μ2, d, d2, W, σ, r2, x1.ext e2, x2, (Post.bind p2).mono fun v3 H3 ⟨ρ3, d3, μ3, e3, r3, x3, p3⟩ => by
      split at p3
      · obtain rfl := rep_bl.mp x3
        refine ⟨true, rfl, ?_⟩
        rw [if_pos rfl]
        exact gox (s2.ext e3) r3 p3 fun ρ4 H4 d4 v4 μ4 e4 s4 r4 x4 p4 => ⟨ρ4, μ4, d2, d4, W, σ, r4, x2.ext (e3.trans e4), x4, (Post.bind p4).mono fun v5 H5 ⟨ρ5, d5, μ5, e5, r5, x5, p5⟩ => by
          split at p5
          · obtain rfl := rep_bl.mp x5
            exact ⟨_, rfl, p5.ok r5 rfl⟩
          · exact p5.elim⟩
      · obtain rfl := rep_bl.mp x3
        refine ⟨false, rfl, ?_⟩
        rw [if_neg Bool.false_ne_true]
        exact ⟨false, rfl, p3.ok r3 rfl⟩
      · exact p3.elim⟩
/-! and, or, not -/
variable {rest : List Expr}
theorem je_one {op : BoolOp} (h : JE κ X W a ma) : JE κ X W (.BoolOp op [a] pos) ma := pe_one h
theorem je_and (ha : JE κ X W a ma) (hb : JE κ X W (.BoolOp .And (b :: rest) pos) mb) : JE κ X W (.BoolOp .And (a :: b :: rest) pos) (fun δ μ => (ma δ μ).bind fun x μ1 => match x with
    | .bl true => mb δ μ1
    | .bl false => .ok (.bl false) μ1
    | _ => .stuck) :=
  pe_imp (pe_and ha hb) fun σ H Q ⟨ρ, δ, μ, s, r, p⟩ => gox s r p fun ρ1 H1 d v μ1 e1 s1 r1 x1 p1 => by
    split at p1
    · obtain rfl := rep_bl.mp x1
      refine ⟨true, rfl, ?_⟩
      rw [if_pos rfl]
      exact gol s1 r1 p1
    · obtain rfl := rep_bl.mp x1
      refine ⟨false, rfl, ?_⟩
      rw [if_neg Bool.false_ne_true]
      exact p1.ok r1 (rep_bl.mpr rfl)
    · exact p1.elim
theorem je_or (ha : JE κ X W a ma) (hb : JE κ X W (.BoolOp .Or (b :: rest) pos) mb) : JE κ X W (.BoolOp .Or (a :: b :: rest) pos) (fun δ μ => (ma δ μ).bind fun x μ1 => match x with
    | .bl true => .ok (.bl true) μ1
    | .bl false => mb δ μ1
    | _ => .stuck) :=
  pe_imp (pe_or ha hb) fun σ H Q ⟨ρ, δ, μ, s, r, p⟩ => gox s r p fun ρ1 H1 d v μ1 e1 s1 r1 x1 p1 => by
    split at p1
    · obtain rfl := rep_bl.mp x1
      refine ⟨true, rfl, ?_⟩
      rw [if_pos rfl]
      exact p1.ok r1 (rep_bl.mpr rfl)
    · obtain rfl := rep_bl.mp x1
      refine ⟨false, rfl, ?_⟩
      rw [if_neg Bool.false_ne_true]
      exact gol s1 r1 p1
    · exact p1.elim
theorem je_not (ha : JE κ X W a ma) : JE κ X W (.UnaryOp .Not a pos) (fun δ μ => (ma δ μ).bind fun x μ1 => match x with
    | .bl b => .ok (.bl (!b)) μ1
    | _ => .stuck) :=
  pe_imp (pe_not ha) fun σ H Q ⟨ρ, δ, μ, s, r, p⟩ => gox s r p fun ρ1 H1 d v μ1 e1 s1 r1 x1 p1 => by
    split at p1
    · obtain rfl := rep_bl.mp x1
      exact ⟨_, rfl, p1.ok r1 (rep_bl.mpr rfl)⟩
    · exact p1.elim
theorem jw_one {op : BoolOp} (h : JT κ X W a mt) : JW κ X W (.BoolOp op [a] pos) mt := by
  cases op with
  | And => exact pw_and1 h
  | Or => exact pw_or1 h
theorem jw_and (ha : JT κ X W a mt) (hb : JW κ X W (.BoolOp .And (b :: rest) pos) mu) : JW κ X W (.BoolOp .And (a :: b :: rest) pos) (fun δ μ => (mt δ μ).bind fun c μ1 => if c = true then mu δ μ1 else .ok false μ1) :=
  pw_imp (pw_and ha hb) fun σ H Q ⟨ρ, δ, μ, s, r, p⟩ => gox s r p fun ρ1 H1 d v μ1 e1 s1 r1 x1 p1 => by
    cases x1
    cases d with
    | true => exact gol s1 r1 p1
    | false => exact p1.ok r1 rfl
theorem jw_or (ha : JT κ X W a mt) (hb : JW κ X W (.BoolOp .Or (b :: rest) pos) mu) : JW κ X W (.BoolOp .Or (a :: b :: rest) pos) (fun δ μ => (mt δ μ).bind fun c μ1 => if c = true then .ok true μ1 else mu δ μ1) :=
  pw_imp (pw_or ha hb) fun σ H Q ⟨ρ, δ, μ, s, r, p⟩ => gox s r p fun ρ1 H1 d v μ1 e1 s1 r1 x1 p1 => by
    cases x1
    cases d with
    | true => exact p1.ok r1 rfl
    | false => exact gol s1 r1 p1
theorem jt_not (ha : JT κ X W a mt) : JT κ X W (.UnaryOp .Not a pos) (fun δ μ => (mt δ μ).bind fun c μ1 => .ok (!c) μ1) :=
  pt_imp (pt_not ha) fun σ H Q ⟨ρ, δ, μ, s, r, p⟩ => gox s r p fun ρ1 H1 d v μ1 e1 s1 r1 x1 p1 => by
    cases x1
    exact p1.ok r1 rfl
theorem je_ite (hc : JT κ X W c mt) (ha : JE κ X W a ma) (hb : JE κ X W b mb) : JE κ X W (.IfExp c a b pos) (fun δ μ => (mt δ μ).bind fun c μ1 => if c = true then ma δ μ1 else mb δ μ1) :=
  pe_imp (pe_ifExp hc ha hb) fun σ H Q ⟨ρ, δ, μ, s, r, p⟩ => gox s r p fun ρ1 H1 d v μ1 e1 s1 r1 x1 p1 => by
    cases x1
    cases d with
    | true => exact gol s1 r1 p1
    | false => exact gol s1 r1 p1
theorem truV_of {K : PySem.W.Frag} {ρ H d v μ b μ'} (h : truD d μ = .ok b μ') (r : Rep κ ρ H d v) : TruV K v H b ∧ μ' = μ := by
  unfold truD at h
  split at h
  · cases h; rw [rep_bl.mp r]; exact ⟨rfl, rfl⟩
  · cases h; rw [rep_non.mp r]; exact ⟨rfl, rfl⟩
  · cases h; rw [rep_int.mp r]; exact ⟨rfl, rfl⟩
  · cases h
/-- an expression of any kind as a test -/
theorem jt_val (ha : JE κ X W a ma) (he : ∀ whole, isTrue a X.env whole = (do let v ← whole; standAt a.pos; holding [v] (truthy v))) : JT κ X W a (fun δ μ => (ma δ μ).bind fun x μ1 => truD x μ1) :=
  pt_imp (pt_truth ha he) fun σ H Q ⟨ρ, δ, μ, s, r, p⟩ => gox s r p fun ρ1 H1 d v μ1 e1 s1 r1 x1 p1 => by
    cases hb : truD d μ1 with
    | ok b μ2 =>
      rw [hb] at p1
      obtain ⟨h1, rfl⟩ := truV_of (K := X.K) hb x1
      exact ⟨b, h1, p1.ok r1 rfl⟩
    | exc c fs m =>
      unfold truD at hb
      split at hb <;> cases hb
    | stuck =>
      rw [hb] at p1
      exact p1.elim
theorem PW.jt (h : JW κ X W a mt) : JT κ X W a mt := h.pt

/-! items, slices -/
variable (hK : X.K = κ.K)
include hK
theorem atI_rep {ρ H} {ds : List D} {vs : List V} (h : Reps κ ρ H ds vs) {k : Int} {d : D} (e : atI ds k = some d) : ∃ v, atI vs k = some v ∧ Rep κ ρ H d v := by
  unfold atI at e ⊢
  rw [← h.len]
  obtain ⟨j, h1, h2⟩ := Option.bind_eq_some_iff.mp e
  obtain ⟨v, h3, h4⟩ := h.at_ j d h2
  exact ⟨v, by rw [h1]; exact h3, h4⟩
theorem je_ixQ (ha : JE κ X W a ma) (hb : JE κ X W b mb) (hs : PlainIx b) : JE κ X W (.Subscript a b pos) (fun δ μ => (ma δ μ).bind fun x μ1 => (mb δ μ1).bind fun y μ2 => ixQ x y μ2) :=
  pe_imp (pe_ix ix_seq ha hb hs) fun σ H Q h => go2 (fun x y H Q ⟨ρ, μ, dx, dy, W, σ, r, hx, hy, p⟩ => by
    unfold ixQ at p
    split at p
    · rename_i k
      obtain rfl := rep_int.mp hy
      split at p
      · rename_i z
        obtain rfl := rep_str.mp hx
        unfold ixT at p
        split at p
        · rename_i hz
          split at p
          · rename_i c hc
            exact .inr (.inr ⟨z, k, c, rfl, rfl, hz, hc, p.ok r (rep_str.mpr rfl)⟩)
          · exact p.elim
        · exact p.elim
      split at p
      · rename_i xs hxs
        split at p
        · rename_i d hd
          unfold seqD at hxs
          split at hxs
          · cases hxs
            obtain ⟨q, vs, rfl, h1, h2⟩ := rep_tup.mp hx
            obtain ⟨v, h3, h4⟩ := atI_rep hK h2 hd
            exact .inr (.inl ⟨q, vs, _, v, rfl, rfl, hK ▸ h1, h3, p.ok r h4⟩)
          · obtain ⟨q, h0, rfl⟩ := rep_loc.mp hx
            obtain ⟨vs, h1, h2⟩ := r.sql hxs h0
            obtain ⟨v, h3, h4⟩ := atI_rep hK h2 hd
            exact .inl ⟨q, vs, _, v, rfl, rfl, hK ▸ h1, h3, p.ok r h4⟩
          · cases hxs
        · exact p.elim
      · exact p.elim
    · exact p.elim) h
omit hK in
abbrev RO : List Addr → Hp → Option Int → Option Int → Prop := fun _ _ a b => a = b
omit hK in
abbrev JO (κ : Kx) (X : Cx) (W : WX) (e : Option Expr) (m : Dl → Mu → Res (Option Int)) : Prop := PO X e (tG κ RO W m)
omit hK in
theorem po_imp {e : Option Expr} {t t' : TO} (h : PO X e t) (hi : ∀ σ H Q, t' σ H Q → t σ H Q) : PO X e t' := ⟨fun pins s σ H Q I q => h.run pins s σ H Q I (hi σ H Q q)⟩
omit hK in
theorem jo_none : JO κ X W none (fun _ μ => .ok none μ) := po_imp po_none fun σ H Q ⟨ρ, δ, μ, s, r, p⟩ => p.ok r rfl
omit hK in
theorem jo_some (ha : JE κ X W a ma) : JO κ X W (some a) (fun δ μ => (ma δ μ).bind fun d μ1 => match d with
    | .int i => .ok (some i) μ1
    | _ => .stuck) :=
  po_imp (po_some ha) fun σ H Q ⟨ρ, δ, μ, s, r, p⟩ => gox s r p fun ρ1 H1 d v μ1 e1 s1 r1 x1 p1 => by
    split at p1
    · obtain rfl := rep_int.mp x1
      exact ⟨_, rfl, p1.ok r1 rfl⟩
    · exact p1.elim
theorem cut_rep {ρ H} {ds : List D} {vs : List V} (h : Reps κ ρ H ds vs) (lo hi : Option Int) : Reps κ ρ H (cutD ds lo hi) (cutV vs lo hi) := by
  unfold cutD cutV
  rw [h.len]
  exact (h.drop _).take _
theorem je_sl {lo hi : Option Expr} {p2 : Pos} {ml mh : Dl → Mu → Res (Option Int)} (ha : JE κ X W a ma) (hl : JO κ X W lo ml) (hh : JO κ X W hi mh) :
    JE κ X W (.Subscript a (.Slice lo hi none p2) pos) (fun δ μ => (ma δ μ).bind fun x μ1 => (ml δ μ1).bind fun l μ2 => (mh δ μ2).bind fun h μ3 => slD x l h μ3) :=
  pe_imp (pe_slice (sl_tupA.or sl_list) ha hl hh) fun σ H Q ⟨ρ, δ, μ, s, r, p⟩ =>
    gox s r p fun ρ1 H1 d v μ1 e1 s1 r1 x1 p1 => gox s1 r1 p1 fun ρ2 H2 l l' μ2 e2 s2 r2 x2 p2 => gox s2 r2 p2 fun ρ3 H3 h h' μ3 e3 s3 r3 x3 p3 => by
      cases x2; cases x3
      have x1' := x1.ext (e2.trans e3)
      unfold slD at p3
      split at p3
      · rename_i ds
        obtain ⟨q, vs, rfl, h1, h2⟩ := rep_tup.mp x1'
        refine .inl ⟨q, vs, rfl, hK ▸ h1, fun ⟨w1, w2⟩ => ?_, fun _ z hz => p3.newt r3 (cut_rep hK h2 l h) hz⟩
        have e : cutD ds l h = ds := by
          unfold cutD
          rw [h2.len, w1, w2, ← h2.len, Nat.sub_zero, List.drop_zero, List.take_length]
        rw [e] at p3
        exact p3.ok r3 (rep_tup.mpr ⟨q, vs, rfl, h1, h2⟩)
      · obtain ⟨q, h0, rfl⟩ := rep_loc.mp x1'
        split at p3
        · rename_i xs hxs
          obtain ⟨vs, h1, h2⟩ := r3.sql hxs h0
          exact .inr ⟨q, vs, rfl, hK ▸ h1, fun z hz => p3.newl r3 (cut_rep hK h2 l h) hz⟩
        · exact p3.elim
      · exact p3.elim
end
end Tk

namespace Tk
open PySem PySem.Spec PyProof.Rows L2

/-! ### sorting, least, greatest: the one answer -/
theorem insI_perm (x : Int) : ∀ l : List Int, (insI x l).Perm (x :: l)
  | [] => List.Perm.refl _
  | y :: r => by
    unfold insI
    split
    · exact List.Perm.refl _
    · exact ((insI_perm x r).cons y).trans (List.Perm.swap x y r)
theorem sortI_perm : ∀ l : List Int, (sortI l).Perm l
  | [] => List.Perm.refl _
  | x :: r => (insI_perm x (sortI r)).trans ((sortI_perm r).cons x)
theorem insI_up (x : Int) : ∀ l : List Int, l.Pairwise (· ≤ ·) → (insI x l).Pairwise (· ≤ ·)
  | [], _ => by simp [insI]
  | y :: r, h => by
    obtain ⟨h1, h2⟩ := List.pairwise_cons.mp h
    unfold insI
    split
    · rename_i hx
      refine List.pairwise_cons.mpr ⟨fun z hz => ?_, h⟩
      rcases List.mem_cons.mp hz with rfl | hz
      · exact hx
      · exact Int.le_trans hx (h1 z hz)
    · rename_i hx
      refine List.pairwise_cons.mpr ⟨fun z hz => ?_, insI_up x r h2⟩
      rcases List.mem_cons.mp ((insI_perm x r).mem_iff.mp hz) with rfl | hz
      · omega
      · exact h1 z hz
theorem sortI_up : ∀ l : List Int, (sortI l).Pairwise (· ≤ ·)
  | [] => List.Pairwise.nil
  | x :: r => insI_up x _ (sortI_up r)
theorem sorted_one : ∀ {a b : List Int}, a.Perm b → a.Pairwise (· ≤ ·) → b.Pairwise (· ≤ ·) → a = b
  | [], b, h, _, _ => by rw [List.nil_perm.mp h]
  | x :: r, [], h, _, _ => by cases List.perm_nil.mp h
  | x :: r, y :: t, h, ha, hb => by
    obtain ⟨h1, h2⟩ := List.pairwise_cons.mp ha
    obtain ⟨h3, h4⟩ := List.pairwise_cons.mp hb
    have e : x = y := by
      have m1 : x ∈ y :: t := h.mem_iff.mp List.mem_cons_self
      have m2 : y ∈ x :: r := h.mem_iff.mpr List.mem_cons_self
      rcases List.mem_cons.mp m1 with q | q
      · exact q
      · rcases List.mem_cons.mp m2 with q2 | q2
        · exact q2.symm
        · exact Int.le_antisymm (h1 y q2) (h3 x q)
    subst e
    rw [sorted_one ((List.perm_cons x).mp h) h2 h4]
theorem maxI_ok : ∀ {l : List Int} {m : Int}, maxI l = some m → m ∈ l ∧ ∀ y ∈ l, y ≤ m
  | [], _, h => by cases h
  | [x], m, h => by
    cases h
    exact ⟨List.mem_cons_self, fun y hy => by
      have e : y = x := by simpa using hy
      omega⟩
  | x :: y :: r, m, h => by
    unfold maxI at h
    obtain ⟨k, h1, h2⟩ := Option.map_eq_some_iff.mp h
    obtain ⟨h3, h4⟩ := maxI_ok h1
    split at h2
    · subst h2
      refine ⟨List.mem_cons_self, fun z hz => ?_⟩
      rcases List.mem_cons.mp hz with rfl | hz
      · exact Int.le_refl _
      · have := h4 z hz; omega
    · subst h2
      refine ⟨List.mem_cons_of_mem _ h3, fun z hz => ?_⟩
      rcases List.mem_cons.mp hz with rfl | hz
      · omega
      · exact h4 z hz
theorem minI_ok : ∀ {l : List Int} {m : Int}, minI l = some m → m ∈ l ∧ ∀ y ∈ l, m ≤ y
  | [], _, h => by cases h
  | [x], m, h => by
    cases h
    exact ⟨List.mem_cons_self, fun y hy => by
      have e : y = x := by simpa using hy
      omega⟩
  | x :: y :: r, m, h => by
    unfold minI at h
    obtain ⟨k, h1, h2⟩ := Option.map_eq_some_iff.mp h
    obtain ⟨h3, h4⟩ := minI_ok h1
    split at h2
    · subst h2
      refine ⟨List.mem_cons_self, fun z hz => ?_⟩
      rcases List.mem_cons.mp hz with rfl | hz
      · exact Int.le_refl _
      · have := h4 z hz; omega
    · subst h2
      refine ⟨List.mem_cons_of_mem _ h3, fun z hz => ?_⟩
      rcases List.mem_cons.mp hz with rfl | hz
      · omega
      · exact h4 z hz
theorem ints_rep {κ ρ H} : ∀ {ds : List D} {vs : List V} {ns : List Int}, intsD ds = some ns → Reps κ ρ H ds vs → vs = ns.map V.int
  | [], vs, ns, h, r => by
    cases h
    unfold Reps at r
    exact r
  | d :: ds, vs, ns, h, r => by
    unfold Reps at r
    obtain ⟨v, w, rfl, h4, h5⟩ := r
    unfold intsD at h
    split at h
    · rename_i heq
      cases heq
    · rename_i i r' heq
      cases heq
      obtain ⟨k, h1, rfl⟩ := Option.map_eq_some_iff.mp h
      rw [rep_int.mp h4, ints_rep h1 h5]
      rfl
    · cases h
theorem rep_ints {κ ρ H} : ∀ ns : List Int, Reps κ ρ H (ns.map D.int) (ns.map V.int)
  | [] => .nil
  | n :: ns => .cons (rep_int.mpr rfl) (rep_ints ns)

/-! ### built-ins -/
def CJ (κ : Kx) (X : Cx) (f : Value) (g : List D → Mu → Res D) : Prop :=
  CallR X f (fun vs H Q => ∃ ρ μ ds W σ, Rel κ ρ H μ ∧ Reps κ ρ H ds vs ∧ Post κ (Rep κ) W σ ρ H (g ds μ) Q)
def bltV : Blt → Value
  | .len => .builtin "len"
  | .int => .type "int"
  | .max => .builtin "max"
  | .min => .builtin "min"
  | .sorted => .builtin "sorted"
  | .list => .type "list"
  | .tuple => .type "tuple"
  | .abs => .builtin "abs"
  | .str => .type "str"
  | .isi => .builtin "isinstance"
def bltN : Blt → Str
  | .len => "len"
  | .int => "int"
  | .max => "max"
  | .min => "min"
  | .sorted => "sorted"
  | .list => "list"
  | .tuple => "tuple"
  | .abs => "abs"
  | .str => "str"
  | .isi => "isinstance"
theorem reps1 {κ ρ H d vs} (h : Reps κ ρ H [d] vs) : ∃ v, vs = [v] ∧ Rep κ ρ H d v := by
  unfold Reps Reps at h
  obtain ⟨v, w, rfl, h1, rfl⟩ := h
  exact ⟨v, rfl, h1⟩
theorem reps2 {κ ρ H d e vs} (h : Reps κ ρ H [d, e] vs) : ∃ v w, vs = [v, w] ∧ Rep κ ρ H d v ∧ Rep κ ρ H e w := by
  unfold Reps at h
  obtain ⟨v, w, rfl, h1, h2⟩ := h
  obtain ⟨u, rfl, h3⟩ := reps1 h2
  exact ⟨v, u, rfl, h1, h3⟩
section
variable {κ : Kx} {X : Cx}
theorem seq_rep (hK : X.K = κ.K) {ρ H μ d v xs} (r : Rel κ ρ H μ) (h : seqD μ d = some xs) (hx : Rep κ ρ H d v) : ∃ q vs, v = .ref q ∧ (SqL X.K H q vs ∨ SqT X.K H q vs) ∧ Reps κ ρ H xs vs := by
  unfold seqD at h
  split at h
  · cases h
    obtain ⟨a, vs, rfl, g1, g2⟩ := rep_tup.mp hx
    exact ⟨a, vs, rfl, .inr (hK ▸ g1), g2⟩
  · obtain ⟨a, g0, rfl⟩ := rep_loc.mp hx
    obtain ⟨vs, g1, g2⟩ := r.sql h g0
    exact ⟨a, vs, rfl, .inl (hK ▸ g1), g2⟩
  · cases h
theorem ty_rep (hK : X.K = κ.K) {ρ H μ d v t} (r : Rel κ ρ H μ) (h : tyD d μ = some t) (hx : Rep κ ρ H d v) : TyX X.K H v (.type t) := by
  unfold tyD at h
  split at h
  · cases h; rw [rep_non.mp hx]; exact .base .non
  · cases h; rw [rep_bl.mp hx]; exact .base (.bl _)
  · cases h; rw [rep_int.mp hx]; exact .base (.int _)
  · cases h; rw [rep_str.mp hx]; exact .base (.str _)
  · cases h
    obtain ⟨a, vs, rfl, g1, g2⟩ := rep_tup.mp hx
    rcases g1 with (g1 | ⟨o, g1⟩) | ⟨o, its, n, g1, g3, _⟩
    · exact .base (.tup g1)
    · exact .fTuple g1
    · exact .kTuple (hK ▸ g1) g3
  · obtain ⟨a, g0, rfl⟩ := rep_loc.mp hx
    obtain ⟨o, h1, h2⟩ := r.at g0
    rw [h1] at h
    cases o with
    | lst xs =>
      cases h
      obtain ⟨vs, h3, _⟩ := h2
      exact .base (.lst h3)
    | fl xs =>
      cases h
      obtain ⟨vs, h3, _⟩ := h2
      rcases h3 with h3 | ⟨o, h3⟩
      · exact .base (.lst h3)
      · exact .base (.frz h3)
    | dic kvs =>
      cases h
      obtain ⟨ks, h3, _⟩ := h2
      exact .base (.dK h3)
    | dit kvs =>
      cases h
      obtain ⟨ks, h3, _⟩ := h2
      exact .base (.dT h3)
    | ins c fs => cases h
    | xd fs => cases h
  · cases h
theorem cj_blt (hK : X.K = κ.K) (b : Blt) (hc : b ≠ .len → X.calm = true) : CJ κ X (bltV b) (bltQ b) := by
  intro pins s σ H vs us Q I rv h
  obtain ⟨ρ, μ, ds, W, σ', r, hs, p⟩ := h
  unfold bltQ at p
  split at p
  · split at p
    · rename_i x hl
      obtain ⟨v, rfl, h1⟩ := reps1 hs
      obtain rfl := rep_str.mp h1
      exact call_len_str pins s σ H _ us Q I rv ⟨x, rfl, hl, p.ok r (rep_int.mpr rfl)⟩
    · exact p.elim
  · obtain ⟨v, rfl, h1⟩ := reps1 hs
    split at p
    · rename_i xs hx
      obtain ⟨q, ws, rfl, h2, h3⟩ := seq_rep hK r hx h1
      refine call_len_seq pins s σ H _ us Q I rv ⟨q, ws, rfl, h2, ?_⟩
      rw [h3.len] at p
      exact p.ok r (rep_int.mpr rfl)
    · exact p.elim
  · obtain ⟨v, rfl, h1⟩ := reps1 hs
    obtain rfl := rep_int.mp h1
    exact call_int1 pins s σ H _ us Q I rv (.inl ⟨_, rfl, p.ok r (rep_int.mpr rfl)⟩)
  · obtain ⟨v, rfl, h1⟩ := reps1 hs
    obtain rfl := rep_bl.mp h1
    exact call_int1 pins s σ H _ us Q I rv (.inr ⟨_, rfl, p.ok r (rep_int.mpr rfl)⟩)
  · obtain ⟨v, w, rfl, h1, h2⟩ := reps2 hs
    obtain rfl := rep_int.mp h1; obtain rfl := rep_int.mp h2
    exact call_max2 (hc Blt.noConfusion) pins s σ H _ us Q I rv ⟨_, _, rfl, p.ok r (rep_int.mpr rfl)⟩
  · obtain ⟨v, w, rfl, h1, h2⟩ := reps2 hs
    obtain rfl := rep_int.mp h1; obtain rfl := rep_int.mp h2
    exact call_min2 (hc Blt.noConfusion) pins s σ H _ us Q I rv ⟨_, _, rfl, p.ok r (rep_int.mpr rfl)⟩
  · obtain ⟨v, rfl, h1⟩ := reps1 hs
    obtain ⟨a, g0, rfl⟩ := rep_loc.mp h1
    split at p
    · rename_i ns hn
      obtain ⟨xs, h2, h3⟩ := Option.bind_eq_some_iff.mp hn
      obtain ⟨ws, h4, h5⟩ := r.sql h2 g0
      obtain rfl := ints_rep h3 h5
      split at p
      · rename_i m hm
        obtain ⟨m1, m2⟩ := maxI_ok hm
        refine cr_max (hc Blt.noConfusion) pins s σ H _ us Q I rv ⟨a, ns, rfl, hK ▸ h4, List.length_pos_of_mem m1, fun k k1 k2 => ?_⟩
        have e : k = m := Int.le_antisymm (m2 k k1) (k2 m m1)
        subst e
        exact p.ok r (rep_int.mpr rfl)
      · exact p.elim
    · exact p.elim
  · obtain ⟨v, rfl, h1⟩ := reps1 hs
    obtain ⟨a, g0, rfl⟩ := rep_loc.mp h1
    split at p
    · rename_i ns hn
      obtain ⟨xs, h2, h3⟩ := Option.bind_eq_some_iff.mp hn
      obtain ⟨ws, h4, h5⟩ := r.sql h2 g0
      obtain rfl := ints_rep h3 h5
      split at p
      · rename_i m hm
        obtain ⟨m1, m2⟩ := minI_ok hm
        refine cr_min (hc Blt.noConfusion) pins s σ H _ us Q I rv ⟨a, ns, rfl, hK ▸ h4, List.length_pos_of_mem m1, fun k k1 k2 => ?_⟩
        have e : k = m := Int.le_antisymm (k2 m m1) (m2 k k1)
        subst e
        exact p.ok r (rep_int.mpr rfl)
      · exact p.elim
    · exact p.elim
  · obtain ⟨v, rfl, h1⟩ := reps1 hs
    obtain ⟨a, g0, rfl⟩ := rep_loc.mp h1
    split at p
    · rename_i ns hn
      obtain ⟨xs, h2, h3⟩ := Option.bind_eq_some_iff.mp hn
      obtain ⟨ws, h4, h5⟩ := r.sql h2 g0
      obtain rfl := ints_rep h3 h5
      refine cr_sortedI pins s σ H _ us Q I rv ⟨a, ns, rfl, hK ▸ h4, fun ns' q h6 h7 hq => ?_⟩
      have e : ns' = sortI ns := sorted_one (h6.trans (sortI_perm ns).symm) h7 (sortI_up ns)
      subst e
      exact p.newl r (rep_ints _) hq
    · exact p.elim
  · obtain ⟨v, rfl, h1⟩ := reps1 hs
    split at p
    · rename_i xs hx
      obtain ⟨q, ws, rfl, h2, h3⟩ := seq_rep hK r hx h1
      exact call_list_of pins s σ H _ us Q I rv ⟨q, ws, rfl, h2, fun l hl => p.newl r h3 hl⟩
    · exact p.elim
  · obtain ⟨v, rfl, h1⟩ := reps1 hs
    split at p
    · rename_i xs hx
      obtain ⟨q, ws, rfl, h2, h3⟩ := seq_rep hK r hx h1
      refine call_tuple_of pins s σ H _ us Q I rv ⟨q, ws, rfl, ?_⟩
      rcases h2 with h2 | h2
      · exact .inl ⟨h2, fun l hl => p.newt r h3 hl⟩
      · exact .inr ⟨h2, p.ok r (rep_tup.mpr ⟨q, ws, rfl, hK ▸ h2, h3⟩)⟩
    · exact p.elim
  · obtain ⟨v, rfl, h1⟩ := reps1 hs
    obtain rfl := rep_int.mp h1
    exact call_abs pins s σ H _ us Q I rv ⟨_, rfl, p.ok r (rep_int.mpr rfl)⟩
  · obtain ⟨v, w, rfl, h1, h2⟩ := reps2 hs
    obtain rfl := rep_ty.mp h2
    split at p
    · rename_i t ht
      split at p
      · rename_i b hb
        exact call_isi pins s σ H _ us Q I rv ⟨v, _, _, _, b, rfl, .ty _, ty_rep hK r ht h1, kit_ty hb, p.ok r (rep_bl.mpr rfl)⟩
      · exact p.elim
    · exact p.elim
  · exact p.elim
end

/-! ### dicts -/
theorem key_eqF {d e : D} {k l : Key} (h1 : keyD d = some k) (h2 : keyD e = some l) : eqF d e = decide (k = l) := by
  unfold keyD at h1 h2
  split at h1
  · split at h2
    · cases h1; cases h2
      rw [key_ll]; rfl
    · cases h1; cases h2
      rw [key_lr]; rfl
    · cases h2
  · split at h2
    · cases h1; cases h2
      rw [key_rl]; rfl
    · cases h1; cases h2
      rw [key_rr]
      show (_ == _) = _
      exact Bool.beq_eq_decide_eq _ _
    · cases h2
  · cases h1
theorem rep_key {κ ρ H d k v} (h : keyD d = some k) (r : Rep κ ρ H d v) : v = kV k := by
  unfold keyD at h
  split at h
  · cases h; rw [rep_int.mp r]; rfl
  · cases h; rw [rep_str.mp r]; rfl
  · cases h
theorem valK {κ ρ H} {d : D} {k : Key} (hk : keyD d = some k) : ∀ {kvs : List (D × D)} {ks : List (Key × V)}, RepK κ ρ H kvs ks → (match valD kvs d, valV ks k with
    | some x, some v => Rep κ ρ H x v
    | none, none => True
    | _, _ => False)
  | [], ks, r => by
    have e : ks = [] := r
    subst e
    trivial
  | p :: kvs, ks, r => by
    obtain ⟨l, v, r', rfl, h1, h2, h3⟩ := r
    have e := key_eqF h1 hk
    by_cases hl : l = k
    · subst hl
      have e2 : eqF p.1 d = true := by rw [e]; simp
      rw [valV_pos rfl]
      have e3 : valD (p :: kvs) d = some p.2 := by simp [valD, List.find?_cons, e2]
      rw [e3]
      exact h2
    · have e2 : eqF p.1 d = false := by rw [e]; exact decide_eq_false hl
      rw [valV_neg hl]
      have e3 : valD (p :: kvs) d = valD kvs d := by simp [valD, List.find?_cons, e2]
      rw [e3]
      exact valK hk h3
theorem anyK {κ ρ H} {d : D} {k : Key} (hk : keyD d = some k) : ∀ {kvs : List (D × D)} {ks : List (Key × V)}, RepK κ ρ H kvs ks → (kvs.any fun kv => eqF kv.1 d) = ks.any fun kv => decide (kv.1 = k)
  | [], ks, r => by
    have e : ks = [] := r
    subst e
    rfl
  | p :: kvs, ks, r => by
    obtain ⟨l, v, r', rfl, h1, h2, h3⟩ := r
    rw [List.any_cons, List.any_cons, anyK hk h3, key_eqF h1 hk]
theorem mapK {κ ρ H} {d x : D} {v : V} {k : Key} (hk : keyD d = some k) (hx : Rep κ ρ H x v) : ∀ {kvs : List (D × D)} {ks : List (Key × V)}, RepK κ ρ H kvs ks →
    RepK κ ρ H (kvs.map fun kv => if eqF kv.1 d = true then (kv.1, x) else kv) (ks.map fun kv => if kv.1 = k then (kv.1, v) else kv)
  | [], ks, r => by
    have e : ks = [] := r
    subst e
    rfl
  | p :: kvs, ks, r => by
    obtain ⟨l, u, r', rfl, h1, h2, h3⟩ := r
    have e := key_eqF h1 hk
    rw [List.map_cons, List.map_cons]
    by_cases hl : l = k
    · subst hl
      rw [if_pos (show eqF p.1 d = true by rw [e]; simp), if_pos rfl]
      exact ⟨l, v, _, rfl, h1, hx, mapK hk hx h3⟩
    · rw [if_neg (show ¬ eqF p.1 d = true by rw [e, decide_eq_false hl]; simp), if_neg hl]
      exact ⟨l, u, _, rfl, h1, h2, mapK hk hx h3⟩
theorem appK {κ ρ H} {d x : D} {v : V} {k : Key} (hk : keyD d = some k) (hx : Rep κ ρ H x v) : ∀ {kvs : List (D × D)} {ks : List (Key × V)}, RepK κ ρ H kvs ks → RepK κ ρ H (kvs ++ [(d, x)]) (ks ++ [(k, v)])
  | [], ks, r => by
    have e : ks = [] := r
    subst e
    exact ⟨k, v, [], rfl, hk, hx, rfl⟩
  | p :: kvs, ks, r => by
    obtain ⟨l, u, r', rfl, h1, h2, h3⟩ := r
    exact ⟨l, u, _, rfl, h1, h2, appK hk hx h3⟩
theorem putKD {κ ρ H} {d x : D} {v : V} {k : Key} (hk : keyD d = some k) (hx : Rep κ ρ H x v) {kvs : List (D × D)} {ks : List (Key × V)} (r : RepK κ ρ H kvs ks) : RepK κ ρ H (putD kvs d x) (putK ks k v) := by
  unfold putD putK
  rw [anyK hk r]
  split
  · exact mapK hk hx r
  · exact appK hk hx r
theorem lenK {κ ρ H} : ∀ {kvs : List (D × D)} {ks : List (Key × V)}, RepK κ ρ H kvs ks → kvs.length = ks.length
  | [], ks, r => by
    have e : ks = [] := r
    subst e
    rfl
  | p :: kvs, ks, r => by
    obtain ⟨l, u, r', rfl, h1, h2, h3⟩ := r
    rw [List.length_cons, List.length_cons, lenK h3]
theorem mergeKD {κ ρ H} : ∀ {more : List (D × D)} {ms : List (Key × V)} {kvs : List (D × D)} {ks : List (Key × V)}, RepK κ ρ H more ms → RepK κ ρ H kvs ks → RepK κ ρ H (mergeD kvs more) (mergeK ks ms)
  | [], ms, kvs, ks, r, q => by
    have e : ms = [] := r
    subst e
    exact q
  | p :: more, ms, kvs, ks, r, q => by
    obtain ⟨l, u, r', rfl, h1, h2, h3⟩ := r
    show RepK κ ρ H (mergeD (putD kvs p.1 p.2) more) (mergeK (putK ks l u) r')
    exact mergeKD h3 (putKD h1 h2 q)
theorem Rel.dic {κ ρ H μ} (r : Rel κ ρ H μ) {n : Nat} {a : Addr} {kvs : List (D × D)} (h : μ[n]? = some (.dic kvs)) (ha : ρ[n]? = some a) :
    ∃ ks, H a = some (.dK ks) ∧ RepK κ ρ H kvs ks := by
  obtain ⟨o, h1, h2⟩ := r.at ha
  rw [h1] at h
  cases h
  exact h2
end Tk

namespace Tk
open PySem PySem.Spec PyProof.Rows L2

/-! ### calls -/
def spM (κ : Kx) (n : Nat) (g : List D → Mu → Res D) : Sp := fun vs H Q E => ∃ ρ μ ds, ds.length = n ∧ Rel κ ρ H μ ∧ Reps κ ρ H ds vs ∧ Post κ (Rep κ) (fun cls d _ H => E cls d H) [] ρ H (g ds μ) Q
theorem Post.conv {κ : Kx} {α β : Type} {Ra : List Addr → Hp → α → β → Prop} {W W' : WX} {σ σ' : L2.St} {ρ H} {r : Res α} {Q : β → Hp → Prop} (h : Post κ Ra W σ ρ H r Q) (hw : ∀ c d H, W c d σ H → W' c d σ' H) : Post κ Ra W' σ' ρ H r Q := by
  cases r with
  | ok d μ => exact h
  | exc c fs μ => exact fun ρ2 H2 dd gs e2 r2 h2 f2 => hw _ _ _ (h ρ2 H2 dd gs e2 r2 h2 f2)
  | stuck => exact h
theorem Post.swap {κ : Kx} {α β : Type} {Ra : List Addr → Hp → α → β → Prop} {W W' : WX} {σ σ' : L2.St} {ρ H} {r : Res α} {Q : β → Hp → Prop} (h : Post κ Ra W σ ρ H r.noexc Q) : Post κ Ra W' σ' ρ H r Q := by
  cases r with
  | ok d μ => exact h
  | exc c fs μ => exact False.elim h
  | stuck => exact h
section
variable {κ : Kx} {α β γ δ' : Type} {Ra : List Addr → Hp → α → β → Prop} {Rc : List Addr → Hp → γ → δ' → Prop} {W W' : WX} {σ σ' : L2.St} {ρ ρ' : List Addr} {H H' : Hp} {δ : Dl} {μ : Mu}
theorem gon {m : Dl → Mu → Res α} {f : α → Mu → Res γ} {Q : δ' → Hp → Prop} {Q' : β → Hp → Prop} (s : RepS κ ρ H δ σ') (r : Rel κ ρ H μ) (h : Post κ Rc W σ ρ H ((m δ μ).noexc.bind f) Q)
    (k : ∀ ρ1 H1 a v μ1, Ext ρ H ρ1 H1 → RepS κ ρ1 H1 δ σ' → Rel κ ρ1 H1 μ1 → Ra ρ1 H1 a v → Post κ Rc W σ ρ1 H1 (f a μ1) Q → Q' v H1) : tG κ Ra W' m σ' H Q' :=
  ⟨ρ, δ, μ, s, r, ((Post.bind h).mono fun v H1 ⟨ρ1, a, μ1, e, r1, x, p⟩ => k ρ1 H1 a v μ1 e (s.ext e) r1 x p).swap⟩
end
section
variable {κ : Kx} {X : Cx} {W : WX} {e a b c : Expr} {es : List Expr} {pos p p2 : Pos} {m ma mb mc : Dl → Mu → Res D} {mt mu mw : Dl → Mu → Res Bool} {ms : Dl → Mu → Res (List D)}
theorem je_call {g : List D → Mu → Res D} {n k : Nat} {f : Addr} {fd : FuncData} {ps : List Str} {x : Str} (F : FnOk X.prog X.w X.K X.mg X.base (L2.CX X.prog X.w) k f fd ps (spM κ n g)) (hr : Room k X.A) (hg : Gl X x) (hm : X.mg x = some (.ref f)) (hk : PySem.W.keepIn X.K (.ref f) = true) (hb : Binds X.K fd ps [])
    (tk : Takes X W) (hn : ∀ ds μ, ds.length ≠ n → g ds μ = .stuck) (ha : JA κ X W (e :: es) ms) (hdb : (x == ("__debug__" : Str)) = false) (he : starEach (e :: es) X.env = (false, eval e X.env) :: starEach es X.env) (hpl : (backTo pos (starEach es X.env)).any (·.1) = false) :
    JE κ X W (.Call (.Name x p) (e :: es) [] pos) (fun δ μ => (ms δ μ).bind fun ds μ1 => g ds μ1) :=
  pe_imp (pe_callS F hr hg hm hk hb (fun σ => passAt tk σ) ha hdb he hpl) fun σ H Q ⟨ρ, δ, μ, s, r, q⟩ =>
    gox s r q fun ρ1 H1 ds vs μ1 e1 s1 r1 x1 p1 => ⟨ρ1, μ1, ds, by
      by_cases hl : ds.length = n
      · exact hl
      · rw [hn ds μ1 hl] at p1
        exact p1.elim, r1, x1, p1.conv fun c d H z => z⟩
theorem je_blt {bb : Blt} {x : Str} (hc : CJ κ X (bltV bb) (bltD bb)) (hx : x = bltN bb) (hg : Gl X x) (hm : X.mg x = none) (ha : JA κ X W (e :: es) ms)
    (he : starEach (e :: es) X.env = (false, eval e X.env) :: starEach es X.env) (hpl : (backTo pos (starEach es X.env)).any (·.1) = false) :
    JE κ X W (.Call (.Name x p) (e :: es) [] pos) (fun δ μ => (ms δ μ).bind fun ds μ1 => bltD bb ds μ1) := by
  subst hx
  have fin : ∀ σ H Q, tE κ W (fun δ μ => (ms δ μ).bind fun ds μ1 => bltD bb ds μ1) σ H Q → tCB (fun vs H Q => ∃ ρ μ ds W σ, Rel κ ρ H μ ∧ Reps κ ρ H ds vs ∧ Post κ (Rep κ) W σ ρ H (bltD bb ds μ) Q) (tA κ W ms) σ H Q := fun σ H Q ⟨ρ, δ, μ, s, r, q⟩ =>
    gox s r q fun ρ1 H1 ds vs μ1 e1 s1 r1 x1 p1 => ⟨ρ1, μ1, ds, W, σ, r1, x1, p1⟩
  cases bb with
  | len => exact pe_imp (pe_callB hc hg hm PySem.boot_len ha (by decide +kernel) (by decide +kernel) he hpl) fin
  | max => exact pe_imp (pe_callB hc hg hm (by decide +kernel) ha (by decide +kernel) (by decide +kernel) he hpl) fin
  | min => exact pe_imp (pe_callB hc hg hm (by decide +kernel) ha (by decide +kernel) (by decide +kernel) he hpl) fin
  | sorted => exact pe_imp (pe_callB hc hg hm (by decide +kernel) ha (by decide +kernel) (by decide +kernel) he hpl) fin
  | abs => exact pe_imp (pe_callB hc hg hm (by decide +kernel) ha (by decide +kernel) (by decide +kernel) he hpl) fin
  | isi => exact pe_imp (pe_callB hc hg hm (by decide +kernel) ha (by decide +kernel) (by decide +kernel) he hpl) fin
  | int => exact pe_imp (pe_callTy hc hg hm (by decide +kernel) ha (by decide +kernel) (by decide +kernel) he hpl) fin
  | list => exact pe_imp (pe_callTy hc hg hm (by decide +kernel) ha (by decide +kernel) (by decide +kernel) he hpl) fin
  | tuple => exact pe_imp (pe_callTy hc hg hm (by decide +kernel) ha (by decide +kernel) (by decide +kernel) he hpl) fin
  | str => exact pe_imp (pe_callTy hc hg hm (by decide +kernel) ha (by decide +kernel) (by decide +kernel) he hpl) fin

/-! methods of lists and dicts -/
variable (hK : X.K = κ.K)
include hK
theorem mk_lst {ρ H μ x v} (r : Rel κ ρ H μ) (h : isLst x μ = true) (hx : Rep κ ρ H x v) : ∃ n a vs, x = .loc n ∧ v = .ref a ∧ ρ[n]? = some a ∧ H a = some (.lst vs) ∧ tyV X.K "list" v H := by
  unfold isLst at h
  split at h
  · obtain ⟨a, g0, rfl⟩ := rep_loc.mp hx
    split at h
    · rename_i hl
      obtain ⟨vs, h1, h2⟩ := r.lst hl g0
      exact ⟨_, a, vs, rfl, rfl, g0, h1, .inl ⟨rfl, vs, SqL.of h1⟩⟩
    · cases h
  · cases h
theorem je_append {apos cpos : Pos} (ha : JE κ X W a ma) (hs : JA κ X W (e :: es) ms)
    (hbase : attributeBase a "append" X.env (eval a X.env) = eval a X.env)
    (hfew : ((backTo cpos (starEach (e :: es) X.env)).all (fun x => !x.1) && (backToKw cpos (keywordEach [] X.env)).all (fun x => x.1.isSome)
      && decide ((e :: es).length + ([] : List Keyword).length + (if ([] : List Keyword).isEmpty then 0 else 1) < 30)) = true)
    (hline : (apos.endLine == cpos.line) = true) (he : starEach (e :: es) X.env = (false, eval e X.env) :: starEach es X.env) (hpl : (backTo cpos (starEach es X.env)).any (·.1) = false) :
    JE κ X W (.Call (.Attribute a "append" apos) (e :: es) [] cpos) (fun δ μ => (ma δ μ).bind fun x μ1 => if mkD .append x μ1 = true then (ms δ μ1).bind fun ds μ2 => mthD .append x ds μ2 else .stuck) :=
  pe_imp (pe_bm PySem.F.plainAttrs_list PySem.F.slot_list_append PySem.F.type_list_append mt_append ha hs hbase hfew hline he hpl) fun σ H Q ⟨ρ, δ, μ, s, r, q⟩ =>
    gox s r q fun ρ1 H1 x v μ1 e1 s1 r1 x1 p1 => by
      split at p1
      · rename_i hk
        obtain ⟨n, l, vs, rfl, rfl, g0, h1, h2⟩ := mk_lst hK r1 hk x1
        refine ⟨h2, gox s1 r1 p1 fun ρ2 H2 ds ws μ2 e2 s2 r2 x2 p2 => ?_⟩
        have p2' : Post κ (Rep κ) W σ ρ2 H2 (appendD (.loc n) ds μ2) Q := p2
        unfold appendD at p2'
        split at p2'
        · rename_i heq1
          cases heq1
          split at p2'
          · rename_i xs hl
            split at p2'
            · rename_i hlen
              obtain ⟨w, rfl, x3⟩ := reps1 x2
              obtain ⟨us, h3, h4⟩ := r2.lst hl (e2.pre _ _ g0)
              obtain ⟨r3, e3⟩ := r2.wlst (e2.pre _ _ g0) h3 (h4.append (.cons x3 .nil))
              exact ⟨l, us, w, rfl, rfl, h3, by rw [← h4.len]; exact hlen, p2' ρ2 _ _ e3 r3 (rep_non.mpr rfl)⟩
            · exact p2'.elim
          · exact p2'.elim
        · exact p2'.elim
      · exact p1.elim
theorem mk_dic {ρ H μ x v} (r : Rel κ ρ H μ) (h : isDic x μ = true) (hx : Rep κ ρ H x v) : ∃ n a ks, x = .loc n ∧ v = .ref a ∧ ρ[n]? = some a ∧ H a = some (.dK ks) := by
  unfold isDic at h
  split at h
  · obtain ⟨a, g0, rfl⟩ := rep_loc.mp hx
    split at h
    · rename_i hl
      obtain ⟨ks, h1, h2⟩ := r.dic hl g0
      exact ⟨_, a, ks, rfl, rfl, g0, h1⟩
    · cases h
  · cases h
omit hK in
theorem getD_rep {ρ H d k kvs ks x v} (hk : keyD d = some k) (r : RepK κ ρ H kvs ks) (hx : Rep κ ρ H x v) : Rep κ ρ H ((valD kvs d).getD x) ((valV ks k).getD v) := by
  have h := valK hk r
  cases e1 : valD kvs d with
  | none =>
    cases e2 : valV ks k with
    | none => exact hx
    | some w => rw [e1, e2] at h; exact h.elim
  | some y =>
    cases e2 : valV ks k with
    | none => rw [e1, e2] at h; exact h.elim
    | some w => rw [e1, e2] at h; exact h
theorem je_get2 {apos cpos : Pos} (hu : X.A.units + 1 < cLine) (ha : JE κ X W a ma) (hb : JE κ X W b mb) (hc : JE κ X W c mc) (m2 : M2 X a "get" apos b c cpos) :
    JE κ X W (.Call (.Attribute a "get" apos) [b, c] [] cpos) (fun δ μ => (ma δ μ).bind fun x μ1 => if mkD .get x μ1 = true then ((mb δ μ1).bind fun d μ2 => ((mc δ μ2).bind fun d' μ3 => .ok [d'] μ3).bind fun ds μ3 => .ok (d :: ds) μ3).bind fun ds μ2 => mthD .get x ds μ2 else .stuck) :=
  pe_imp (pe_dget2 hu ha hb hc m2) fun σ H Q ⟨ρ, δ, μ, s, r, q⟩ =>
    gox s r q fun ρ1 H1 x v μ1 e1 s1 r1 x1 p1 => by
      split at p1
      · rename_i hk
        obtain ⟨n, l, ks, rfl, rfl, g0, h1⟩ := mk_dic hK r1 hk x1
        refine ⟨l, rfl, .inl ⟨ks, .inl h1⟩, ?_⟩
        have p1' : Post κ (Rep κ) W σ ρ1 H1 ((mb δ μ1).bind fun d μ2 => (mc δ μ2).bind fun d' μ3 => mthD .get (.loc n) [d, d'] μ3) Q := by
          cases hb' : mb δ μ1 with
          | ok d μ2 =>
            rw [hb'] at p1
            cases hc' : mc δ μ2 with
            | ok d2 μ3 => simp only [Res.bind, hc'] at p1 ⊢; exact p1
            | exc _ _ _ => simp only [Res.bind, hc'] at p1 ⊢; exact p1
            | stuck => simp only [Res.bind, hc'] at p1 ⊢; exact p1
          | exc _ _ _ => rw [hb'] at p1; exact p1
          | stuck => rw [hb'] at p1; exact p1
        refine gox s1 r1 p1' fun ρ2 H2 d w μ2 e2 s2 r2 x2 p2 => gox s2 r2 p2 fun ρ3 H3 d' w' μ3 e3 s3 r3 x3 p3 => ?_
        replace p3 : Post κ (Rep κ) W σ ρ3 H3 (getD (.loc n) [d, d'] μ3) Q := p3
        unfold getD at p3
        dsimp only at p3
        split at p3
        · rename_i kvs hd
          split at p3
          · rename_i k hk'
            obtain ⟨ks', h3, h4⟩ := r3.dic hd (e3.pre _ _ (e2.pre _ _ g0))
            have ew := rep_key hk' (x2.ext e3)
            subst ew
            exact ⟨_, .k h3, p3.ok r3 (getD_rep hk' h4 x3)⟩
          · exact p3.elim
        · exact p3.elim
      · exact p1.elim
end
end Tk

/-! all(e for x in ..): the elements are any expressions, in the generator's own frame -/
namespace TkGen
open PySem PySem.Spec PyProof.Rows L2 GenW

/-- the context of a generator expression's frame -/
abbrev genX (X : Cx) (s : Shared) (H : Hp) (cenv : Env) (A : Around) (fp : List Addr) (pn : List (Addr × Obj)) : Cx := { X with A := A, s_0 := s, H_0 := H, env := cenv, outer := X.stack, stack := cenv :: X.stack, ex := fp, fn := fun _ => false, pn := pn, xe := fun _ _ => False }

/-- the same heap -/
theorem Inv.same {X : Cx} {pins : List (Addr × Obj)} {σ : L2.St} {H : Hp} {s s' : Shared} (I : Inv X pins σ H s) (hh : s'.heap = s.heap) (ho : s'.os = s.os) (hg : AllBare s'.gens) : Inv X pins σ H s' := by
  obtain ⟨h1, g1, d1, t1, o1⟩ := s'
  cases hh
  cases ho
  exact ⟨I.ok, I.os, hg, I.base, I.loc, I.cell, I.free, I.freeC, I.pin, I.hok, I.len⟩

section
variable {X : Cx} {pins : List (Addr × Obj)} {σ : L2.St} {H : Hp} {s s5 : Shared}
theorem gen_start {scope : Scope} {own : List (Str × Nat)} {fp : List Addr} {A : Around} {cenv : Env} {a : Addr} {go : Obj} {m : Str → Option Value} (I : Inv X pins σ H s) (ok : BlkOk X.N X.env.scope scope own) (hcell : ∀ y ∈ scope.names, y.2 ≠ .cell) (hN : X.N.Nodup) (hfp : ∀ b ∈ fp, FpOk X pins H b ∧ b < s.heap.objs.size)
    (hL : cenv.locals = s.heap.objs.size) (hcl : cenv.cells = cloFrom X.env.cells scope.names []) (hsc : cenv.scope = scope) (hgl : cenv.globals = X.env.globals) (hbi : cenv.builtins = builtinsNs) (hfrm : cenv.frame = some cenv.locals)
    (hfr : A.frames = some (cenv :: X.stack)) (hhd : A.handled = none) (kp : ∀ b o, s.heap.get? b = some o → s5.heap.get? b = some o) (hns : s5.heap.Ns s.heap.objs.size m) (hos : s5.os = s.os) (hba : AllBare s5.gens)
    (hgo : s5.heap.get? a = some go) (ha : s.heap.objs.size < a) (hgd : ∀ v, go.data ≠ .cell v) :
    Inv (genX X s H cenv A fp [(a, go)]) [] (wipe σ (own.map (·.2))) H s5 := by
  have hfree : ∀ y ∈ scope.names, y.2 = .free → ∃ c, X.env.cells.lookup y.1 = some c := fun y hy e => by
    rcases ok.free y hy e with k | k
    · exact I.ok.has _ (.inl k)
    · exact I.ok.has _ (.inr k)
  have cm : ∀ {y c}, (y, c) ∈ cloFrom X.env.cells scope.names [] → X.env.cells.lookup y = some c ∧ c < s.heap.objs.size := fun {y c} hm => by
    rcases cloFrom_mem hm with hm | ⟨h1, rfl⟩
    · cases hm
    · obtain ⟨c, hc⟩ := hfree _ h1 rfl
      rw [hc]
      obtain ⟨w, z⟩ := I.cell _ _ hc
      exact ⟨rfl, z.lt⟩
  have mem : ∀ {y c}, cenv.cells.lookup y = some c → X.env.cells.lookup y = some c ∧ c < s.heap.objs.size := fun {y c} e => by
    rw [hcl] at e
    exact cm (PySem.mem_of_lookup e)
  have look : ∀ {y}, scope.names.lookup y = some .free → ∃ c, cenv.cells.lookup y = some c ∧ X.env.cells.lookup y = some c := fun {y} hl => by
    have hy : (y, NameKind.free) ∈ scope.names := PySem.mem_of_lookup hl
    obtain ⟨c', e'⟩ := mem_lookup (cloFrom_has (cells := X.env.cells) (acc := []) hy)
    rw [← hcl] at e'
    exact ⟨c', e', (mem e').1⟩
  have okG : (genX X s H cenv A fp [(a, go)]).Ok := by
    refine ⟨I.ok.mod, by show cenv.scope.kind = _; rw [hsc]; exact ok.kind, by show cenv.globals = _; rw [hgl]; exact I.ok.glob, hbi, by show s.heap.objs.size ≤ cenv.locals; rw [hL]; exact Nat.le_refl _,
      fun y z c e1 e2 => I.ok.inj y z c (mem e1).1 (mem e2).1, fun y hy => ?_, fun y c z e => ?_, fun _ => hhd, hfr, .inr ⟨rfl, hfrm⟩, fun b hb => ⟨?_, fun y c e z => ?_⟩, I.bs, Nat.le_trans I.ok.bsz I.sz, fun b o e hb => ?_, fun b hb z => ?_, I.stack, I.stkFree⟩
    · have hy2 : scope.names.lookup y = some .cell ∨ scope.names.lookup y = some .free := by
        have : cenv.scope.names.lookup y = some .cell ∨ cenv.scope.names.lookup y = some .free := hy
        rwa [hsc] at this
      rcases hy2 with hy2 | hy2
      · exact absurd rfl (hcell _ (PySem.mem_of_lookup hy2))
      · obtain ⟨c, h1, _⟩ := look hy2
        exact ⟨c, h1⟩
    · exact absurd z Bool.false_ne_true
    · show b ≠ cenv.locals
      rw [hL]; exact Nat.ne_of_lt (hfp b hb).2
    · exact (hfp b hb).1.2.2.2.2.1 y c (mem e).1 z
    · rcases (hfp b hb).1.2.2.2.1 with z | z
      · exact I.ok.noex b o e z
      · exact absurd (Nat.lt_of_lt_of_le (Heap.lt_size e) (Nat.le_trans I.ok.bsz z)) (Nat.lt_irrefl _)
    · rcases List.mem_cons.mp (I.stkSub b z) with z | z
      · exact (hfp b hb).1.2.1 z
      · exact (hfp b hb).1.2.2.1 z
  refine ⟨okG, hos, hba, Un.kept kp, ⟨m, ?_, fun i y av e1 e2 e3 => ?_⟩, fun y c e => ?_, ?_, fun y c e => ?_, fun p hp => ?_, I.hok.kept kp, by rw [wipe_length]; exact I.len⟩
  · show Heap.Ns _ cenv.locals _
    rw [hL]
    exact hns
  · obtain ⟨e2, hne⟩ := wipe_some e2
    have e3 : Vis cenv.scope y := e3
    rw [hsc] at e3
    have no : ∀ k, scope.names.lookup y = some k → ¬ (k = .local ∨ k = .cell) := fun k e hh => by
      rcases ok.own _ (PySem.mem_of_lookup e) hh with e' | e'
      · obtain ⟨p, hp, hpy⟩ := List.mem_map.mp e'
        have e3 := ok.ix p hp
        have : p.1 = y := hpy
        rw [this] at e3
        exact hne (List.mem_map.mpr ⟨p, hp, nodup_ix hN e3 e1⟩)
      · exact e' (List.mem_of_getElem? e1)
    have hfr : scope.names.lookup y = some .free := by
      rcases e3 with e3 | e3 | e3
      · exact absurd (.inl rfl) (no _ e3)
      · exact absurd (.inr rfl) (no _ e3)
      · exact e3
    obtain ⟨m', hn, hl⟩ := I.loc
    have hvis : Vis X.env.scope y := (ok.free _ (PySem.mem_of_lookup hfr) rfl).elim (fun k => .inr (.inl k)) (fun k => .inr (.inr k))
    obtain ⟨w, r, q⟩ := hl i y av e1 e2 hvis
    refine ⟨w, r, .inr ⟨.inr (by show cenv.scope.names.lookup y = _; rw [hsc]; exact hfr), ?_⟩⟩
    obtain ⟨c, h1, h2⟩ := look hfr
    rcases q with ⟨k, _⟩ | ⟨_, c', e', z⟩
    · have k : X.env.scope.names.lookup y = some .local := k
      rcases ok.free _ (PySem.mem_of_lookup hfr) rfl with k' | k' <;> rw [show X.env.scope.names.lookup y = _ from k'] at k <;> cases k
    · rw [h2] at e'; cases e'
      exact ⟨c, h1, z.keeps kp⟩
  · obtain ⟨w, z⟩ := I.cell y c (mem e).1
    exact ⟨w, z.keeps kp⟩
  · show H cenv.locals = none
    rw [hL]; exact I.hok.fresh (Nat.le_refl _)
  · exact I.freeC y c (mem e).1
  · have hp : p ∈ [(a, go)] ++ ([] : List (Addr × Obj)) := hp
    rw [List.append_nil] at hp
    have e : p = (a, go) := List.mem_singleton.mp hp
    subst e
    refine ⟨hgo, I.hok.fresh (Nat.le_of_lt ha), ?_, fun z => ?_, hgd⟩
    · show a ≠ cenv.locals
      rw [hL]; exact Nat.ne_of_gt ha
    · have z : a ∈ frs X.stack := z
      rcases List.mem_cons.mp (I.stkSub a z) with z | z
      · have := I.lt
        rw [← z] at this
        exact absurd (Nat.lt_trans this ha) (Nat.lt_irrefl _)
      · exact I.nofs (Nat.le_of_lt ha) z
end

/-! ### the generator's turns -/
/-- what the turns are to keep -/
def TurnsOk (J : It) (g : TG) (te : TE) (vs : List Nat) (σ : L2.St) (Q : VK) (W : Nat → Nat → Hp → Prop) : Prop := ∀ i m H, W i m H →
  (J.stop i H ∧ Q (.bl true) H) ∨ (J.go i H ∧ ∃ Nx : Hp → Prop, (∀ H', Nx H' → ∃ m', m' < m ∧ W (i + 1) m' H') ∧ ∀ x H', J.yld i H x H' → g x (wipe σ vs) H' fun σ2 H2 => wipe σ2 vs = wipe σ vs ∧ te σ2 H2 fun y H3 =>
    (y = .bl true ∧ Nx H3) ∨ (y = .bl false ∧ Q (.bl false) H3))
def genY (X : Cx) (σ : L2.St) (Q : VK) : Protocol := fun _ _ v s kap => ∃ b H, v = .bool b ∧ Inv X [] σ H s ∧ (b = false → Q (.bl false) H) ∧ (b = true → ∀ s', s'.heap = s.heap → s'.os = s.os → AllBare s'.gens → kap (.send .none) s')
def genP (X : Cx) (σ : L2.St) (Q : VK) : Nat → Shared → Shared → Prop := fun _ _ s => ∃ H, Inv X [] σ H s ∧ Q (.bl true) H
abbrev genR (X : Cx) (σ : L2.St) (Q : VK) : GenEnd := fun n s₀ r s₁ => r = .ok .next ∧ genP X σ Q n s₀ s₁

section
variable {X : Cx} {A : Around} {tg elt iter : Expr} {scope : Scope} {pos : Pos} {it : Addr} {fp : List Addr} {tn : Nat → Heap → Prop} {J : It} {g : TG} {te : TE} {vs : List Nat} {σ : L2.St} {Q : VK} {W : Nat → Nat → Hp → Prop}
theorem seg_gen (hA : A.over (.compLoop (.GeneratorExp elt [⟨tg, iter, [], 0⟩] scope pos) 0 (.ref it) .none X.env) [] = X.A) (hxe : X.xe = fun _ _ => False) (hc : X.calm = true) (hco : X.env.scope.isCoroutine = false)
    (T : Turn X.prog X.w X.K tg J fp it tn) (pg : PG X tg g) (pe : PE X elt te) (stat : ∀ {σ' : L2.St} {H' : Hp} {s' : Shared}, Inv X [] σ' H' s' → (∀ b ∈ fp, H' b = none) → ∀ b ∈ fp, FpOk X [] H' b) (turn : TurnsOk J g te vs σ Q W) :
    ∀ (n m : Nat), m < n → ∀ (i : Nat) (s₀ s : Shared) (H : Hp), Inv X [] (wipe σ vs) H s → tn i s.heap → (∀ b ∈ fp, H b = none) → W i m H →
      Seg (model X.prog X.w) A (genR X (wipe σ vs) Q) (genY X (wipe σ vs) Q) n s₀ (.compLoop (.GeneratorExp elt [⟨tg, iter, [], 0⟩] scope pos) 0 (.ref it) .none X.env)
        ((model X.prog X.w).den (.compLoop (.GeneratorExp elt [⟨tg, iter, [], 0⟩] scope pos) 0 (.ref it) .none X.env)) [] s := by
  intro n
  induction n with
  | zero => intro m h; exact absurd h (Nat.not_lt_zero _)
  | succ n ih =>
    intro m hm i s₀ s H I5 st5 n5 w5
    show Seg _ A _ _ _ s₀ _ ((compTurn (.GeneratorExp elt [⟨tg, iter, [], 0⟩] scope pos) 0 (.ref it) .none X.env).onRaise (leaving X.env)) [] s
    rw [compTurn_gen, Sem.onRaise_eq_wrap]
    refine seg_bind_wrap (wpAny_standAt ?_)
    rcases turn i m H w5 with ⟨stop, qq⟩ | ⟨go, Nx, hNx, step⟩
    · refine seg_bind_wrap ?_
      rw [hA]
      refine thnF (T.done X rfl rfl rfl hc i [] s _ H (fun _ _ => False) I5 (stat I5 n5) st5 stop) fun r s6 ⟨hr, I6⟩ => ?_
      subst hr
      exact seg_end (.ok .next) ⟨rfl, H, I6, qq⟩
    · refine seg_bind_wrap ?_
      rw [hA]
      refine thnF (T.item X rfl rfl rfl hc i [] s _ H (fun _ _ => False) I5 (stat I5 n5) st5 go) fun r s6 ⟨u, hr, h6⟩ => ?_
      subst hr
      refine seg_bind_wrap ?_
      rw [hA]
      refine thnF h6 fun _ s7 ⟨x, H7, I7, r7, y7, st7, n7⟩ => ?_
      have I7' := I7.pinned (stat I7 n7) (T.obj _ _ st7)
      refine seg_bind_wrap ?_
      rw [hA]
      have pgr := pg.run _ s7 _ H7 x u _ I7' r7 (step x H7 y7)
      rw [hxe] at pgr
      refine thnF pgr fun _ s8 ⟨σ8, H8, I8, hw8, q8⟩ => ?_
      refine seg_bind_wrap ?_
      simp only [List.forIn_nil]
      refine wpAny_pure ?_
      simp only [if_true]
      have hy : ∀ v, yieldOut X.env v = yieldValue v := fun v => by simp only [yieldOut, hco, Bool.false_eq_true, if_false]
      simp only [hy]
      rw [Sem.bind_eq_wrap', Sem.bind_eq_wrap', Sem.wrap_wrap, Sem.wrap_wrap]
      refine seg_wrap ?_
      rw [hA]
      have per := pe.run _ s8 σ8 H8 _ I8 q8
      rw [hxe] at per
      refine thnF per fun z s9 ⟨yv, H9, I9, r9, q9⟩ => ?_
      have pin' : ∀ b ∈ fp, ∀ o, s7.heap.get? b = some o → s9.heap.get? b = some o ∧ H9 b = none := fun b hb o e =>
        let z := I9.pin (b, o) (List.mem_append_right _ (List.mem_append_right _ (mem_pinsAt hb e)))
        ⟨z.1, z.2.1⟩
      have hl : (wipe σ vs).length = σ8.length := by rw [← hw8, wipe_length]
      have I10 : Inv X [] (wipe σ vs) H9 s9 := (I9.unpinned (pins := [])).weak hl (fun j v e => by
        rw [← hw8] at e
        exact (wipe_some e).1)
      have st10 : tn (i + 1) s9.heap := T.keep _ _ _ st7 fun b hb o e => (pin' b hb o e).1
      have n10 : ∀ b ∈ fp, H9 b = none := fun b hb => by
        obtain ⟨o, e, _⟩ := T.obj _ _ st7 b hb
        exact (pin' b hb o e).2
      rcases q9 with ⟨rfl, nx⟩ | ⟨rfl, qf⟩
      · obtain rfl : z = .bool true := r9
        refine seg_at (seg_yield rfl rfl rfl ⟨true, H9, rfl, I10, fun z => absurd z (by simp), fun _ s' hh ho hb => ?_⟩)
        obtain ⟨m', hm', w'⟩ := hNx H9 nx
        exact seg_again rfl (ih m' (by omega) (i + 1) s' s' H9 (Inv.same I10 hh ho hb) (by rw [hh]; exact st10) n10 w')
      · obtain rfl : z = .bool false := r9
        exact seg_at (seg_yield rfl rfl rfl ⟨false, H9, rfl, I10, fun _ => qf, fun z => absurd z (by simp)⟩)
theorem seg_gen0 {n : Nat} {s₀ s : Shared} (loop : Seg (model X.prog X.w) A (genR X (wipe σ vs) Q) (genY X (wipe σ vs) Q) n s₀ (.compLoop (.GeneratorExp elt [⟨tg, iter, [], 0⟩] scope pos) 0 (.ref it) .none X.env)
        ((model X.prog X.w).den (.compLoop (.GeneratorExp elt [⟨tg, iter, [], 0⟩] scope pos) 0 (.ref it) .none X.env)) [] s)
    (self : ∀ (A : Around) (E : Value → Shared → Prop) (Q : Value → Shared → Prop), Q (.ref it) s → wpAny (model X.prog X.w) A (pyIter (.ref it)) Q E s) :
      Seg (model X.prog X.w) A (genR X (wipe σ vs) Q) (genY X (wipe σ vs) Q) n s₀ (.compStart (.GeneratorExp elt [⟨tg, iter, [], 0⟩] scope pos) 0 (.ref it) .none X.env)
        ((model X.prog X.w).den (.compStart (.GeneratorExp elt [⟨tg, iter, [], 0⟩] scope pos) 0 (.ref it) .none X.env)) [] s := by
  show Seg _ A _ _ _ s₀ _ ((compStart (.GeneratorExp elt [⟨tg, iter, [], 0⟩] scope pos) 0 (.ref it) .none X.env).onRaise (leaving X.env)) [] s
  unfold compStart
  rw [Sem.onRaise_eq_wrap]
  show Seg _ A _ _ _ s₀ _ ((ask >>= _).wrap _ _ _ _) [] s
  refine seg_bind_wrap (wpAny_askSetting ?_)
  split
  · exact seg_again rfl loop
  · first
      | exact seg_bind_wrap (wpAny_rule (seg_bind_wrap (wpAny_standAt (seg_bind_wrap (self _ _ _ (seg_again rfl loop))))))
      | (refine seg_bind_wrap (wpAny_rule ?_); show Seg _ A _ _ _ s₀ _ ((standAt iter.pos >>= _).wrap _ _ _ _) [] s; exact seg_bind_wrap (wpAny_standAt (seg_bind_wrap (self _ _ _ (seg_again rfl loop)))))

theorem bare_set {s : Shared} {g : Nat} {gs : GenState} (h : AllBare s.gens) (hb : gs.bare = true) : AllBare (s.setGen g gs).gens := by
  intro y hy
  obtain ⟨i, hi, rfl⟩ := Array.mem_iff_getElem.mp hy
  by_cases e : g = i
  · subst e
    simp only [Shared.setGen, Array.getElem_setIfInBounds_self]
    exact hb
  · have h1 := (GenOnly.setGen s g gs).2 i (Ne.symm e)
    rw [Array.getElem?_eq_getElem hi] at h1
    exact h _ (Array.mem_of_getElem? h1.symm)
theorem gens_set {s : Shared} {g : Nat} {gs : GenState} (h : g < s.gens.size) : (s.setGen g gs).gens[g]? = some gs := by
  simp [Shared.setGen, h]
/-- the consumer -/
theorem all_gen {A : Around} {a : Addr} {go : Obj} {g : Nat} {σ : L2.St} (hh : A.handled = none) (hroom : A.depth < recursionLimit) (hpn : (a, go) ∈ X.pn) (hgen : ∀ h : Heap, h.get? a = some go → h.IsGen a g) :
    ∀ (n : Nat) (s : Shared) (H : Hp) (gs : GenState), Inv X [] σ H s → s.gens[g]? = some gs →
      (∀ s'' : Shared, s''.heap = s.heap → s''.os = s.os → AllBare s''.gens → gs.Goes (model X.prog X.w) A.in1.in1 (genR X σ Q) (genY X σ Q) n (.send .none) s'') →
      codeAny (model X.prog X.w) A (.builtin "all.loop" ⟨[.ref a], []⟩) (fun r s' => ∃ b H', r = .ok (.ret (.bool b)) ∧ Inv X [] σ H' s' ∧ Q (.bl b) H') s := by
  intro n
  induction n with
  | zero =>
    intro s H gs I hgs hgo
    have ha := hgen _ (I.pin (a, go) (List.mem_append_left _ hpn)).1
    refine codeAny_builtin F.entry_all_loop ?_
    rw [Around.under_plainId F.plain_all_loop _]
    show wpAny _ A.in1 (pyNext (.ref a) >>= _) _ _ s
    refine wpAny_bind ?_
    refine wpAny_gsz (n := g + 1) (by
      have := (Array.getElem?_eq_some_iff.mp hgs).1
      omega) ?_
    refine wpAny_pyNext_genexpQ (A := A.in1) (P := genP X σ Q) hh I.nolimit hroom ha hgs (hgo _ rfl rfl (bare_set I.bare rfl)) (fun v s₁ gs' hb hv => ?_) (fun s₁ hp h' hk => ?_)
    · obtain ⟨b, H1, rfl, I1, qf, qt⟩ := hv
      intro hsz
      refine wpAny_bind (wpAny_holding (wpAny_truthy_bool ?_))
      refine wpAny_bind (wpAny_letGo ?_)
      cases b with
      | true => exact (qt rfl s₁ rfl rfl I1.bare).elim
      | false =>
        simp only [Bool.false_eq_true, if_false]
        refine wpAny_bind (wpAny_rule (wpAny_pure ?_))
        exact ⟨false, H1, rfl, Inv.same I1 rfl rfl (bare_set I1.bare hb), qf rfl⟩
    · obtain ⟨H1, I1, q⟩ := hp
      intro hsz
      refine wpAny_bind (wpAny_rule (wpAny_pure ?_))
      exact ⟨true, H1, rfl, (Inv.same (s' := s₁.setGen g .finished) I1 rfl rfl (bare_set I1.bare rfl)).kept (t' := (s₁.setGen g .finished).toks) hk, q⟩
  | succ n ih =>
    intro s H gs I hgs hgo
    have ha := hgen _ (I.pin (a, go) (List.mem_append_left _ hpn)).1
    refine codeAny_builtin F.entry_all_loop ?_
    rw [Around.under_plainId F.plain_all_loop _]
    show wpAny _ A.in1 (pyNext (.ref a) >>= _) _ _ s
    refine wpAny_bind ?_
    refine wpAny_gsz (n := g + 1) (by
      have := (Array.getElem?_eq_some_iff.mp hgs).1
      omega) ?_
    refine wpAny_pyNext_genexpQ (A := A.in1) (P := genP X σ Q) hh I.nolimit hroom ha hgs (hgo _ rfl rfl (bare_set I.bare rfl)) (fun v s₁ gs' hb hv => ?_) (fun s₁ hp h' hk => ?_)
    · obtain ⟨b, H1, rfl, I1, qf, qt⟩ := hv
      intro hsz
      refine wpAny_bind (wpAny_holding (wpAny_truthy_bool ?_))
      refine wpAny_bind (wpAny_letGo ?_)
      cases b with
      | true =>
        simp only [if_true]
        have hg1 : g < s₁.gens.size := by
          rw [setGen_size] at hsz
          omega
        refine wpAny_pure ⟨plainId_quiet F.plain_all_loop _, ih _ H1 gs' (Inv.same I1 rfl rfl (bare_set I1.bare hb)) (gens_set hg1) fun s'' e1 e2 e3 => ?_⟩
        exact qt rfl s'' e1 e2 e3
      | false =>
        simp only [Bool.false_eq_true, if_false]
        refine wpAny_bind (wpAny_rule (wpAny_pure ?_))
        exact ⟨false, H1, rfl, Inv.same I1 rfl rfl (bare_set I1.bare hb), qf rfl⟩
    · obtain ⟨H1, I1, q⟩ := hp
      intro hsz
      refine wpAny_bind (wpAny_rule (wpAny_pure ?_))
      exact ⟨true, H1, rfl, (Inv.same (s' := s₁.setGen g .finished) I1 rfl rfl (bare_set I1.bare rfl)).kept (t' := (s₁.setGen g .finished).toks) hk, q⟩
end

/-! ### the whole -/
def tAllG (P : Addr) (wi : TI) (g : TG) (te : TE) (vs : List Nat) : TE := fun σ H Q => wi σ H fun J H1 => GxR.TabG H1 P ∧ ∀ H2, GxR.Tabbed P H1 H2 → ∃ W : Nat → Nat → Hp → Prop, (∃ m, W 0 m H2) ∧ TurnsOk J g te vs σ Q W
abbrev genCode (elt tg iter : Expr) (scope : Scope) (pos : Pos) (it : Addr) (cenv : Env) : Code := .compLoop (.GeneratorExp elt [⟨tg, iter, [], 0⟩] scope pos) 0 (.ref it) .none cenv
theorem genFrames {A : Around} {l : List Env} {elt tg iter : Expr} {scope : Scope} {pos : Pos} {it : Addr} {cenv : Env} (h : A.frames = some l) : (A.in1.in1.over (genCode elt tg iter scope pos it cenv) []).frames = some (cenv :: l) := by
  obtain ⟨a1, a2, a3, a4, a5⟩ := A
  cases h
  rfl
theorem genRoom {A : Around} {k : Nat} {elt tg iter : Expr} {scope : Scope} {pos : Pos} {it : Addr} {cenv : Env} (h : Room (k + 1) A) : Room k (A.in1.in1.over (genCode elt tg iter scope pos it cenv) []) := by
  refine ⟨h.hd, ?_, ?_⟩
  · have := h.dp
    have e : (A.in1.in1.over (genCode elt tg iter scope pos it cenv) []).depth = A.depth + 1 := by
      show A.depth + frameCount [] + (genCode elt tg iter scope pos it cenv).weight = _
      rfl
    rw [e]
    omega
  · have := h.un
    have e : (A.in1.in1.over (genCode elt tg iter scope pos it cenv) []).units = A.units + 1 + 1 + unitsOf [] + 3 := by rfl
    rw [e]
    show A.units + 1 + 1 + 0 + 3 + 16 * k + 200 < _
    omega

section
variable {X : Cx}
theorem pe_all {c P : Addr} {elt tg iter : Expr} {p pos gpos : Pos} {scope : Scope} {own : List (Str × Nat)} {wi : TI} {g : TG} {te : TE} {k : Nat} (hr : Room (k + 1) X.A) (hc : X.calm = true) (hN : X.N.Nodup) (hg : Gl X "all") (hm : X.mg "all" = none)
    (TB : LamX.TabB X.base X.mg c P) (hcode : X.env.code = .ref c) (hi : PI X tg iter wi) (ok : BlkOk X.N X.env.scope scope own) (hco : scope.isCoroutine = false) (hcell : ∀ y ∈ scope.names, y.2 ≠ .cell) (hdot : scope.names.lookup (".0" : Str) = some NameKind.local)
    (hpg : ∀ (s : Shared) (H : Hp) (cenv : Env) (A : Around) (fp : List Addr) (pn : List (Addr × Obj)), cenv.scope = scope → Room k A → PG (genX X s H cenv A fp pn) tg g)
    (hpe : ∀ (s : Shared) (H : Hp) (cenv : Env) (A : Around) (fp : List Addr) (pn : List (Addr × Obj)), cenv.scope = scope → Room k A → PE (genX X s H cenv A fp pn) elt te)
    (hs : ∀ v, genFold iter X.env v = pure v)
    (he : starEach [.GeneratorExp elt [⟨tg, iter, [], 0⟩] scope gpos] X.env = (false, eval (.GeneratorExp elt [⟨tg, iter, [], 0⟩] scope gpos) X.env) :: starEach [] X.env := by rfl) :
    PE X (.Call (.Name "all" p) [.GeneratorExp elt [⟨tg, iter, [], 0⟩] scope gpos] [] pos) (tAllG P wi g te (own.map (·.2))) := by
  refine ⟨fun pins s σ H Q I h => ?_⟩
  have hfree : ∀ y ∈ scope.names, y.2 = .free → ∃ c, X.env.cells.lookup y.1 = some c := fun y hy e => by
    rcases ok.free y hy e with k | k
    · exact I.ok.has _ (.inl k)
    · exact I.ok.has _ (.inr k)
  refine wpAny_Call_Name_kw (ld_blt I hg hm (u := .builtin "all") (by first | rfl | decide +kernel) ?_)
  refine PyProof.Rows.callWith_builtin1 ?_ he (by rfl)
  rw [he]
  show wpAny _ _ (spliced ((false, eval (.GeneratorExp elt [⟨tg, iter, [], 0⟩] scope gpos) X.env) :: backTo pos (starEach [] X.env))) _ _ s
  refine Calls.spliced_cons (wpAny_GeneratorExp_make hco (closure_ok hfree) hcell hdot ok.kind hr.depth ?_ hs)
  refine thn (hi.run pins s σ H _ I h) fun xv s1 hx => thn hx fun itv s2 h2 => ?_
  obtain ⟨it, fp, tn, J, H1, e, I2, T, st2, f2, ⟨ps, hP, ht⟩, q⟩ := h2
  subst e
  refine ⟨I2.nolimit, ?_⟩
  have hPs : s2.heap.get? P = some { cls := .none, data := .fields ps } := I2.hok P _ hP
  have cd : PySem.W.CodeHd s2.heap c P := TB.code.keeps fun b u e => I2.bk b u e
  have cont : ∀ (code : Value) (h3 : Heap) (tk : Nat) (ps' more : Array Value), Heap.ExtBut P s2.heap h3 → s2.heap.objs.size ≤ h3.objs.size → h3.get? P = some { cls := .none, data := .fields ps' } → ps' = ps ++ more → TriplesOk ps'.toList →
      wpAny (model X.prog X.w) X.A (builtinsFor X.env.globals X.env.builtins) (fun bi s₄ => ∀ h' : Heap, h'.Ns s₄.heap.objs.size (fun y => if y = (".0" : Str) then some (.ref it) else none) → Heap.SameBut s₄.heap.objs.size (s₄.heap.push { cls := .type "frame", data := .dict #[] }) h' →
        wpAny (model X.prog X.w) X.A (spliced (backTo pos (starEach [] X.env))) (fun vs s' => wpAny (model X.prog X.w) X.A (call (.builtin "all") (.ref h'.objs.size :: vs)) (EP X pins σ Q) X.xe s') X.xe { s₄ with
            gens := s₄.gens.push (.fresh (.compStart (.GeneratorExp elt [⟨tg, iter, [], 0⟩] scope gpos) 0 (.ref it) .none (genEnv scope (cloFrom X.env.cells scope.names []) s₄.heap.objs.size code bi X.env))),
            toks := s₄.toks + 1 + 1 + 1,
            heap := h'.push { cls := .type "generator", data := .fields #[.int s₄.gens.size 0, .str "<genexpr>" (s₄.toks + 1), .str (X.env.qual ++ "<genexpr>") (s₄.toks + 1 + 1)] } }) X.xe { s2 with heap := h3, toks := tk } := by
    intro code h3 tk ps' more hx3 hsz hP3 hmore ht3
    subst hmore
    have I3 : Inv X pins σ (upd H1 P (.tbl (ps ++ more))) { s2 with heap := h3, toks := tk } := GxR.inv_tab (g' := s2.gens) (d' := s2.drawn) I2 hP (fun b o hb e => hx3 b o hb e) hP3 I2.bare
    have hTb : GxR.Tabbed P H1 (upd H1 P (.tbl (ps ++ more))) := ⟨⟨ps ++ more, upd_same, ht3⟩, fun b hb => upd_ne hb⟩
    obtain ⟨W, ⟨m0, w0⟩, turn⟩ := q _ hTb
    generalize upd H1 P (.tbl (ps ++ more)) = H2 at I3 hTb w0 turn
    have sz : ∀ b ∈ fp, b < s2.heap.objs.size := fun b hb => by
      obtain ⟨o, e, _⟩ := T.obj _ _ st2 b hb
      exact Heap.lt_size e
    have nP : ∀ b ∈ fp, b ≠ P := fun b hb z => by
      have := (f2 b hb).1
      rw [z, hP] at this
      cases this
    have f3 : ∀ b ∈ fp, FpOk X pins H2 b ∧ b < h3.objs.size := fun b hb => ⟨⟨by rw [hTb.2 b (nP b hb)]; exact (f2 b hb).1, (f2 b hb).2⟩, Nat.lt_of_lt_of_le (sz b hb) hsz⟩
    have st3 : tn 0 h3 := T.keep _ _ _ st2 fun b hb o e => hx3 b o (nP b hb) e
    generalize hs3 : ({ s2 with heap := h3, toks := tk } : Shared) = s3 at I3 ⊢
    have e3 : s3.heap = h3 := by rw [← hs3]
    rw [← e3] at f3 st3
    obtain ⟨bm, ob, e1, e2, _, _, e5, e6, e7, e8⟩ := TB.bm
    refine wpAny_builtinsFor (m := X.mg) (by rw [I3.ok.glob]; exact I3.mod.glob.keeps I3.bk) e1 e2 (I3.bk _ _ e5) e6 e7 e8 ?_
    intro h' hn' hs'
    refine Calls.spliced_nil ?_
    have hsz' : h'.objs.size = s3.heap.objs.size + 1 := by rw [hs'.1, Heap.size_push]
    have keep' : ∀ b o, s3.heap.get? b = some o → h'.get? b = some o := fun b o e => hs'.extBut b o (Nat.ne_of_lt (Heap.lt_size e)) (Heap.get?_push_of_some _ e)
    generalize hce : genEnv scope (cloFrom X.env.cells scope.names []) s3.heap.objs.size code builtinsNs X.env = cenv
    generalize hgo : ({ cls := .type "generator", data := .fields #[.int s3.gens.size 0, .str "<genexpr>" (s3.toks + 1), .str (X.env.qual ++ "<genexpr>") (s3.toks + 1 + 1)] } : Obj) = go
    have hgen : ∀ h : Heap, h.get? h'.objs.size = some go → h.IsGen h'.objs.size s3.gens.size := fun h e => ⟨go, _, _, e, by rw [← hgo], by rw [← hgo], by rw [← hgo]⟩
    have hgd : ∀ v, go.data ≠ .cell v := fun v z => by rw [← hgo] at z; cases z
    have hfl : go.isFreed = false := by rw [← hgo]; rfl
    have hpush : (h'.push go).get? h'.objs.size = some go := Heap.get?_push_size _ hfl
    generalize hs5 : ({ s3 with gens := s3.gens.push (.fresh (.compStart (.GeneratorExp elt [⟨tg, iter, [], 0⟩] scope gpos) 0 (.ref it) .none cenv)), toks := s3.toks + 1 + 1 + 1, heap := h'.push go } : Shared) = s5
    have k5 : ∀ b o, s3.heap.get? b = some o → s5.heap.get? b = some o := fun b o e => by rw [← hs5]; exact Heap.get?_push_of_some _ (keep' b o e)
    have I5 : Inv (genX X s3 H2 cenv (X.A.in1.in1.over (genCode elt tg iter scope gpos it cenv) []) fp [(h'.objs.size, go)]) [] (wipe σ (own.map (·.2))) H2 s5 := by
      refine gen_start (m := fun y => if y = (".0" : Str) then some (.ref it) else none) I3 ok hcell hN f3 (by rw [← hce]; rfl) (by rw [← hce]; rfl) (by rw [← hce]; rfl) (by rw [← hce]; rfl) (by rw [← hce]; rfl) (by rw [← hce]; rfl) (genFrames I3.ok.frames) hr.hd k5 ?_ (by rw [← hs5]) ?_ ?_ (by omega) hgd
      · rw [← hs5]; exact hn'.push _
      · rw [← hs5]; exact I3.bare.push rfl
      · rw [← hs5]; exact hpush
    have st5 : tn 0 s5.heap := T.keep _ _ _ st3 fun b _ o e => k5 b o e
    have stat : ∀ {σ' : L2.St} {H' : Hp} {s' : Shared}, Inv (genX X s3 H2 cenv (X.A.in1.in1.over (genCode elt tg iter scope gpos it cenv) []) fp [(h'.objs.size, go)]) [] σ' H' s' → (∀ b ∈ fp, H' b = none) →
        ∀ b ∈ fp, FpOk (genX X s3 H2 cenv (X.A.in1.in1.over (genCode elt tg iter scope gpos it cenv) []) fp [(h'.objs.size, go)]) [] H' b := fun {σ' H' s'} I' hn b hb =>
      ⟨hn b hb, (I'.ok.exf b hb).1, I'.ok.exfs b hb, .inl hb, fun x c e => (I'.ok.exf b hb).2 x c e, fun p hp => by
        have hp : p ∈ [(h'.objs.size, go)] ++ ([] : List (Addr × Obj)) := hp
        rw [List.append_nil] at hp
        rw [List.mem_singleton.mp hp]
        have h1 := (f3 b hb).2
        show h'.objs.size ≠ b
        intro z
        have h2 : h'.objs.size < s3.heap.objs.size := by rw [z]; exact h1
        rw [hsz'] at h2
        exact absurd h2 (Nat.not_lt.mpr (Nat.le_succ _))⟩
    have hsc : cenv.scope = scope := by rw [← hce]; rfl
    refine call_function_tree F.kind_all F.plain_all F.entry_all (F.args_all1 _) ?_
    unfold Builtin.«all»
    refine wpAny_bind (m := oneArg "all" _) (wpAny_pure ?_)
    refine wpAny_bind (wpAny_pyIter_gen (hgen _ (by rw [← hs5]; exact hpush)) ?_)
    refine wpAny_pure ⟨plainId_quiet F.plain_all_loop _, codeAny_mono (all_gen (X := genX X s3 H2 cenv (X.A.in1.in1.over (genCode elt tg iter scope gpos it cenv) []) fp [(h'.objs.size, go)]) (A := X.A) (a := h'.objs.size) (go := go) (Q := Q) hr.hd hr.depth List.mem_cons_self hgen (m0 + 1) s5 H2 _ I5 (by rw [← hs5]; exact Array.getElem?_push_size ..) fun s'' e4 e5 e6 => ?_) fun r s' hr' => ?_⟩
    · refine ⟨rfl, seg_gen0 (X := genX X s3 H2 cenv (X.A.in1.in1.over (genCode elt tg iter scope gpos it cenv) []) fp [(h'.objs.size, go)]) (seg_gen (X := genX X s3 H2 cenv (X.A.in1.in1.over (genCode elt tg iter scope gpos it cenv) []) fp [(h'.objs.size, go)]) rfl rfl hc (by show cenv.scope.isCoroutine = false; rw [hsc]; exact hco) T (hpg _ _ _ _ _ _ hsc (genRoom hr)) (hpe _ _ _ _ _ _ hsc (genRoom hr)) stat turn (m0 + 1) m0 (Nat.lt_succ_self _) 0 s'' s'' H2 (Inv.same I5 e4 e5 e6) (by rw [e4]; exact st5) (fun b hb => (f3 b hb).1.1) w0) fun A E Q hQ => T.self A 0 s'' Q E (by rw [e4]; exact st5) hQ⟩
    · obtain ⟨b, H6, rfl, I6, q6⟩ := hr'
      exact ⟨.bl b, H6, I3.call' (ch := fp) I6.os I6.base I6.hok I6.bare fun b hb => ⟨(f3 b hb).1.2.2.2.1, (f3 b hb).1.2.1, (f3 b hb).1.2.2.2.2.1, (f3 b hb).1.2.2.2.2.2⟩, rfl, q6⟩
  cases hf : codeAmong gpos ps.toList with
  | none =>
    refine wpAny_genexprCodeX hcode (cd.code hPs ht) (cd.tab hPs) hf fun c' h' tk hx hge hlt hco' _ htab' _ => ?_
    obtain ⟨o1, vs, f1, tf, fl, tg, inF, tx, tt, op, _, _, _, _, _, _, _, _, _, htr, _⟩ := hco'
    exact cont _ h' tk _ _ hx (Nat.le_trans hge (Nat.le_of_lt hlt)) htab'.2 rfl htr
  | some cv =>
    refine wpAny_genexprCode_hit hcode (cd.code hPs ht) hf ?_
    exact cont cv s2.heap s2.toks ps #[] (Heap.ExtBut.refl _ _) (Nat.le_refl _) hPs (by simp) ht
end
end TkGen

namespace Tk
open PySem PySem.Spec PyProof.Rows L2

/-! ### targets of names -/
mutual
def tgN : Tg → List Nat
  | .name i => [i]
  | .tup ts => tgNs ts
def tgNs : List Tg → List Nat
  | [] => []
  | t :: ts => tgN t ++ tgNs ts
end
def GOk (κ : Kx) (g : TG) (t : Tg) : Prop := ∀ ρ H x d σ δ δ1, RepS κ ρ H δ σ → Rep κ ρ H d x → bindG t d δ = some δ1 →
  ∀ Q : L2.St → Hp → Prop, (∀ σ2, RepS κ ρ H δ1 σ2 → (σ2.length = σ.length ∧ ∀ (j : Nat), j ∉ tgN t → σ2[j]? = σ[j]?) → Q σ2 H) → g x σ H Q
def GsOk (κ : Kx) (g : TGs) (t : List Tg) : Prop := ∀ ρ H xs ds σ δ δ1, RepS κ ρ H δ σ → Reps κ ρ H ds xs → bindGs t ds δ = some δ1 →
  ∀ Q : L2.St → Hp → Prop, (∀ σ2, RepS κ ρ H δ1 σ2 → (σ2.length = σ.length ∧ ∀ (j : Nat), j ∉ tgNs t → σ2[j]? = σ[j]?) → Q σ2 H) → g xs σ H Q
theorem gok_name {κ : Kx} {i : Nat} : GOk κ (gName i) (.name i) := by
  intro ρ H x d σ δ δ1 s hx hb Q k
  unfold bindG at hb
  cases hb
  refine k _ (s.set hx i) ⟨List.length_set, fun j hj => ?_⟩
  rw [List.getElem?_set_ne]
  intro e
  apply hj
  unfold tgN
  rw [e]
  exact List.mem_cons_self
theorem gsok_nil {κ : Kx} : GsOk κ gNil [] := by
  intro ρ H xs ds σ δ δ1 s hx hb Q k
  cases ds with
  | nil =>
    unfold bindGs at hb
    cases hb
    unfold Reps at hx
    exact ⟨hx, k σ s ⟨rfl, fun _ _ => rfl⟩⟩
  | cons d ds =>
    unfold bindGs at hb
    cases hb
theorem gsok_cons {κ : Kx} {g : TG} {gs : TGs} {t : Tg} {ts : List Tg} (h : GOk κ g t) (hs : GsOk κ gs ts) : GsOk κ (gCons g gs) (t :: ts) := by
  intro ρ H xs ds σ δ δ1 s hx hb Q k
  cases ds with
  | nil =>
    unfold bindGs at hb
    cases hb
  | cons d ds =>
    unfold bindGs at hb
    obtain ⟨δ2, h1, h2⟩ := Option.bind_eq_some_iff.mp hb
    unfold Reps at hx
    obtain ⟨v, w, rfl, h3, h4⟩ := hx
    refine ⟨v, w, rfl, h ρ H v d σ δ δ2 s h3 h1 _ fun σ2 s2 ⟨l2, e2⟩ => hs ρ H w ds σ2 δ2 δ1 s2 h4 h2 _ fun σ3 s3 ⟨l3, e3⟩ => k σ3 s3 ⟨l3.trans l2, fun j hj => ?_⟩⟩
    unfold tgNs at hj
    rw [List.mem_append, not_or] at hj
    rw [e3 j hj.2, e2 j hj.1]
theorem gok_tup {κ : Kx} {K : PySem.W.Frag} (hK : K = κ.K) {gs : TGs} {ts : List Tg} (hs : GsOk κ gs ts) : GOk κ (gTup K ts.length gs) (.tup ts) := by
  intro ρ H x d σ δ δ1 s hx hb Q k
  cases d with
  | tup ds =>
    unfold bindG at hb
    obtain ⟨a, xs, rfl, h1, h2⟩ := rep_tup.mp hx
    refine ⟨a, xs, rfl, hK ▸ h1, ?_, hs ρ H xs ds σ δ δ1 s h2 hb Q fun σ2 s2 e2 => k σ2 s2 ⟨e2.1, fun j hj => e2.2 j (by unfold tgN at hj; exact hj)⟩⟩
    rw [← h2.len]
    have : ∀ (ts : List Tg) (ds : List D) (δ δ1 : Dl), bindGs ts ds δ = some δ1 → ds.length = ts.length := by
      intro ts
      induction ts with
      | nil =>
        intro ds δ δ1 h
        cases ds with
        | nil => rfl
        | cons d ds => unfold bindGs at h; cases h
      | cons t ts ih =>
        intro ds δ δ1 h
        cases ds with
        | nil => unfold bindGs at h; cases h
        | cons d ds =>
          unfold bindGs at h
          obtain ⟨δ2, h1, h2⟩ := Option.bind_eq_some_iff.mp h
          rw [List.length_cons, List.length_cons, ih ds δ2 δ1 h2]
    exact this ts ds δ δ1 hb
  | _ => unfold bindG at hb; cases hb

/-! ### wiping -/
theorem wipe_at (σ : L2.St) : ∀ (vs : List Nat) (j : Nat), (wipe σ vs)[j]? = if j ∈ vs then (if j < σ.length then some none else none) else σ[j]?
  | [], j => by simp [wipe]
  | v :: vs, j => by
    unfold wipe
    by_cases hj : v = j
    · subst hj
      rw [if_pos List.mem_cons_self]
      by_cases hl : v < σ.length
      · rw [if_pos hl, List.getElem?_set_self (by rw [wipe_length]; exact hl)]
      · rw [if_neg hl, List.getElem?_eq_none (by rw [List.length_set, wipe_length]; omega)]
    · rw [List.getElem?_set_ne hj, wipe_at σ vs j]
      have e : (j ∈ v :: vs) ↔ j ∈ vs := by
        rw [List.mem_cons]
        exact ⟨fun h => h.elim (fun e => absurd e.symm hj) id, .inr⟩
      by_cases hm : j ∈ vs
      · rw [if_pos hm, if_pos (e.mpr hm)]
      · rw [if_neg hm, if_neg (fun z => hm (e.mp z))]
theorem wipe_eq {σ σ2 : L2.St} {vs : List Nat} (hl : σ2.length = σ.length) (h : ∀ j, j ∉ vs → σ2[j]? = σ[j]?) : wipe σ2 vs = wipe σ vs := by
  apply List.ext_getElem?
  intro j
  rw [wipe_at, wipe_at, hl]
  by_cases hj : j ∈ vs
  · rw [if_pos hj, if_pos hj]
  · rw [if_neg hj, if_neg hj, h j hj]
theorem wipe_wipe {σ : L2.St} {vs : List Nat} : wipe (wipe σ vs) vs = wipe σ vs := by
  refine wipe_eq (wipe_length σ vs) fun j hj => ?_
  rw [wipe_at, if_neg hj]
theorem RepS.wipe {κ ρ H} {δ : Dl} {σ : L2.St} (h : RepS κ ρ H δ σ) : ∀ vs : List Nat, RepS κ ρ H (wipeD δ vs) (L2.wipe σ vs)
  | [] => h
  | v :: vs => (h.wipe vs).off v

/-! ### what is walked -/
def SrcOk (κ : Kx) (ρ0 : List Addr) (H0 : Hp) (s : Src) (J : It) : Prop := ∀ i ρ H μ, Ext ρ0 H0 ρ H → Rel κ ρ H μ → match s.at_ i μ with
  | some (some d) => J.go i H ∧ ∀ x H', J.yld i H x H' → Ext ρ H ρ H' ∧ Rel κ ρ H' μ ∧ Rep κ ρ H' d x
  | some none => J.stop i H
  | none => True
section
variable {κ : Kx} {X : Cx} {W : WX} {e a b c tg : Expr} {es : List Expr} {pos p p2 : Pos} {m ma mb mc : Dl → Mu → Res D} {mt mu mw : Dl → Mu → Res Bool} {ms : Dl → Mu → Res (List D)}
abbrev JI (κ : Kx) (X : Cx) (W : WX) (tg e : Expr) (m : Dl → Mu → Res Src) : Prop := PI X tg e (tG κ (SrcOk κ) W m)
theorem pi_or {t t' : TI} (h : PI X tg e t) (h' : PI X tg e t') : PI X tg e (fun σ H R => t σ H R ∨ t' σ H R) := ⟨fun pins s σ H R I q => by
  rcases q with q | q
  · exact h.run pins s σ H R I q
  · exact h'.run pins s σ H R I q⟩
theorem src_tup {ρ H a xs ds} (h1 : SqT κ.K H a xs) (h2 : Reps κ ρ H ds xs) : SrcOk κ ρ H (.items ds) (Itt κ.K a) := by
  intro i ρ' H' μ e r
  show match some ds[i]? with
    | some (some d) => _
    | some none => _
    | none => True
  cases hd : ds[i]? with
  | none => exact ⟨xs, e.sqt h1, by rw [← h2.len]; exact List.getElem?_eq_none_iff.mp hd⟩
  | some d =>
    obtain ⟨v, h3, h4⟩ := h2.at_ i d hd
    refine ⟨⟨xs, v, e.sqt h1, h3⟩, fun x H2 ⟨e2, y⟩ => ?_⟩
    subst e2
    have := y xs (e.sqt h1)
    rw [h3] at this
    cases this
    exact ⟨.refl, r, h4.ext e⟩
theorem src_live {ρ H a n} (h1 : ρ[n]? = some a) : SrcOk κ ρ H (.live n) (Itl κ.K a) := by
  intro i ρ' H' μ e r
  show match (lstAt μ n).map (fun xs => xs[i]?) with
    | some (some d) => _
    | some none => _
    | none => True
  cases hl : lstAt μ n with
  | none => trivial
  | some xs =>
    obtain ⟨vs, h2, h3⟩ := r.sql hl (e.pre _ _ h1)
    show match some (xs[i]?) with
      | some (some d) => _
      | some none => _
      | none => True
    cases hd : xs[i]? with
    | none => exact ⟨vs, h2, by rw [← h3.len]; exact List.getElem?_eq_none_iff.mp hd⟩
    | some d =>
      obtain ⟨v, h4, h5⟩ := h3.at_ i d hd
      refine ⟨⟨vs, v, h2, h4⟩, fun x H2 ⟨e2, y⟩ => ?_⟩
      subst e2
      have := y vs h2
      rw [h4] at this
      cases this
      exact ⟨.refl, r, h5⟩
theorem src_rng {ρ H lo n} : SrcOk κ ρ H (.rng lo n) (Itr lo n) := by
  intro i ρ' H' μ e r
  show match some (if i < n then some (D.int (lo + i)) else none) with
    | some (some d) => _
    | some none => _
    | none => True
  by_cases hi : i < n
  · rw [if_pos hi]
    exact ⟨hi, fun x H2 ⟨e2, e3⟩ => by
      subst e2; subst e3
      exact ⟨.refl, r, rep_int.mpr rfl⟩⟩
  · rw [if_neg hi]
    exact Nat.le_of_not_lt hi
theorem src_str {ρ H x} : SrcOk κ ρ H (.items (signsD x)) (Its x) := by
  intro i ρ' H' μ e r
  show match some (signsD x)[i]? with
    | some (some d) => _
    | some none => _
    | none => True
  have hl : (signsD x).length = x.cps.size := by simp [signsD]
  cases hd : (signsD x)[i]? with
  | none =>
    have h0 := List.getElem?_eq_none_iff.mp hd
    rw [hl] at h0
    exact h0
  | some d =>
    have hi : i < x.cps.size := hl ▸ (List.getElem?_eq_some_iff.mp hd).1
    refine ⟨hi, fun v H2 ⟨e2, c, h1, h2⟩ => ?_⟩
    subst e2 h2
    have h3 : x.cps.toList[i]? = some c := by rw [Array.getElem?_toList]; exact h1
    unfold signsD at hd
    rw [List.getElem?_map, h3] at hd
    cases hd
    exact ⟨.refl, r, rep_str.mpr rfl⟩
theorem src_rev {ρ H a n} (len : Nat) (h1 : ρ[n]? = some a) : SrcOk κ ρ H (.rvl n len) (Itv κ.K a len) := by
  intro i ρ' H' μ e r
  show match (lstAt μ n).bind (fun xs => if i < len then xs[len - 1 - i]?.map some else some none) with
    | some (some d) => _
    | some none => _
    | none => True
  cases hl : lstAt μ n with
  | none => trivial
  | some xs =>
    obtain ⟨vs, h2, h3⟩ := r.sql hl (e.pre _ _ h1)
    rw [Option.bind_some]
    by_cases hi : i < len
    · rw [if_pos hi]
      cases hd : xs[len - 1 - i]? with
      | none => trivial
      | some d =>
        obtain ⟨v, h4, h5⟩ := h3.at_ _ d hd
        refine ⟨⟨hi, vs, v, h2, h4⟩, fun x H2 ⟨e2, y⟩ => ?_⟩
        subst e2
        have := y vs h2
        rw [h4] at this
        cases this
        exact ⟨.refl, r, h5⟩
    · rw [if_neg hi]
      exact Nat.le_of_not_lt hi
theorem ji_val (hK : X.K = κ.K) (ha : JE κ X W a ma) : JI κ X W tg a (fun δ μ => (ma δ μ).bind fun d μ1 => match d with
    | .tup ds => .ok (.items ds) μ1
    | .str x => .ok (.items (signsD x)) μ1
    | .loc n => (match lstAt μ1 n with
      | some _ => .ok (.live n) μ1
      | none => .stuck)
    | _ => .stuck) :=
  pi_imp (pi_or (pi_or (pi_list ha) (pi_tup ha)) (pi_str ha)) fun σ H R ⟨ρ, δ, μ, s, r, q⟩ => by
    dsimp only at q
    cases hm : ma δ μ with
    | ok d μ1 =>
      rw [hm] at q
      dsimp only [Res.bind] at q
      cases d with
      | tup ds =>
        refine .inl (.inr ⟨ρ, δ, μ, s, r, ?_⟩)
        rw [hm]
        intro ρ' H' v e r' hv
        obtain ⟨a', xs, rfl, h1, h2⟩ := rep_tup.mp hv
        refine ⟨a', rfl, ⟨xs, hK ▸ h1⟩, ?_⟩
        rw [hK]
        exact q ρ' H' _ e r' (src_tup h1 h2)
      | str x =>
        refine .inr ⟨ρ, δ, μ, s, r, ?_⟩
        rw [hm]
        intro ρ' H' v e r' hv
        obtain rfl := rep_str.mp hv
        exact ⟨x, rfl, q ρ' H' _ e r' src_str⟩
      | loc n =>
        refine .inl (.inl ⟨ρ, δ, μ, s, r, ?_⟩)
        rw [hm]
        intro ρ' H' v e r' hv
        obtain ⟨a', h0, rfl⟩ := rep_loc.mp hv
        dsimp only at q
        split at q
        · rename_i xs hl
          obtain ⟨vs, h2, h3⟩ := r'.sql hl h0
          refine ⟨a', rfl, ⟨vs, hK ▸ h2⟩, ?_⟩
          rw [hK]
          exact q ρ' H' _ e r' (src_live h0)
        · exact q.elim
      | _ => exact q.elim
    | exc c fs μ1 =>
      rw [hm] at q
      refine .inl (.inl ⟨ρ, δ, μ, s, r, ?_⟩)
      rw [hm]
      exact q
    | stuck =>
      rw [hm] at q
      exact q.elim
theorem ji_rev {x : Str} (hK : X.K = κ.K) (hx : x = "reversed") (hg : Gl X "reversed") (hm : X.mg "reversed" = none) (ha : JE κ X W a ma) (hs : starEach [a] X.env = [(false, eval a X.env)]) : JI κ X W tg (.Call (.Name x p) [a] [] pos) (fun δ μ => (ma δ μ).bind fun d μ1 => match d with
    | .loc n => (match lstAt μ1 n with
      | some xs => .ok (.rvl n xs.length) μ1
      | none => .stuck)
    | _ => .stuck) := by
  subst hx
  have hA : JA κ X W [a] (fun δ μ => (ma δ μ).bind fun d μ1 => (Res.ok [] μ1).bind fun ds μ2 => .ok (d :: ds) μ2) := ja_cons ha ja_nil (by rw [hs]; rfl)
  refine pi_imp (pi_reversed hg hm hA hs) fun σ H R ⟨ρ, δ, μ, s, r, q⟩ => ?_
  have q' : Post κ (SrcOk κ) W σ ρ H (((ma δ μ).bind fun d μ1 => (Res.ok [] μ1).bind fun ds μ2 => Res.ok (d :: ds) μ2).bind fun ds μ1 => match ds with
      | [.loc n] => (match lstAt μ1 n with
        | some xs => .ok (.rvl n xs.length) μ1
        | none => .stuck)
      | _ => .stuck) R := by
    dsimp only at q
    cases hm : ma δ μ with
    | ok d μ1 =>
      rw [hm] at q
      cases d <;> exact q
    | exc c fs μ1 => rw [hm] at q; exact q
    | stuck => rw [hm] at q; exact q
  refine gox (m := fun δ μ => (ma δ μ).bind fun d μ1 => (Res.ok [] μ1).bind fun ds μ2 => .ok (d :: ds) μ2) s r q' fun ρ1 H1 ds vs μ1 e1 s1 r1 x1 p1 => ?_
  split at p1
  · split at p1
    · rename_i n xs hb
      obtain ⟨v, rfl, h1⟩ := reps1 x1
      obtain ⟨a', h0, rfl⟩ := rep_loc.mp h1
      obtain ⟨vs', h2, h3⟩ := r1.sql hb h0
      refine ⟨a', vs', rfl, hK ▸ h2, ?_⟩
      rw [hK, ← h3.len]
      exact p1.ok r1 (src_rev _ h0)
    · exact p1.elim
  · exact p1.elim
theorem ji_rng1 {x : Str} (hx : x = "range") (hg : Gl X "range") (hm : X.mg "range" = none) (ha : JE κ X W a ma) (hs : starEach [a] X.env = [(false, eval a X.env)]) : JI κ X W tg (.Call (.Name x p) [a] [] pos) (fun δ μ => (ma δ μ).bind fun d μ1 => match d with
    | .int n => if -(2 ^ 62) ≤ n ∧ n < 2 ^ 62 then .ok (.rng 0 n.toNat) μ1 else .stuck
    | _ => .stuck) := by
  subst hx
  have hA : JA κ X W [a] (fun δ μ => (ma δ μ).bind fun d μ1 => (Res.ok [] μ1).bind fun ds μ2 => .ok (d :: ds) μ2) := ja_cons ha ja_nil (by rw [hs]; rfl)
  refine pi_imp (pi_range1 hg hm hA hs) fun σ H R ⟨ρ, δ, μ, s, r, q⟩ => ?_
  have q' : Post κ (SrcOk κ) W σ ρ H (((ma δ μ).bind fun d μ1 => (Res.ok [] μ1).bind fun ds μ2 => Res.ok (d :: ds) μ2).bind fun ds μ1 => match ds with
      | [.int n] => if -(2 ^ 62) ≤ n ∧ n < 2 ^ 62 then .ok (.rng 0 n.toNat) μ1 else .stuck
      | _ => .stuck) R := by
    dsimp only at q
    cases hm : ma δ μ with
    | ok d μ1 =>
      rw [hm] at q
      cases d <;> exact q
    | exc c fs μ1 => rw [hm] at q; exact q
    | stuck => rw [hm] at q; exact q
  refine gox (m := fun δ μ => (ma δ μ).bind fun d μ1 => (Res.ok [] μ1).bind fun ds μ2 => .ok (d :: ds) μ2) s r q' fun ρ1 H1 ds vs μ1 e1 s1 r1 x1 p1 => ?_
  split at p1
  · split at p1
    · rename_i n hb
      obtain ⟨v, rfl, h1⟩ := reps1 x1
      obtain rfl := rep_int.mp h1
      exact ⟨n, rfl, hb.1, hb.2, p1.ok r1 src_rng⟩
    · exact p1.elim
  · exact p1.elim
theorem ji_rng2 {x : Str} (hx : x = "range") (hg : Gl X "range") (hm : X.mg "range" = none) (ha : JE κ X W a ma) (hb : JE κ X W b mb) (hs : starEach [a, b] X.env = [(false, eval a X.env), (false, eval b X.env)]) (hs2 : starEach [b] X.env = [(false, eval b X.env)]) :
    JI κ X W tg (.Call (.Name x p) [a, b] [] pos) (fun δ μ => (ma δ μ).bind fun d μ1 => (mb δ μ1).bind fun d2 μ2 => match d, d2 with
    | .int i, .int j => if -(2 ^ 62) ≤ i ∧ i < 2 ^ 62 ∧ -(2 ^ 62) ≤ j ∧ j < 2 ^ 62 then .ok (.rng i (j - i).toNat) μ2 else .stuck
    | _, _ => .stuck) := by
  subst hx
  have hA : JA κ X W [a, b] (fun δ μ => (ma δ μ).bind fun d μ1 => ((mb δ μ1).bind fun d2 μ2 => (Res.ok [] μ2).bind fun ds μ3 => .ok (d2 :: ds) μ3).bind fun ds μ2 => .ok (d :: ds) μ2) := ja_cons ha (ja_cons hb ja_nil (by rw [hs2]; rfl)) (by rw [hs, hs2])
  refine pi_imp (pi_range2 hg hm hA hs hs2) fun σ H R ⟨ρ, δ, μ, s, r, q⟩ => ?_
  have q' : Post κ (SrcOk κ) W σ ρ H (((ma δ μ).bind fun d μ1 => ((mb δ μ1).bind fun d2 μ2 => (Res.ok [] μ2).bind fun ds μ3 => Res.ok (d2 :: ds) μ3).bind fun ds μ2 => Res.ok (d :: ds) μ2).bind fun ds μ1 => match ds with
      | [.int i, .int j] => if -(2 ^ 62) ≤ i ∧ i < 2 ^ 62 ∧ -(2 ^ 62) ≤ j ∧ j < 2 ^ 62 then .ok (.rng i (j - i).toNat) μ1 else .stuck
      | _ => .stuck) R := by
    dsimp only at q
    cases hm : ma δ μ with
    | ok d μ1 =>
      rw [hm] at q
      dsimp only [Res.bind] at q ⊢
      cases hm2 : mb δ μ1 with
      | ok d2 μ2 =>
        rw [hm2] at q
        cases d <;> cases d2 <;> exact q
      | exc c fs μ1 => rw [hm2] at q; exact q
      | stuck => rw [hm2] at q; exact q
    | exc c fs μ1 => rw [hm] at q; exact q
    | stuck => rw [hm] at q; exact q
  refine gox (m := fun δ μ => (ma δ μ).bind fun d μ1 => ((mb δ μ1).bind fun d2 μ2 => (Res.ok [] μ2).bind fun ds μ3 => .ok (d2 :: ds) μ3).bind fun ds μ2 => .ok (d :: ds) μ2) s r q' fun ρ1 H1 ds vs μ1 e1 s1 r1 x1 p1 => ?_
  split at p1
  · split at p1
    · rename_i i j hb
      obtain ⟨v, w, rfl, h1, h2⟩ := reps2 x1
      obtain rfl := rep_int.mp h1
      obtain rfl := rep_int.mp h2
      exact ⟨i, j, rfl, hb, p1.ok r1 src_rng⟩
    · exact p1.elim
  · exact p1.elim

/-! ### comprehensions -/
abbrev JTs (κ : Kx) (X : Cx) (W : WX) (e : List Expr) (m : Dl → Mu → Res Bool) : Prop := PTs X e (tT κ W m)
theorem pts_imp {es : List Expr} {t t' : TT} (h : PTs X es t) (hi : ∀ σ H Q, t' σ H Q → t σ H Q) : PTs X es t' := ⟨fun pins s σ H Q I q => h.run pins s σ H Q I (hi σ H Q q)⟩
theorem jts_nil : JTs κ X W [] (fun _ μ => .ok true μ) := pts_imp pts_nil fun σ H Q ⟨ρ, δ, μ, s, r, q⟩ => q.ok r rfl
theorem jts_one (h : JT κ X W a mt) : JTs κ X W [a] mt := pts_one h
abbrev W0 : WX := fun _ _ _ _ => False
/-- the reading of a comprehension from its turns -/
theorem lc_read {mi : Dl → Mu → Res Src} {t : Tg} {g : TG} {own : List Nat} {fu : Nat} (hg : GOk κ g t) (hsub : ∀ i ∈ tgN t, i ∈ own) {σ : L2.St} {H : Hp} {Q : VK}
    (h : tE κ W (fun δ μ => (mi δ μ).bind fun src μ1 => lcN (bindG t) mt me src μ1.length (wipeD δ own) fu 0 (μ1 ++ [.lst []])) σ H Q) :
    tLc (tG κ (SrcOk κ) W mi) g (tT κ W0 mt) (tE κ W0 me) own σ H Q := by
  obtain ⟨ρ, δ, μ, s, r, q⟩ := h
  refine gox s r q fun ρ1 H1 src J μ1 e1 s1 r1 x1 p1 => fun D hD => ?_
  have r2 : Rel κ (ρ1 ++ [D]) (upd H1 D (.lst [])) (μ1 ++ [.lst []]) := r1.alloc hD ⟨[], upd_same, .nil⟩
  have e2 : Ext ρ1 H1 (ρ1 ++ [D]) (upd H1 D (.lst [])) := .new hD
  have hl : (ρ1 ++ [D])[μ1.length]? = some D := by
    rw [List.getElem?_append_right (by rw [r1.len]; exact Nat.le_refl _), r1.len, Nat.sub_self]
    rfl
  refine ⟨fun i k H => ∃ ρ μ, Ext (ρ1 ++ [D]) (upd H1 D (.lst [])) ρ H ∧ Rel κ ρ H μ ∧ Post κ (Rep κ) W σ ρ H (lcN (bindG t) mt me src μ1.length (wipeD δ own) k i μ) Q,
    ⟨fu, _, _, .refl, r2, p1.ext e2⟩, fun i k H2 ⟨ρ3, μ3, e3, r3, p3⟩ => ?_⟩
  have sw : RepS κ ρ3 H2 (wipeD δ own) (wipe σ own) := (s1.ext (e2.trans e3)).wipe own
  cases k with
  | zero => exact p3.elim
  | succ k =>
    have so := x1 i ρ3 H2 μ3 (e2.trans e3) r3
    unfold lcN at p3
    cases hat : src.at_ i μ3 with
    | none => rw [hat] at p3; exact p3.elim
    | some o =>
      rw [hat] at so p3
      cases o with
      | none => exact .inl ⟨so, p3.ok r3 (rep_loc.mpr ⟨D, e3.pre _ _ hl, rfl⟩)⟩
      | some d =>
        dsimp only at p3
        cases hb : bindG t d (wipeD δ own) with
        | none => rw [hb] at p3; exact p3.elim
        | some δ1 =>
          rw [hb] at p3
          dsimp only at p3
          refine .inr ⟨so.1, fun H' => ∃ ρ μ, Ext (ρ1 ++ [D]) (upd H1 D (.lst [])) ρ H' ∧ Rel κ ρ H' μ ∧ Post κ (Rep κ) W σ ρ H' (lcN (bindG t) mt me src μ1.length (wipeD δ own) k (i + 1) μ) Q, fun H' hN => ⟨k, Nat.lt_succ_self k, hN⟩, fun x H' hy => ?_⟩
          obtain ⟨ey, ry, xy⟩ := so.2 x H' hy
          refine hg ρ3 H' x d (wipe σ own) (wipeD δ own) δ1 (sw.ext ey) xy hb _ fun σ2 s2 ⟨l2, w2⟩ => ⟨?_, ?_⟩
          · rw [wipe_eq (σ := wipe σ own) l2 (fun j hj => w2 j fun z => hj (hsub j z)), wipe_wipe]
          · refine gon s2 ry (p3.ext ey) fun ρ4 H4 b b' μ4 e4 s4 r4 x4 p4 => ?_
            cases x4
            cases b with
            | false =>
              exact ⟨ρ4, μ4, (e3.trans ey).trans e4, r4, p4⟩
            | true =>
              refine gon s4 r4 p4 fun ρ5 H5 y v μ5 e5 s5 r5 x5 p5 => ?_
              have hl5 := e5.pre _ _ (e4.pre _ _ (ey.pre _ _ (e3.pre _ _ hl)))
              split at p5
              · rename_i acc hacc
                obtain ⟨vs, h6, h7⟩ := r5.lst hacc hl5
                split at p5
                · rename_i hlen
                  obtain ⟨r6, e6⟩ := r5.wlst hl5 h6 (h7.append (.cons x5 .nil))
                  exact ⟨vs, h6, by rw [← h7.len]; exact hlen, ρ5, _, (((e3.trans ey).trans e4).trans e5).trans e6, r6, p5.ext e6⟩
                · exact p5.elim
              · exact p5.elim
end
end Tk

namespace Tk
open PySem PySem.Spec PyProof.Rows L2

section
variable {κ : Kx} {X : Cx} {W : WX} {e a b c tg : Expr} {es : List Expr} {pos p p2 : Pos} {m ma mb mc me : Dl → Mu → Res D} {mt mu mw : Dl → Mu → Res Bool} {ms : Dl → Mu → Res (List D)}
theorem tYes_go {σ : L2.St} {H : Hp} {A B : Hp → Prop} (h : A H) : tYes σ H (fun b H3 => if b = true then A H3 else B H3) := by
  show (if true = true then A H else B H)
  rw [if_pos rfl]
  exact h
theorem lc2_read {mi mi2 : Dl → Mu → Res Src} {t t2 : Tg} {g g2 : TG} {own own2 : List Nat} {fu : Nat} (hg : GOk κ g t) (hsub : ∀ i ∈ tgN t, i ∈ own) (hg2 : GOk κ g2 t2) (hsub2 : ∀ i ∈ tgN t2, i ∈ own2) {σ : L2.St} {H : Hp} {Q : VK}
    (h : tE κ W (fun δ μ => (mi δ μ).bind fun src μ1 => lc2N (bindG t) (fun δ1 μ2 => (mi2 δ1 μ2).noexc.bind fun s2 μ3 => lc2I (bindG t2) me s2 μ1.length (wipeD δ1 own2) fu 0 μ3) src μ1.length (wipeD δ own) fu 0 (μ1 ++ [.lst []])) σ H Q) :
    tLc2 (tG κ (SrcOk κ) W mi) g tYes (tG κ (SrcOk κ) W0 mi2) g2 tYes (tE κ W0 me) own own2 σ H Q := by
  obtain ⟨ρ, δ, μ, s, r, q⟩ := h
  refine gox s r q fun ρ1 H1 src J μ1 e1 s1 r1 x1 p1 => fun D hD => ?_
  have r2 : Rel κ (ρ1 ++ [D]) (upd H1 D (.lst [])) (μ1 ++ [.lst []]) := r1.alloc hD ⟨[], upd_same, .nil⟩
  have e2 : Ext ρ1 H1 (ρ1 ++ [D]) (upd H1 D (.lst [])) := .new hD
  have hl : (ρ1 ++ [D])[μ1.length]? = some D := by
    rw [List.getElem?_append_right (by rw [r1.len]; exact Nat.le_refl _), r1.len, Nat.sub_self]
    rfl
  generalize hin : (fun (δ1 : Dl) (μ2 : Mu) => (mi2 δ1 μ2).noexc.bind fun s2 μ3 => lc2I (bindG t2) me s2 μ1.length (wipeD δ1 own2) fu 0 μ3) = inner at p1
  refine ⟨fun i k H => ∃ ρ μ, Ext (ρ1 ++ [D]) (upd H1 D (.lst [])) ρ H ∧ Rel κ ρ H μ ∧ Post κ (Rep κ) W σ ρ H (lc2N (bindG t) inner src μ1.length (wipeD δ own) k i μ) Q,
    ⟨fu, _, _, .refl, r2, p1.ext e2⟩, fun i k H2 ⟨ρ3, μ3, e3, r3, p3⟩ => ?_⟩
  have sw : RepS κ ρ3 H2 (wipeD δ own) (wipe σ own) := (s1.ext (e2.trans e3)).wipe own
  cases k with
  | zero => exact p3.elim
  | succ k =>
    have so := x1 i ρ3 H2 μ3 (e2.trans e3) r3
    unfold lc2N at p3
    cases hat : src.at_ i μ3 with
    | none => rw [hat] at p3; exact p3.elim
    | some o =>
      rw [hat] at so p3
      cases o with
      | none => exact .inl ⟨so, p3.ok r3 (rep_loc.mpr ⟨D, e3.pre _ _ hl, rfl⟩)⟩
      | some d =>
        dsimp only at p3
        cases hb : bindG t d (wipeD δ own) with
        | none => rw [hb] at p3; exact p3.elim
        | some δ1 =>
          rw [hb] at p3
          dsimp only at p3
          refine .inr ⟨so.1, fun H' => ∃ ρ μ, Ext (ρ1 ++ [D]) (upd H1 D (.lst [])) ρ H' ∧ Rel κ ρ H' μ ∧ Post κ (Rep κ) W σ ρ H' (lc2N (bindG t) inner src μ1.length (wipeD δ own) k (i + 1) μ) Q, fun H' hN => ⟨k, Nat.lt_succ_self k, hN⟩, fun x H' hy => ?_⟩
          obtain ⟨ey, ry, xy⟩ := so.2 x H' hy
          refine hg ρ3 H' x d (wipe σ own) (wipeD δ own) δ1 (sw.ext ey) xy hb _ fun σ2 s2 ⟨l2, w2⟩ => ⟨?_, ?_⟩
          · rw [wipe_eq (σ := wipe σ own) l2 (fun j hj => w2 j fun z => hj (hsub j z)), wipe_wipe]
          · rw [← hin] at p3
            dsimp only at p3
            have p3' : Post κ (Rep κ) W σ ρ3 H' ((mi2 δ1 μ3).noexc.bind fun s3 μ4 => (lc2I (bindG t2) me s3 μ1.length (wipeD δ1 own2) fu 0 μ4).noexc.bind fun _ μ5 => lc2N (bindG t) inner src μ1.length (wipeD δ own) k (i + 1) μ5) Q := by
              rw [hin] at p3
              have p4 := p3.ext ey
              cases hm : mi2 δ1 μ3 with
              | ok s3 μ4 => rw [hm] at p4; exact p4
              | exc _ _ _ => rw [hm] at p4; exact p4
              | stuck => rw [hm] at p4; exact p4
            refine tYes_go ?_
            refine gon s2 ry p3' fun ρ4 H4 src2 J2 μ4 e4 s4 r4 x4 p4 => ?_
            have hl4 := e4.pre _ _ (ey.pre _ _ (e3.pre _ _ hl))
            refine ⟨fun j k2 H => ∃ ρ μ, Ext ρ4 H4 ρ H ∧ Rel κ ρ H μ ∧ Post κ (Rep κ) W σ ρ H ((lc2I (bindG t2) me src2 μ1.length (wipeD δ1 own2) k2 j μ).noexc.bind fun _ μ5 => lc2N (bindG t) inner src μ1.length (wipeD δ own) k (i + 1) μ5) Q,
              ⟨fu, _, _, .refl, r4, p4⟩, fun j k2 H5 ⟨ρ5, μ5, e5, r5, p5⟩ => ?_⟩
            have sw2 : RepS κ ρ5 H5 (wipeD δ1 own2) (wipe σ2 own2) := (s4.ext e5).wipe own2
            cases k2 with
            | zero => exact p5.elim
            | succ k2 =>
              have so2 := x4 j ρ5 H5 μ5 e5 r5
              unfold lc2I at p5
              cases hat2 : src2.at_ j μ5 with
              | none => rw [hat2] at p5; exact p5.elim
              | some o2 =>
                rw [hat2] at so2 p5
                cases o2 with
                | none => exact .inl ⟨so2, ρ5, μ5, ((e3.trans ey).trans e4).trans e5, r5, p5⟩
                | some d2 =>
                  dsimp only at p5
                  cases hb2 : bindG t2 d2 (wipeD δ1 own2) with
                  | none => rw [hb2] at p5; exact p5.elim
                  | some δ2 =>
                    rw [hb2] at p5
                    dsimp only at p5
                    refine .inr ⟨so2.1, fun H' => ∃ ρ μ, Ext ρ4 H4 ρ H' ∧ Rel κ ρ H' μ ∧ Post κ (Rep κ) W σ ρ H' ((lc2I (bindG t2) me src2 μ1.length (wipeD δ1 own2) k2 (j + 1) μ).noexc.bind fun _ μ5 => lc2N (bindG t) inner src μ1.length (wipeD δ own) k (i + 1) μ5) Q, fun H' hN => ⟨k2, Nat.lt_succ_self k2, hN⟩, fun x2 H6 hy2 => ?_⟩
                    obtain ⟨ey2, ry2, xy2⟩ := so2.2 x2 H6 hy2
                    refine hg2 ρ5 H6 x2 d2 (wipe σ2 own2) (wipeD δ1 own2) δ2 (sw2.ext ey2) xy2 hb2 _ fun σ3 s3 ⟨l3, w3⟩ => ⟨?_, ?_⟩
                    · rw [wipe_eq (σ := wipe σ2 own2) l3 (fun j hj => w3 j fun z => hj (hsub2 j z)), wipe_wipe]
                    · refine tYes_go ?_
                      have p6 : Post κ (Rep κ) W σ ρ5 H6 ((me δ2 μ5).noexc.bind fun y μ6 => (match μ6[μ1.length]? with
                          | some (.lst acc) => if acc.length < sizeLine then lc2I (bindG t2) me src2 μ1.length (wipeD δ1 own2) k2 (j + 1) (μ6.set μ1.length (.lst (acc ++ [y]))) else .stuck
                          | _ => .stuck).noexc.bind fun _ μ5 => lc2N (bindG t) inner src μ1.length (wipeD δ own) k (i + 1) μ5) Q := by
                        have p7 := p5.ext ey2
                        cases hm : me δ2 μ5 with
                        | ok y μ6 => rw [hm] at p7; exact p7
                        | exc _ _ _ => rw [hm] at p7; exact p7
                        | stuck => rw [hm] at p7; exact p7
                      refine gon s3 ry2 p6 fun ρ7 H7 y v μ7 e7 s7 r7 x7 p7 => ?_
                      have hl7 := e7.pre _ _ (ey2.pre _ _ (e5.pre _ _ hl4))
                      split at p7
                      · rename_i acc hacc
                        obtain ⟨vs, h6, h7⟩ := r7.lst hacc hl7
                        split at p7
                        · rename_i hlen
                          obtain ⟨r8, e8⟩ := r7.wlst hl7 h6 (h7.append (.cons x7 .nil))
                          exact ⟨vs, h6, by rw [← h7.len]; exact hlen, ρ7, _, ((e5.trans ey2).trans e7).trans e8, r8, p7.ext e8⟩
                        · exact p7.elim
                      · exact p7.elim

/-- the reading of all(..) from its turns -/
theorem all_read {P : Addr} (hP : P ∈ κ.tabs) {mi : Dl → Mu → Res Src} {t : Tg} {g : TG} {own : List Nat} {fu : Nat} (hg : GOk κ g t) (hsub : ∀ i ∈ tgN t, i ∈ own) {σ : L2.St} {H : Hp} {Q : VK}
    (h : tE κ W (fun δ μ => (mi δ μ).bind fun src μ1 => allN (bindG t) me src (wipeD δ own) fu 0 μ1) σ H Q) :
    TkGen.tAllG P (tG κ (SrcOk κ) W mi) g (tE κ W0 me) own σ H Q := by
  obtain ⟨ρ, δ, μ, s, r, q⟩ := h
  refine gox s r q fun ρ1 H1 src J μ1 e1 s1 r1 x1 p1 => ⟨r1.tab P hP, fun H2 hT => ?_⟩
  obtain ⟨r2, e2⟩ := r1.tabbed (r1.tab P hP) hT
  refine ⟨fun i k H => ∃ ρ μ, Ext ρ1 H2 ρ H ∧ Rel κ ρ H μ ∧ Post κ (Rep κ) W σ ρ H (allN (bindG t) me src (wipeD δ own) k i μ) Q,
    ⟨fu, _, _, .refl, r2, p1.ext e2⟩, fun i k H3 ⟨ρ3, μ3, e3, r3, p3⟩ => ?_⟩
  have sw : RepS κ ρ3 H3 (wipeD δ own) (wipe σ own) := (s1.ext (e2.trans e3)).wipe own
  cases k with
  | zero => exact p3.elim
  | succ k =>
    have so := x1 i ρ3 H3 μ3 (e2.trans e3) r3
    unfold allN at p3
    cases hat : src.at_ i μ3 with
    | none => rw [hat] at p3; exact p3.elim
    | some o =>
      rw [hat] at so p3
      cases o with
      | none => exact .inl ⟨so, p3.ok r3 (rep_bl.mpr rfl)⟩
      | some d =>
        dsimp only at p3
        cases hb : bindG t d (wipeD δ own) with
        | none => rw [hb] at p3; exact p3.elim
        | some δ1 =>
          rw [hb] at p3
          dsimp only at p3
          refine .inr ⟨so.1, fun H' => ∃ ρ μ, Ext ρ1 H2 ρ H' ∧ Rel κ ρ H' μ ∧ Post κ (Rep κ) W σ ρ H' (allN (bindG t) me src (wipeD δ own) k (i + 1) μ) Q, fun H' hN => ⟨k, Nat.lt_succ_self k, hN⟩, fun x H' hy => ?_⟩
          obtain ⟨ey, ry, xy⟩ := so.2 x H' hy
          refine hg ρ3 H' x d (wipe σ own) (wipeD δ own) δ1 (sw.ext ey) xy hb _ fun σ2 s2 ⟨l2, w2⟩ => ⟨?_, ?_⟩
          · rw [wipe_eq (σ := wipe σ own) l2 (fun j hj => w2 j fun z => hj (hsub j z)), wipe_wipe]
          · refine gon s2 ry (p3.ext ey) fun ρ5 H5 y v μ5 e5 s5 r5 x5 p5 => ?_
            split at p5
            · exact .inl ⟨rep_bl.mp x5, ρ5, _, (e3.trans ey).trans e5, r5, p5⟩
            · exact .inr ⟨rep_bl.mp x5, p5.ok r5 (rep_bl.mpr rfl)⟩
            · exact p5.elim

/-! ### displays of dicts -/
def RP (κ : Kx) : List Addr → Hp → List (D × D) → List (V × V) → Prop := fun ρ H ds vs => Paired (fun d v => Rep κ ρ H d.1 v.1 ∧ Rep κ ρ H d.2 v.2) ds vs
theorem RP.ext {ρ H ρ' H'} (e : Ext ρ H ρ' H') : ∀ {ds vs}, RP κ ρ H ds vs → RP κ ρ' H' ds vs
  | _, _, .nil => .nil
  | _, _, .cons h t => .cons ⟨h.1.ext e, h.2.ext e⟩ (RP.ext e t)
structure JP (κ : Kx) (X : Cx) (W : WX) (pos : Pos) (ks : List (Option Expr)) (vs : List Expr) (mp : Dl → Mu → Res (List (D × D))) : Prop where
  ex : ∃ trs, PPs X pos ks vs trs ∧ ∀ σ H Q, tG κ (RP κ) W mp σ H Q → tPairs trs σ H Q
theorem jp_nil : JP κ X W pos [] [] (fun _ μ => .ok [] μ) := ⟨[], pps_nil, fun σ H Q ⟨ρ, δ, μ, s, r, q⟩ => q.ok r .nil⟩
theorem jp_cons {ks : List (Option Expr)} {vs : List Expr} {mp : Dl → Mu → Res (List (D × D))} (ha : JE κ X W a ma) (hb : JE κ X W b mb) (hr : JP κ X W pos ks vs mp) :
    JP κ X W pos (some a :: ks) (b :: vs) (fun δ μ => (ma δ μ).bind fun x μ1 => (mb δ μ1).bind fun y μ2 => (mp δ μ2).bind fun ps μ3 => .ok ((x, y) :: ps) μ3) := by
  obtain ⟨trs, h1, h2⟩ := hr
  refine ⟨_, pps_cons ha hb h1, fun σ H Q ⟨ρ, δ, μ, s, r, q⟩ => ?_⟩
  exact gox s r q fun ρ1 H1 d v μ1 e1 s1 r1 x1 p1 => gox s1 r1 p1 fun ρ2 H2 d2 v2 μ2 e2 s2 r2 x2 p2 =>
    h2 _ _ _ (gox s2 r2 p2 fun ρ3 H3 ds ws μ3 e3 s3 r3 x3 p3 => p3.ok r3 (.cons ⟨x1.ext (e2.trans e3), x2.ext e3⟩ x3))
theorem rp_keys {ρ H} : ∀ {ds : List (D × D)} {vs : List (V × V)}, RP κ ρ H ds vs → (ds.all fun kv => (keyD kv.1).isSome) = true → ∃ ks : List (Key × V), vs = ks.map (fun kv => (kV kv.1, kv.2)) ∧ RepK κ ρ H ds ks
  | _, _, .nil, _ => ⟨[], rfl, rfl⟩
  | _, _, .cons (a := d) (b := v) h t, hk => by
    obtain ⟨k1, k2⟩ := Bool.and_eq_true_iff.mp (show ((keyD d.1).isSome && _) = true from hk)
    obtain ⟨k, hk'⟩ := Option.isSome_iff_exists.mp k1
    obtain ⟨ks, rfl, h2⟩ := rp_keys t k2
    refine ⟨(k, v.2) :: ks, ?_, k, v.2, ks, rfl, hk', h.2, h2⟩
    rw [List.map_cons, ← rep_key hk' h.1]
theorem je_dic {ks : List (Option Expr)} {vs : List Expr} {mp : Dl → Mu → Res (List (D × D))} (hr : JP κ X W pos ks vs mp) (hall : ks.all (·.isSome) = true) (hl : ks.length = vs.length) (h0 : ks ≠ []) (h15 : ks.length ≤ 15) :
    JE κ X W (.Dict ks vs pos) (fun δ μ => (mp δ (μ ++ [.dic []])).bind fun kvs μ1 => dispD kvs μ.length μ1) := by
  obtain ⟨trs, h1, h2⟩ := hr
  refine pe_imp (pe_disp h1 hall hl h0 h15) fun σ H Q ⟨ρ, δ, μ, s, r, q⟩ => fun p hp => ?_
  have r1 : Rel κ (ρ ++ [p]) (upd H p (.dK [])) (μ ++ [.dic []]) := r.alloc hp ⟨[], upd_same, rfl⟩
  have e1 : Ext ρ H (ρ ++ [p]) (upd H p (.dK [])) := .new hp
  have hl : (ρ ++ [p])[μ.length]? = some p := by
    rw [List.getElem?_append_right (by rw [r.len]; exact Nat.le_refl _), r.len, Nat.sub_self]
    rfl
  refine h2 _ _ _ (gox (f := fun kvs μ1 => dispD kvs μ.length μ1) (s.ext e1) r1 (q.ext e1) fun ρ2 H2 kvs ws μ2 e2 s2 r2 x2 p2 => ?_)
  have hl2 := e2.pre _ _ hl
  unfold dispD at p2
  split at p2
  · rename_i hd
    split at p2
    · rename_i hk
      obtain ⟨ks', h3, h4⟩ := r2.dic hd hl2
      have e0 : ks' = [] := h4
      subst e0
      obtain ⟨ks2, rfl, h5⟩ := rp_keys x2 hk.1
      refine ⟨h3, ks2, rfl, by rw [← lenK h5]; exact hk.2, ?_⟩
      have e3 : Ext ρ2 H2 ρ2 (upd H2 p (.dK (mergeK [] ks2))) := .write (not_tup_dK h3)
      refine p2 ρ2 _ _ e3 (r2.write hl2 (not_tup_dK h3) ⟨_, upd_same, (mergeKD (h5.ext e3) rfl)⟩) (rep_loc.mpr ⟨p, hl2, rfl⟩)
    · exact p2.elim
  · exact p2.elim
end

/-! ### statements -/
def PostS (κ : Kx) (W : WX) (ρ : List Addr) (H : Hp) (r : RS) (D : Ends) : Prop := match r with
  | .nx δ μ => ∀ ρ' H' σ, Ext ρ H ρ' H' → Rel κ ρ' H' μ → RepS κ ρ' H' δ σ → D.nx σ H'
  | .ret d μ => ∀ ρ' H' v, Ext ρ H ρ' H' → Rel κ ρ' H' μ → Rep κ ρ' H' d v → D.rt v H'
  | .brk δ μ => ∀ ρ' H' σ, Ext ρ H ρ' H' → Rel κ ρ' H' μ → RepS κ ρ' H' δ σ → D.bk σ H'
  | .cont δ μ => ∀ ρ' H' σ, Ext ρ H ρ' H' → Rel κ ρ' H' μ → RepS κ ρ' H' δ σ → D.ct σ H'
  | .exc c fs δ μ => ∀ ρ' H' σ dd gs, Ext ρ H ρ' H' → Rel κ ρ' H' μ → RepS κ ρ' H' δ σ → XdAt ρ' H' dd gs → RepF κ ρ' H' fs gs → W (.ref (κ.xl c)) (some dd) σ H'
  | .stuck => False
theorem PostS.ext {κ W ρ H ρ' H' r D} (e : Ext ρ H ρ' H') (h : PostS κ W ρ H r D) : PostS κ W ρ' H' r D := by
  cases r with
  | nx δ μ => exact fun ρ2 H2 v e2 => h ρ2 H2 v (e.trans e2)
  | ret δ μ => exact fun ρ2 H2 v e2 => h ρ2 H2 v (e.trans e2)
  | brk δ μ => exact fun ρ2 H2 v e2 => h ρ2 H2 v (e.trans e2)
  | cont δ μ => exact fun ρ2 H2 v e2 => h ρ2 H2 v (e.trans e2)
  | exc c fs δ μ => exact fun ρ2 H2 v dd gs e2 => h ρ2 H2 v dd gs (e.trans e2)
  | stuck => exact h
def tS (κ : Kx) (W : WX) (m : Dl → Mu → RS) : TS := fun D σ H => ∃ ρ δ μ, RepS κ ρ H δ σ ∧ Rel κ ρ H μ ∧ PostS κ W ρ H (m δ μ) D
abbrev JS (κ : Kx) (X : Cx) (W : WX) (st : Stmt) (m : Dl → Mu → RS) : Prop := PS X st (tS κ W m)
abbrev JSs (κ : Kx) (X : Cx) (W : WX) (st : List Stmt) (m : Dl → Mu → RS) : Prop := PSs X st (tS κ W m)
section
variable {κ : Kx} {α β : Type} {Ra : List Addr → Hp → α → β → Prop} {W : WX} {σ : L2.St} {ρ : List Addr} {H : Hp} {δ : Dl} {μ : Mu}
/-- from a statement to its first expression -/
theorem gos {m : Dl → Mu → Res α} {f : α → Mu → RS} {Q' : β → Hp → Prop} {D : Ends} (s : RepS κ ρ H δ σ) (r : Rel κ ρ H μ) (h : PostS κ W ρ H (RS.of δ (m δ μ) f) D)
    (k : ∀ ρ1 H1 a v μ1, Ext ρ H ρ1 H1 → RepS κ ρ1 H1 δ σ → Rel κ ρ1 H1 μ1 → Ra ρ1 H1 a v → PostS κ W ρ1 H1 (f a μ1) D → Q' v H1) : tG κ Ra W m σ H Q' := by
  refine ⟨ρ, δ, μ, s, r, ?_⟩
  cases hm : m δ μ with
  | ok a μ1 =>
    rw [hm] at h
    exact fun ρ1 H1 v e1 r1 x1 => k ρ1 H1 a v μ1 e1 (s.ext e1) r1 x1 (PostS.ext e1 h)
  | exc c fs μ1 =>
    rw [hm] at h
    exact fun ρ1 H1 dd gs e1 r1 h1 f1 => h ρ1 H1 σ dd gs e1 r1 (s.ext e1) h1 f1
  | stuck => rw [hm] at h; exact h.elim
end
section
variable {κ : Kx} {X : Cx} {W : WX} {e a b c tg : Expr} {es : List Expr} {pos p p2 : Pos} {m ma mb mc me : Dl → Mu → Res D} {mt mu mw : Dl → Mu → Res Bool} {ms : Dl → Mu → Res (List D)} {m1 m2 : Dl → Mu → RS} {st : Stmt} {rest : List Stmt}
theorem js_nil : JSs κ X W [] (fun δ μ => .nx δ μ) := pss_imp pss_nil fun D σ H ⟨ρ, δ, μ, s, r, q⟩ => q ρ H σ .refl r s
theorem js_cons (h1 : JS κ X W st m1) (h2 : JSs κ X W rest m2) : JSs κ X W (st :: rest) (fun δ μ => (m1 δ μ).seq m2) :=
  pss_imp (pss_cons h1 h2) fun D σ H ⟨ρ, δ, μ, s, r, q⟩ => by
    refine ⟨ρ, δ, μ, s, r, ?_⟩
    dsimp only at q
    cases hm : m1 δ μ with
    | nx δ1 μ1 =>
      rw [hm] at q
      exact fun ρ1 H1 σ1 e1 r1 s1 => ⟨ρ1, δ1, μ1, s1, r1, PostS.ext e1 q⟩
    | ret d μ1 => rw [hm] at q; exact q
    | brk δ1 μ1 => rw [hm] at q; exact q
    | cont δ1 μ1 => rw [hm] at q; exact q
    | exc c fs δ1 μ1 => rw [hm] at q; exact q
    | stuck => rw [hm] at q; exact q
theorem js_pass : JS κ X W (.Pass pos) (fun δ μ => .nx δ μ) := ps_imp ps_pass fun D σ H ⟨ρ, δ, μ, s, r, q⟩ => q ρ H σ .refl r s
theorem js_brk : JS κ X W (.Break pos) (fun δ μ => .brk δ μ) := ps_imp ps_break fun D σ H ⟨ρ, δ, μ, s, r, q⟩ => q ρ H σ .refl r s
theorem js_cont : JS κ X W (.Continue pos) (fun δ μ => .cont δ μ) := ps_imp ps_continue fun D σ H ⟨ρ, δ, μ, s, r, q⟩ => q ρ H σ .refl r s
theorem js_expr (ha : JE κ X W a ma) (hs : swapsWith a none pos.line X.env = pure false) : JS κ X W (.Expr a pos) (fun δ μ => RS.of δ (ma δ μ) fun _ μ1 => .nx δ μ1) :=
  ps_imp (ps_expr ha hs) fun D σ H ⟨ρ, δ, μ, s, r, q⟩ => gos s r q fun ρ1 H1 d v μ1 e1 s1 r1 x1 p1 => p1 ρ1 H1 σ .refl r1 s1
theorem js_ret (ha : JE κ X W a ma) : JS κ X W (.Return (some a) pos) (fun δ μ => RS.of δ (ma δ μ) fun d μ1 => .ret d μ1) :=
  ps_imp (ps_ret ha) fun D σ H ⟨ρ, δ, μ, s, r, q⟩ => gos s r q fun ρ1 H1 d v μ1 e1 s1 r1 x1 p1 => p1 ρ1 H1 v .refl r1 x1
theorem js_retn : JS κ X W (.Return none pos) (fun _ μ => .ret .non μ) :=
  ps_imp ps_retN fun D σ H ⟨ρ, δ, μ, s, r, q⟩ => q ρ H _ .refl r (rep_non.mpr rfl)
theorem js_if {sa sb : List Stmt} (hc : JT κ X W c mt) (ha : JSs κ X W sa m1) (hb : JSs κ X W sb m2) : JS κ X W (.If c sa sb pos) (fun δ μ => RS.of δ (mt δ μ) fun c μ1 => if c = true then m1 δ μ1 else m2 δ μ1) :=
  ps_imp (ps_if hc ha hb) fun D σ H ⟨ρ, δ, μ, s, r, q⟩ => gos s r q fun ρ1 H1 d v μ1 e1 s1 r1 x1 p1 => by
    cases x1
    cases d with
    | true => exact ⟨ρ1, δ, μ1, s1, r1, p1⟩
    | false => exact ⟨ρ1, δ, μ1, s1, r1, p1⟩
/-- the store of a value -/
theorem js_asg {te : TE} {g : TG} {t : Tg} {st : Stmt} (h : PS X st (tAsg te g)) (hE : ∀ σ H Q, tE κ W ma σ H Q → te σ H Q) (hg : GOk κ g t) : JS κ X W st (fun δ μ => RS.of δ (ma δ μ) fun d μ1 => match bindG t d δ with
    | some δ1 => .nx δ1 μ1
    | none => .stuck) :=
  ps_imp h fun D σ H ⟨ρ, δ, μ, s, r, q⟩ => hE _ _ _ (gos s r q fun ρ1 H1 d v μ1 e1 s1 r1 x1 p1 => by
    split at p1
    · rename_i δ1 hb
      exact hg ρ1 H1 v d σ δ δ1 s1 x1 hb _ fun σ2 s2 _ => p1 ρ1 H1 σ2 .refl r1 s2
    · exact p1.elim)
theorem js_aug {i : Nat} {o : Operator} {ti : TIp} {st : Stmt} (h : PS X st (tAug i (tE κ W ma) ti)) (ho : ∀ x y H Q, (∃ ρ μ dx dy W σ, Rel κ ρ H μ ∧ Rep κ ρ H dx x ∧ Rep κ ρ H dy y ∧ Post κ (Rep κ) W σ ρ H (augD o dx dy μ) Q) → ti x y H Q) :
    JS κ X W st (fun δ μ => match δ[i]? with
      | some (some x) => RS.of δ ((ma δ μ).bind fun y μ1 => augD o x y μ1) fun z μ1 => .nx (δ.set i (some z)) μ1
      | _ => .stuck) :=
  ps_imp h fun D σ H ⟨ρ, δ, μ, s, r, q⟩ => by
    dsimp only at q
    split at q
    · rename_i x hx
      obtain ⟨v, h1, h2⟩ := s.at_ i x hx
      refine ⟨v, h1, ?_⟩
      have q' : PostS κ W ρ H (RS.of δ (ma δ μ) fun y μ1 => RS.of δ (augD o x y μ1) fun z μ2 => .nx (δ.set i (some z)) μ2) D := by
        cases hm : ma δ μ with
        | ok _ _ => rw [hm] at q; exact q
        | exc _ _ _ => rw [hm] at q; exact q
        | stuck => rw [hm] at q; exact q
      refine gos s r q' fun ρ1 H1 d w μ1 e1 s1 r1 x1 p1 => ho _ _ _ _ ⟨ρ1, μ1, x, d, W, σ, r1, h2.ext e1, x1, ?_⟩
      cases hz : augD o x d μ1 with
      | ok z μ2 =>
        rw [hz] at p1
        exact fun ρ2 H2 u e2 r2 x2 => p1 ρ2 H2 _ e2 r2 ((s1.ext e2).set x2 i)
      | exc c fs μ2 =>
        rw [hz] at p1
        exact fun ρ2 H2 dd gs e2 r2 h2 f2 => p1 ρ2 H2 σ dd gs e2 r2 (s1.ext e2) h2 f2
      | stuck => rw [hz] at p1; exact p1.elim
    · exact q.elim
/-- for -/
theorem js_for {mi : Dl → Mu → Res Src} {t : Tg} {g : TG} {st : Stmt} {fu : Nat} (h : PS X st (tFor (tG κ (SrcOk κ) W mi) g (tS κ W m1))) (hg : GOk κ g t) :
    JS κ X W st (fun δ μ => RS.of δ (mi δ μ) fun src μ1 => forN (bindG t) m1 src fu 0 δ μ1) :=
  ps_imp h fun D σ H ⟨ρ, δ, μ, s, r, q⟩ => gos s r q fun ρ1 H1 src J μ1 e1 s1 r1 x1 p1 => by
    refine ⟨fun i k σ H => ∃ ρ δ μ, Ext ρ1 H1 ρ H ∧ RepS κ ρ H δ σ ∧ Rel κ ρ H μ ∧ PostS κ W ρ H (forN (bindG t) m1 src k i δ μ) D, ⟨fu, ρ1, δ, μ1, .refl, s1, r1, p1⟩, fun i k σ2 H2 ⟨ρ2, δ2, μ2, e2, s2, r2, p2⟩ => ?_⟩
    cases k with
    | zero => exact p2.elim
    | succ k =>
      have so := x1 i ρ2 H2 μ2 e2 r2
      unfold forN at p2
      cases hat : src.at_ i μ2 with
      | none => rw [hat] at p2; exact p2.elim
      | some o =>
        rw [hat] at so p2
        cases o with
        | none => exact .inl ⟨so, p2 ρ2 H2 σ2 .refl r2 s2⟩
        | some d =>
          dsimp only at p2
          cases hb : bindG t d δ2 with
          | none => rw [hb] at p2; exact p2.elim
          | some δ3 =>
            rw [hb] at p2
            dsimp only at p2
            refine .inr ⟨so.1, fun σ' H' => ∃ ρ δ μ, Ext ρ1 H1 ρ H' ∧ RepS κ ρ H' δ σ' ∧ Rel κ ρ H' μ ∧ PostS κ W ρ H' (forN (bindG t) m1 src k (i + 1) δ μ) D, fun σ' H' hN => ⟨k, Nat.lt_succ_self k, hN⟩, fun x H' hy => ?_⟩
            obtain ⟨ey, ry, xy⟩ := so.2 x H' hy
            refine hg ρ2 H' x d σ2 δ2 δ3 (s2.ext ey) xy hb _ fun σ3 s3 _ => ⟨ρ2, δ3, μ2, s3, ry, ?_⟩
            have p3 := PostS.ext ey p2
            cases hm : m1 δ3 μ2 with
            | nx δ4 μ4 => rw [hm] at p3; exact fun ρ4 H4 σ4 e4 r4 s4 => ⟨ρ4, δ4, μ4, (e2.trans ey).trans e4, s4, r4, PostS.ext e4 p3⟩
            | cont δ4 μ4 => rw [hm] at p3; exact fun ρ4 H4 σ4 e4 r4 s4 => ⟨ρ4, δ4, μ4, (e2.trans ey).trans e4, s4, r4, PostS.ext e4 p3⟩
            | brk δ4 μ4 => rw [hm] at p3; exact p3
            | ret d4 μ4 => rw [hm] at p3; exact p3
            | exc c fs δ4 μ4 => rw [hm] at p3; exact p3
            | stuck => rw [hm] at p3; exact p3.elim
theorem js_while {st : Stmt} {fu : Nat} (h : PS X st (tWhile (tT κ W mt) (tS κ W m1))) : JS κ X W st (fun δ μ => whileN mt m1 fu δ μ) :=
  ps_imp h fun D σ H ⟨ρ, δ, μ, s, r, q⟩ => by
    refine ⟨fun k σ H => ∃ ρ δ μ, RepS κ ρ H δ σ ∧ Rel κ ρ H μ ∧ PostS κ W ρ H (whileN mt m1 k δ μ) D, ⟨fu, ρ, δ, μ, s, r, q⟩, fun k σ2 H2 ⟨ρ2, δ2, μ2, s2, r2, p2⟩ => ?_⟩
    cases k with
    | zero => exact p2.elim
    | succ k =>
      unfold whileN at p2
      refine gos s2 r2 p2 fun ρ3 H3 b b' μ3 e3 s3 r3 x3 p3 => ?_
      cases x3
      cases b with
      | false => exact p3 ρ3 H3 σ2 .refl r3 s3
      | true =>
        refine ⟨fun σ' H' => ∃ ρ δ μ, RepS κ ρ H' δ σ' ∧ Rel κ ρ H' μ ∧ PostS κ W ρ H' (whileN mt m1 k δ μ) D, fun σ' H' hN => ⟨k, Nat.lt_succ_self k, hN⟩, ρ3, δ2, μ3, s3, r3, ?_⟩
        rw [if_pos rfl] at p3
        cases hm : m1 δ2 μ3 with
        | nx δ4 μ4 => rw [hm] at p3; exact fun ρ4 H4 σ4 e4 r4 s4 => ⟨ρ4, δ4, μ4, s4, r4, PostS.ext e4 p3⟩
        | cont δ4 μ4 => rw [hm] at p3; exact fun ρ4 H4 σ4 e4 r4 s4 => ⟨ρ4, δ4, μ4, s4, r4, PostS.ext e4 p3⟩
        | brk δ4 μ4 => rw [hm] at p3; exact p3
        | ret d4 μ4 => rw [hm] at p3; exact p3
        | exc c fs δ4 μ4 => rw [hm] at p3; exact p3
        | stuck => rw [hm] at p3; exact p3.elim
end
end Tk

namespace Tk
open PySem PySem.Spec PyProof.Rows L2

/-! ### either of two readings -/
section
variable {κ : Kx} {X : Cx} {W : WX} {e a b c o : Expr} {es : List Expr} {pos p p2 apos : Pos} {m m1 m2 ma mb mc : Dl → Mu → Res D} {mt mu mw : Dl → Mu → Res Bool} {ms : Dl → Mu → Res (List D)}
theorem je_alt (h1 : JE κ X W e m1) (h2 : JE κ X W e m2) (hc : ∀ δ μ, m δ μ = m1 δ μ ∨ m δ μ = m2 δ μ) : JE κ X W e m := by
  refine ⟨fun pins s σ H Q I q => ?_⟩
  obtain ⟨ρ, δ, μ, s1, r, z⟩ := q
  rcases hc δ μ with h | h
  · rw [h] at z
    exact h1.run pins s σ H Q I ⟨ρ, δ, μ, s1, r, z⟩
  · rw [h] at z
    exact h2.run pins s σ H Q I ⟨ρ, δ, μ, s1, r, z⟩

/-! ### a dict's item -/
def ixDic (x i : D) (μ : Mu) : Res D := match dicAt μ x with
  | some kvs => (match keyD i with
    | some _ => (match valD kvs i with
      | some d => .ok d μ
      | none => .stuck)
    | none => .stuck)
  | none => .stuck
variable (hK : X.K = κ.K)
include hK
theorem dic_at {ρ H μ x v kvs} (r : Rel κ ρ H μ) (h : dicAt μ x = some kvs) (hx : Rep κ ρ H x v) : ∃ q ks, v = .ref q ∧ H q = some (.dK ks) ∧ RepK κ ρ H kvs ks := by
  unfold dicAt at h
  split at h
  · obtain ⟨q, g0, rfl⟩ := rep_loc.mp hx
    split at h
    · rename_i hl
      cases h
      obtain ⟨ks, h1, h2⟩ := r.dic hl g0
      exact ⟨q, ks, rfl, h1, h2⟩
    · cases h
  · cases h
theorem je_ixDic (hu : X.A.units + 1 < cLine) (ha : JE κ X W a ma) (hb : JE κ X W b mb) (hs : NoSl b) : JE κ X W (.Subscript a b pos) (fun δ μ => (ma δ μ).bind fun x μ1 => (mb δ μ1).bind fun y μ2 => ixDic x y μ2) :=
  pe_imp (pe_dget hu ha hb hs) fun σ H Q ⟨ρ, δ, μ, s, r, q⟩ =>
    gox s r q fun ρ1 H1 dx x μ1 e1 s1 r1 hx p1 => gox s1 r1 p1 fun ρ2 H2 dy y μ2 e2 s2 r2 hy z => by
    unfold ixDic at z
    split at z
    · rename_i kvs hd
      split at z
      · rename_i k hk
        split at z
        · rename_i d hv
          obtain ⟨q, ks, rfl, h1, h2⟩ := dic_at hK r2 hd (hx.ext e2)
          have e := rep_key hk hy
          subst e
          have hw := valK hk h2
          rw [hv] at hw
          cases hvv : valV ks k with
          | none => rw [hvv] at hw; exact hw.elim
          | some v =>
            rw [hvv] at hw
            exact ⟨q, v, rfl, hvv ▸ DGet.k h1, z.ok r2 hw⟩
        · exact z.elim
      · exact z.elim
    · exact z.elim
theorem je_ix (hu : X.A.units + 1 < cLine) (ha : JE κ X W a ma) (hb : JE κ X W b mb) (hs : PlainIx b) (hn : NoSl b) : JE κ X W (.Subscript a b pos) (fun δ μ => (ma δ μ).bind fun x μ1 => (mb δ μ1).bind fun y μ2 => ixD x y μ2) := by
  refine je_alt (je_ixQ hK ha hb hs) (je_ixDic hK hu ha hb hn) fun δ μ => ?_
  cases h1 : ma δ μ with
  | ok x μ1 =>
    dsimp only [Res.bind]
    cases h2 : mb δ μ1 with
    | ok y μ2 =>
      dsimp only
      unfold ixD ixDic
      cases dicAt μ2 x with
      | none => exact .inl rfl
      | some kvs => exact .inr rfl
    | exc _ _ _ => exact .inl rfl
    | stuck => exact .inl rfl
  | exc _ _ _ => exact .inl rfl
  | stuck => exact .inl rfl
omit hK in
theorem anyV {ks : List (Key × V)} {k : Key} : (valV ks k).isSome = ks.any fun kv => decide (kv.1 = k) := by
  unfold valV
  rw [Option.isSome_map, Bool.eq_iff_iff, List.find?_isSome, List.any_eq_true]
theorem oj_cmpD (hu : X.A.units + 64 < cLine) (o : CmpOp) : OpJ κ X (compareOp o) (cmpD o) := by
  intro pins s σ H x y v u Q I rx ry h
  obtain ⟨ρ, μ, dx, dy, W, σ', r, hx, hy, z⟩ := h
  have old := oj_cmp hK hu o pins s σ H x y v u Q I rx ry
  cases o with
  | In =>
    unfold cmpD at z
    dsimp only at z
    cases hd : dicAt μ dy with
    | none =>
      rw [hd] at z
      exact old ⟨ρ, μ, dx, dy, W, σ', r, hx, hy, z⟩
    | some kvs =>
      rw [hd] at z
      dsimp only at z
      split at z
      · rename_i k hk
        obtain ⟨q, ks, rfl, h1, h2⟩ := dic_at hK r hd hy
        have e := rep_key hk hx
        subst e
        obtain rfl : u = Value.ref q := ry
        rw [anyK hk h2] at z
        refine d_in (by omega) I (DGet.k h1) rx fun s3 I3 => ⟨.bl _, H, I3, rfl, ?_⟩
        rw [anyV]
        exact z.ok r (rep_bl.mpr rfl)
      · exact z.elim
  | NotIn =>
    unfold cmpD at z
    dsimp only at z
    cases hd : dicAt μ dy with
    | none =>
      rw [hd] at z
      exact old ⟨ρ, μ, dx, dy, W, σ', r, hx, hy, z⟩
    | some kvs =>
      rw [hd] at z
      dsimp only at z
      split at z
      · rename_i k hk
        obtain ⟨q, ks, rfl, h1, h2⟩ := dic_at hK r hd hy
        have e := rep_key hk hx
        subst e
        obtain rfl : u = Value.ref q := ry
        rw [anyK hk h2] at z
        refine d_notIn (by omega) I (DGet.k h1) rx fun s3 I3 => ⟨.bl _, H, I3, rfl, ?_⟩
        rw [anyV]
        exact z.ok r (rep_bl.mpr rfl)
      · exact z.elim
  | _ => exact old ⟨ρ, μ, dx, dy, W, σ', r, hx, hy, z⟩
end

theorem Reps.erase {κ : Kx} {ρ H} : ∀ {ds : List D} {vs : List V} (k : Nat), Reps κ ρ H ds vs → Reps κ ρ H (ds.eraseIdx k) (vs.eraseIdx k)
  | [], vs, k, h => by
    unfold Reps at h
    subst h
    cases k <;> exact .nil
  | d :: ds, vs, k, h => by
    unfold Reps at h
    obtain ⟨v, r, rfl, h1, h2⟩ := h
    cases k with
    | zero => exact h2
    | succ k => exact .cons h1 (Reps.erase k h2)
/-! ### len of a dict, str of a number -/
section
variable {κ : Kx} {X : Cx} {W : WX} {e a b c o : Expr} {es : List Expr} {pos p p2 apos cpos : Pos} {m m1 m2 ma mb mc : Dl → Mu → Res D} {ms : Dl → Mu → Res (List D)}
variable (hK : X.K = κ.K)
include hK
theorem cj_bltD (bb : Blt) (hc : bb ≠ .len → X.calm = true) : CJ κ X (bltV bb) (bltD bb) := by
  intro pins s σ H vs us Q I rv h
  have old := cj_blt hK bb hc pins s σ H vs us Q I rv
  obtain ⟨ρ, μ, ds, W, σ', r, hs, z⟩ := h
  cases bb with
  | len =>
    unfold bltD at z
    dsimp only at z
    split at z
    · rename_i x
      cases hd : dicAt μ x with
      | none =>
        rw [hd] at z
        exact old ⟨ρ, μ, _, W, σ', r, hs, z⟩
      | some kvs =>
        rw [hd] at z
        obtain ⟨v, rfl, h1⟩ := reps1 hs
        obtain ⟨q, ks, rfl, h2, h3⟩ := dic_at hK r hd h1
        refine call_lenD pins s σ H _ us Q I rv ⟨q, ks, rfl, h2, ?_⟩
        rw [← lenK h3]
        exact z.ok r (rep_int.mpr rfl)
    · exact z.elim
  | str =>
    unfold bltD at z
    dsimp only at z
    split at z
    · rename_i i
      split at z
      · rename_i hl
        obtain ⟨v, rfl, h1⟩ := reps1 hs
        obtain rfl := rep_int.mp h1
        exact call_str_int pins s σ H _ us Q I rv ⟨i, rfl, hl, z.ok r (rep_str.mpr rfl)⟩
      · exact z.elim
    · exact z.elim
  | _ => exact old ⟨ρ, μ, ds, W, σ', r, hs, z⟩

/-! ### a list's methods -/
theorem je_bm {mt : Mth} {nm : Str} {id : String} {rd : V → List V → Hp → VK → Prop} (hmk : mkD mt = isLst) (slot : PySem.Slot "list" nm id) (ty : typeOf (.builtin id) = pure (.type "method_descriptor")) (hr : MtR X id rd)
    (hrd : ∀ {ρ H μ n q ds ws W σ Q}, Rel κ ρ H μ → ρ[n]? = some q → Reps κ ρ H ds ws → Post κ (Rep κ) W σ ρ H (mthD mt (.loc n) ds μ) Q → rd (.ref q) ws H Q)
    (ha : JE κ X W a ma) (hs : JA κ X W (e :: es) ms)
    (hbase : attributeBase a nm X.env (eval a X.env) = eval a X.env)
    (hfew : ((backTo cpos (starEach (e :: es) X.env)).all (fun x => !x.1) && (backToKw cpos (keywordEach [] X.env)).all (fun x => x.1.isSome)
      && decide ((e :: es).length + ([] : List Keyword).length + (if ([] : List Keyword).isEmpty then 0 else 1) < 30)) = true)
    (hline : (apos.endLine == cpos.line) = true) (he : starEach (e :: es) X.env = (false, eval e X.env) :: starEach es X.env) (hpl : (backTo cpos (starEach es X.env)).any (·.1) = false) :
    JE κ X W (.Call (.Attribute a nm apos) (e :: es) [] cpos) (fun δ μ => (ma δ μ).bind fun x μ1 => if mkD mt x μ1 = true then (ms δ μ1).bind fun ds μ2 => mthD mt x ds μ2 else .stuck) :=
  pe_imp (pe_bm PySem.F.plainAttrs_list slot ty hr ha hs hbase hfew hline he hpl) fun σ H Q ⟨ρ, δ, μ, s, r, q⟩ =>
    gox s r q fun ρ1 H1 x v μ1 e1 s1 r1 x1 p1 => by
      split at p1
      · rename_i hk
        rw [hmk] at hk
        obtain ⟨n, l, vs, rfl, rfl, g0, h1, h2⟩ := mk_lst hK r1 hk x1
        refine ⟨h2, gox s1 r1 p1 fun ρ2 H2 ds ws μ2 e2 s2 r2 x2 p2 => ?_⟩
        exact hrd r2 (e2.pre _ _ g0) x2 p2
      · exact p1.elim
theorem rd_extend {ρ H μ n q ds ws W σ Q} (r : Rel κ ρ H μ) (g : ρ[n]? = some q) (hd : Reps κ ρ H ds ws) (z : Post κ (Rep κ) W σ ρ H (mthD .extend (.loc n) ds μ) Q) : rExtend (.ref q) ws H Q := by
  replace z : Post κ (Rep κ) W σ ρ H (extendD (.loc n) ds μ) Q := z
  unfold extendD at z
  split at z
  · rename_i heq
    cases heq
    split at z
    · rename_i xs ys h1 h2
      split at z
      · rename_i hl
        obtain ⟨v, rfl, k1⟩ := reps1 hd
        obtain ⟨b, k2, rfl⟩ := rep_loc.mp k1
        obtain ⟨us, k3, k4⟩ := r.lst h1 g
        obtain ⟨vs, k5, k6⟩ := r.lst h2 k2
        obtain ⟨r3, e3⟩ := r.wlst g k3 (k4.append k6)
        exact ⟨q, b, us, vs, rfl, rfl, k3, k5, by rw [← k4.len, ← k6.len]; exact hl, z ρ _ _ e3 r3 (rep_non.mpr rfl)⟩
      · exact z.elim
    · exact z.elim
  · exact z.elim
theorem rd_index {ρ H μ n q ds ws W σ Q} (r : Rel κ ρ H μ) (g : ρ[n]? = some q) (hd : Reps κ ρ H ds ws) (z : Post κ (Rep κ) W σ ρ H (mthD .index (.loc n) ds μ) Q) : rIndex X.K (.ref q) ws H Q := by
  replace z : Post κ (Rep κ) W σ ρ H (indexD (.loc n) ds μ) Q := z
  unfold indexD at z
  split at z
  · rename_i m y heq
    cases heq
    split at z
    · rename_i xs h1
      split at z
      · rename_i hf
        obtain ⟨f1, f2⟩ := hf
        split at z
        · rename_i j hj
          obtain ⟨v, rfl, k1⟩ := reps1 hd
          obtain ⟨vs, k2, k3⟩ := r.sql h1 g
          obtain ⟨h3, h4, h5⟩ := List.findIdx?_eq_some_iff_getElem.mp hj
          have fx := rep_flat f1 k1
          have fall : vs.all flatV = true := (inV_of f1 k1 f2 k3).1
          obtain ⟨u, k4, k5⟩ := k3.at_ j xs[j] (List.getElem?_eq_getElem h3)
          have fj : flatD xs[j] = true := List.all_eq_true.mp f2 _ (List.getElem_mem h3)
          refine ⟨q, vs, v, j, u, rfl, rfl, hK ▸ k2, fx.2, fall, k4, ?_, fun l z' hl hz' => ?_, z.ok r (rep_int.mpr rfl)⟩
          · rw [(rep_flat fj k5).1, fx.1, eqV_toV fj f1]
            exact h4
          · have hl3 : l < xs.length := by omega
            obtain ⟨u', k6, k7⟩ := k3.at_ l xs[l] (List.getElem?_eq_getElem hl3)
            rw [hz'] at k6
            cases k6
            have fl : flatD xs[l] = true := List.all_eq_true.mp f2 _ (List.getElem_mem hl3)
            rw [(rep_flat fl k7).1, fx.1, eqV_toV fl f1]
            simpa using h5 l hl
        · exact z.elim
      · exact z.elim
    · exact z.elim
  · exact z.elim
theorem rd_pop {ρ H μ n q ds ws W σ Q} (r : Rel κ ρ H μ) (g : ρ[n]? = some q) (hd : Reps κ ρ H ds ws) (z : Post κ (Rep κ) W σ ρ H (mthD .pop (.loc n) ds μ) Q) : rPopAt (.ref q) ws H Q := by
  replace z : Post κ (Rep κ) W σ ρ H (popD (.loc n) ds μ) Q := z
  unfold popD at z
  split at z
  · rename_i m i heq
    cases heq
    split at z
    · rename_i xs h1
      split at z
      · rename_i hb
        split at z
        · rename_i k hk
          split at z
          · rename_i d hd'
            obtain ⟨v, rfl, k1⟩ := reps1 hd
            obtain rfl := rep_int.mp k1
            obtain ⟨us, k3, k4⟩ := r.lst h1 g
            obtain ⟨u, k5, k6⟩ := k4.at_ k d hd'
            obtain ⟨r3, e3⟩ := r.wlst g k3 (k4.erase k)
            have hs := (ixN_seq hk).1
            rw [k4.len] at hs
            exact ⟨q, us, i, k, u, rfl, rfl, k3, hb.1, hb.2, hs, k5, z ρ _ _ e3 r3 (k6.ext e3)⟩
          · exact z.elim
        · exact z.elim
      · exact z.elim
    · exact z.elim
  · exact z.elim
end
/-! ### dict comprehensions, the empty dict -/
section
variable {κ : Kx} {X : Cx} {W : WX} {pos : Pos} {mk me : Dl → Mu → Res D}
theorem je_dic0 : JE κ X W (.Dict [] [] pos) (fun δ μ => .ok (.loc μ.length) (μ ++ [.dic []])) :=
  pe_imp pe_dnewK fun σ H Q ⟨ρ, δ, μ, s, r, q⟩ => fun p hp => by
    have r1 : Rel κ (ρ ++ [p]) (upd H p (.dK [])) (μ ++ [.dic []]) := r.alloc hp ⟨[], upd_same, rfl⟩
    have hl : (ρ ++ [p])[μ.length]? = some p := by
      rw [List.getElem?_append_right (by rw [r.len]; exact Nat.le_refl _), r.len, Nat.sub_self]
      rfl
    exact q _ _ _ (.new hp) r1 (rep_loc.mpr ⟨p, hl, rfl⟩)
theorem dc_read {mi : Dl → Mu → Res Src} {t : Tg} {g : TG} {own : List Nat} {fu : Nat} (hg : GOk κ g t) (hsub : ∀ i ∈ tgN t, i ∈ own) {σ : L2.St} {H : Hp} {Q : VK}
    (h : tE κ W (fun δ μ => (mi δ μ).bind fun src μ1 => dcN (bindG t) mk me src μ1.length (wipeD δ own) fu 0 (μ1 ++ [.dic []])) σ H Q) :
    tDc (tG κ (SrcOk κ) W mi) g tYes (tE κ W0 mk) (tE κ W0 me) own σ H Q := by
  obtain ⟨ρ, δ, μ, s, r, q⟩ := h
  refine gox s r q fun ρ1 H1 src J μ1 e1 s1 r1 x1 p1 => fun D hD => ?_
  have r2 : Rel κ (ρ1 ++ [D]) (upd H1 D (.dK [])) (μ1 ++ [.dic []]) := r1.alloc hD ⟨[], upd_same, rfl⟩
  have e2 : Ext ρ1 H1 (ρ1 ++ [D]) (upd H1 D (.dK [])) := .new hD
  have hl : (ρ1 ++ [D])[μ1.length]? = some D := by
    rw [List.getElem?_append_right (by rw [r1.len]; exact Nat.le_refl _), r1.len, Nat.sub_self]
    rfl
  refine ⟨fun i k H => ∃ ρ μ, Ext (ρ1 ++ [D]) (upd H1 D (.dK [])) ρ H ∧ Rel κ ρ H μ ∧ Post κ (Rep κ) W σ ρ H (dcN (bindG t) mk me src μ1.length (wipeD δ own) k i μ) Q,
    ⟨fu, _, _, .refl, r2, p1.ext e2⟩, fun i k H2 ⟨ρ3, μ3, e3, r3, p3⟩ => ?_⟩
  have sw : RepS κ ρ3 H2 (wipeD δ own) (wipe σ own) := (s1.ext (e2.trans e3)).wipe own
  cases k with
  | zero => exact p3.elim
  | succ k =>
    have so := x1 i ρ3 H2 μ3 (e2.trans e3) r3
    unfold dcN at p3
    cases hat : src.at_ i μ3 with
    | none => rw [hat] at p3; exact p3.elim
    | some o =>
      rw [hat] at so p3
      cases o with
      | none => exact .inl ⟨so, p3.ok r3 (rep_loc.mpr ⟨D, e3.pre _ _ hl, rfl⟩)⟩
      | some d =>
        dsimp only at p3
        cases hb : bindG t d (wipeD δ own) with
        | none => rw [hb] at p3; exact p3.elim
        | some δ1 =>
          rw [hb] at p3
          dsimp only at p3
          refine .inr ⟨so.1, fun H' => ∃ ρ μ, Ext (ρ1 ++ [D]) (upd H1 D (.dK [])) ρ H' ∧ Rel κ ρ H' μ ∧ Post κ (Rep κ) W σ ρ H' (dcN (bindG t) mk me src μ1.length (wipeD δ own) k (i + 1) μ) Q, fun H' hN => ⟨k, Nat.lt_succ_self k, hN⟩, fun x H' hy => ?_⟩
          obtain ⟨ey, ry, xy⟩ := so.2 x H' hy
          refine hg ρ3 H' x d (wipe σ own) (wipeD δ own) δ1 (sw.ext ey) xy hb _ fun σ2 s2 ⟨l2, w2⟩ => ⟨?_, ?_⟩
          · rw [wipe_eq (σ := wipe σ own) l2 (fun j hj => w2 j fun z => hj (hsub j z)), wipe_wipe]
          · refine tYes_go ?_
            refine gon s2 ry (p3.ext ey) fun ρ4 H4 y v μ4 e4 s4 r4 x4 p4 => ?_
            refine gon s4 r4 p4 fun ρ5 H5 z w μ5 e5 s5 r5 x5 p5 => ?_
            have hl5 := e5.pre _ _ (e4.pre _ _ (ey.pre _ _ (e3.pre _ _ hl)))
            split at p5
            · rename_i kvs kk hacc hk
              obtain ⟨ks, h6, h7⟩ := r5.dic hacc hl5
              split at p5
              · rename_i hlen
                have ex : Ext ρ5 H5 ρ5 (upd H5 D (.dK (putK ks kk w))) := .write (not_tup_dK h6)
                have r6 := r5.write (mo := .dic (putD kvs y z)) hl5 (not_tup_dK h6) ⟨_, upd_same, (putKD hk (x5.ext ex) (h7.ext ex))⟩
                exact ⟨ks, kk, rep_key hk x4, h6, by rw [← lenK h7]; exact hlen, ρ5, _, (((e3.trans ey).trans e4).trans e5).trans ex, r6, p5.ext ex⟩
              · exact p5.elim
            · exact p5.elim
end
/-- y = {k: v for ..} where the new dict is stored ahead of the walk's end -/
theorem ps_setDc {X : Cx} {i : Nat} {y : Str} {py : Pos} {kx vx tg iter : Expr} {scope : Scope} {own : List (Str × Nat)} {pos spos : Pos} {wi : TI} {g : TG} {tt : TT} {tk tv : TE} (hc : X.calm = true) (hN : X.N.Nodup) (hy : X.N[i]? = some y) (hyl : X.env.scope.names.lookup y = some .local)
    (hsw : swapsWith (.DictComp kx vx [⟨tg, iter, [], 0⟩] scope pos) (some (.Name y py)) spos.line X.env = pure true) (hi : PI X tg iter wi) (ok : BlkOk X.N X.env.scope scope own)
    (hg : ∀ (s : Shared) (H : Hp) (B : Addr) (cl : List (Str × Addr)) (fp : List Addr), PG (X.blk s H scope (compEnvC scope cl B X.env) fp) tg g)
    (ht : ∀ (s : Shared) (H : Hp) (B : Addr) (cl : List (Str × Addr)) (fp : List Addr), PTs (X.blk s H scope (compEnvC scope cl B X.env) fp) [] tt)
    (hk : ∀ (s : Shared) (H : Hp) (B : Addr) (cl : List (Str × Addr)) (fp : List Addr), PE (X.blk s H scope (compEnvC scope cl B X.env) fp) kx tk)
    (he : ∀ (s : Shared) (H : Hp) (B : Addr) (cl : List (Str × Addr)) (fp : List Addr), PE (X.blk s H scope (compEnvC scope cl B X.env) fp) vx tv) (hs : ∀ z, foldedSetIterable iter X.env z = pure z) :
    PS X (.Assign [.Name y py] (.DictComp kx vx [⟨tg, iter, [], 0⟩] scope pos) spos) (tAsg (tDc wi g tt tk tv (own.map (·.2))) (gName i)) := by
  refine ⟨fun pins s σ H D I h => ?_⟩
  have h' : tDc wi g tt tk tv (own.map (·.2)) σ H (fun z H1 => gName i z σ H1 D.nx) := h
  rw [exec_Assign_Name_used _ _ _ _ hsw]
  refine wpAny_bind (wpAny_standAt (wpAny_bind ?_))
  show wpAny _ X.A (do let _ ← comprehension (.DictComp kx vx [⟨tg, iter, [], 0⟩] scope pos) scope X.env (firstIterPos [⟨tg, iter, [], 0⟩] pos) newDict false (eval iter X.env) (some (assign (.Name y py) X.env))) _ _ s
  have core := dc_core (Qf := fun _ s' => SP X pins D .next s') (use := some (assign (.Name y py) X.env)) (pos := pos) (pos' := firstIterPos [⟨tg, iter, [], 0⟩] pos) hc hN I hi ok hg ht hk he hs h' fun B C s' m H' I' q hn f => ?_
  · exact wpAny_bind (thn core fun _ s' hq => wpAny_pure (wpAny_pure hq))
  · obtain ⟨f0, f1, f2, f3, f4, f5⟩ := f
    show wpAny _ _ (assign (.Name y py) X.env (.ref B)) _ _ _
    refine wpAny_assign_Name (store_ok2 (v := V.ref B) I' hN hy (.inl hyl) rfl (fun s2 I2 ⟨b, sb, hb⟩ => ?_) (.inr hyl))
    have ne : C ≠ b := by
      rcases hb with z | z
      · rw [z]; exact f1
      · exact fun e => f4 y b z e.symm
    refine ⟨m, hn.sameBut sb ne, fun h3 sb3 => ?_⟩
    have J := I2.turned (t' := s2.toks) (fun o u hb e => (sb3.2 o hb).trans e) f0 f1 f3 f4 f5
    exact ⟨_, H', J, q⟩
/-! ### calls by what a function does -/
def spR (κ : Kx) (g : List D → Mu → Res D) : Sp := fun vs H Q E => ∃ ρ μ ds, Rel κ ρ H μ ∧ Reps κ ρ H ds vs ∧ Post κ (Rep κ) (fun cls d _ H => E cls d H) [] ρ H (g ds μ) Q
def FnT (κ : Kx) (X : Cx) (k : Nat) (f : Addr) (g : List D → Mu → Res D) : Prop := FnR X.prog X.w X.K X.mg X.base (L2.CX X.prog X.w) k f (spR κ g)
section
variable {κ : Kx} {X : Cx} {W : WX} {e a b c o : Expr} {es : List Expr} {pos p p2 apos : Pos} {m m1 m2 ma mb mc : Dl → Mu → Res D} {mt mu mw : Dl → Mu → Res Bool} {ms : Dl → Mu → Res (List D)}
/-- a call's end -/
theorem run_T {pins : List (Addr × Obj)} {σ : L2.St} {H : Hp} {s : Shared} {k : Nat} {f : Addr} {g : List D → Mu → Res D} {Q : VK} {us : List Value} {vs : List V} (F : FnT κ X k f g) (hr : Room k X.A) (tk : Takes X W)
    (I : Inv X pins σ H s) (r : Vals vs us) (h : spR κ g vs H Q (WE W σ)) : wpAny (model X.prog X.w) X.A (call (.ref f) us) (EP X pins σ Q) X.xe s := by
  have z := F X.A X.stack s H us vs Q (WE W σ) hr I.env0 r h
  refine wpAny_call (codeAny_mono z fun res s' hq => ?_)
  match res, hq with
  | .error e, hq => exact passAt tk σ pins H s e s' I hq
  | .ok (.ret u), hq => exact I.after hq
  | .ok .next, hq => exact hq.elim
  | .ok .brk, hq => exact hq.elim
  | .ok .cont, hq => exact hq.elim
theorem je_callT {g : List D → Mu → Res D} {k : Nat} {f : Addr} {x : Str} (F : FnT κ X k f g) (hr : Room k X.A) (hg : Gl X x) (hm : X.mg x = some (.ref f)) (hk : PySem.W.keepIn X.K (.ref f) = true)
    (tk : Takes X W) (ha : JA κ X W (e :: es) ms) (hdb : (x == ("__debug__" : Str)) = false) (he : starEach (e :: es) X.env = (false, eval e X.env) :: starEach es X.env) (hpl : (backTo pos (starEach es X.env)).any (·.1) = false) :
    JE κ X W (.Call (.Name x p) (e :: es) [] pos) (fun δ μ => (ms δ μ).bind fun ds μ1 => g ds μ1) := by
  refine ⟨fun pins s σ H Q I ⟨ρ, δ, μ, s0, r, q⟩ => wpAny_Call_Name_kw (ld_glob I hg hm ?_ hdb)⟩
  have q2 : tA κ W ms σ H fun vs H1 => spR κ g vs H1 Q (WE W σ) := gox s0 r q fun ρ1 H1 ds vs μ1 e1 s1 r1 x1 p1 => ⟨ρ1, μ1, ds, r1, x1, p1.conv fun c d H z => z⟩
  refine PySem.W.callWith_K (h₀ := X.base) I.ok.mod.kin hk ?_ he hpl
  refine thn (ha.run pos pins s σ H _ I q2) ?_
  intro us s1 ⟨vs, H1, I1, rv, qv⟩
  exact ⟨I1.kIn, run_T F hr tk I1 rv qv⟩
theorem je_callT0 {g : List D → Mu → Res D} {k : Nat} {f : Addr} {x : Str} (F : FnT κ X k f g) (hr : Room k X.A) (hg : Gl X x) (hm : X.mg x = some (.ref f)) (hk : PySem.W.keepIn X.K (.ref f) = true)
    (tk : Takes X W) (hdb : (x == ("__debug__" : Str)) = false) : JE κ X W (.Call (.Name x p) [] [] pos) (fun δ μ => g [] μ) := by
  refine ⟨fun pins s σ H Q I ⟨ρ, δ, μ, s0, r, q⟩ => wpAny_Call_Name_kw (ld_glob I hg hm ?_ hdb)⟩
  exact PySem.W.callWith_K0 I.kIn hk (run_T (us := []) F hr tk I .nil ⟨ρ, μ, [], r, .nil, q.conv fun c d H z => z⟩)

/-! ### instances -/
/-- what a class's place holds -/
structure ClsOk (κ : Kx) (X : Cx) (k : Nat) (Ω : Om) : Prop where
  cls : ∀ (c : Nat) (d : Cd), Ω.C[c]? = some d → Cls X.K (κ.cl c)
  noat : ∀ (c : Nat) (d : Cd) (f : Str), Ω.C[c]? = some d → d.fs.contains f = true → NoAttr X.K (κ.cl c) f
  meth : ∀ (c : Nat) (d : Cd) (m : Str) (j : Nat), Ω.C[c]? = some d → d.ms.lookup m = some j → ∃ f, Meth X.K (κ.cl c) m f ∧ FnT κ X k f (Ω.Φ j)
theorem ins_at {ρ H μ x v c fs} (r : Rel κ ρ H μ) (h : insAt μ x = some (c, fs)) (hx : Rep κ ρ H x v) : ∃ q n dx gs, v = .ref q ∧ x = .loc n ∧ ρ[n]? = some q ∧ μ[n]? = some (.ins c fs) ∧ H q = some (.ins (κ.cl c) dx gs) ∧ RepF κ ρ H fs gs := by
  unfold insAt at h
  split at h
  · rename_i n
    obtain ⟨q, g0, rfl⟩ := rep_loc.mp hx
    split at h
    · rename_i c' fs' hl
      cases h
      obtain ⟨ob, h1, h2⟩ := r.at g0
      rw [hl] at h1
      cases h1
      obtain ⟨dx, gs, h3, h4⟩ := h2
      exact ⟨q, n, dx, gs, rfl, rfl, g0, hl, h3, h4⟩
    · cases h
  · cases h
theorem lookF {ρ H} {f : Str} : ∀ {fs : List (Str × D)} {gs : List (Str × V)}, RepF κ ρ H fs gs → match fs.lookup f, gs.lookup f with
    | some d, some v => Rep κ ρ H d v
    | none, none => True
    | _, _ => False
  | [], gs, h => by
    have e : gs = [] := h
    subst e
    trivial
  | (g, d) :: fs, gs, h => by
    obtain ⟨v, r, rfl, h1, h2⟩ := h
    rw [List.lookup_cons, List.lookup_cons]
    cases f == g with
    | true => exact h1
    | false => exact lookF h2
theorem putF_rep {ρ H} {f : Str} {d : D} {v : V} (hd : Rep κ ρ H d v) : ∀ {fs : List (Str × D)} {gs : List (Str × V)}, RepF κ ρ H fs gs → RepF κ ρ H (putFD f d fs) (putF f v gs)
  | [], gs, h => by
    have e : gs = [] := h
    subst e
    exact ⟨v, [], rfl, hd, rfl⟩
  | (g, x) :: fs, gs, h => by
    obtain ⟨w, r, rfl, h1, h2⟩ := h
    show RepF κ ρ H (if g = f then (g, d) :: fs else (g, x) :: putFD f d fs) (if g = f then (g, v) :: r else (g, w) :: putF f v r)
    by_cases q : g = f
    · rw [if_pos q, if_pos q]
      exact ⟨v, r, rfl, hd, h2⟩
    · rw [if_neg q, if_neg q]
      exact ⟨w, _, rfl, h1, putF_rep hd h2⟩
theorem lenF {ρ H} : ∀ {fs : List (Str × D)} {gs : List (Str × V)}, RepF κ ρ H fs gs → fs.length = gs.length
  | [], gs, h => by
    have e : gs = [] := h
    subst e
    rfl
  | (g, x) :: fs, gs, h => by
    obtain ⟨w, r, rfl, h1, h2⟩ := h
    rw [List.length_cons, List.length_cons, lenF h2]
variable {Ω : Om} {k : Nat}
theorem je_fld (C : ClsOk κ X k Ω) {f : Str} (ha : JE κ X W a ma) (hb : attributeBase a f X.env (eval a X.env) = eval a X.env) : JE κ X W (.Attribute a f pos) (fun δ μ => (ma δ μ).bind fun x μ1 => fldD Ω.C f x μ1) :=
  pe_imp (L2.pe_fld ha hb) fun σ H Q ⟨ρ, δ, μ, s, r, q⟩ => gox s r q fun ρ1 H1 x v μ1 e1 s1 r1 x1 p1 => by
    unfold fldD at p1
    split at p1
    · rename_i c fs hi
      split at p1
      · rename_i d hc
        split at p1
        · rename_i hf
          split at p1
          · rename_i y hy
            obtain ⟨q, n, dx, gs, rfl, rfl, g0, _, g1, g2⟩ := ins_at r1 hi x1
            have hl := lookF (f := f) g2
            rw [hy] at hl
            cases hg : gs.lookup f with
            | none => rw [hg] at hl; exact hl.elim
            | some w =>
              rw [hg] at hl
              exact ⟨q, _, dx, gs, w, rfl, g1, C.cls c d hc, C.noat c d f hc hf, hg, p1.ok r1 hl⟩
          · exact p1.elim
        · exact p1.elim
      · exact p1.elim
    · exact p1.elim
theorem meth_at (C : ClsOk κ X k Ω) {ρ H μ x v m c j} (r : Rel κ ρ H μ) (h : methI Ω.C m x μ = some (c, j)) (hx : Rep κ ρ H x v) :
    ∃ q dx gs f, v = .ref q ∧ H q = some (.ins (κ.cl c) dx gs) ∧ gs.lookup m = none ∧ Cls X.K (κ.cl c) ∧ Meth X.K (κ.cl c) m f ∧ FnT κ X k f (Ω.Φ j) := by
  unfold methI at h
  split at h
  · rename_i c' fs hi
    split at h
    · rename_i d hc
      split at h
      · rename_i hf
        obtain ⟨j', hj, e⟩ := Option.map_eq_some_iff.mp h
        cases e
        obtain ⟨q, n, dx, gs, rfl, rfl, g0, _, g1, g2⟩ := ins_at r hi hx
        obtain ⟨f, h1, h2⟩ := C.meth _ d m _ hc hj
        have hl := lookF (f := m) g2
        cases hg : gs.lookup m with
        | none => exact ⟨q, dx, gs, f, rfl, g1, hg, C.cls _ d hc, h1, h2⟩
        | some w =>
          rw [hg] at hl
          cases hq : fs.lookup m with
          | none => rw [hq] at hl; exact hl.elim
          | some y => rw [hq] at hf; cases hf
      · cases h
    · cases h
  · cases h
/-- the shapes of the arguments -/
def ArgsOk (X : Cx) (pos : Pos) (es : List Expr) (ms : Dl → Mu → Res (List D)) : Prop := (es = [] ∧ ∀ δ μ, ms δ μ = .ok [] μ) ∨ ∃ e r, es = e :: r ∧ starEach es X.env = (false, eval e X.env) :: starEach r X.env ∧ (backTo pos (starEach r X.env)).any (·.1) = false
theorem je_mc (C : ClsOk κ X k Ω) {pl : Sem Bool} {m : Str} (hr : Room k X.A) (tk : Takes X W) (ha : JE κ X W o ma) (hs : JA κ X W es ms) (hst : ArgsOk X pos es ms)
    (ht : eval (.Call (.Attribute o m apos) es [] pos) X.env = (do
      let ov ← eval o X.env
      standAt apos.atName
      let (f, first) ← holding [ov] (getMethod ov m pl)
      callWith pos f first (backTo pos (starEach es X.env)) (backToKw pos (keywordEach [] X.env)))) :
    JE κ X W (.Call (.Attribute o m apos) es [] pos) (fun δ μ => (ma δ μ).bind fun x μ1 => match methI Ω.C m x μ1 with
      | some (_, j) => (ms δ μ1).bind fun ds μ2 => Ω.Φ j (x :: ds) μ2
      | none => .stuck) := by
  refine ⟨fun pins s σ H Q I ⟨ρ, δ, μ, s0, r, q⟩ => PySem.W.methodCall_KW (pl := pl) ?_ ht⟩
  have q2 : tE κ W ma σ H fun v H1 => ∃ ρ1 x μ1, RepS κ ρ1 H1 δ σ ∧ Rel κ ρ1 H1 μ1 ∧ Rep κ ρ1 H1 x v ∧ Post κ (Rep κ) W σ ρ1 H1 (match methI Ω.C m x μ1 with
      | some (_, j) => (ms δ μ1).bind fun ds μ2 => Ω.Φ j (x :: ds) μ2
      | none => .stuck) Q := gox s0 r q fun ρ1 H1 x v μ1 e1 s1 r1 x1 p1 => ⟨ρ1, x, μ1, s1, r1, x1, p1⟩
  refine thn (ha.run pins s σ H _ I q2) fun u s1 ⟨v, H1, I1, rv, ρ1, x, μ1, t1, r1, x1, p1⟩ => ?_
  split at p1
  · rename_i c j hm
    obtain ⟨a, dx, gs, f, rfl, g1, g2, hc, hmm, F⟩ := meth_at C r1 hm x1
    obtain rfl : u = Value.ref a := rv
    refine getmeth_ok I1 g1 hc hmm g2 ?_
    rcases hst with ⟨rfl, hn⟩ | ⟨e, rest, rfl, he, hp⟩
    · rw [hn] at p1
      exact PySem.W.callWith_K0 (first := [.ref a]) I1.kIn hmm.kp (run_T (us := [.ref a]) (vs := [.ref a]) F hr tk I1 (.cons rfl .nil) ⟨ρ1, μ1, [x], r1, .cons x1 .nil, p1.conv fun c d H z => z⟩)
    · have q3 : tA κ W ms σ H1 fun vs H2 => spR κ (Ω.Φ j) (.ref a :: vs) H2 Q (WE W σ) := gox t1 r1 p1 fun ρ2 H2 ds vs μ2 e2 s2 r2 x2 p2 => ⟨ρ2, μ2, x :: ds, r2, .cons (x1.ext e2) x2, p2.conv fun c d H z => z⟩
      refine PySem.W.callWith_K (first := [.ref a]) (h₀ := X.base) I.ok.mod.kin hmm.kp ?_ he hp
      refine thn (hs.run pos pins s1 σ H1 _ I1 q3) ?_
      intro us s2 ⟨vs, H2, I2, rv2, qv⟩
      exact ⟨I2.kIn, run_T (us := .ref a :: us) (vs := .ref a :: vs) F hr tk I2 (.cons rfl rv2) qv⟩
  · exact p1.elim
/-- a new instance: level k stands a step below -/
theorem run_mk {pins : List (Addr × Obj)} {σ : L2.St} {H : Hp} {s : Shared} {C f : Addr} {g : List D → Mu → Res D} {Q : VK} {us : List Value} {vs : List V} (M : Mk X.K C f) (F : FnT κ X k f g) (hr : Room (k + 1) X.A) (tk : Takes X W) (I : Inv X pins σ H s) (r : Vals vs us)
    (h : ∀ x dx, H x = none → H dx = none → dx ≠ x → spR κ g (.ref x :: vs) (upd (upd H dx (.own x)) x (.ins C dx [])) (fun v H2 => v = .non ∧ Q (.ref x) H2) (WE W σ)) :
    wpAny (model X.prog X.w) X.A (call (.ref C) us) (EP X pins σ Q) X.xe s := by
  have lt : s.heap.objs.size < s.heap.objs.size + 1 := Nat.lt_succ_self _
  have hq := h (s.heap.objs.size + 1) s.heap.objs.size (I.hok.fresh (Nat.le_of_lt lt)) (I.hok.fresh (Nat.le_refl _)) (Nat.ne_of_lt lt)
  have rr : Vals (V.ref (s.heap.objs.size + 1) :: vs) (Value.ref (s.heap.objs.size + 1) :: us) := .cons rfl r
  have J := Inv.made (C := C) I
  have z := F _ X.stack _ _ (Value.ref (s.heap.objs.size + 1) :: us) _ _ (WE W σ) (hr.make C us []) (J.env0.make C us []) rr hq
  refine wpAny_call (make_map (f := f) I.kIn M.makes M.init (beq_iff_eq.mp M.fn) (codeAny_mono z fun res s' hz => ?_))
  match res, hz with
  | .error e, hz => exact passAt tk σ pins _ _ e s' J hz
  | .ok (.ret u), hz =>
    obtain ⟨v, H', I3, rv, ev, q3⟩ := J.after hz
    subst ev
    exact ⟨rv, V.ref (s.heap.objs.size + 1), H', I3, rfl, q3⟩
  | .ok .next, hz => exact hz.elim
  | .ok .brk, hz => exact hz.elim
  | .ok .cont, hz => exact hz.elim
def RunMk (κ : Kx) (X : Cx) (W : WX) (C : Addr) (g : List D → Mu → Res D) : Prop := ∀ {pins : List (Addr × Obj)} {σ : L2.St} {H : Hp} {s : Shared} {Q : VK} {us : List Value} {vs : List V}, Inv X pins σ H s → Vals vs us →
  (∀ x dx, H x = none → H dx = none → dx ≠ x → spR κ g (.ref x :: vs) (upd (upd H dx (.own x)) x (.ins C dx [])) (fun v H2 => v = .non ∧ Q (.ref x) H2) (WE W σ)) →
  wpAny (model X.prog X.w) X.A (call (.ref C) us) (EP X pins σ Q) X.xe s
theorem runMk_stuck {C : Addr} {g : List D → Mu → Res D} (hg : ∀ ds μ, g ds μ = .stuck) : RunMk κ X W C g := fun {pins σ H s Q us vs} I r h => by
  have lt : s.heap.objs.size < s.heap.objs.size + 1 := Nat.lt_succ_self _
  obtain ⟨ρ, μ, ds, _, _, z⟩ := h (s.heap.objs.size + 1) s.heap.objs.size (I.hok.fresh (Nat.le_of_lt lt)) (I.hok.fresh (Nat.le_refl _)) (Nat.ne_of_lt lt)
  rw [hg] at z
  exact z.elim
theorem je_mk {c : Nat} {g : List D → Mu → Res D} {f : Addr} {x : Str} (M : Mk X.K (κ.cl c) f) (run : RunMk κ X W (κ.cl c) g) (hg : Gl X x) (hm : X.mg x = some (.ref (κ.cl c))) (hs : JA κ X W es ms) (hst : ArgsOk X pos es ms)
    (hdb : (x == ("__debug__" : Str)) = false) : JE κ X W (.Call (.Name x p) es [] pos) (fun δ μ => (ms δ μ).bind fun ds μ1 => (g (.loc μ1.length :: ds) (μ1 ++ [.ins c []])).bind fun r μ2 => (match r with
      | .non => .ok (.loc μ1.length) μ2
      | _ => .stuck)) := by
  refine ⟨fun pins s σ H Q I ⟨ρ, δ, μ, s0, r, q⟩ => wpAny_Call_Name_kw (ld_glob I hg hm ?_ hdb)⟩
  have mk : ∀ ρ1 H1 ds vs μ1, Rel κ ρ1 H1 μ1 → Reps κ ρ1 H1 ds vs → Post κ (Rep κ) W σ ρ1 H1 ((g (.loc μ1.length :: ds) (μ1 ++ [.ins c []])).bind fun r μ2 => (match r with
      | .non => .ok (.loc μ1.length) μ2
      | _ => .stuck)) Q → ∀ x dx, H1 x = none → H1 dx = none → dx ≠ x → spR κ (g) (.ref x :: vs) (upd (upd H1 dx (.own x)) x (.ins (κ.cl c) dx [])) (fun v H2 => v = .non ∧ Q (.ref x) H2) (WE W σ) := fun ρ1 H1 ds vs μ1 r1 x1 p1 y dx hy hdx hne => by
    have r2 := r1.newt (o := .own y) hdx
    have e2 : Ext ρ1 H1 ρ1 (upd H1 dx (.own y)) := .newt hdx
    have hy2 : upd H1 dx (.own y) y = none := by rw [upd_ne hne.symm]; exact hy
    have r3 : Rel κ (ρ1 ++ [y]) (upd (upd H1 dx (.own y)) y (.ins (κ.cl c) dx [])) (μ1 ++ [.ins c []]) := r2.alloc hy2 ⟨dx, [], upd_same, rfl⟩
    have e3 : Ext ρ1 (upd H1 dx (.own y)) (ρ1 ++ [y]) (upd (upd H1 dx (.own y)) y (.ins (κ.cl c) dx [])) := .new hy2
    have hn : (ρ1 ++ [y])[μ1.length]? = some y := by rw [← r1.len]; simp
    refine ⟨ρ1 ++ [y], _, _, r3, .cons (rep_loc.mpr ⟨y, hn, rfl⟩) (x1.ext (e2.trans e3)), ?_⟩
    have p2 := Post.bind (Ra := Rep κ) (β := V) (Post.ext (e2.trans e3) p1)
    refine (p2.mono fun v H2 ⟨ρ2, d, μ2, e4, r4, x4, p4⟩ => ?_).conv fun c d H z => z
    cases d with
    | non => exact ⟨rep_non.mp x4, p4.ok r4 (rep_loc.mpr ⟨y, e4.pre _ _ hn, rfl⟩)⟩
    | _ => exact p4.elim
  rcases hst with ⟨rfl, hn⟩ | ⟨e, rest, rfl, he, hp⟩
  · dsimp only at q
    rw [hn] at q
    exact PySem.W.callWith_K0 I.kIn M.kp (run (us := []) I .nil (mk ρ H [] [] μ r .nil q))
  · have q3 : tA κ W ms σ H fun vs H2 => ∀ x dx, H2 x = none → H2 dx = none → dx ≠ x → spR κ (g) (.ref x :: vs) (upd (upd H2 dx (.own x)) x (.ins (κ.cl c) dx [])) (fun v H2 => v = .non ∧ Q (.ref x) H2) (WE W σ) :=
      gox s0 r q fun ρ2 H2 ds vs μ2 e2 s2 r2 x2 p2 => mk ρ2 H2 ds vs μ2 r2 x2 p2
    refine PySem.W.callWith_K (h₀ := X.base) I.ok.mod.kin M.kp ?_ he hp
    refine thn (hs.run pos pins s σ H _ I q3) ?_
    intro us s2 ⟨vs, H2, I2, rv2, qv⟩
    exact ⟨I2.kIn, run I2 rv2 qv⟩
/-- e.f = value -/
theorem js_setfld (C : ClsOk κ X k Ω) {f : Str} {pos' : Pos} (ha : JE κ X W o ma) (hb : JE κ X W a mb) (hsw : swapsWith a (some (.Attribute o f pos')) pos.line X.env = pure false) :
    JS κ X W (.Assign [.Attribute o f pos'] a pos) (fun δ μ => RS.of δ ((mb δ μ).bind fun d μ1 => (ma δ μ1).bind fun x μ2 => setfD Ω.C f x d μ2) fun _ μ1 => .nx δ μ1) :=
  ps_imp (L2.ps_fld ha hb hsw) fun D σ H ⟨ρ, δ, μ, s, r, q⟩ => by
    have q' : PostS κ W ρ H (RS.of δ (mb δ μ) fun d μ1 => RS.of δ (ma δ μ1) fun x μ2 => RS.of δ (setfD Ω.C f x d μ2) fun _ μ3 => .nx δ μ3) D := by
      dsimp only at q
      cases hm : mb δ μ with
      | ok d μ1 =>
        rw [hm] at q
        dsimp only [Res.bind, RS.of] at q ⊢
        cases hm2 : ma δ μ1 with
        | ok x μ2 => rw [hm2] at q; exact q
        | exc _ _ _ => rw [hm2] at q; exact q
        | stuck => rw [hm2] at q; exact q
      | exc _ _ _ => rw [hm] at q; exact q
      | stuck => rw [hm] at q; exact q
    refine gos s r q' fun ρ1 H1 d v μ1 e1 s1 r1 x1 p1 => gos s1 r1 p1 fun ρ2 H2 x u μ2 e2 s2 r2 x2 p2 => ?_
    unfold setfD at p2
    split at p2
    · rename_i n
      split at p2
      · rename_i c fs hl
        split at p2
        · rename_i kd hc
          split at p2
          · rename_i hf
            obtain ⟨y, g0, rfl⟩ := rep_loc.mp x2
            obtain ⟨ob, h1, h2⟩ := r2.at g0
            rw [hl] at h1
            cases h1
            obtain ⟨dx, gs, g1, g2⟩ := h2
            refine ⟨y, _, dx, gs, rfl, g1, C.cls c kd hc, C.noat c kd f hc hf.1, by rw [← lenF g2]; exact hf.2, ?_⟩
            have nt : ∀ ys, ¬ Rd H2 y (.tup ys) := fun ys z => by
              rcases z with z | ⟨_, z⟩ <;> (rw [g1] at z; cases z)
            have ex : Ext ρ2 H2 ρ2 (upd H2 y (.ins (κ.cl c) dx (putF f v gs))) := .write nt
            have r3 := r2.write (mo := .ins c (putFD f d fs)) g0 nt ⟨dx, putF f v gs, upd_same, (putF_rep (x1.ext e2) g2).ext ex⟩
            exact p2 ρ2 _ σ ex r3 (s2.ext ex)
          · exact p2.elim
        · exact p2.elim
      · exact p2.elim
    · exact p2.elim
end
end Tk

namespace Tk
open PySem PySem.Spec PyProof.Rows L2
/-! ### enumerate over a tuple -/
theorem meets_enum_tup (l : Addr) (items : Array Value) :
    Meets (Builtin.«enumerate.__new__» ⟨[.type "enumerate", .ref l], []⟩) (fun _ R s => s.heap.IsTuple l items ∧
      R (.ok (.ret (.ref (s.heap.push { cls := .type "tuple_iterator", data := .fields #[.ref l, .int 0 0] }).objs.size)))
        { s with heap := (s.heap.push { cls := .type "tuple_iterator", data := .fields #[.ref l, .int 0 0] }).push { cls := .type "enumerate", data := .fields #[.none, .bool false, .ref s.heap.objs.size, rawInt 0, .none, .none] } }) :=
  .of_wp fun prog w A R s h => by
    obtain ⟨hp, g, d, tk, os⟩ := s
    obtain ⟨hT, h⟩ := h
    have hsub := sub_enumerate
    have q1 : ∀ {A' : Around} {E : Value → Shared → Prop} {Q : Value → Shared → Prop}, Q (.ref hp.objs.size) ⟨hp.push { cls := .type "tuple_iterator", data := .fields #[.ref l, .int 0 0] }, g, d, tk, os⟩ → wpAny (model prog w) A' (pyIter (.ref l)) Q E ⟨hp, g, d, tk, os⟩ :=
      fun q => wpAny_pyIter_tuple hT q
    wp_walk using q1
    refine wpAny_stack_any fun st => wpAny_pure ?_
    split
    · rename_i c _ _ _ _ _
      cases (c == Value.type "enumerate")
      · wp_walk using q1
        exact ⟨_, rfl, h⟩
      · wp_walk using q1
        exact ⟨_, rfl, h⟩
    · wp_walk using q1
      exact ⟨_, rfl, h⟩
theorem call_enum_tup {prog : Program} {w : World} {A : Around} {E : Value → Shared → Prop} {s : Shared} {l : Addr} {items : Array Value} {Q : Value → Shared → Prop} (hL : s.heap.IsTuple l items)
    (h : ∀ h', IsEnum h' (s.heap.objs.size + 1) s.heap.objs.size 0 .none → h'.IsTupleIter s.heap.objs.size l 0 → h'.objs.size = s.heap.objs.size + 2 →
      (∀ b o, s.heap.get? b = some o → h'.get? b = some o) → Q (.ref (s.heap.objs.size + 1)) { s with heap := h' }) :
    wpAny (model prog w) A (call (.type "enumerate") [.ref l]) Q E s := by
  refine callType_new F.called_enumerate (by decide) (F.typeCall_enumerate_1 _) (F.newCall_enumerate_1 _) (fun obj => F.args_object_init_2 obj _) F.entry_enumerate_new
    (meets_enum_tup l items) ⟨hL, ?_⟩
  have hz : (s.heap.push { cls := .type "tuple_iterator", data := .fields #[.ref l, .int 0 0] }).objs.size = s.heap.objs.size + 1 := Heap.size_push ..
  show _ ∧ _
  rw [hz]
  have he : IsEnum ((s.heap.push { cls := .type "tuple_iterator", data := .fields #[.ref l, .int 0 0] }).push
      { cls := .type "enumerate", data := .fields #[.none, .bool false, .ref s.heap.objs.size, rawInt 0, .none, .none] }) (s.heap.objs.size + 1) s.heap.objs.size 0 .none := by
    have := Heap.get?_push_size (s.heap.push { cls := .type "tuple_iterator", data := .fields #[.ref l, .int 0 0] })
      (o := { cls := .type "enumerate", data := .fields #[.none, .bool false, .ref s.heap.objs.size, rawInt 0, .none, .none] }) rfl
    rw [hz] at this; exact this
  refine ⟨⟨_, he, rfl⟩, h _ he ⟨_, Heap.get?_push_of_some _ (Heap.get?_push_size _ rfl), rfl, rfl⟩ (by rw [Heap.size_push, hz]) fun b o x => Heap.get?_push_of_some _ (Heap.get?_push_of_some _ x)⟩
theorem next_enum_tup_end {prog : Program} {w : World} {A : Around} {E : Value → Shared → Prop} {s : Shared} {e it l : Addr} {i : Nat} {items : Array Value} {k : Int} {old : Value} {Q : Option Value → Shared → Prop} (hh : A.handled = none) (he : IsEnum s.heap e it k old)
    (hit : s.heap.IsTupleIter it l i) (hl : s.heap.IsTuple l items) (hx : items[i]? = none)
    (hQ : ∀ h', Heap.ExtBut it s.heap h' → Q none { s with heap := h' }) : wpAny (model prog w) A (pyNext (.ref e)) Q E s := by
  have hT : s.TypeIs (.ref e) "enumerate" := ⟨_, he, rfl⟩
  unfold pyNext
  refine wpAny_bind (wpAny_attempt (wpAny_callSpecial?_slot (name := Str.ofString "__next__") hT F.slot_enumerate_next
    (wpAny_call_entry F.slot_enumerate_next hT F.entry_enumerate_next ?_ (F.args_enumerate_next_1 _))))
  show wpAny _ _ (field (.ref e) 2 >>= _) _ _ _
  refine wpAny_bind (wpAny_field he rfl (x := .ref it) rfl ?_)
  refine wpAny_bind (wpAny_nextOf_tuple_end (show A.in1.handled = none from hh) hit hl hx fun h' x he' hx' => ?_)
  obtain ⟨o, ho, hc⟩ := hx'
  refine wpAny_bind (wpAny_isInstance (T := "StopIteration") (b := true) ⟨o, ho, hc⟩ isSubtype_stop ?_)
  exact wpAny_pure (hQ _ he')
def Itet (K : PySem.W.Frag) (a : Addr) : It :=
  ⟨fun i H => ∃ (xs : List V) (x : V), SqT K H a xs ∧ xs[i]? = some x, fun i H v H' => ∃ T x, v = .ref T ∧ H T = none ∧ H' = upd H T (.tup [.int (i : Nat), x]) ∧ ∀ xs, SqT K H a xs → xs[i]? = some x, fun i H => ∃ xs : List V, SqT K H a xs ∧ xs.length ≤ i⟩
theorem turn_enumT {P : Program} {w : World} {K : PySem.W.Frag} {elts : List Expr} {kk : Nat} {tpos : Pos} (a e it : Addr) :
    Turn P w K (.Tuple elts kk tpos) (Itet K a) [e, it] e (fun i h => (∃ old, IsEnum h e it ((i : Nat) : Int) old) ∧ h.IsTupleIter it a i ∧ e ≠ it ∧ e ≠ a ∧ it ≠ a) where
  mem := by simp
  obj := fun i h st b hb => by
    obtain ⟨⟨old, he⟩, ⟨o, ho, hc, hd⟩, _⟩ := st
    have e' : b = e ∨ b = it := by simpa using hb
    rcases e' with z | z
    · rw [z]; exact ⟨_, he, fun v q => nomatch q⟩
    · rw [z]; exact ⟨o, ho, fun v q => by rw [hd] at q; cases q⟩
  keep := fun i h h' st k => let ⟨⟨old, he⟩, hi, hne⟩ := st; ⟨⟨old, k e (by simp) _ he⟩, hi.at fun o q => k it (by simp) o q, hne⟩
  item := by
    intro X hP hw hK hc i pins s σ H E I hf st hg
    subst hP hw hK
    obtain ⟨⟨old, he⟩, hit, hne, hea, hia⟩ := st
    obtain ⟨xs, x, hq, hx⟩ := hg
    obtain ⟨its, rv, p, hz⟩ := I.tuple hq
    obtain ⟨u, hu, ru⟩ := rv.get hx
    have hel : e < s.heap.objs.size := Heap.lt_size he
    have hil : it < s.heap.objs.size := by obtain ⟨_, q, _⟩ := hit; exact Heap.lt_size q
    have hlt : i < its.length := (List.getElem?_eq_some_iff.mp hu).1
    have D : Draws X.prog X.w X.A.in1 it [it, a] its.toArray.size (fun i v => its.toArray[i]? = some v) (fun i h => h.IsTupleIter it a i ∧ h.IsTuple a its.toArray) := Draws.tuple (show X.A.in1.handled = none from I.ok.hd hc) it a (Ne.symm hia) its.toArray
    refine wpAny_pyNext_enum_itemD D he ⟨hit, p⟩ (by simpa using hlt) hne (by simp [hne, hea]) fun u2 h' tk hu2 ho hit' hT hsz hk => ?_
    obtain rfl : u2 = u := by
      have : its[i]? = some u2 := by simpa using hu2
      rw [hu] at this
      exact (Option.some.inj this).symm
    refine ⟨_, rfl, wpAny_letOwnedTupleGo_enum (s := { s with heap := h', toks := tk + 1 }) ho fun h'' he' sb => ?_⟩
    have hT2 : h''.get? s.heap.objs.size = some { cls := .type "tuple", data := .seq #[.int i tk, u2] } := (sb.2 _ (Nat.ne_of_gt hel)).trans hT
    have new : ObjOk X.prog X.w (upd H s.heap.objs.size (.tup [.int (i : Nat), x])) h'' s.heap.objs.size (.tup [.int (i : Nat), x]) :=
      ⟨by show 2 ≤ sizeLine; decide, [.int i tk, u2], .cons ⟨_, rfl⟩ (.cons ru .nil), ⟨_, hT2, rfl, _, rfl⟩⟩
    have I1 : Inv X pins σ (upd H s.heap.objs.size (.tup [.int (i : Nat), x])) { s with heap := h'', toks := tk + 1 } :=
      I.turnedNew (ch := [e, it]) (fun b ob hb q => (sb.2 b (fun z => hb (by simp [z]))).trans (hk b ob (fun z => hb (by simp [z])) (fun z => hb (by simp [z])) q)) hf (Nat.le_refl _) new
    refine ⟨.ref s.heap.objs.size, _, I1, rfl, ⟨_, x, rfl, I.hok.fresh (Nat.le_refl _), rfl, fun ys hy => by rw [I.tuple_inj hy hq]; exact hx⟩, ⟨⟨u2, ?_⟩, hit'.1.at fun o q => (sb.2 it (Ne.symm hne)).trans q, hne, hea, hia⟩, fun b hb => ?_⟩
    · have e1 : ((i + 1 : Nat) : Int) = (i : Int) + 1 := by omega
      rw [e1]; exact he'
    · have hb' : b < s.heap.objs.size := by
        have e' : b = e ∨ b = it := by simpa using hb
        rcases e' with z | z
        · rw [z]; exact hel
        · rw [z]; exact hil
      rw [upd_ne (Nat.ne_of_lt hb')]
      exact (hf b hb).1
  done := by
    intro X hP hw hK hc i pins s σ H E I hf st hg
    subst hP hw hK
    obtain ⟨⟨old, he⟩, hit, hne, hea, hia⟩ := st
    obtain ⟨xs, hq, hx⟩ := hg
    obtain ⟨its, rv, p, hz⟩ := I.tuple hq
    obtain ⟨f0, f1, f2, f3, f4, f5⟩ := hf it (by simp)
    have hl := rv.length
    exact next_enum_tup_end (I.ok.hd hc) he hit p (by simp; omega) fun h' eb => ⟨rfl, I.turned (t' := s.toks) (fun b o hb e => eb b o hb e) f0 f1 f3 f4 f5⟩
  self := fun A i s Q E st h => let ⟨⟨_, he⟩, _⟩ := st; wpAny_pyIter_enum he h
def iEnumT (K : PySem.W.Frag) (ta : TA) : TI := fun σ H R => ta σ H fun vs H1 => ∃ a xs, vs = [.ref a] ∧ SqT K H1 a xs ∧ R (Itet K a) H1
theorem pi_enumT {X : Cx} {e : Expr} {ta : TA} {p pos tpos : Pos} {elts : List Expr} {kk : Nat} (hg : Gl X "enumerate") (hm : X.mg "enumerate" = none) (ha : PA X [e] ta) (hs : starEach [e] X.env = [(false, eval e X.env)] := by rfl) :
    PI X (.Tuple elts kk tpos) (.Call (.Name "enumerate" p) [e] [] pos) (iEnumT X.K ta) := by
  refine ⟨fun pins s σ H R I h => ?_⟩
  refine Call_ (ld_blt I hg hm boot_enumerate (PyProof.Rows.callWith_type1 (thn (ha.run pos pins s σ H _ I h) fun us s1 ⟨vs, H1, I1, r1, q1⟩ => ?_) hs rfl))
  obtain ⟨a, xs, ex, hq, q⟩ := q1
  subst ex
  cases r1 with
  | cons r rr =>
    cases rr
    cases r
    obtain ⟨its, rv, p', hz⟩ := I1.tuple hq
    have hal : a < s1.heap.objs.size := by obtain ⟨o, ho, _⟩ := p'; exact Heap.lt_size ho
    refine call_enum_tup p' fun h' he hit hsz hk => wpAny_pyIter_enum he ?_
    have I2 : Inv X pins σ H1 { s1 with heap := h' } := I1.kept (t' := s1.toks) hk
    refine ⟨s1.heap.objs.size + 1, [s1.heap.objs.size + 1, s1.heap.objs.size], _, _, H1, rfl, I2, turn_enumT a (s1.heap.objs.size + 1) s1.heap.objs.size, ⟨⟨.none, he⟩, hit, Nat.succ_ne_self _, Nat.ne_of_gt (Nat.lt_succ_of_lt hal), Nat.ne_of_gt hal⟩, fun b hb => ?_, q⟩
    have e' : b = s1.heap.objs.size + 1 ∨ b = s1.heap.objs.size := by simpa using hb
    have hle : s1.heap.objs.size ≤ b := by
      rcases e' with z | z
      · rw [z]; exact Nat.le_add_right _ _
      · rw [z]; exact Nat.le_refl _
    exact I1.fpOk hle (I1.hok.fresh hle)
theorem src_ent {κ : Kx} {ρ H a xs ds} (h1 : SqT κ.K H a xs) (h2 : Reps κ ρ H ds xs) : SrcOk κ ρ H (.ent ds) (Itet κ.K a) := by
  intro i ρ' H' μ e r
  show match some (ds[i]?.map fun d => D.tup [.int i, d]) with
    | some (some d) => _
    | some none => _
    | none => True
  cases hd : ds[i]? with
  | none => exact ⟨xs, e.sqt h1, by rw [← h2.len]; exact List.getElem?_eq_none_iff.mp hd⟩
  | some d =>
    obtain ⟨v, h3, h4⟩ := h2.at_ i d hd
    refine ⟨⟨xs, v, e.sqt h1, h3⟩, fun x H2 ⟨T, y, e1, hT, e2, z⟩ => ?_⟩
    subst e1 e2
    have := z xs (e.sqt h1)
    rw [h3] at this
    cases this
    exact ⟨.newt hT, r.newt hT, rep_tup.mpr ⟨T, _, rfl, .inl (.inl upd_same), .cons (rep_int.mpr rfl) (.cons ((h4.ext e).ext (.newt hT)) .nil)⟩⟩
theorem src_enl {κ : Kx} {ρ H a n} (h1 : ρ[n]? = some a) : SrcOk κ ρ H (.enl n) (Ite κ.K a) := by
  intro i ρ' H' μ e r
  show match (lstAt μ n).map (fun xs => xs[i]?.map fun d => D.tup [.int i, d]) with
    | some (some d) => _
    | some none => _
    | none => True
  cases hl : lstAt μ n with
  | none => trivial
  | some xs =>
    obtain ⟨vs, h2, h3⟩ := r.sql hl (e.pre _ _ h1)
    show match some (xs[i]?.map fun d => D.tup [.int i, d]) with
      | some (some d) => _
      | some none => _
      | none => True
    cases hd : xs[i]? with
    | none => exact ⟨vs, h2, by rw [← h3.len]; exact List.getElem?_eq_none_iff.mp hd⟩
    | some d =>
      obtain ⟨v, h4, h5⟩ := h3.at_ i d hd
      refine ⟨⟨vs, v, h2, h4⟩, fun x H2 ⟨T, y, e1, hT, e2, z⟩ => ?_⟩
      subst e1 e2
      have := z vs h2
      rw [h4] at this
      cases this
      exact ⟨.newt hT, r.newt hT, rep_tup.mpr ⟨T, _, rfl, .inl (.inl upd_same), .cons (rep_int.mpr rfl) (.cons (h5.ext (.newt hT)) .nil)⟩⟩
section
variable {κ : Kx} {X : Cx} {W : WX} {a : Expr} {pos p tpos : Pos} {elts : List Expr} {kk : Nat} {ma : Dl → Mu → Res D}
theorem ji_enum {x : Str} (hK : X.K = κ.K) (hx : x = "enumerate") (hg : Gl X "enumerate") (hm : X.mg "enumerate" = none) (ha : JE κ X W a ma) (hs : starEach [a] X.env = [(false, eval a X.env)]) : JI κ X W (.Tuple elts kk tpos) (.Call (.Name x p) [a] [] pos) (fun δ μ => (ma δ μ).bind fun d μ1 => match d with
    | .tup ds => .ok (.ent ds) μ1
    | .loc n => (match lstAt μ1 n with
      | some _ => .ok (.enl n) μ1
      | none => .stuck)
    | _ => .stuck) := by
  subst hx
  have hA : JA κ X W [a] (fun δ μ => (ma δ μ).bind fun d μ1 => (Res.ok [] μ1).bind fun ds μ2 => .ok (d :: ds) μ2) := ja_cons ha ja_nil (by rw [hs]; rfl)
  refine pi_imp (pi_or (pi_enum hg hm hA hs) (pi_enumT hg hm hA hs)) fun σ H R ⟨ρ, δ, μ, s, r, q⟩ => ?_
  cases hm : ma δ μ with
  | ok d μ1 =>
    dsimp only at q
    rw [hm] at q
    dsimp only [Res.bind] at q
    cases d with
    | tup ds =>
      refine .inr ⟨ρ, δ, μ, s, r, ?_⟩
      dsimp only
      rw [hm]
      intro ρ1 H1 vs e1 r1 x1
      obtain ⟨v, rfl, h1⟩ := reps1 x1
      obtain ⟨a', xs, rfl, h2, h3⟩ := rep_tup.mp h1
      refine ⟨a', xs, rfl, hK ▸ h2, ?_⟩
      rw [hK]
      exact q ρ1 H1 _ e1 r1 (src_ent h2 h3)
    | loc n =>
      refine .inl ⟨ρ, δ, μ, s, r, ?_⟩
      dsimp only
      rw [hm]
      intro ρ1 H1 vs e1 r1 x1
      obtain ⟨v, rfl, h1⟩ := reps1 x1
      obtain ⟨a', h0, rfl⟩ := rep_loc.mp h1
      dsimp only at q
      split at q
      · rename_i xs hl
        obtain ⟨vs, h2, h3⟩ := r1.sql hl h0
        refine ⟨a', vs, rfl, hK ▸ h2, ?_⟩
        rw [hK]
        exact q ρ1 H1 _ e1 r1 (src_enl h0)
      · exact q.elim
    | _ => exact q.elim
  | exc c fs μ1 =>
    dsimp only at q
    rw [hm] at q
    refine .inl ⟨ρ, δ, μ, s, r, ?_⟩
    dsimp only
    rw [hm]
    exact q
  | stuck =>
    dsimp only at q
    rw [hm] at q
    exact q.elim
end
end Tk

/-! own exceptions whose __init__ says super().__init__(place) and stores texts and the place -/
namespace TkExc
open PySem PySem.Spec PyProof.Rows L2
open _root_.PySem.W (ks_superObj ks_superIn kxs_mw KxsFacts)

/-! ### what the written part says of a def with super() -/
structure SupF (P : Program) (K : PySem.W.Frag) (f : Addr) (cda cc D : Addr) (fd : FuncData) (x0 : Str) : Prop where
  fn : ∃ oc od osl, K.lookup f = some ⟨oc, od, .func fd, osl⟩
  head : ∃ ar, (fd.params.posonlyargs ++ fd.params.args).head? = some ar ∧ ar.arg = x0
  code : ∃ ccl cdd vs ccs file tf, K.lookup cda = some ⟨ccl, cdd, .fields vs, ccs⟩ ∧ vs[2]? = some (.str file tf) ∧ ((P.main.file : Str) == file) = true
  cell : ∃ cl cld csl, K.lookup cc = some ⟨cl, cld, .cell (some (.ref D)), csl⟩
  top : (P.main.scope.names.lookup ("super" : Str)).isSome = false
  opq : PySem.W.nsIn K cStatics "thirdparty.any" = some none
  cls : ∃ cdD, PySem.W.clsIn K D = some cdD
theorem boot_super : bootBuiltins "super" = some (.type "super") := PyProof.Rows.Boot.«super»
section
variable {X : Cx} {pins : List (Addr × Obj)} {σ : L2.St} {H : Hp} {s : Shared} {E : Value → Shared → Prop}
theorem clsIn_oex {K : PySem.W.Frag} {C : Addr} (T : OexC K C) : ∃ cd, PySem.W.clsIn K C = some cd := by
  obtain ⟨nm, q, N, bs, bm, sn, sub, ab, col, dd, k0, k1, k2, k3, k5, hC, hbm⟩ := T.cls
  exact ⟨_, by unfold PySem.W.clsIn; rw [hC] <;> rfl⟩
theorem ld_local {x : Str} {v : V} {i : Nat} {Q : Value → Shared → Prop} (I : Inv X pins σ H s) (hi : X.N[i]? = some x) (hs : σ[i]? = some (some v)) (hl : X.env.kindOf x = some .local) (h : ∀ u, RelV v u → Q u s) : wpAny (model X.prog X.w) X.A (loadName X.env x) Q E s := by
  obtain ⟨m, hn, hlk⟩ := id I.loc
  obtain ⟨u, ru, lk⟩ := hlk i x v hi hs (.inl hl)
  rcases lk with ⟨_, hm⟩ | ⟨hk, _⟩
  · exact wpAny_loadName_local I.ok.kind hl hn hm (h u ru)
  · rcases hk with hk | hk <;> (rw [hl] at hk; cases hk)
/-- super(): the object -/
theorem super_obj {body : List Stmt} {p0 p1 : Pos} {attr x0 : Str} {whole : Sem Value} {f cda cc D C a : Addr} {fd : FuncData} {d : Option Addr} {Q : Value → Shared → Prop} (I : Inv X pins σ H s) (F : SupF X.prog X.K f cda cc D fd x0) (T : OexC X.K C) (e : H a = some (exo a C d))
    (hks : X.env.kindOf "super" = some .globalImplicit) (hkc : X.env.kindOf "__class__" = some .free) (hfu : X.env.func = some f) (hco : X.env.code = .ref cda) (hce : X.env.cells.lookup ("__class__" : Str) = some cc) (hm : X.mg ("super" : Str) = none)
    (hN : X.N[0]? = some x0) (hs0 : σ[0]? = some (some (.ref a))) (hl : X.env.kindOf x0 = some .local) (hat : (attr == ("__class__" : Str)) = false) (hsub : PySem.W.mroIn X.K C (.ref D) = some true)
    (h : ∀ so h', (∀ b o, s.heap.get? b = some o → h'.get? b = some o) → h'.get? so = some (ks_superObj D a C) → Q (.ref so) { s with heap := h' }) :
    _root_.PySem.wpAt (model X.prog X.w) X.A (.func body X.env) (attributeBase (.Call (.Name "super" p0) [] [] p1) attr X.env whole) Q E s := by
  obtain ⟨oc, od, osl, hf⟩ := F.fn
  obtain ⟨ar, har, rfl⟩ := F.head
  obtain ⟨ccl, cdd, vs, ccs, file, tf, hc1, hc2, hc3⟩ := F.code
  obtain ⟨cl, cld, csl, hcell⟩ := F.cell
  obtain ⟨cdD, hD⟩ := F.cls
  have KX := I.kIn
  obtain ⟨oD, hD1, hD2⟩ : ∃ oD, s.heap.get? D = some oD ∧ oD.data = .cls cdD := by
    unfold PySem.W.clsIn at hD
    split at hD
    · rename_i c d cd' sl ho
      cases hD
      exact ⟨_, KX _ _ ho, rfl⟩
    · cases hD
  obtain ⟨t1, ho⟩ := exo_at I.hok e
  refine ks_wpAt_super_base (env := X.env) hks hkc hat hfu (KX _ _ hf) rfl har hco (KX _ _ hc1) rfl hc2 hc3 F.top ?_
  obtain ⟨mb, b1, b2⟩ := I.mod.blt
  refine PySem.W.ks_loadName_global I.ok.kind hks (Calls.loadGlobal_builtin (by rw [I.ok.glob]; exact I.mod.glob.keeps I.bk) hm (by rw [I.ok.blt]; exact b1.keeps I.bk) ((b2 "super" (by decide)).trans boot_super) ⟨rfl, ?_⟩)
  refine wpAny_loadName_free I.ok.kind hkc hce ⟨_, KX _ _ hcell, rfl⟩ ?_
  refine ld_local I hN hs0 hl fun u ru => ?_
  obtain rfl : u = Value.ref a := ru
  refine ks_wpAny_isType_cls hD1 hD2 ⟨rfl, ?_⟩
  obtain ⟨hh, g, dr, t, os⟩ := s
  refine ks_wpAny_call_super hD1 hD2 ho rfl (fun c e => by cases e) (PySem.W.looks_mroIn KX hsub) (fun h' e k => ?_)
  exact h _ _ k e
theorem ks_neC {h : Heap} {K : PySem.W.Frag} {a C t1 : Addr} {d : Option Addr} {cd : ClassData} (KX : K.In h) (hc : PySem.W.clsIn K C = some cd) (ho : h.get? a = some ({ cls := .ref C, dict := d, data := .fields #[.ref t1, .none, .none, .none, .bool false, .none] } : Obj)) : a ≠ C := by
  rintro rfl
  unfold PySem.W.clsIn at hc
  split at hc
  · rename_i c d cd' sl hh
    have e := KX _ _ hh
    rw [ho] at e
    cases e
  · cases hc
/-- the call of the bound ValueError.__init__ -/
theorem call_mw {u C a : Addr} {us : List Value} {Q : Value → Shared → Prop} (T : OexC X.K C) (I : Inv X pins σ H s) (e : H a = some (exo a C none)) (hu : s.heap.get? u = some (kxs_mw "ValueError.__init__" a)) (hl : us.length ≤ sizeLine) (h : ∀ s', Inv X pins σ H s' → Q .none s') :
    wpAny (model X.prog X.w) X.A (call (.ref u) us) Q E s := by
  obtain ⟨nm, q, N, bs, bm, sn, sub, ab, col, dd, k0, k1, k2, k3, k5, hC, hbm⟩ := T.cls
  obtain ⟨t1, ho⟩ := exo_at I.hok e
  have KX := I.kIn
  obtain ⟨hp, g, d, t, os⟩ := s
  have hu' : hp.get? u = some (kxs_mw "ValueError.__init__" a) := hu
  have FB := F.excBase_ValueError
  refine wpAny_call (codeAny_of_tree ?_)
  show wpAny _ X.A.in1 (callAny (.ref u) ⟨us, []⟩) _ _ _
  simp only [callAny]
  refine wpAny_bind (wpAny_load hu' ?_)
  simp only [kxs_mw, show (Value.type "method-wrapper" == Value.type "method" || Value.type "method-wrapper" == Value.type "builtin_function_or_method" || Value.type "method-wrapper" == Value.type "method-wrapper") = true by decide, if_true]
  refine PySem.W.KFB.if_so (by decide) ?_
  refine wpAny_bind (PySem.W.check_bound_init FB.toExcCallFacts (KX _ _ hC) ho rfl ?_)
  refine wpAny_bind (wpAny_pure (wpAny_pure ?_))
  refine ⟨plainId_quiet FB.init.plain _, codeAny_builtin FB.initEntry ?_⟩
  rw [Around.under_plainId FB.init.plain _]
  wp_walk
  have k : ∀ b o, b ≠ a → hp.get? b = some o → ((hp.push (PySem.W.kdv_tup us)).update a (Obj.mapFields (·.setIfInBounds 0 (.ref hp.objs.size)))).get? b = some o := fun b o hb ho' => by
    rw [Heap.get?_update_other _ _ (Ne.symm hb)]
    exact Heap.get?_push_of_some _ ho'
  have hx : ((hp.push (PySem.W.kdv_tup us)).update a (Obj.mapFields (·.setIfInBounds 0 (.ref hp.objs.size)))).get? a = some (PySem.HandSPX.excO C hp.objs.size) := by
    rw [Heap.get?_update_self _ (Heap.get?_push_of_some _ ho) rfl]
    rfl
  have J := I.write (t' := t) (x := a) (e := a) (o := exo a C none) (by rw [e]; exact True.intro) (.inl rfl) k ⟨_, hx⟩ (exo_ok hx)
  have eu : upd H a (exo a C none) = H := by
    funext b
    by_cases hb : b = a
    · rw [hb, upd_same, e]
    · rw [upd_ne hb]
  rw [eu] at J
  exact h _ J
/-- super().__init__(y) over ValueError: its method and its call -/
theorem sup_ve {so D C a : Addr} {y : Str} {v : V} {i : Nat} {py pos : Pos} {pl : Sem Bool} {Q : Value → Shared → Prop} (I : Inv X pins σ H s) (T : OexC X.K C) (e : H a = some (exo a C none)) (hso : s.heap.get? so = some (ks_superObj D a C))
    (opq : PySem.W.nsIn X.K cStatics "thirdparty.any" = some none) (hm : ks_superIn X.K C D "__init__" = some (some (.builtin "ValueError.__init__"))) (hB : PySem.W.subIn X.K (.ref C) (.type "ValueError") = some true)
    (hi : X.N[i]? = some y) (hs : σ[i]? = some (some v)) (hl : X.env.kindOf y = some .local) (hdb : (y == ("__debug__" : Str)) = false) (h : ∀ s', Inv X pins σ H s' → Q .none s') :
    wpAny (model X.prog X.w) X.A (getMethod (.ref so) "__init__" pl) (fun fx s₂ => wpAny (model X.prog X.w) X.A (callWith pos fx.1 fx.2 (backTo pos (starEach [.Name y py] X.env)) []) Q E s₂) E s := by
  have KX := I.kIn
  obtain ⟨t1, ho⟩ := exo_at I.hok e
  obtain ⟨cd, hc⟩ := clsIn_oex T
  have hIx : PySem.W.InstAt s.heap a ({ cls := .ref C, data := .fields #[.ref t1, .none, .none, .none, .bool false, .none] } : Obj) C none := ⟨ho, rfl, rfl, trivial⟩
  have hI : PySem.W.Looks (model X.prog X.w) s.heap (isInstance (.ref a) (.type "ValueError")) true := hIx.type.andThen (PySem.W.looks_subIn KX hB)
  have hne := ks_neC KX hc ho
  obtain ⟨hh, g, d, t, os⟩ := s
  unfold ks_superIn at hm
  rw [hc] at hm
  refine PySem.W.kxs_getMethod PySem.W.kxs_ValueError hso (PySem.W.looks_opaque KX opq) (l₀ := cd.mro) ?_ rfl KX hm hI hne (by decide) ?_
  · exact fun A Q E s k q => wpAny_bind ((PySem.W.looks_clsIn KX hc) A _ E s k (wpAny_pure q))
  · have I1 : Inv X pins σ H ⟨hh.push (kxs_mw "ValueError.__init__" a), g, d, t + 1, os⟩ := I.kept (t' := t + 1) fun b o z => Heap.get?_push_of_some _ z
    have hu : (hh.push (kxs_mw "ValueError.__init__" a)).get? hh.objs.size = some (kxs_mw "ValueError.__init__" a) := Heap.get?_push_at rfl rfl
    refine PySem.W.kxs_callWith (i := "ValueError.__init__") (x := a) (by rfl) ?_
    refine Calls.evalArgs_plain ?_
    refine Calls.spliced_cons (wpAny_Name (ld_local I1 hi hs hl fun w rw' => ?_) hdb)
    refine Calls.spliced_nil ⟨hu, ?_⟩
    exact call_mw T I1 e hu (by show 1 ≤ sizeLine; decide) h
theorem cx_no {P : Program} {w : World} {l : List Env} (H : Hp) (s : Shared) (e : Value) (s' : Shared) (h : L2.CX P w l H s (fun _ _ _ => False) e s') : False := by
  obtain ⟨_, _, _, _, _, _, _, _, _, _, _, _, x⟩ := h
  exact x
/-- super().__init__(y) over an own class -/
theorem sup_own {so D C a f2 : Addr} {y : Str} {v : V} {i k : Nat} {py pos : Pos} {pl : Sem Bool} {Q : Value → Shared → Prop} {sp : Sp} {QQ : Hp → Prop} (I : Inv X pins σ H s) (T : OexC X.K C) (e : H a = some (exo a C none)) (hso : s.heap.get? so = some (ks_superObj D a C))
    (opq : PySem.W.nsIn X.K cStatics "thirdparty.any" = some none) (hm : ks_superIn X.K C D "__init__" = some (some (.ref f2))) (ht : PySem.W.typeIn X.K (.ref f2) = some (.type "function")) (hf : PySem.W.fnIn X.K f2 = true)
    (F0 : FnR X.prog X.w X.K X.mg X.base (L2.CX X.prog X.w) k f2 sp) (hr : Room k X.A) (hsp : sp [.ref a, v] H (fun r H' => r = .non ∧ QQ H') (fun _ _ _ => False))
    (hi : X.N[i]? = some y) (hs : σ[i]? = some (some v)) (hl : X.env.kindOf y = some .local) (hdb : (y == ("__debug__" : Str)) = false) (h : ∀ s' H', Inv X pins σ H' s' → QQ H' → Q .none s') :
    wpAny (model X.prog X.w) X.A (getMethod (.ref so) "__init__" pl) (fun fx s₂ => wpAny (model X.prog X.w) X.A (callWith pos fx.1 fx.2 (backTo pos (starEach [.Name y py] X.env)) []) Q X.xe s₂) X.xe s := by
  have KX := I.kIn
  obtain ⟨t1, ho⟩ := exo_at I.hok e
  obtain ⟨cd, hc⟩ := clsIn_oex T
  have hne := ks_neC KX hc ho
  obtain ⟨of, hof, hofc⟩ : ∃ of, s.heap.get? f2 = some of ∧ of.cls = .type "function" := by
    have ht' : (X.K.lookup f2).map (·.cls) = some (.type "function") := ht
    cases z : X.K.lookup f2 with
    | none => rw [z] at ht'; cases ht'
    | some of => rw [z] at ht'; exact ⟨of, KX _ _ z, Option.some.inj ht'⟩
  obtain ⟨hh, g, d, t, os⟩ := s
  unfold ks_superIn at hm
  rw [hc] at hm
  refine ks_wpAny_getMethod_super hso (PySem.W.looks_opaque KX opq) (l₀ := cd.mro) ?_ rfl KX hm hof hofc hne (by decide) ?_
  · exact fun A Q E s k q => wpAny_bind ((PySem.W.looks_clsIn KX hc) A _ E s k (wpAny_pure q))
  · have hq : (hh.push ({ cls := .type "method", data := .fields #[.ref f2, .ref a] } : Obj)).get? hh.objs.size = some ({ cls := .type "method", data := .fields #[.ref f2, .ref a] } : Obj) := Heap.get?_push_at rfl rfl
    have I1 : Inv X pins σ H ⟨hh.push ({ cls := .type "method", data := .fields #[.ref f2, .ref a] } : Obj), g, d, t + 1, os⟩ := I.kept (t' := t + 1) fun b o z => Heap.get?_push_of_some _ z
    refine PySem.W.callWith_of (P := PySem.W.MethP X.K hh.objs.size f2 (.ref a)) (by rfl) (PySem.W.keeps_M hf) ?_
    refine Calls.evalArgs_plain ?_
    refine Calls.spliced_cons (wpAny_Name (ld_local I1 hi hs hl fun w rw' => ?_) hdb)
    refine Calls.spliced_nil ⟨⟨hq, I1.kIn⟩, ?_⟩
    have rv : Vals [V.ref a, v] [Value.ref a, w] := .cons rfl (.cons rw' .nil)
    refine wpAny_call (ks_codeAny_call_bound hq ?_)
    refine codeAny_mono (run_fnR F0 hr (fun pins σ H s e s' I c => (cx_no H s e s' c).elim) I1 rv hsp) fun r s' hq => ?_
    cases r with
    | error e => exact hq
    | ok fl =>
      cases fl with
      | ret u =>
        obtain ⟨r0, H', I', rr, e0, q⟩ := hq
        subst e0
        obtain rfl : u = Value.none := rr
        exact h s' H' I' q
      | next => exact hq
      | brk => exact hq
      | cont => exact hq
end

/-! ### the def -/
section
variable {CX : CXT} {P : Program} {w : World} {K : PySem.W.Frag} {mg : Str → Option Value} {base : Heap} {N ps fr : List Str} {F : NdefX.NF} {f : Addr} {k : Nat} {sp : Sp} {ws : List (Option V)}
/-- a def of the written part that captured written cells; its body's first statement may look at its own frame -/
theorem fnx_of {oc : Value} {od : Option Addr} {osl : Array (Option Value)} {dV kV doc pm ct : Value} {an : Option Addr} (S : NdefX.NScope N ps fr F.scope) (lk : K.lookup f = some ⟨oc, od, .func (PySem.W.fnX F.name F.qual F.params F.body F.scope F.cl dV kV doc pm an (.ref F.c) ct), osl⟩)
    (hcd : PySem.W.codeIn K (.ref F.c) F.qual = true) (C : ∀ (h : Heap) (H : Hp), K.In h → (∀ b o, K.lookup b = some o → H b = none) → NdefX.CellsAt F.cl fr ws h H) (len : ∀ vs H Q E, sp vs H Q E → vs.length = ps.length)
    (hbody : ∀ (A : Around) (outer : List Env) (s s1 : Shared) (H : Hp) (vs : List V) (Q : VK) (E : XK), Room k (A.deeper (NdefX.envF F f s.heap.objs.size)) → sp vs H Q E → Inv (NdefX.ncx CX P w K mg base N F f A outer s H E) [] (NdefX.startF N vs ws) H s1 →
      _root_.PySem.wpAt (model P w) (A.deeper (NdefX.envF F f s.heap.objs.size)) (.func F.body (NdefX.envF F f s.heap.objs.size)) (execs F.body (NdefX.envF F f s.heap.objs.size)) (SP (NdefX.ncx CX P w K mg base N F f A outer s H E) [] { nx := fun _ H' => Q .non H', rt := Q })
        (NdefX.ncx CX P w K mg base N F f A outer s H E).xe s1) :
    FnOk P w K mg base CX (k + 1) f (PySem.W.fnX F.name F.qual F.params F.body F.scope F.cl dV kV doc pm an (.ref F.c) ct) ps sp := by
  refine ⟨len, fun A outer s H args us vs Q E hr e0 hb r hsp => ?_⟩
  have hl := len _ _ _ _ hsp
  have KX : K.In s.heap := e0.mod.kin.keeps fun b o e => (e0.bs b o e).1
  have lim : s.heap.NoLimit := e0.mod.nolimit.keeps fun b o e => (e0.bs b o e).1
  have CA : NdefX.CellsAt F.cl fr ws s.heap H := C s.heap H KX fun b o e => (e0.bs b o (e0.mod.kin _ _ e)).2
  refine ks_codeAny_call_defAt (fd := PySem.W.fnX F.name F.qual F.params F.body F.scope F.cl dV kV doc pm an (.ref F.c) ct) (body := F.body) (binds := ps.zip us) hr.depth (KX _ _ lk) rfl lim (PySem.W.codeRec_of KX hcd) rfl hb S.nocell (fun ⟨n, _⟩ hy => S.par n (List.of_mem_zip hy).1) (fun h₁ hns kp => ?_) S.co S.gen S.kind
  have I : Inv (NdefX.ncx CX P w K mg base N F f A outer s H E) [] (NdefX.startF N vs ws) H { s with heap := h₁, toks := s.toks + (ps.zip us).length } := NdefX.inv_startN S hr.hd e0 hl r CA hns kp
  refine ks_wpAt_mono (hbody A outer s _ H vs Q E (hr.deeper _) hsp I) (fun fl s' hs => ?_) fun e s' hs => hs
  have fin : ∀ {σ' : L2.St} {H' : Hp} {v : V} {u : Value}, Inv (NdefX.ncx CX P w K mg base N F f A outer s H E) [] σ' H' s' → L2.RelV v u → Q v H' → CE outer P w H s Q u s' :=
    fun {σ' H' v u} J rv q => ⟨v, H', J.os, J.bare, J.base, J.hok, rv, q⟩
  cases fl with
  | ret u =>
    obtain ⟨v, σ', H', J, rv, q⟩ := hs
    exact fin J rv q
  | next =>
    obtain ⟨σ', H', J, q⟩ := hs
    exact fin (v := V.non) (u := Value.none) J rfl q
  | brk =>
    obtain ⟨_, _, _, q⟩ := hs
    exact False.elim q
  | cont =>
    obtain ⟨_, _, _, q⟩ := hs
    exact False.elim q
end

/-! ### what an own __init__ leaves -/
structure XCls (K : PySem.W.Frag) (C : Addr) : Prop where
  T : OexC K C
  np : PySem.W.findIn K (.ref C) "place" = some none
  nn : PySem.W.findIn K (.ref C) "name" = some none
  ve : PySem.W.subIn K (.ref C) (.type "ValueError") = some true
def spI (okC : Addr → Prop) (fields : V → List (Str × V)) : Sp := fun vs H Q _ => ∃ (a C : Addr) (v : V), vs = [.ref a, v] ∧ okC C ∧ H a = some (exo a C none) ∧
  ∀ (d : Addr) (H2 : Hp), H d = none → d ≠ a → H2 a = some (exo a C (some d)) → H2 d = some (exd d (fields v)) → (∀ b, b ≠ a → b ≠ d → H2 b = H b) → Q .non H2
theorem spI_len {okC fields} : ∀ vs H Q E, spI okC fields vs H Q E → vs.length = 2 := fun vs H Q E h => by
  obtain ⟨a, C, v, rfl, _⟩ := h
  rfl
/-- the first class: over ValueError -/
def okRoot (K : PySem.W.Frag) (D : Addr) (C : Addr) : Prop := XCls K C ∧ PySem.W.mroIn K C (.ref D) = some true ∧ ks_superIn K C D "__init__" = some (some (.builtin "ValueError.__init__"))
def okDer (K : PySem.W.Frag) (D0 D f0 : Addr) (C : Addr) : Prop := okRoot K D0 C ∧ PySem.W.mroIn K C (.ref D) = some true ∧ ks_superIn K C D "__init__" = some (some (.ref f0))
def flRoot (n0 : Str) (v : V) : List (Str × V) := [("name", .str n0), ("place", v)]
def flDer (n0 n : Str) (v : V) : List (Str × V) := ("name", .str n) :: flRoot n0 v
/-- super().__init__(y) -/
abbrev stSup (y : Str) (p0 p1 p2 py p4 p5 : Pos) : Stmt := .Expr (.Call (.Attribute (.Call (.Name "super" p0) [] [] p1) "__init__" p2) [.Name y py] [] p4) p5
abbrev stFld (x0 f : Str) (e : Expr) (q1 q2 q3 : Pos) : Stmt := .Assign [.Attribute (.Name x0 q1) f q2] e q3
/-- the scope of such a def -/
structure SupS (x0 y : Str) (sc : Scope) : Prop where
  ns : NdefX.NScope [x0, y, ("__class__" : Str)] [x0, y] [("__class__" : Str)] sc
  sup : sc.names.lookup ("super" : Str) = some .globalImplicit
  d0 : (x0 == ("__debug__" : Str)) = false
  d1 : (y == ("__debug__" : Str)) = false
  c0 : (x0 == ("__classdict__" : Str)) = false
  c1 : (y == ("__classdict__" : Str)) = false
section
variable {P : Program} {w : World} {K : PySem.W.Frag} {mg : Str → Option Value} {base : Heap} {f cda cc D : Addr} {name qual x0 y n0 n : Str} {params : Arguments} {body : List Stmt} {scope : Scope} {k : Nat}
theorem cells1 (hcell : ∃ cl cld csl, K.lookup cc = some ⟨cl, cld, .cell (some (.ref D)), csl⟩) : ∀ (h : Heap) (H : Hp), K.In h → (∀ b o, K.lookup b = some o → H b = none) → NdefX.CellsAt [(("__class__" : Str), cc)] [("__class__" : Str)] [some (.ref D)] h H := by
  intro h H KX hn
  obtain ⟨cl, cld, csl, e⟩ := hcell
  have one : ∀ y c, ([(("__class__" : Str), cc)] : List (Str × Addr)).lookup y = some c → y = ("__class__" : Str) ∧ c = cc := fun y c hy => by
    rw [List.lookup_cons] at hy
    split at hy
    · rename_i hb
      cases hy
      exact ⟨by simpa using hb, rfl⟩
    · cases hy
  refine ⟨rfl, fun y c hy => ?_, fun x y c h1 h2 => ?_, fun i y hi => ?_⟩
  · obtain ⟨_, rfl⟩ := one y c hy
    exact ⟨hn _ _ e, _, ⟨_, KX _ _ e, rfl⟩⟩
  · rw [(one x c h1).1, (one y c h2).1]
  · cases i with
    | zero =>
      cases hi
      refine ⟨cc, by simp [List.lookup], fun v hv => ?_⟩
      cases hv
      exact ⟨.ref D, rfl, _, KX _ _ e, rfl⟩
    | succ i => cases hi
theorem pe_self {X : Cx} {i : Nat} {x : Str} {p : Pos} (hi : X.N[i]? = some x) (hl : X.env.scope.names.lookup x = some .local) (hd : (x == ("__debug__" : Str)) = false) (hc : (x == ("__classdict__" : Str)) = false) : PE X (.Name x p) (tVar i) := pe_var hi (.inl hl) hd hc
theorem sup_eq {o : Expr} {m y : Str} {apos py pos : Pos} {env : Env} (h2 : (apos.endLine == pos.line) = true) :
    eval (.Call (.Attribute o m apos) [.Name y py] [] pos) env = (do
      let ov ← attributeBase o m env (eval o env)
      standAt apos.atName
      let (f, first) ← holding [ov] (getMethod ov m (do return (← importBound o env).getD true))
      callWith pos f first (backTo pos (starEach [.Name y py] env)) []) := by
  have hf : methodCallForm ([Expr.Name y py].length + ([] : List Keyword).length) (backTo pos (starEach [.Name y py] env)) (backToKw pos (keywordEach [] env)) = true := by rfl
  rw [arm_eval_Call]
  unfold methodCall
  rw [hf]
  unfold calleeOf methodCallPos
  rw [h2]
  rfl
theorem inter_no {env : Env} (h : env.scope.kind = .function) : interactive env = false := by
  unfold interactive
  rw [h]
  rfl
/-- the first class's __init__ -/
theorem root_ok {oc : Value} {od : Option Addr} {osl : Array (Option Value)} {dV kV doc pm ct : Value} {an : Option Addr} {p0 p1 p2 py p4 p5 q1 q2 q3 q4 r1 r2 r3 r4 : Pos} {j : Nat} (SS : SupS x0 y scope)
    (lk : K.lookup f = some ⟨oc, od, .func (PySem.W.fnX name qual params body scope [(("__class__" : Str), cc)] dV kV doc pm an (.ref cda) ct), osl⟩) (hcd : PySem.W.codeIn K (.ref cda) qual = true)
    (SF : SupF P K f cda cc D (PySem.W.fnX name qual params body scope [(("__class__" : Str), cc)] dV kV doc pm an (.ref cda) ct) x0) (hm : mg ("super" : Str) = none) (hline : (p2.endLine == p4.line) = true)
    (hb : body = [stSup y p0 p1 p2 py p4 p5, stFld x0 "place" (.Name y q3) q1 q2 q4, stFld x0 "name" (.Constant (.str n0) j r3) r1 r2 r4]) :
    FnOk P w K mg base (L2.CX P w) (k + 1) f (PySem.W.fnX name qual params body scope [(("__class__" : Str), cc)] dV kV doc pm an (.ref cda) ct) [x0, y] (spI (okRoot K D) (flRoot n0)) := by
  refine fnx_of (F := ⟨name, qual, params, body, scope, [(("__class__" : Str), cc)], cda⟩) (N := [x0, y, ("__class__" : Str)]) (fr := [("__class__" : Str)]) (ws := [some (.ref D)]) SS.ns lk hcd (cells1 SF.cell) spI_len fun A outer s s1 H vs Q E hr hsp I => ?_
  obtain ⟨a, C, v, rfl, ⟨XC, hsub, hsu⟩, e, hq⟩ := hsp
  have l0 : scope.names.lookup x0 = some .local := SS.ns.par x0 (by simp)
  have l1 : scope.names.lookup y = some .local := SS.ns.par y (by simp)
  have key : ∀ X : Cx, X.prog = P → X.w = w → X.K = K → X.mg = mg → X.N = [x0, y, ("__class__" : Str)] → X.env.scope = scope → X.env.func = some f → X.env.code = .ref cda → X.env.cells = [(("__class__" : Str), cc)] →
      Inv X [] [some (.ref a), some v, some (.ref D)] H s1 → _root_.PySem.wpAt (model X.prog X.w) X.A (.func body X.env) (execs body X.env) (SP X [] { nx := fun _ H' => Q .non H', rt := Q }) X.xe s1 := by
    clear I
    intro X hP hw hK hmg hN hsc hfu hco hce I
    subst hP hw hK hmg
    have k0 : X.env.kindOf x0 = some .local := by unfold Env.kindOf; rw [hsc]; exact l0
    have k1 : X.env.kindOf y = some .local := by unfold Env.kindOf; rw [hsc]; exact l1
    have n0' : X.N[0]? = some x0 := by rw [hN]; rfl
    have n1' : X.N[1]? = some y := by rw [hN]; rfl
    refine hb ▸ ?_
    refine ks_wpAt_execs_cons (ks_wpAt_Expr_any (ks_wpAt_MethodCall (pl := do return (← importBound (.Call (.Name "super" p0) [] [] p1) X.env).getD true) ?_ (sup_eq hline)) (inter_no (by rw [hsc]; exact SS.ns.kind)) rfl)
    refine super_obj I SF XC.T e (by unfold Env.kindOf; rw [hsc]; exact SS.sup) (by unfold Env.kindOf; rw [hsc]; exact SS.ns.frk _ (by simp)) hfu hco (by rw [hce]; simp [List.lookup]) hm n0' rfl k0 (by decide) hsub fun so h' kk hso => ?_
    have I1 : Inv X [] [some (.ref a), some v, some (.ref D)] H { s1 with heap := h' } := I.kept (t' := s1.toks) kk
    refine sup_ve I1 XC.T e hso SF.opq hsu XC.ve n1' rfl k1 SS.d1 fun s' J => ?_
    refine _root_.PySem.wpAt_of_wpAny ?_
    have e0 := pe_self (X := X) (p := q1) n0' (by rw [hsc]; exact l0) SS.d0 SS.c0
    have e1 := pe_self (X := X) (p := q3) n1' (by rw [hsc]; exact l1) SS.d1 SS.c1
    have e2 := pe_self (X := X) (p := r1) n0' (by rw [hsc]; exact l0) SS.d0 SS.c0
    refine (pss_cons (ps_ost (p' := q2) (pos := q4) (f := "place") e0 e1) (pss_cons (ps_ost (p' := r2) (pos := r4) (f := "name") e2 (pe_str (x := n0) (j := j) (pos := r3))) pss_nil)).run [] s' _ H _ J ?_
    refine ⟨v, rfl, .ref a, rfl, a, C, rfl, XC.T, XC.np, .inl ⟨e, fun d hd hda => ?_⟩⟩
    refine ⟨.ref a, rfl, a, C, rfl, XC.T, XC.nn, .inr ⟨d, [("place", v)], ?_, ?_, by show 1 ≤ 900; omega, ?_⟩⟩
    · exact upd_same
    · rw [upd_ne hda]
      exact upd_same
    · refine hq d _ hd hda ?_ ?_ fun b h1 h2 => ?_
      · rw [upd_ne (Ne.symm hda)]
        exact upd_same
      · exact upd_same
      · rw [upd_ne h2, upd_ne h1, upd_ne h2]
  exact key (NdefX.ncx (L2.CX P w) P w K mg base [x0, y, ("__class__" : Str)] ⟨name, qual, params, body, scope, [(("__class__" : Str), cc)], cda⟩ f A outer s H E) rfl rfl rfl rfl rfl rfl rfl rfl rfl I
/-- a further class's __init__ -/
theorem der_ok {oc : Value} {od : Option Addr} {osl : Array (Option Value)} {dV kV doc pm ct : Value} {an : Option Addr} {p0 p1 p2 py p4 p5 r1 r2 r3 r4 : Pos} {j : Nat} (SS : SupS x0 y scope)
    (lk : K.lookup f = some ⟨oc, od, .func (PySem.W.fnX name qual params body scope [(("__class__" : Str), cc)] dV kV doc pm an (.ref cda) ct), osl⟩) (hcd : PySem.W.codeIn K (.ref cda) qual = true)
    (SF : SupF P K f cda cc D (PySem.W.fnX name qual params body scope [(("__class__" : Str), cc)] dV kV doc pm an (.ref cda) ct) x0) (hm : mg ("super" : Str) = none) (hline : (p2.endLine == p4.line) = true)
    (hb : body = [stSup y p0 p1 p2 py p4 p5, stFld x0 "name" (.Constant (.str n) j r3) r1 r2 r4])
    {f0 D0 : Addr} (ht : PySem.W.typeIn K (.ref f0) = some (.type "function")) (hf : PySem.W.fnIn K f0 = true) (F0 : FnR P w K mg base (L2.CX P w) k f0 (spI (okRoot K D0) (flRoot n0))) :
    FnOk P w K mg base (L2.CX P w) (k + 1) f (PySem.W.fnX name qual params body scope [(("__class__" : Str), cc)] dV kV doc pm an (.ref cda) ct) [x0, y] (spI (okDer K D0 D f0) (flDer n0 n)) := by
  refine fnx_of (F := ⟨name, qual, params, body, scope, [(("__class__" : Str), cc)], cda⟩) (N := [x0, y, ("__class__" : Str)]) (fr := [("__class__" : Str)]) (ws := [some (.ref D)]) SS.ns lk hcd (cells1 SF.cell) spI_len fun A outer s s1 H vs Q E hr hsp I => ?_
  obtain ⟨a, C, v, rfl, ⟨OR, hsub, hsu⟩, e, hq⟩ := hsp
  have XC := OR.1
  have l0 : scope.names.lookup x0 = some .local := SS.ns.par x0 (by simp)
  have l1 : scope.names.lookup y = some .local := SS.ns.par y (by simp)
  have key : ∀ X : Cx, X.prog = P → X.w = w → X.K = K → X.mg = mg → X.base = base → X.N = [x0, y, ("__class__" : Str)] → X.env.scope = scope → X.env.func = some f → X.env.code = .ref cda → X.env.cells = [(("__class__" : Str), cc)] →
      Room k X.A → Inv X [] [some (.ref a), some v, some (.ref D)] H s1 → _root_.PySem.wpAt (model X.prog X.w) X.A (.func body X.env) (execs body X.env) (SP X [] { nx := fun _ H' => Q .non H', rt := Q }) X.xe s1 := by
    clear I hr
    intro X hP hw hK hmg hba hN hsc hfu hco hce hr I
    subst hP hw hK hmg hba
    have k0 : X.env.kindOf x0 = some .local := by unfold Env.kindOf; rw [hsc]; exact l0
    have k1 : X.env.kindOf y = some .local := by unfold Env.kindOf; rw [hsc]; exact l1
    have n0' : X.N[0]? = some x0 := by rw [hN]; rfl
    have n1' : X.N[1]? = some y := by rw [hN]; rfl
    refine hb ▸ ?_
    refine ks_wpAt_execs_cons (ks_wpAt_Expr_any (ks_wpAt_MethodCall (pl := do return (← importBound (.Call (.Name "super" p0) [] [] p1) X.env).getD true) ?_ (sup_eq hline)) (inter_no (by rw [hsc]; exact SS.ns.kind)) rfl)
    refine super_obj I SF XC.T e (by unfold Env.kindOf; rw [hsc]; exact SS.sup) (by unfold Env.kindOf; rw [hsc]; exact SS.ns.frk _ (by simp)) hfu hco (by rw [hce]; simp [List.lookup]) hm n0' rfl k0 (by decide) hsub fun so h' kk hso => ?_
    have I1 : Inv X [] [some (.ref a), some v, some (.ref D)] H { s1 with heap := h' } := I.kept (t' := s1.toks) kk
    refine sup_own (QQ := fun H2 => ∃ d, H d = none ∧ d ≠ a ∧ H2 a = some (exo a C (some d)) ∧ H2 d = some (exd d (flRoot n0 v)) ∧ ∀ b, b ≠ a → b ≠ d → H2 b = H b) I1 XC.T e hso SF.opq hsu ht hf F0 hr
      ⟨a, C, v, rfl, OR, e, fun d H2 h1 h2 h3 h4 h5 => ⟨rfl, d, h1, h2, h3, h4, h5⟩⟩ n1' rfl k1 SS.d1 fun s' H2 J ⟨d, h1, h2, h3, h4, h5⟩ => ?_
    refine _root_.PySem.wpAt_of_wpAny ?_
    have e2 := pe_self (X := X) (p := r1) n0' (by rw [hsc]; exact l0) SS.d0 SS.c0
    refine (pss_cons (ps_ost (p' := r2) (pos := r4) (f := "name") e2 (pe_str (x := n) (j := j) (pos := r3))) pss_nil).run [] s' _ H2 _ J ?_
    refine ⟨.ref a, rfl, a, C, rfl, XC.T, XC.nn, .inr ⟨d, flRoot n0 v, h3, h4, by show 2 ≤ 900; omega, ?_⟩⟩
    refine hq d _ h1 h2 ?_ upd_same fun b b1 b2 => ?_
    · rw [upd_ne (Ne.symm h2)]
      exact h3
    · rw [upd_ne b2]
      exact h5 b b1 b2
  exact key (NdefX.ncx (L2.CX P w) P w K mg base [x0, y, ("__class__" : Str)] ⟨name, qual, params, body, scope, [(("__class__" : Str), cc)], cda⟩ f A outer s H E) rfl rfl rfl rfl rfl rfl rfl rfl rfl rfl hr I
end
end TkExc

namespace Tk
open PySem PySem.Spec PyProof.Rows L2

/-! ### the translation of expressions -/
inductive GV where
  | fn (i : Nat) | con (d : D) | free | cls (c : Nat) | xcl (c : Nat)
  deriving Inhabited
structure Ctx where
  N : List Str
  sc : Scope
  G : List (Str × GV)
  fnB : Str → Bool
  C : List Cd
  low : Bool
  tab : Bool
def plainB : Expr → Bool
  | .Starred .. => false
  | _ => true
def callB : Expr → Bool
  | .Call .. => true
  | _ => false
def sliceB : Expr → Bool
  | .Slice .. => true
  | _ => false
def isLoc : Option NameKind → Bool
  | some .local => true
  | some .cell => true
  | some .free => true
  | _ => false
def Ctx.slot (c : Ctx) (x : Str) : Option Nat := if isLoc (c.sc.names.lookup x) = true ∧ (x == ("__debug__" : Str)) = false ∧ (x == ("__classdict__" : Str)) = false then c.N.idxOf? x else none
def Ctx.glob (c : Ctx) (x : Str) : Option GV := if c.sc.names.lookup x = some .globalImplicit ∧ (x == ("__debug__" : Str)) = false ∧ x ≠ "__name__" then c.G.lookup x else none
def bltOf (x : Str) : Option Blt :=
  if x = "len" then some .len else if x = "int" then some .int else if x = "max" then some .max else if x = "min" then some .min else if x = "sorted" then some .sorted
  else if x = "list" then some .list else if x = "tuple" then some .tuple else if x = "abs" then some .abs else if x = "isinstance" then some .isi else if x = "str" then some .str else none
def tyOf (x : Str) : Option String :=
  if x = "int" then some "int" else if x = "bool" then some "bool" else if x = "str" then some "str" else if x = "list" then some "list" else if x = "tuple" then some "tuple" else if x = "dict" then some "dict" else none
def trL (f : Expr → Option E) : List Expr → Option Es
  | [] => some .nil
  | e :: r => if plainB e = true then (f e).bind fun a => (trL f r).bind fun b => some (.cons a b) else none
def trB (f : Expr → Option E) (op : BoolOp) : List Expr → Option E
  | [] => none
  | [e] => f e
  | e :: r => (f e).bind fun a => (trB f op r).bind fun b => some (match op with
    | .And => .and a b
    | .Or => .or a b)
def trD (f : Expr → Option E) : List (Option Expr) → List Expr → Option Ep
  | [], [] => some .nil
  | some k :: ks, v :: vs => (f k).bind fun a => (f v).bind fun b => (trD f ks vs).bind fun r => some (.cons a b r)
  | _, _ => none
def trO (f : Expr → Option E) : Option Expr → Option Eo
  | none => some .none
  | some e => (f e).map .some
mutual
def trG (c : Ctx) : Nat → Expr → Option Tg
  | 0, _ => none
  | n + 1, e => match e with
    | .Name x _ => if c.sc.names.lookup x = some .local ∨ (c.sc.names.lookup x = some .cell ∧ c.fnB x = true) then (c.N.idxOf? x).map .name else none
    | .Tuple es _ _ => (trGs c n es).map .tup
    | _ => none
def trGs (c : Ctx) : Nat → List Expr → Option (List Tg)
  | 0, _ => none
  | _, [] => some []
  | n + 1, e :: r => if plainB e = true then (trG c n e).bind fun a => (trGs c n r).bind fun b => some (a :: b) else none
end
def relabelS (scope sc : Scope) : Scope :=
  { scope with names := scope.names.map fun (n, k) => if (k == .free && sc.kind == .function && sc.names.lookup n == some .cell) then (n, .cell) else (n, k) }
def ownOf (N : List Str) (scope : Scope) : List (Str × Nat) := scope.names.filterMap fun (n, k) => match k with
  | .local => (N.idxOf? n).map fun i => (n, i)
  | .cell => (N.idxOf? n).map fun i => (n, i)
  | _ => none
def Ctx.blk (c : Ctx) (scope : Scope) : Ctx := { c with sc := relabelS scope c.sc, fnB := fun x => scope.names.lookup x == some .cell, tab := false }
/-- in a generator expression -/
def Ctx.gen (c : Ctx) (scope : Scope) : Ctx := { c with sc := scope, fnB := fun _ => false, low := true, tab := false }
def listB : Expr → Bool
  | .List .. => true
  | _ => false
def subB (a b : List Nat) : Bool := a.all fun i => b.contains i
def setB : Expr → Bool
  | .Set .. => true
  | _ => false
def genB (scope : Scope) : Bool := !scope.isCoroutine && (scope.names.all fun y => decide (y.2 ≠ .cell)) && decide (scope.names.lookup (".0" : Str) = some .local)
def oneIf : List Expr → Option (Option Expr)
  | [] => some none
  | [e] => some (some e)
  | _ => none
def Ctx.freeB (c : Ctx) (x : Str) : Bool := match c.glob x with
  | some .free => true
  | _ => false
def tupB : Expr → Bool
  | .Tuple .. => true
  | _ => false
def trI (c : Ctx) (f : Expr → Option E) (tg e : Expr) : Option It' := if setB e = true then none else match e with
  | .Call (.Name x _) [a] [] _ => if x = "range" then (if c.freeB x = true ∧ plainB a = true then (f a).map .rng1 else none) else if x = "enumerate" then (if c.freeB x = true ∧ plainB a = true ∧ tupB tg = true then (f a).map .enm else none) else if x = "reversed" then (if c.freeB x = true ∧ plainB a = true then (f a).map .rev else none) else (f e).map .val
  | .Call (.Name x _) [a, b] [] _ => if x = "range" then (if c.freeB x = true ∧ plainB a = true ∧ plainB b = true then (f a).bind fun a' => (f b).map fun b' => .rng2 a' b' else none) else (f e).map .val
  | e => (f e).map .val
def Ctx.isM (c : Ctx) (m : Str) : Bool := c.C.any fun d => (d.ms.lookup m).isSome
def trName (c : Ctx) (f : Expr → Option E) (x : Str) (args : List Expr) : Option E := match c.glob x with
  | some (.fn i) => if c.low = true then (trL f args).map (.callL i) else (trL f args).map (.call i)
  | some (.cls k) => if c.low = true then none else (trL f args).map (.mk k)
  | some .free => (match args with
    | [] => none
    | _ :: _ => (bltOf x).bind fun b => (trL f args).map (.blt b))
  | _ => none
def mthOf (m : Str) : Option Mth := if m = "append" then some .append else if m = "extend" then some .extend else if m = "index" then some .index else if m = "pop" then some .pop else none
def trAttr (c : Ctx) (f : Expr → Option E) (o : Expr) (m : Str) (apos pos : Pos) (args : List Expr) : Option E :=
  if callB o = true ∨ (apos.endLine == pos.line) = false then none
  else if c.isM m = true then (if args.length < 30 ∧ c.low = false then (f o).bind fun o' => (trL f args).map fun es => .mc m o' es else none)
  else match args with
    | [e1] => (mthOf m).bind fun mt => (f o).bind fun o' => (trL f args).map fun es => .mth mt o' es
    | [_, _] => if m = "get" then (f o).bind fun o' => (trL f args).map fun es => .mth .get o' es else none
    | _ => none
def trE : Nat → Ctx → Expr → Option E
  | 0, _, _ => none
  | n + 1, c, e => match e with
    | .Constant k _ _ => (match k with
      | .none => some (.c .non)
      | .bool b => some (.c (.bl b))
      | .int i => some (.c (.int i))
      | .str x => some (.c (.str x))
      | _ => none)
    | .Name x _ => (match c.slot x with
      | some i => some (.v i)
      | none => (match c.glob x with
        | some (.con d) => some (.c d)
        | some .free => (tyOf x).map fun t => .c (.ty t)
        | _ => none))
    | .Tuple es _ _ => (trL (trE n c) es).map .tup
    | .List es _ => (trL (trE n c) es).map .lst
    | .BinOp a o b _ => (trE n c a).bind fun a' => (trE n c b).map fun b' => .bin o a' b'
    | .UnaryOp o a _ => (match o with
      | .USub => (trE n c a).map .neg
      | .Not => (trE n c a).map .not
      | _ => none)
    | .BoolOp op vs _ => trB (trE n c) op vs
    | .IfExp t a b _ => (trE n c t).bind fun t' => (trE n c a).bind fun a' => (trE n c b).map fun b' => .ite t' a' b'
    | .Compare a ops cs _ => (match ops, cs with
      | [o], [b] => if behindInMarks o b = true then none else (trE n c a).bind fun a' => (trE n c b).map fun b' => .cmp o a' b'
      | [o, p], [b, d] => if lastMarks [o, p] [b, d] = true then none else (trE n c a).bind fun a' => (trE n c b).bind fun b' => (trE n c d).map fun d' => .chn o p a' b' d'
      | _, _ => none)
    | .Subscript a i _ => (match i with
      | .Slice lo hi st _ => (match st with
        | none => (trE n c a).bind fun a' => (trO (trE n c) lo).bind fun l => (trO (trE n c) hi).map fun h => .sl a' l h
        | some _ => none)
      | i => if sliceB i = true then none else (trE n c a).bind fun a' => (trE n c i).map fun i' => .ix a' i')
    | .Attribute a f _ => if callB a = true ∨ c.low = true then none else (trE n c a).map fun a' => .fld a' f
    | .Call f args kws pos => (match kws with
      | [] => (match f with
        | .Name x _ => (match args with
          | [.GeneratorExp elt [⟨tg, it, ifs, ai⟩] scope _] => if x = "all" ∧ c.tab = true ∧ c.low = false ∧ c.freeB x = true ∧ ai = 0 ∧ ifs.isEmpty = true ∧ genB scope = true ∧ listB it = false ∧ blkC c.N c.sc scope (ownOf c.N scope) = true then
              (trI c (trE n c) tg it).bind fun it' => (trG (c.gen scope) n tg).bind fun t => if subB (tgN t) ((ownOf c.N scope).map (·.2)) = true then
                (trE n (c.gen scope) elt).map fun e' => .all ((ownOf c.N scope).map (·.2)) t it' e'
              else none
            else none
          | args => trName c (trE n c) x args)
        | .Attribute o m apos => trAttr c (trE n c) o m apos pos args
        | _ => none)
      | _ => none)
    | .ListComp elt gens scope _ => (match gens with
      | [⟨tg, it, ifs, ai⟩] => if ai = 0 ∧ blkC c.N c.sc scope (ownOf c.N scope) = true then
          (trI c (trE n c) tg it).bind fun it' => (trG (c.blk scope) n tg).bind fun t => if subB (tgN t) ((ownOf c.N scope).map (·.2)) = true then
            (oneIf ifs).bind fun o => (trO (trE n (c.blk scope)) o).bind fun fs => (trE n (c.blk scope) elt).map fun e' => .lc ((ownOf c.N scope).map (·.2)) t it' fs e'
          else none
        else none
      | [⟨tg, it, ifs, ai⟩, ⟨tg1, it1, ifs1, ai1⟩] => if ai = 0 ∧ ai1 = 0 ∧ ifs.isEmpty = true ∧ ifs1.isEmpty = true ∧ blkC c.N c.sc scope (ownOf c.N scope) = true then
          (trI c (trE n c) tg it).bind fun it' => (trG (c.blk scope) n tg).bind fun t => (trI (c.blk scope) (trE n (c.blk scope)) tg1 it1).bind fun it1' => (trG (c.blk scope) n tg1).bind fun t1 =>
            if subB (tgN t) ((ownOf c.N scope).map (·.2)) = true ∧ subB (tgN t1) ((ownOf c.N scope).map (·.2)) = true then
              (trE n (c.blk scope) elt).map fun e' => .lc2 ((ownOf c.N scope).map (·.2)) t it' (tgN t1) t1 it1' e'
            else none
        else none
      | _ => none)
    | .DictComp kx vx gens scope _ => (match gens with
      | [⟨tg, it, ifs, ai⟩] => if ai = 0 ∧ ifs.isEmpty = true ∧ blkC c.N c.sc scope (ownOf c.N scope) = true then
          (trI c (trE n c) tg it).bind fun it' => (trG (c.blk scope) n tg).bind fun t => if subB (tgN t) ((ownOf c.N scope).map (·.2)) = true then
            (trE n (c.blk scope) kx).bind fun k' => (trE n (c.blk scope) vx).map fun v' => .dc ((ownOf c.N scope).map (·.2)) t it' k' v'
          else none
        else none
      | _ => none)
    | .Dict ks vs _ => if ks.isEmpty = true ∧ vs.isEmpty = true then some (.dic .nil) else if ks.all (·.isSome) = true ∧ ks.length = vs.length ∧ ks.length ≤ 15 ∧ 0 < ks.length then (trD (trE n c) ks vs).map .dic else none
    | _ => none

/-! ### what the context holds -/
def FnAt (κ : Kx) (X : Cx) (k : Nat) (x : Str) (g : List D → Mu → Res D) : Prop :=
  ∃ f : Addr, X.mg x = some (.ref f) ∧ PySem.W.keepIn X.K (.ref f) = true ∧ FnT κ X k f g
/-- the fields that an own exception's __init__ leaves -/
def flX (X : List Str) (c : Nat) (v : V) : List (Str × V) := match c with
  | 0 => TkExc.flRoot (X.getD 0 Str.empty) v
  | c + 1 => TkExc.flDer (X.getD 0 Str.empty) (X.getD (c + 1) Str.empty) v
/-- an own exception can be made -/
def XMk (κ : Kx) (X : Cx) (k cc : Nat) (names : List Str) : Prop := ∃ (fI : Addr) (k' : Nat) (fd : FuncData) (ps : List Str), k = k' + 1 ∧ OexC X.K (κ.xl cc) ∧ PySem.W.findIn X.K (.ref (κ.xl cc)) "__init__" = some (some (.ref fI)) ∧
  PySem.W.typeIn X.K (.ref fI) = some (.type "function") ∧ FnOk X.prog X.w X.K X.mg X.base (L2.CX X.prog X.w) k' fI fd ps (TkExc.spI (fun C => C = κ.xl cc) (flX names cc)) ∧ Binds X.K fd ps []
/-- .. read, told from others -/
structure XRd (K : PySem.W.Frag) (xl : Nat → Addr) (n : Nat) : Prop where
  xf : ∀ c, c < n → XfC K (xl c) ∧ PySem.W.findIn K (.ref (xl c)) "place" = some none ∧ PySem.W.findIn K (.ref (xl c)) "name" = some none
  xm : ∀ a b, a < n → b < n → PySem.W.exmOne K (.ref (xl a)) (.ref (xl b)) = some (xsub a b)
structure XOk (c : Ctx) (κ : Kx) (Ω : Om) (k : Nat) (X : Cx) (W : WX) : Prop where
  N : X.N = c.N
  nd : c.N.Nodup
  sc : X.env.scope = c.sc
  kind : c.sc.kind = .function
  hK : X.K = κ.K
  calm : X.calm = true
  room : Room k X.A
  tk : Takes X W
  fnB : ∀ x, c.fnB x = true → X.fn x = true
  con : ∀ x d, c.G.lookup x = some (.con d) → ∃ u v, X.mg x = some u ∧ RelV v u ∧ ∀ ρ H, Rep κ ρ H d v
  free : ∀ x, c.G.lookup x = some .free → X.mg x = none
  fn : c.low = false → ∀ x i, c.G.lookup x = some (.fn i) → FnAt κ X k x (Ω.Φ i)
  fnL : c.low = true → ∀ x i, c.G.lookup x = some (.fn i) → FnAt κ X k x (Ω.Ψ i)
  low : c.low = false → Ω.lo = true → ∃ k', k = k' + 1 ∧ ∀ x i, c.G.lookup x = some (.fn i) → FnAt κ X k' x (Ω.Ψ i)
  tab : c.tab = true → ∃ cc P, X.env.code = .ref cc ∧ LamX.TabB X.base X.mg cc P ∧ P ∈ κ.tabs
  hC : c.C = Ω.C
  cls : c.low = false → ClsOk κ X k Ω
  make : c.low = false → ∀ x cc, c.G.lookup x = some (.cls cc) → X.mg x = some (.ref (κ.cl cc)) ∧ ∃ f, Mk X.K (κ.cl cc) f ∧ ∀ j, initI Ω.C cc = some j → (∃ k', k = k' + 1 ∧ FnT κ X k' f (Ω.Ψ j)) ∨ ∀ ds μ, Ω.Ψ j ds μ = .stuck
  xmk : c.low = false → Ω.xo = true → ∀ cc, cc < Ω.X.length → XMk κ X k cc Ω.X
  xg : ∀ x cc, c.G.lookup x = some (.xcl cc) → X.mg x = some (.ref (κ.xl cc))
  xrd : XRd X.K κ.xl Ω.X.length
theorem takes_W0 {X : Cx} : Takes X W0 := fun _ _ ⟨_, _, _, _, _, _, _, _, _, _, _, _, _, _, _, _, w⟩ => w.elim
theorem relabel_eq {scope : Scope} {env : Env} {sc : Scope} (h : env.scope = sc) : relabel scope env = relabelS scope sc := by
  subst h
  rfl
theorem XOk.blk {c : Ctx} {κ Ω k X W} (h : XOk c κ Ω k X W) (scope : Scope) (hk : scope.kind = .function) (s : Shared) (H : Hp) (C : Addr) (cl : List (Str × Addr)) (fp : List Addr) : XOk (c.blk scope) κ Ω k (X.blk s H scope (compEnvC scope cl C X.env) fp) W0 where
  N := h.N
  nd := h.nd
  sc := relabel_eq h.sc
  kind := hk
  hK := h.hK
  calm := h.calm
  room := h.room
  tk := takes_W0
  fnB := fun x hx => hx
  con := h.con
  free := h.free
  fn := h.fn
  fnL := h.fnL
  low := h.low
  tab := fun z => absurd z Bool.false_ne_true
  hC := h.hC
  cls := fun z => ⟨(h.cls z).cls, (h.cls z).noat, (h.cls z).meth⟩
  make := h.make
  xmk := h.xmk
  xg := h.xg
  xrd := h.xrd
theorem XOk.gen {c : Ctx} {κ Ω k X W} (h : XOk c κ Ω (k + 1) X W) (hlow : ∀ x i, c.G.lookup x = some (.fn i) → FnAt κ X k x (Ω.Ψ i)) (scope : Scope) (hk : scope.kind = .function) (s : Shared) (H : Hp) (cenv : Env) (A : Around) (fp : List Addr) (pn : List (Addr × Obj)) (hsc : cenv.scope = scope) (hr : Room k A) :
    XOk (c.gen scope) κ Ω k (TkGen.genX X s H cenv A fp pn) W0 where
  N := h.N
  nd := h.nd
  sc := hsc
  kind := hk
  hK := h.hK
  calm := h.calm
  room := hr
  tk := takes_W0
  fnB := fun x hx => absurd hx Bool.false_ne_true
  con := h.con
  free := h.free
  fn := fun z => absurd z (by show ¬ (true = false); decide)
  fnL := fun _ => hlow
  low := fun z => absurd z (by show ¬ (true = false); decide)
  tab := fun z => absurd z Bool.false_ne_true
  hC := h.hC
  cls := fun z => absurd z (by show ¬ (true = false); decide)
  make := fun z => absurd z (by show ¬ (true = false); decide)
  xmk := fun z => absurd z (by show ¬ (true = false); decide)
  xg := h.xg
  xrd := h.xrd

theorem XOk.tr {c : Ctx} {κ Ω k X W W'} (h : XOk c κ Ω k X W) (pn : List (Addr × Obj)) (xe : Value → Shared → Prop) (tk : Takes (X.tr pn xe) W') : XOk c κ Ω k (X.tr pn xe) W' where
  N := h.N
  nd := h.nd
  sc := h.sc
  kind := h.kind
  hK := h.hK
  calm := h.calm
  room := h.room
  tk := tk
  fnB := h.fnB
  con := h.con
  free := h.free
  fn := h.fn
  fnL := h.fnL
  low := h.low
  tab := h.tab
  hC := h.hC
  cls := fun z => ⟨(h.cls z).cls, (h.cls z).noat, (h.cls z).meth⟩
  make := h.make
  xmk := h.xmk
  xg := h.xg
  xrd := h.xrd
theorem idx_some {N : List Str} {x : Str} {i : Nat} (h : N.idxOf? x = some i) : N[i]? = some x := by
  rw [List.idxOf?_eq_some_iff] at h
  obtain ⟨h1, h2, _⟩ := h
  rw [List.getElem?_eq_getElem h1]
  simpa using h2
section
variable {c : Ctx} {κ : Kx} {Ω : Om} {k : Nat} {X : Cx} {W : WX}
theorem XOk.gl (h : XOk c κ Ω k X W) {x : Str} {g : GV} (hg : c.glob x = some g) : Gl X x ∧ (x == ("__debug__" : Str)) = false ∧ x ≠ "__name__" ∧ c.G.lookup x = some g := by
  unfold Ctx.glob at hg
  split at hg
  · rename_i hc
    exact ⟨by unfold Gl Env.kindOf; rw [h.sc]; exact hc.1, hc.2.1, hc.2.2, hg⟩
  · cases hg
theorem XOk.slot (h : XOk c κ Ω k X W) {x : Str} {i : Nat} {pos : Pos} (hs : c.slot x = some i) : PE X (.Name x pos) (tVar i) := by
  unfold Ctx.slot at hs
  split at hs
  · rename_i hc
    refine pe_var (by rw [h.N]; exact idx_some hs) ?_ hc.2.1 hc.2.2
    unfold Vis
    rw [h.sc]
    have h1 := hc.1
    unfold isLoc at h1
    split at h1
    · exact .inl (by assumption)
    · exact .inr (.inl (by assumption))
    · exact .inr (.inr (by assumption))
    · cases h1
  · cases hs
theorem star_cons {e : Expr} {es : List Expr} {env : Env} (h : plainB e = true) : starEach (e :: es) env = (false, eval e env) :: starEach es env := by
  cases e <;> first | rfl | (cases h; done)
theorem star_back {pos : Pos} {env : Env} : ∀ {es : List Expr}, (es.all plainB) = true → (backTo pos (starEach es env)).any (·.1) = false
  | [], _ => rfl
  | e :: es, h => by
    obtain ⟨h1, h2⟩ := Bool.and_eq_true_iff.mp (show (plainB e && es.all plainB) = true from h)
    rw [star_cons h1]
    show (false || (backTo pos (starEach es env)).any (·.1)) = false
    rw [star_back h2]
    rfl
theorem star_all {pos : Pos} {env : Env} : ∀ {es : List Expr}, (es.all plainB) = true → (backTo pos (starEach es env)).all (fun x => !x.1) = true
  | [], _ => rfl
  | e :: es, h => by
    obtain ⟨h1, h2⟩ := Bool.and_eq_true_iff.mp (show (plainB e && es.all plainB) = true from h)
    rw [star_cons h1]
    show (!false && (backTo pos (starEach es env)).all (fun x => !x.1)) = true
    rw [star_all h2]
    rfl
theorem trL_plain {f : Expr → Option E} : ∀ {es : List Expr} {r : Es}, trL f es = some r → es.all plainB = true
  | [], _, _ => rfl
  | e :: es, r, h => by
    unfold trL at h
    split at h
    · rename_i hp
      obtain ⟨a, _, h2⟩ := Option.bind_eq_some_iff.mp h
      obtain ⟨b, h3, _⟩ := Option.bind_eq_some_iff.mp h2
      rw [List.all_cons, hp, trL_plain h3]
      rfl
    · cases h
theorem base_of {o : Expr} {m : Str} {env : Env} (h : callB o = false) : attributeBase o m env (eval o env) = eval o env := by
  cases o <;> first | rfl | (cases h; done)
theorem folded_of {e : Expr} {env : Env} (h : setB e = false) : ∀ x, foldedSetIterable e env x = pure x := by
  cases e <;> first | (intro _; rfl) | (cases h; done)
theorem plainIx_of {e : Expr} (h : sliceB e = false) : PlainIx e := by
  cases e <;> first | (intro _ _; rfl) | (cases h; done)
theorem pt_never {e : Expr} : PT X e (fun _ _ _ => False) := ⟨fun _ _ _ _ _ _ h => h.elim⟩
theorem jt_stuck {e : Expr} {m : Dl → Mu → Res Bool} (h : ∀ δ μ, m δ μ = .stuck) : JT κ X W e m := pt_imp pt_never fun σ H Q ⟨ρ, δ, μ, s, r, p⟩ => by
  rw [h] at p
  exact p
/-- the soundness of both readings of e -/
structure Both (κ : Kx) (Ω : Om) (X : Cx) (W : WX) (e : Expr) (t : E) : Prop where
  v : JE κ X W e (ev Ω t)
  t : JT κ X W e (tv Ω t)
theorem tr_list {f : Expr → Option E} (hf : ∀ e t, f e = some t → Both κ Ω X W e t) : ∀ {es : List Expr} {r : Es}, trL f es = some r → JA κ X W es (evs Ω r)
  | [], r, h => by
    unfold trL at h
    cases h
    exact ja_nil
  | e :: es, r, h => by
    unfold trL at h
    split at h
    · rename_i hp
      obtain ⟨a, h1, h2⟩ := Option.bind_eq_some_iff.mp h
      obtain ⟨b, h3, h4⟩ := Option.bind_eq_some_iff.mp h2
      cases h4
      exact ja_cons (hf e a h1).v (tr_list hf h3) (star_cons hp)
    · cases h
theorem tr_bool {f : Expr → Option E} (hf : ∀ e t, f e = some t → Both κ Ω X W e t) {op : BoolOp} {pos : Pos} : ∀ {es : List Expr} {r : E}, trB f op es = some r → JE κ X W (.BoolOp op es pos) (ev Ω r) ∧ JW κ X W (.BoolOp op es pos) (tv Ω r)
  | [], r, h => by
    unfold trB at h
    cases h
  | [e], r, h => by
    unfold trB at h
    exact ⟨je_one (hf e r h).v, jw_one (hf e r h).t⟩
  | e :: e2 :: es, r, h => by
    unfold trB at h
    obtain ⟨a, h1, h2⟩ := Option.bind_eq_some_iff.mp h
    obtain ⟨b, h3, h4⟩ := Option.bind_eq_some_iff.mp h2
    obtain ⟨g1, g2⟩ := tr_bool hf h3
    cases op with
    | And =>
      cases h4
      exact ⟨je_and (hf e a h1).v g1, jw_and (hf e a h1).t g2⟩
    | Or =>
      cases h4
      exact ⟨je_or (hf e a h1).v g1, jw_or (hf e a h1).t g2⟩
theorem tr_pairs {f : Expr → Option E} (hf : ∀ e t, f e = some t → Both κ Ω X W e t) {pos : Pos} : ∀ {ks : List (Option Expr)} {vs : List Expr} {r : Ep}, trD f ks vs = some r → JP κ X W pos ks vs (evp Ω r)
  | [], [], r, h => by
    unfold trD at h
    cases h
    exact jp_nil
  | some k :: ks, v :: vs, r, h => by
    unfold trD at h
    obtain ⟨a, h1, h2⟩ := Option.bind_eq_some_iff.mp h
    obtain ⟨b, h3, h4⟩ := Option.bind_eq_some_iff.mp h2
    obtain ⟨r', h5, h6⟩ := Option.bind_eq_some_iff.mp h4
    cases h6
    exact jp_cons (hf k a h1).v (hf v b h3).v (tr_pairs hf h5)
  | [], _ :: _, r, h => by unfold trD at h; cases h
  | some _ :: _, [], r, h => by unfold trD at h; cases h
  | none :: _, _, r, h => by unfold trD at h; cases h
theorem tr_opt {f : Expr → Option E} (hf : ∀ e t, f e = some t → Both κ Ω X W e t) {o : Option Expr} {r : Eo} (h : trO f o = some r) : JO κ X W o (evo Ω r) := by
  cases o with
  | none =>
    unfold trO at h
    cases h
    exact jo_none
  | some e =>
    unfold trO at h
    obtain ⟨a, h1, h2⟩ := Option.map_eq_some_iff.mp h
    subst h2
    exact jo_some (hf e a h1).v
mutual
def gOf (K : PySem.W.Frag) : Tg → TG
  | .name i => gName i
  | .tup ts => gTup K ts.length (gsOf K ts)
def gsOf (K : PySem.W.Frag) : List Tg → TGs
  | [] => gNil
  | t :: ts => gCons (gOf K t) (gsOf K ts)
end
mutual
theorem gok_of : ∀ t : Tg, GOk κ (gOf κ.K t) t
  | .name i => by unfold gOf; exact gok_name
  | .tup ts => by unfold gOf; exact gok_tup rfl (gsok_of ts)
theorem gsok_of : ∀ ts : List Tg, GsOk κ (gsOf κ.K ts) ts
  | [] => by unfold gsOf; exact gsok_nil
  | t :: ts => by unfold gsOf; exact gsok_cons (gok_of t) (gsok_of ts)
end
mutual
theorem tr_tgt (h : XOk c κ Ω k X W) : ∀ (n : Nat) (e : Expr) (t : Tg), trG c n e = some t → PG X e (gOf κ.K t)
  | 0, e, t, ht => by unfold trG at ht; cases ht
  | n + 1, e, t, ht => by
    unfold trG at ht
    split at ht
    · split at ht
      · rename_i hx
        obtain ⟨i, h1, rfl⟩ := Option.map_eq_some_iff.mp ht
        unfold gOf
        refine pg_name (by rw [h.N]; exact h.nd) (by rw [h.N]; exact idx_some h1) ?_ ?_
        · unfold L2.Loc
          rw [h.sc]
          rcases hx with hx | hx
          · exact .inl hx
          · exact .inr hx.1
        · rw [h.sc]
          rcases hx with hx | hx
          · exact .inr hx
          · exact .inl (h.fnB _ hx.2)
      · cases ht
    · obtain ⟨ts, h1, rfl⟩ := Option.map_eq_some_iff.mp ht
      obtain ⟨h2, h4, h5⟩ := tr_tgts h n _ ts h1
      unfold gOf
      rw [← h.hK] at h2 ⊢
      exact pg_tup h.calm h2 h4 h5
    · cases ht
theorem tr_tgts (h : XOk c κ Ω k X W) : ∀ (n : Nat) (es : List Expr) (ts : List Tg), trGs c n es = some ts → PGs X es (gsOf κ.K ts) ∧ (assignEach es X.env).length = ts.length ∧ (assignEach es X.env).findIdx? (·.1) = none
  | 0, es, ts, ht => by unfold trGs at ht; cases ht
  | n + 1, [], ts, ht => by
    unfold trGs at ht
    cases ht
    unfold gsOf
    exact ⟨pgs_nil, rfl, rfl⟩
  | n + 1, e :: es, ts, ht => by
    unfold trGs at ht
    split at ht
    · rename_i hp
      obtain ⟨a, h1, h2⟩ := Option.bind_eq_some_iff.mp ht
      obtain ⟨b, h3, h4⟩ := Option.bind_eq_some_iff.mp h2
      cases h4
      have g1 := tr_tgt h n e a h1
      obtain ⟨g3, g5, g6⟩ := tr_tgts h n es b h3
      have ea : assignEach (e :: es) X.env = (false, assign e X.env) :: assignEach es X.env := by
        cases e <;> first | rfl | (cases hp; done)
      unfold gsOf
      refine ⟨pgs_cons g1 g3 (by rw [ea]; rfl), by rw [ea, List.length_cons, g5]; rfl, ?_⟩
      rw [ea, List.findIdx?_cons, if_neg (by simp), g6]
      rfl
    · cases ht
end
end
end Tk

set_option maxHeartbeats 8000000
namespace Tk
open PySem PySem.Spec PyProof.Rows L2

section
variable {c : Ctx} {κ : Kx} {Ω : Om} {k : Nat} {X : Cx} {W : WX}
theorem glob_free {x : Str} (h : c.freeB x = true) : c.glob x = some .free := by
  unfold Ctx.freeB at h
  split at h
  · assumption
  · cases h
theorem fold_iter {f : Expr → Option E} {tg e : Expr} {r : It'} (hr : trI c f tg e = some r) : ∀ env x, foldedSetIterable e env x = pure x := by
  unfold trI at hr
  split at hr
  · cases hr
  · rename_i hs
    exact fun env => folded_of (by simpa using hs)
theorem tr_iter (h : XOk c κ Ω k X W) {f : Expr → Option E} (hf : ∀ e t, f e = some t → Both κ Ω X W e t) {tg e : Expr} {r : It'} (hr : trI c f tg e = some r) : JI κ X W tg e (evi Ω r) ∧ ∀ env x, foldedSetIterable e env x = pure x := by
  unfold trI at hr
  split at hr
  · cases hr
  · rename_i hs
    have hfold : ∀ env x, foldedSetIterable e env x = pure x := fun env => folded_of (by simpa using hs)
    refine ⟨?_, hfold⟩
    split at hr
    · rename_i x p a pos
      split at hr
      · rename_i hx
        split at hr
        · rename_i hc
          obtain ⟨a', h1, rfl⟩ := Option.map_eq_some_iff.mp hr
          obtain ⟨g1, _, _, g2⟩ := h.gl (glob_free hc.1)
          subst hx
          exact ji_rng1 rfl g1 (h.free _ g2) (hf a a' h1).v (star_cons hc.2)
        · cases hr
      · split at hr
        · rename_i hx
          split at hr
          · rename_i hc
            obtain ⟨a', h1, rfl⟩ := Option.map_eq_some_iff.mp hr
            obtain ⟨g1, _, _, g2⟩ := h.gl (glob_free hc.1)
            subst hx
            cases tg with
            | Tuple elts kk tpos => exact ji_enum h.hK rfl g1 (h.free _ g2) (hf a a' h1).v (star_cons hc.2.1)
            | _ => exact absurd hc.2.2 Bool.false_ne_true
          · cases hr
        · split at hr
          · rename_i hx
            split at hr
            · rename_i hc
              obtain ⟨a', h1, rfl⟩ := Option.map_eq_some_iff.mp hr
              obtain ⟨g1, _, _, g2⟩ := h.gl (glob_free hc.1)
              subst hx
              exact ji_rev h.hK rfl g1 (h.free _ g2) (hf a a' h1).v (star_cons hc.2)
            · cases hr
          · obtain ⟨a', h1, rfl⟩ := Option.map_eq_some_iff.mp hr
            exact ji_val h.hK (hf _ a' h1).v
    · rename_i x p a b pos
      split at hr
      · rename_i hx
        split at hr
        · rename_i hc
          obtain ⟨a', h1, h2⟩ := Option.bind_eq_some_iff.mp hr
          obtain ⟨b', h3, rfl⟩ := Option.map_eq_some_iff.mp h2
          obtain ⟨g1, _, _, g2⟩ := h.gl (glob_free hc.1)
          subst hx
          exact ji_rng2 rfl g1 (h.free _ g2) (hf a a' h1).v (hf b b' h3).v (by rw [star_cons hc.2.1, star_cons hc.2.2]; rfl) (star_cons hc.2.2)
        · cases hr
      · obtain ⟨a', h1, rfl⟩ := Option.map_eq_some_iff.mp hr
        exact ji_val h.hK (hf _ a' h1).v
    · obtain ⟨a', h1, rfl⟩ := Option.map_eq_some_iff.mp hr
      exact ji_val h.hK (hf _ a' h1).v
theorem bltOf_ok {x : Str} {b : Blt} (h : bltOf x = some b) : x = bltN b := by
  unfold bltOf at h
  repeat' split at h
  all_goals first | (cases h; assumption) | cases h
theorem tyOf_ok {x : Str} {t : String} (h : tyOf x = some t) : bootBuiltins x = some (.type t) := by
  unfold tyOf at h
  split at h
  · rename_i e; cases h; subst e; decide +kernel
  split at h
  · rename_i e; cases h; subst e; decide +kernel
  split at h
  · rename_i e; cases h; subst e; decide +kernel
  split at h
  · rename_i e; cases h; subst e; decide +kernel
  split at h
  · rename_i e; cases h; subst e; decide +kernel
  split at h
  · rename_i e; cases h; subst e; decide +kernel
  cases h
theorem both_leaf {e : Expr} {t : E} (hv : JE κ X W e (ev Ω t)) (he : ∀ whole, isTrue e X.env whole = (do let v ← whole; standAt e.pos; holding [v] (truthy v))) (ht : ∀ δ μ, tv Ω t δ μ = (ev Ω t δ μ).bind fun x μ1 => truD x μ1) : Both κ Ω X W e t :=
  ⟨hv, by
    have e : tv Ω t = fun δ μ => (ev Ω t δ μ).bind fun x μ1 => truD x μ1 := by funext δ μ; exact ht δ μ
    rw [e]
    exact jt_val hv he⟩
theorem sub_ok {a b : List Nat} (h : subB a b = true) : ∀ i ∈ a, i ∈ b := fun i hi => by
  unfold subB at h
  have := List.all_eq_true.mp h i hi
  simpa using this
theorem units_of {A : Around} (hr : Room k A) : A.units + 64 < cLine ∧ A.units + 1 < cLine := ⟨by have := hr.un; omega, by have := hr.un; omega⟩
theorem noSl_of {e : Expr} (h : sliceB e = false) : NoSl e := by
  cases e <;> first | (intro _ _; rfl) | (cases h; done)
theorem argsOk_of {f : Expr → Option E} {es : List Expr} {r : Es} {pos : Pos} (h : trL f es = some r) : ArgsOk X pos es (evs Ω r) := by
  cases es with
  | nil =>
    unfold trL at h
    cases h
    exact .inl ⟨rfl, fun δ μ => by rw [evs]⟩
  | cons e es =>
    have hp := trL_plain h
    obtain ⟨hp1, hp2⟩ := Bool.and_eq_true_iff.mp (show (plainB e && es.all plainB) = true from hp)
    exact .inr ⟨e, es, rfl, star_cons hp1, star_back hp2⟩
theorem je_eq {e : Expr} {m m' : Dl → Mu → Res D} (h : JE κ X W e m) (hm : ∀ δ μ, m' δ μ = m δ μ) : JE κ X W e m' := by
  rw [show m' = m from funext fun δ => funext fun μ => hm δ μ]
  exact h
theorem tr_name (h : XOk c κ Ω k X W) {f : Expr → Option E} (ih : ∀ e t, f e = some t → Both κ Ω X W e t) {x : Str} {p pos : Pos} {args : List Expr} {t : E} (ht : trName c f x args = some t) : Both κ Ω X W (.Call (.Name x p) args [] pos) t := by
  unfold trName at ht
  split at ht
  · rename_i i hg
    obtain ⟨g1, g2, _, g3⟩ := h.gl hg
    split at ht
    · rename_i hlow
      obtain ⟨es', h1, rfl⟩ := Option.map_eq_some_iff.mp ht
      obtain ⟨fa, f1, f2, f3⟩ := h.fnL hlow x i g3
      cases args with
      | nil =>
        unfold trL at h1
        cases h1
        exact both_leaf (je_eq (je_callT0 f3 h.room g1 f1 f2 h.tk g2) fun δ μ => by rw [ev, evs]; rfl) (fun _ => rfl) (fun _ _ => rfl)
      | cons e1 es =>
        have hp := trL_plain h1
        obtain ⟨hp1, hp2⟩ := Bool.and_eq_true_iff.mp (show (plainB e1 && es.all plainB) = true from hp)
        exact both_leaf (je_callT f3 h.room g1 f1 f2 h.tk (tr_list ih h1) g2 (star_cons hp1) (star_back hp2)) (fun _ => rfl) (fun _ _ => rfl)
    · rename_i hlow
      obtain ⟨es', h1, rfl⟩ := Option.map_eq_some_iff.mp ht
      obtain ⟨fa, f1, f2, f3⟩ := h.fn (by simpa using hlow) x i g3
      cases args with
      | nil =>
        unfold trL at h1
        cases h1
        exact both_leaf (je_eq (je_callT0 f3 h.room g1 f1 f2 h.tk g2) fun δ μ => by rw [ev, evs]; rfl) (fun _ => rfl) (fun _ _ => rfl)
      | cons e1 es =>
        have hp := trL_plain h1
        obtain ⟨hp1, hp2⟩ := Bool.and_eq_true_iff.mp (show (plainB e1 && es.all plainB) = true from hp)
        exact both_leaf (je_callT f3 h.room g1 f1 f2 h.tk (tr_list ih h1) g2 (star_cons hp1) (star_back hp2)) (fun _ => rfl) (fun _ _ => rfl)
  · rename_i cc hg
    split at ht
    · cases ht
    rename_i hlow
    obtain ⟨es', h1, rfl⟩ := Option.map_eq_some_iff.mp ht
    obtain ⟨g1, g2, _, g3⟩ := h.gl hg
    obtain ⟨m1, f, m2, m3⟩ := h.make (by simpa using hlow) x cc g3
    refine ⟨?_, jt_stuck fun _ _ => rfl⟩
    cases hi : initI Ω.C cc with
    | none =>
      refine je_eq (je_mk (g := fun _ _ => .stuck) m2 (runMk_stuck fun _ _ => rfl) g1 m1 (tr_list ih h1) (argsOk_of h1) g2) fun δ μ => ?_
      rw [ev, hi]
      rfl
    | some j =>
      refine je_eq (je_mk (g := Ω.Ψ j) m2 ?_ g1 m1 (tr_list ih h1) (argsOk_of h1) g2) fun δ μ => ?_
      · rcases m3 j hi with ⟨k', rfl, F⟩ | hs
        · exact fun I r z => run_mk m2 F h.room h.tk I r z
        · exact runMk_stuck hs
      · rw [ev, hi]
        try rfl
  · rename_i hg
    obtain ⟨g1, g2, _, g3⟩ := h.gl hg
    cases args with
    | nil => cases ht
    | cons e1 es =>
      obtain ⟨b, h0, h2⟩ := Option.bind_eq_some_iff.mp ht
      obtain ⟨es', h1, rfl⟩ := Option.map_eq_some_iff.mp h2
      have hp := trL_plain h1
      obtain ⟨hp1, hp2⟩ := Bool.and_eq_true_iff.mp (show (plainB e1 && es.all plainB) = true from hp)
      exact both_leaf (je_blt (cj_bltD h.hK b fun _ => h.calm) (bltOf_ok h0) g1 (h.free x g3) (tr_list ih h1) (star_cons hp1) (star_back hp2)) (fun _ => rfl) (fun _ _ => rfl)
  · cases ht
theorem meth_eq {o : Expr} {m : Str} {apos pos : Pos} {args : List Expr} {env : Env} (h1 : callB o = false) (h2 : (apos.endLine == pos.line) = true) (h3 : args.all plainB = true) (h4 : args.length < 30) :
    eval (.Call (.Attribute o m apos) args [] pos) env = (do
      let ov ← eval o env
      standAt apos.atName
      let (f, first) ← holding [ov] (getMethod ov m (do return (← importBound o env).getD true))
      callWith pos f first (backTo pos (starEach args env)) (backToKw pos (keywordEach [] env))) := by
  have hf : methodCallForm (args.length + ([] : List Keyword).length) (backTo pos (starEach args env)) (backToKw pos (keywordEach [] env)) = true := by
    unfold methodCallForm
    rw [star_all h3]
    simp [backToKw, keywordEach]
    exact h4
  rw [arm_eval_Call, base_of h1]
  unfold methodCall
  rw [hf]
  unfold calleeOf methodCallPos
  rw [h2]
  rfl
theorem tr_attr (h : XOk c κ Ω k X W) {f : Expr → Option E} (ih : ∀ e t, f e = some t → Both κ Ω X W e t) {o : Expr} {m : Str} {apos pos : Pos} {args : List Expr} {t : E} (ht : trAttr c f o m apos pos args = some t) : Both κ Ω X W (.Call (.Attribute o m apos) args [] pos) t := by
  unfold trAttr at ht
  split at ht
  · cases ht
  · rename_i hc
    have hc1 : callB o = false := by
      cases hcb : callB o with
      | false => rfl
      | true => exact absurd (Or.inl hcb) hc
    have hc2 : (apos.endLine == pos.line) = true := by
      cases hcb : (apos.endLine == pos.line) with
      | true => rfl
      | false => exact absurd (Or.inr hcb) hc
    split at ht
    · split at ht
      · rename_i hlen
        obtain ⟨o', h1, h2⟩ := Option.bind_eq_some_iff.mp ht
        obtain ⟨es', h3, rfl⟩ := Option.map_eq_some_iff.mp h2
        exact both_leaf (je_mc (h.cls hlen.2) h.room h.tk (ih o o' h1).v (tr_list ih h3) (argsOk_of h3) (meth_eq hc1 hc2 (trL_plain h3) hlen.1)) (fun _ => rfl) (fun _ _ => rfl)
      · cases ht
    · split at ht
      · rename_i e1
        obtain ⟨mt, h0, ht2⟩ := Option.bind_eq_some_iff.mp ht
        obtain ⟨o', h1, h2⟩ := Option.bind_eq_some_iff.mp ht2
        obtain ⟨es', h3, rfl⟩ := Option.map_eq_some_iff.mp h2
        have hp := trL_plain h3
        obtain ⟨hp1, hp2⟩ := Bool.and_eq_true_iff.mp (show (plainB e1 && [].all plainB) = true from hp)
        have few : ((backTo pos (starEach [e1] X.env)).all (fun x => !x.1) && (backToKw pos (keywordEach [] X.env)).all (fun x => x.1.isSome)
            && decide ([e1].length + ([] : List Keyword).length + (if ([] : List Keyword).isEmpty then 0 else 1) < 30)) = true := by
          rw [star_all hp]
          rfl
        unfold mthOf at h0
        split at h0
        · rename_i hm
          subst hm
          cases h0
          exact both_leaf (je_append h.hK (ih o o' h1).v (tr_list ih h3) (base_of hc1) few hc2 (star_cons hp1) (star_back hp2)) (fun _ => rfl) (fun _ _ => rfl)
        · split at h0
          · rename_i hm
            subst hm
            cases h0
            exact both_leaf (je_bm (mt := .extend) h.hK rfl PySem.F.slot_list_extend PySem.F.type_list_extend mt_extend (fun r g hd z => rd_extend h.hK r g hd z) (ih o o' h1).v (tr_list ih h3) (base_of hc1) few hc2 (star_cons hp1) (star_back hp2)) (fun _ => rfl) (fun _ _ => rfl)
          · split at h0
            · rename_i hm
              subst hm
              cases h0
              exact both_leaf (je_bm (mt := .index) h.hK rfl PySem.F.slot_list_index PySem.F.type_list_index mt_index (fun r g hd z => rd_index h.hK r g hd z) (ih o o' h1).v (tr_list ih h3) (base_of hc1) few hc2 (star_cons hp1) (star_back hp2)) (fun _ => rfl) (fun _ _ => rfl)
            · split at h0
              · rename_i hm
                subst hm
                cases h0
                exact both_leaf (je_bm (mt := .pop) h.hK rfl PySem.F.slot_list_pop PySem.F.type_list_pop mt_popAt (fun r g hd z => rd_pop h.hK r g hd z) (ih o o' h1).v (tr_list ih h3) (base_of hc1) few hc2 (star_cons hp1) (star_back hp2)) (fun _ => rfl) (fun _ _ => rfl)
              · cases h0
      · rename_i e1 e2
        split at ht
        · rename_i hm
          subst hm
          obtain ⟨o', h1, h2⟩ := Option.bind_eq_some_iff.mp ht
          obtain ⟨es', h3, rfl⟩ := Option.map_eq_some_iff.mp h2
          have hp := trL_plain h3
          obtain ⟨hp1, hp2⟩ := Bool.and_eq_true_iff.mp (show (plainB e1 && [e2].all plainB) = true from hp)
          have hp3 : plainB e2 = true := by simpa using hp2
          unfold trL at h3
          rw [if_pos hp1] at h3
          obtain ⟨a1, k1, k2⟩ := Option.bind_eq_some_iff.mp h3
          obtain ⟨r1, k3, k4⟩ := Option.bind_eq_some_iff.mp k2
          unfold trL at k3
          rw [if_pos hp3] at k3
          obtain ⟨a2, k5, k6⟩ := Option.bind_eq_some_iff.mp k3
          obtain ⟨r2, k7, k8⟩ := Option.bind_eq_some_iff.mp k6
          unfold trL at k7
          cases k7
          cases k8
          cases k4
          refine both_leaf (je_get2 h.hK (units_of h.room).2 (ih o o' h1).v (ih e1 a1 k1).v (ih e2 a2 k5).v ⟨base_of hc1, ?_, hc2, ?_⟩) (fun _ => rfl) (fun _ _ => rfl)
          · rw [star_all hp]
            rfl
          · rw [star_cons hp1, star_cons hp3]
            rfl
        · cases ht
      · cases ht
theorem gen_ok {scope : Scope} (h : genB scope = true) : scope.isCoroutine = false ∧ (∀ y ∈ scope.names, y.2 ≠ .cell) ∧ scope.names.lookup (".0" : Str) = some .local := by
  unfold genB at h
  simp only [Bool.and_eq_true, Bool.not_eq_true', List.all_eq_true, decide_eq_true_eq] at h
  exact ⟨h.1.1, h.1.2, h.2⟩
theorem gen_fold {iter : Expr} {env : Env} (hl : listB iter = false) (h : ∀ x, foldedSetIterable iter env x = pure x) : ∀ v, genFold iter env v = pure v := by
  cases iter <;> first | (intro v; exact h v) | (cases hl; done)
theorem tr_expr : ∀ (n : Nat) {k : Nat} {c : Ctx} {X : Cx} {W : WX}, XOk c κ Ω k X W → ∀ (e : Expr) (t : E), trE n c e = some t → Both κ Ω X W e t
  | 0, k, c, X, W, h, e, t, ht => by unfold trE at ht; cases ht
  | n + 1, k, c, X, W, h, e, t, ht => by
    have ih : ∀ e t, trE n c e = some t → Both κ Ω X W e t := fun e t => tr_expr n h e t
    have tr_elt : ∀ {k : Nat} {c : Ctx} {X : Cx} {W : WX}, XOk c κ Ω k X W → ∀ (e : Expr) (t : E), trE n c e = some t → Both κ Ω X W e t := fun h e t => tr_expr n h e t
    cases e with
    | Constant kk j pos =>
      unfold trE at ht
      dsimp only at ht
      split at ht
      · cases ht; exact both_leaf (je_c pe_non fun ρ H => rep_non.mpr rfl) (fun _ => rfl) (fun _ _ => rfl)
      · cases ht; exact both_leaf (je_c pe_bl fun ρ H => rep_bl.mpr rfl) (fun _ => rfl) (fun _ _ => rfl)
      · cases ht; exact both_leaf (je_c pe_int fun ρ H => rep_int.mpr rfl) (fun _ => rfl) (fun _ _ => rfl)
      · cases ht; exact both_leaf (je_c pe_str fun ρ H => rep_str.mpr rfl) (fun _ => rfl) (fun _ _ => rfl)
      · cases ht
    | Name x pos =>
      unfold trE at ht
      dsimp only at ht
      split at ht
      · rename_i i hs
        cases ht
        refine both_leaf (je_v (h.slot hs)) (fun _ => rfl) (fun δ μ => ?_)
        show (match δ[i]? with
          | some (some d) => truD d μ
          | _ => .stuck) = (match δ[i]? with
          | some (some d) => Res.ok d μ
          | _ => .stuck).bind fun x μ1 => truD x μ1
        split <;> rfl
      · split at ht
        · rename_i d hg
          cases ht
          obtain ⟨g1, g2, _, g3⟩ := h.gl hg
          obtain ⟨u, v, g4, g5, g6⟩ := h.con x d g3
          exact both_leaf (je_c (pe_glob g1 g4 g5 g2) g6) (fun _ => rfl) (fun _ _ => rfl)
        · rename_i hg
          obtain ⟨ty, h1, rfl⟩ := Option.map_eq_some_iff.mp ht
          obtain ⟨g1, g2, g4, g3⟩ := h.gl hg
          exact both_leaf (je_c (pe_bltn (v := .ty ty) g1 (h.free x g3) (tyOf_ok h1) rfl g4 g2) fun ρ H => rep_ty.mpr rfl) (fun _ => rfl) (fun _ _ => rfl)
        · cases ht
    | Tuple es j pos =>
      unfold trE at ht
      obtain ⟨r, h1, rfl⟩ := Option.map_eq_some_iff.mp ht
      exact ⟨je_tup (tr_list ih h1), jt_stuck fun _ _ => rfl⟩
    | List es pos =>
      unfold trE at ht
      obtain ⟨r, h1, rfl⟩ := Option.map_eq_some_iff.mp ht
      exact ⟨je_lst (tr_list ih h1), jt_stuck fun _ _ => rfl⟩
    | BinOp a o b pos =>
      unfold trE at ht
      obtain ⟨a', h1, h2⟩ := Option.bind_eq_some_iff.mp ht
      obtain ⟨b', h3, rfl⟩ := Option.map_eq_some_iff.mp h2
      exact ⟨je_bin (oj_bin h.hK o) (ih a a' h1).v (ih b b' h3).v, jt_stuck fun _ _ => rfl⟩
    | UnaryOp o a pos =>
      unfold trE at ht
      dsimp only at ht
      split at ht
      · obtain ⟨a', h1, rfl⟩ := Option.map_eq_some_iff.mp ht
        exact ⟨je_neg (ih a a' h1).v, jt_stuck fun _ _ => rfl⟩
      · obtain ⟨a', h1, rfl⟩ := Option.map_eq_some_iff.mp ht
        exact ⟨je_not (ih a a' h1).v, jt_not (ih a a' h1).t⟩
      · cases ht
    | BoolOp op vs pos =>
      unfold trE at ht
      obtain ⟨g1, g2⟩ := tr_bool ih ht
      exact ⟨g1, g2.pt⟩
    | IfExp t a b pos =>
      unfold trE at ht
      obtain ⟨t', h1, h2⟩ := Option.bind_eq_some_iff.mp ht
      obtain ⟨a', h3, h4⟩ := Option.bind_eq_some_iff.mp h2
      obtain ⟨b', h5, rfl⟩ := Option.map_eq_some_iff.mp h4
      exact ⟨je_ite (ih t t' h1).t (ih a a' h3).v (ih b b' h5).v, jt_stuck fun _ _ => rfl⟩
    | Compare a ops cs pos =>
      unfold trE at ht
      dsimp only at ht
      have hu := units_of h.room
      split at ht
      · rename_i o b
        split at ht
        · cases ht
        · rename_i hm
          obtain ⟨a', h1, h2⟩ := Option.bind_eq_some_iff.mp ht
          obtain ⟨b', h3, rfl⟩ := Option.map_eq_some_iff.mp h2
          have hm' : behindInMarks o b = false := by simpa using hm
          exact ⟨je_cmp (oj_cmpD h.hK hu.1 o) (ih a a' h1).v (ih b b' h3).v hm', jt_cmp (oj_cmpD h.hK hu.1 o) (ih a a' h1).v (ih b b' h3).v hm'⟩
      · rename_i o p b d
        split at ht
        · cases ht
        · rename_i hm
          obtain ⟨a', h1, h2⟩ := Option.bind_eq_some_iff.mp ht
          obtain ⟨b', h3, h4⟩ := Option.bind_eq_some_iff.mp h2
          obtain ⟨d', h5, rfl⟩ := Option.map_eq_some_iff.mp h4
          have hm' : lastMarks [o, p] [b, d] = false := by simpa using hm
          exact ⟨je_chn (oj_cmpD h.hK hu.1 o) (oj_cmpD h.hK hu.1 p) (ih a a' h1).v (ih b b' h3).v (ih d d' h5).v hm', jt_chn (oj_cmpD h.hK hu.1 o) (oj_cmpD h.hK hu.1 p) (ih a a' h1).v (ih b b' h3).v (ih d d' h5).v hm'⟩
      · cases ht
    | Subscript a i pos =>
      unfold trE at ht
      dsimp only at ht
      split at ht
      · rename_i lo hi st p2
        split at ht
        · obtain ⟨a', h1, h2⟩ := Option.bind_eq_some_iff.mp ht
          obtain ⟨l, h3, h4⟩ := Option.bind_eq_some_iff.mp h2
          obtain ⟨hh, h5, rfl⟩ := Option.map_eq_some_iff.mp h4
          exact ⟨je_sl h.hK (ih a a' h1).v (tr_opt ih h3) (tr_opt ih h5), jt_stuck fun _ _ => rfl⟩
        · cases ht
      · split at ht
        · cases ht
        · rename_i hs
          obtain ⟨a', h1, h2⟩ := Option.bind_eq_some_iff.mp ht
          obtain ⟨b', h3, rfl⟩ := Option.map_eq_some_iff.mp h2
          exact both_leaf (je_ix h.hK (units_of h.room).2 (ih a a' h1).v (ih _ b' h3).v (plainIx_of (by simpa using hs)) (noSl_of (by simpa using hs))) (fun _ => rfl) (fun _ _ => rfl)
    | Attribute a f pos =>
      unfold trE at ht
      dsimp only at ht
      split at ht
      · cases ht
      · rename_i hc
        obtain ⟨a', h1, rfl⟩ := Option.map_eq_some_iff.mp ht
        have hc1 : callB a = false := by
          cases hcb : callB a with
          | false => rfl
          | true => exact absurd (Or.inl hcb) hc
        have hc2 : c.low = false := by
          cases hcb : c.low with
          | false => rfl
          | true => exact absurd (Or.inr hcb) hc
        exact both_leaf (je_fld (h.cls hc2) (ih a a' h1).v (base_of hc1)) (fun _ => rfl) (fun _ _ => rfl)
    | Call f args kws pos =>
      unfold trE at ht
      dsimp only at ht
      split at ht
      · split at ht
        · split at ht
          · rename_i x p elt tg it ifs ai scope gpos
            split at ht
            · rename_i hc
              obtain ⟨hx, htab, hlow, hfree, rfl, hifs, hgb, hlb, hb⟩ := hc
              subst hx
              obtain rfl : ifs = [] := by cases ifs <;> first | rfl | cases hifs
              obtain ⟨it', h1, h2⟩ := Option.bind_eq_some_iff.mp ht
              obtain ⟨t, h3, h4⟩ := Option.bind_eq_some_iff.mp h2
              split at h4
              · rename_i hsub
                obtain ⟨e', h5, rfl⟩ := Option.map_eq_some_iff.mp h4
                obtain ⟨g1, g2⟩ := tr_iter h ih (tg := tg) h1
                have ok := blkOk_by hb
                have ok' : BlkOk X.N X.env.scope scope (ownOf c.N scope) := by rw [h.N, h.sc]; exact ok
                obtain ⟨gl1, _, _, gl4⟩ := h.gl (glob_free hfree)
                obtain ⟨cc, P, t1, t2, t3⟩ := h.tab htab
                obtain ⟨b1, b2, b3⟩ := gen_ok hgb
                refine both_leaf ?_ (fun _ => rfl) (fun δ μ => by rw [tv, ev])
                by_cases hlo : Ω.lo = true
                · obtain ⟨k', rfl, low⟩ := h.low hlow hlo
                  refine je_eq (pe_imp (TkGen.pe_all h.room h.calm (by rw [h.N]; exact h.nd) gl1 (h.free _ gl4) t2 t1 g1 ok' b1 b2 b3 (fun s H cenv A fp pn hsc hr => tr_tgt (h.gen low scope ok.kind s H cenv A fp pn hsc hr) n tg t h3)
                    (fun s H cenv A fp pn hsc hr => (tr_elt (h.gen low scope ok.kind s H cenv A fp pn hsc hr) elt e' h5).v) (gen_fold hlb (g2 _)) (star_cons rfl)) fun σ H Q q => all_read t3 (gok_of t) (sub_ok hsub) q) fun δ μ => by rw [ev, if_pos hlo]
                · refine je_eq (m := fun _ _ => .stuck) ⟨fun pins s σ H Q I q => ?_⟩ fun δ μ => by rw [ev, if_neg hlo]
                  obtain ⟨_, _, _, _, _, z⟩ := q
                  exact z.elim
              · cases h4
            · cases ht
          · exact tr_name h ih ht
        · exact tr_attr h ih ht
        · cases ht
      · cases ht
    | ListComp elt gens scope pos =>
      unfold trE at ht
      dsimp only at ht
      split at ht
      · rename_i tg it ifs ai
        split at ht
        · rename_i hc
          obtain ⟨rfl, hb⟩ := hc
          obtain ⟨it', h1, h2⟩ := Option.bind_eq_some_iff.mp ht
          obtain ⟨t, h3, h4⟩ := Option.bind_eq_some_iff.mp h2
          split at h4
          · rename_i hsub
            obtain ⟨o, h5, h6⟩ := Option.bind_eq_some_iff.mp h4
            obtain ⟨fs, h7, h8⟩ := Option.bind_eq_some_iff.mp h6
            obtain ⟨e', h9, rfl⟩ := Option.map_eq_some_iff.mp h8
            obtain ⟨g1, g2⟩ := tr_iter h ih (tg := tg) h1
            have ok := blkOk_by hb
            have hx := fun s H C cl fp => h.blk scope ok.kind s H C cl fp
            -- the target's reading is one for all blocks
            have t1 := fun s H C cl fp => tr_tgt (hx s H C cl fp) n _ t h3
            have t2 := gok_of (κ := κ) t
            have ok' : BlkOk X.N X.env.scope scope (ownOf c.N scope) := by rw [h.N, h.sc]; exact ok
            have hts : ∀ s H C cl fp, JTs κ (X.blk s H scope (compEnvC scope cl C X.env) fp) W0 ifs (tvo Ω fs) := fun s H C cl fp => by
              unfold oneIf at h5
              split at h5
              · cases h5
                unfold trO at h7
                cases h7
                exact jts_nil
              · cases h5
                unfold trO at h7
                obtain ⟨a', k1, rfl⟩ := Option.map_eq_some_iff.mp h7
                exact jts_one (tr_expr n (hx s H C cl fp) _ a' k1).t
              · cases h5
            exact ⟨pe_imp (pe_lc h.calm (by rw [h.N]; exact h.nd) g1 ok' t1 (fun s H C cl fp => hts s H C cl fp) (fun s H C cl fp => (tr_expr n (hx s H C cl fp) elt e' h9).v) (g2 _)) fun σ H Q q => lc_read t2 (sub_ok hsub) q, jt_stuck fun _ _ => rfl⟩
          · cases h4
        · cases ht
      · rename_i tg it ifs ai tg1 it1 ifs1 ai1
        split at ht
        · rename_i hc
          obtain ⟨rfl, rfl, hi1, hi2, hb⟩ := hc
          obtain rfl : ifs = [] := by cases ifs <;> first | rfl | cases hi1
          obtain rfl : ifs1 = [] := by cases ifs1 <;> first | rfl | cases hi2
          obtain ⟨it', h1, h2⟩ := Option.bind_eq_some_iff.mp ht
          obtain ⟨t, h3, h4⟩ := Option.bind_eq_some_iff.mp h2
          obtain ⟨it1', h5, h6⟩ := Option.bind_eq_some_iff.mp h4
          obtain ⟨t1, h7, h8⟩ := Option.bind_eq_some_iff.mp h6
          split at h8
          · rename_i hsub
            obtain ⟨e', h9, rfl⟩ := Option.map_eq_some_iff.mp h8
            obtain ⟨g1, g2⟩ := tr_iter h ih (tg := tg) h1
            have ok := blkOk_by hb
            have hx := fun s H C cl fp => h.blk scope ok.kind s H C cl fp
            have u1 := fun s H C cl fp => tr_tgt (hx s H C cl fp) n _ t h3
            have u2 := gok_of (κ := κ) t
            have u3 := fun s H C cl fp => tr_tgt (hx s H C cl fp) n _ t1 h7
            have u4 := gok_of (κ := κ) t1
            have ok' : BlkOk X.N X.env.scope scope (ownOf c.N scope) := by rw [h.N, h.sc]; exact ok
            have hi := fun s H C cl fp => tr_iter (hx s H C cl fp) (tr_expr n (hx s H C cl fp)) (tg := tg1) h5
            exact ⟨pe_imp (pe_lc2 h.calm (by rw [h.N]; exact h.nd) g1 ok' (sub_ok hsub.2) u1 (fun s H C cl fp => pts_nil) (fun s H C cl fp => (hi s H C cl fp).1) u3 (fun s H C cl fp => pts_nil) (fun s H C cl fp => (tr_expr n (hx s H C cl fp) elt e' h9).v) (g2 _) (fold_iter h5)) fun σ H Q q => lc2_read u2 (sub_ok hsub.1) u4 (fun i hi => hi) q, jt_stuck fun _ _ => rfl⟩
          · cases h8
        · cases ht
      · cases ht
    | Dict ks vs pos =>
      unfold trE at ht
      dsimp only at ht
      split at ht
      · rename_i hkv
        obtain rfl : ks = [] := by cases ks <;> first | rfl | cases hkv.1
        obtain rfl : vs = [] := by cases vs <;> first | rfl | cases hkv.2
        cases ht
        refine ⟨je_eq je_dic0 fun δ μ => ?_, jt_stuck fun _ _ => rfl⟩
        rw [ev, evp]
        show dispD [] μ.length (μ ++ [.dic []]) = _
        unfold dispD
        rw [show (μ ++ [MO.dic []])[μ.length]? = some (.dic []) by simp]
        dsimp only
        rw [if_pos ⟨rfl, by simp⟩]
        show Res.ok (D.loc μ.length) ((μ ++ [MO.dic []]).set μ.length (.dic [])) = _
        rw [List.set_append_right _ _ (Nat.le_refl _), Nat.sub_self]
        rfl
      · split at ht
        · rename_i hc
          obtain ⟨r, h1, rfl⟩ := Option.map_eq_some_iff.mp ht
          exact ⟨je_dic (tr_pairs ih h1) hc.1 hc.2.1 (by intro e; rw [e] at hc; exact absurd hc.2.2.2 (by simp)) hc.2.2.1, jt_stuck fun _ _ => rfl⟩
        · cases ht
    | DictComp kx vx gens scope pos =>
      unfold trE at ht
      dsimp only at ht
      split at ht
      · rename_i tg it ifs ai
        split at ht
        · rename_i hc
          obtain ⟨rfl, hifs, hb⟩ := hc
          obtain rfl : ifs = [] := by cases ifs <;> first | rfl | cases hifs
          obtain ⟨it', h1, h2⟩ := Option.bind_eq_some_iff.mp ht
          obtain ⟨t, h3, h4⟩ := Option.bind_eq_some_iff.mp h2
          split at h4
          · rename_i hsub
            obtain ⟨k', h5, h6⟩ := Option.bind_eq_some_iff.mp h4
            obtain ⟨v', h7, rfl⟩ := Option.map_eq_some_iff.mp h6
            obtain ⟨g1, g2⟩ := tr_iter h ih (tg := tg) h1
            have ok := blkOk_by hb
            have hx := fun s H C cl fp => h.blk scope ok.kind s H C cl fp
            have t1 := fun s H C cl fp => tr_tgt (hx s H C cl fp) n _ t h3
            have t2 := gok_of (κ := κ) t
            have ok' : BlkOk X.N X.env.scope scope (ownOf c.N scope) := by rw [h.N, h.sc]; exact ok
            exact ⟨pe_imp (pe_dc h.calm (by rw [h.N]; exact h.nd) g1 ok' t1 (fun s H C cl fp => pts_nil) (fun s H C cl fp => (tr_expr n (hx s H C cl fp) kx k' h5).v) (fun s H C cl fp => (tr_expr n (hx s H C cl fp) vx v' h7).v) (g2 _)) fun σ H Q q => dc_read t2 (sub_ok hsub) q, jt_stuck fun _ _ => rfl⟩
          · cases h4
        · cases ht
      · cases ht
    | _ => unfold trE at ht; cases ht
end
end Tk

namespace Tk
open PySem PySem.Spec PyProof.Rows L2

/-! ### raise C(e) -/
section
variable {κ : Kx} {Ω : Om} {k : Nat} {c : Ctx} {X : Cx} {W : WX}
theorem mkX_rep {ρ H} {names : List Str} {d : D} {v : V} (h : Rep κ ρ H d v) : ∀ cc : Nat, RepF κ ρ H (mkX names cc d) (flX names cc v)
  | 0 => ⟨_, _, rfl, rep_str.mpr rfl, _, _, rfl, h, rfl⟩
  | cc + 1 => ⟨_, _, rfl, rep_str.mpr rfl, _, _, rfl, rep_str.mpr rfl, _, _, rfl, h, rfl⟩
theorem js_raise (h : XOk c κ Ω k X W) (hlow : c.low = false) {cc : Nat} {x : Str} {e : Expr} {e' : E} {p pos rpos : Pos} (hg : c.glob x = some (.xcl cc)) (he : JE κ X W e (ev Ω e')) (hp : plainB e = true) :
    JS κ X W (.Raise (some (.Call (.Name x p) [e] [] pos)) none rpos) (evS Ω (.raise_ cc (.cons e' .nil))) := by
  obtain ⟨g1, g2, _, g3⟩ := h.gl hg
  by_cases hx : Ω.xo = true ∧ cc < Ω.X.length
  · obtain ⟨fI, k', fd, ps, rfl, T, iC, tI, F1, hb⟩ := h.xmk hlow hx.1 cc hx.2
    have ja : JA κ X W [e] (evs Ω (.cons e' .nil)) := by
      have := ja_cons he (ja_nil (κ := κ) (X := X) (W := W)) (star_cons hp)
      have e0 : evs Ω (.cons e' .nil) = fun δ μ => (ev Ω e' δ μ).bind fun d μ1 => (Res.ok [] μ1 : Res (List D)).bind fun ds μ2 => .ok (d :: ds) μ2 := by
        funext δ μ
        rw [evs]
        rfl
      rw [e0]
      exact this
    refine ps_imp (ps_raise h.calm h.tk (pmk_oex (CX := L2.CX X.prog X.w) T iC tI F1 h.room hb .nil (fun pins σ H s e s' I c => (TkExc.cx_no H s e s' c).elim) g1 (h.xg x cc g3) ja g2 (star_cons hp) rfl)) fun D σ H ⟨ρ, δ, μ, s, r, q⟩ => ?_
    have q : PostS κ W ρ H (if Ω.xo = true ∧ cc < Ω.X.length then RS.of δ (evs Ω (.cons e' .nil) δ μ) fun ds μ1 => raiseR Ω cc ds δ μ1 else .stuck) D := q
    rw [if_pos hx] at q
    refine gos (Ra := Reps κ) s r q fun ρ1 H1 ds vs μ1 e1 s1 r1 x1 p1 => ?_
    match ds, x1, p1 with
    | [d], x1, p1 =>
      obtain ⟨v, rfl, hv⟩ := reps1 x1
      have p2 : PostS κ W ρ1 H1 (.exc cc (mkX Ω.X cc d) δ μ1) D := p1
      refine ⟨by show 1 ≤ 1000; omega, fun a ha => ⟨a, κ.xl cc, v, rfl, rfl, upd_same, fun dx H2 h1 h2 h3 h4 h5 => ⟨rfl, dx, _, h3, h4, ?_, ?_⟩⟩⟩
      · rw [upd_ne h2] at h1
        exact h1
      · rw [upd_ne h2] at h1
        have eH : upd (del H2 a) dx (.xd (flX Ω.X cc v)) = upd H1 dx (.xd (flX Ω.X cc v)) := by
          funext b
          by_cases hb : b = dx
          · rw [hb, upd_same, upd_same]
          · rw [upd_ne hb, upd_ne hb]
            by_cases hba : b = a
            · rw [hba, del_same, ha]
            · rw [del_ne hba, h5 b hba hb, upd_ne hba]
        rw [eH]
        have ex : Ext ρ1 H1 ρ1 (upd H1 dx (.xd (flX Ω.X cc v))) := .newt h1
        exact p2 ρ1 _ σ dx _ ex (r1.newt h1) (s1.ext ex) ⟨upd_same, fun n z => r1.ne_none z h1⟩ (mkX_rep (hv.ext ex) cc)
    | [], _, p1 => exact p1.elim
    | _ :: _ :: _, _, p1 => exact p1.elim
  · refine ⟨fun pins s σ H D I q => ?_⟩
    obtain ⟨ρ, δ, μ, s1, r, q⟩ := q
    have q : PostS κ W ρ H (if Ω.xo = true ∧ cc < Ω.X.length then RS.of δ (evs Ω (.cons e' .nil) δ μ) fun ds μ1 => raiseR Ω cc ds δ μ1 else .stuck) D := q
    rw [if_neg hx] at q
    exact q.elim
end

/-! ### the suite of an except clause: return e, e of the exception's fields and of what needs no call of an own def -/
/-- a reading by an evaluation: slot i holds the caught exception, a; its dict is dd -/
def tX (κ : Kx) {α β : Type} (Ra : List Addr → Hp → α → β → Prop) (i : Nat) (a dd : Addr) (m : Dl → Mu → Res α) : L2.St → Hp → (β → Hp → Prop) → Prop := fun σ H Q =>
  ∃ ρ δ μ, RepS κ ρ H (δ.set i none) σ ∧ (∀ n, δ[i]? = some (some (.loc n)) → σ[i]? = some (some (.ref a)) ∧ ρ[n]? = some dd) ∧ Rel κ ρ H μ ∧ Post κ Ra W0 σ ρ H (m δ μ) Q
section
variable {κ : Kx} {α β γ δ' : Type} {Ra : List Addr → Hp → α → β → Prop} {Rc : List Addr → Hp → γ → δ' → Prop} {σ : L2.St} {ρ ρ' : List Addr} {H H' : Hp} {δ : Dl} {μ : Mu} {i : Nat} {a dd : Addr}
abbrev At (δ : Dl) (σ : L2.St) (ρ : List Addr) (i : Nat) (a dd : Addr) : Prop := ∀ n, δ[i]? = some (some (.loc n)) → σ[i]? = some (some (.ref a)) ∧ ρ[n]? = some dd
theorem goX {m : Dl → Mu → Res α} {f : α → Mu → Res γ} {Q : δ' → Hp → Prop} {Q' : β → Hp → Prop} (s : RepS κ ρ H (δ.set i none) σ) (t : At δ σ ρ i a dd) (r : Rel κ ρ H μ) (h : Post κ Rc W0 σ ρ H ((m δ μ).bind f) Q)
    (k : ∀ ρ1 H1 x v μ1, Ext ρ H ρ1 H1 → RepS κ ρ1 H1 (δ.set i none) σ → At δ σ ρ1 i a dd → Rel κ ρ1 H1 μ1 → Ra ρ1 H1 x v → Post κ Rc W0 σ ρ1 H1 (f x μ1) Q → Q' v H1) : tX κ Ra i a dd m σ H Q' :=
  ⟨ρ, δ, μ, s, t, r, (Post.bind h).mono fun v H1 ⟨ρ1, x, μ1, e, r1, y, p⟩ => k ρ1 H1 x v μ1 e (s.ext e) (fun n hn => ⟨(t n hn).1, e.pre _ _ (t n hn).2⟩) r1 y p⟩
theorem golX {m : Dl → Mu → Res α} {Q : β → Hp → Prop} (s : RepS κ ρ H (δ.set i none) σ) (t : At δ σ ρ i a dd) (r : Rel κ ρ H μ) (h : Post κ Ra W0 σ ρ H (m δ μ) Q) : tX κ Ra i a dd m σ H Q := ⟨ρ, δ, μ, s, t, r, h⟩
end
section
variable {κ : Kx} {X : Cx} {i : Nat} {x dd : Addr} {e a b : Expr} {es : List Expr} {pos p : Pos} {m ma mb : Dl → Mu → Res D} {ms : Dl → Mu → Res (List D)}
abbrev JX (κ : Kx) (X : Cx) (i : Nat) (x dd : Addr) (e : Expr) (m : Dl → Mu → Res D) : Prop := PE X e (tX κ (Rep κ) i x dd m)
abbrev JXA (κ : Kx) (X : Cx) (i : Nat) (x dd : Addr) (e : List Expr) (m : Dl → Mu → Res (List D)) : Prop := PA X e (tX κ (Reps κ) i x dd m)
theorem jx_c {d : D} {v : V} (h : PE X e (tC v)) (hd : ∀ ρ H, Rep κ ρ H d v) : JX κ X i x dd e (fun _ μ => .ok d μ) :=
  pe_imp h fun σ H Q ⟨ρ, δ, μ, s, t, r, p⟩ => p.ok r (hd ρ H)
theorem jx_v {j : Nat} (hj : j ≠ i) {n : Str} (h : PE X (.Name n pos) (tVar j)) : JX κ X i x dd (.Name n pos) (fun δ μ => match δ[j]? with
    | some (some d) => .ok d μ
    | _ => .stuck) := by
  refine pe_imp h fun σ H Q ⟨ρ, δ, μ, s, t, r, p⟩ => ?_
  dsimp only at p
  split at p
  · rename_i d hd
    obtain ⟨v, h1, h2⟩ := s.at_ j d (by rw [List.getElem?_set_ne (Ne.symm hj)]; exact hd)
    exact ⟨v, h1, p.ok r h2⟩
  · exact p.elim
theorem jxa_nil : JXA κ X i x dd [] (fun _ μ => .ok [] μ) := pa_imp pa_nil fun σ H Q ⟨ρ, δ, μ, s, t, r, p⟩ => p.ok r .nil
theorem jxa_cons (ha : JX κ X i x dd a ma) (hr : JXA κ X i x dd es ms) (hs : starEach (a :: es) X.env = (false, eval a X.env) :: starEach es X.env) :
    JXA κ X i x dd (a :: es) (fun δ μ => (ma δ μ).bind fun d μ1 => (ms δ μ1).bind fun ds μ2 => .ok (d :: ds) μ2) :=
  pa_imp (pa_cons ha hr hs) fun σ H Q ⟨ρ, δ, μ, s, t, r, p⟩ =>
    goX s t r p fun ρ1 H1 d v μ1 e1 s1 t1 r1 x1 p1 => goX s1 t1 r1 p1 fun ρ2 H2 ds vs μ2 e2 s2 t2 r2 x2 p2 => p2.ok r2 (.cons (x1.ext e2) x2)
theorem jx_tup {k : Nat} (h : JXA κ X i x dd es ms) : JX κ X i x dd (.Tuple es k pos) (fun δ μ => (ms δ μ).bind fun ds μ1 => if ds.length ≤ sizeLine then .ok (.tup ds) μ1 else .stuck) :=
  pe_imp (pe_tup h) fun σ H Q ⟨ρ, δ, μ, s, t, r, p⟩ => goX s t r p fun ρ1 H1 ds vs μ1 e1 s1 t1 r1 x1 p1 => by
    split at p1
    · rename_i hl
      exact ⟨by rw [← x1.len]; exact hl, fun q hq => p1.newt r1 x1 hq⟩
    · exact p1.elim
theorem goX2 {g : D → D → Mu → Res D} {r2 : R2} {σ : L2.St} {H : Hp} {Q : VK} (hr : ∀ x y H Q, (∃ ρ μ dx dy W σ, Rel κ ρ H μ ∧ Rep κ ρ H dx x ∧ Rep κ ρ H dy y ∧ Post κ (Rep κ) W σ ρ H (g dx dy μ) Q) → r2 x y H Q)
    (h : tX κ (Rep κ) i x dd (fun δ μ => (ma δ μ).bind fun x μ1 => (mb δ μ1).bind fun y μ2 => g x y μ2) σ H Q) : tOp r2 (tX κ (Rep κ) i x dd ma) (tX κ (Rep κ) i x dd mb) σ H Q := by
  obtain ⟨ρ, δ, μ, s, t, r, p⟩ := h
  exact goX s t r p fun ρ1 H1 d v μ1 e1 s1 t1 r1 x1 p1 => goX s1 t1 r1 p1 fun ρ2 H2 d2 v2 μ2 e2 s2 t2 r2 x2 p2 => hr _ _ _ _ ⟨ρ2, μ2, d, d2, W0, σ, r2, x1.ext e2, x2, p2⟩
theorem jx_bin {o : Operator} {g : D → D → Mu → Res D} (ho : OpJ κ X (binaryOp o) g) (ha : JX κ X i x dd a ma) (hb : JX κ X i x dd b mb) :
    JX κ X i x dd (.BinOp a o b pos) (fun δ μ => (ma δ μ).bind fun x μ1 => (mb δ μ1).bind fun y μ2 => g x y μ2) :=
  pe_imp (pe_op ho ha hb) fun σ H Q h => goX2 (fun _ _ _ _ z => z) h
theorem jx_cmp {o : CmpOp} {g : D → D → Mu → Res D} (ho : OpJ κ X (compareOp o) g) (ha : JX κ X i x dd a ma) (hb : JX κ X i x dd b mb) (hm : behindInMarks o b = false) :
    JX κ X i x dd (.Compare a [o] [b] pos) (fun δ μ => (ma δ μ).bind fun x μ1 => (mb δ μ1).bind fun y μ2 => g x y μ2) :=
  pe_imp (pe_cmpR ho ha hb hm) fun σ H Q h => goX2 (fun _ _ _ _ z => z) h
theorem jx_and (ha : JX κ X i x dd a ma) (hb : JX κ X i x dd b mb) : JX κ X i x dd (.BoolOp .And [a, b] pos) (fun δ μ => (ma δ μ).bind fun x μ1 => match x with
    | .bl true => mb δ μ1
    | .bl false => .ok (.bl false) μ1
    | _ => .stuck) :=
  pe_imp (pe_and ha (pe_one hb)) fun σ H Q ⟨ρ, δ, μ, s, t, r, p⟩ => goX s t r p fun ρ1 H1 d v μ1 e1 s1 t1 r1 x1 p1 => by
    split at p1
    · obtain rfl := rep_bl.mp x1
      refine ⟨true, rfl, ?_⟩
      rw [if_pos rfl]
      exact golX s1 t1 r1 p1
    · obtain rfl := rep_bl.mp x1
      refine ⟨false, rfl, ?_⟩
      rw [if_neg Bool.false_ne_true]
      exact p1.ok r1 (rep_bl.mpr rfl)
    · exact p1.elim
theorem jx_len {n : Str} (hn : n = "len") (hK : X.K = κ.K) (hg : Gl X n) (hm : X.mg n = none) (ha : JXA κ X i x dd (a :: es) ms) (he : starEach (a :: es) X.env = (false, eval a X.env) :: starEach es X.env) (hpl : (backTo pos (starEach es X.env)).any (·.1) = false) :
    JX κ X i x dd (.Call (.Name n p) (a :: es) [] pos) (fun δ μ => (ms δ μ).bind fun ds μ1 => bltD .len ds μ1) := by
  subst hn
  refine pe_imp (pe_callB (cj_bltD hK .len fun z => absurd rfl z) hg hm PySem.boot_len ha (by decide +kernel) (by decide +kernel) he hpl) fun σ H Q ⟨ρ, δ, μ, s, t, r, q⟩ =>
    goX s t r q fun ρ1 H1 ds vs μ1 e1 s1 t1 r1 x1 p1 => ⟨ρ1, μ1, ds, W0, σ, r1, x1, p1⟩
theorem repF_look {ρ H} : ∀ {fs : List (Str × D)} {gs : List (Str × V)}, RepF κ ρ H fs gs → ∀ {f : Str} {d : D}, fs.lookup f = some d → ∃ v, gs.lookup f = some v ∧ Rep κ ρ H d v
  | [], _, _, f, d, h => by cases h
  | (n, y) :: fs, gs, hf, f, d, h => by
    obtain ⟨v, r, rfl, h1, h2⟩ := hf
    rw [List.lookup_cons] at h ⊢
    cases hb : f == n with
    | true =>
      rw [hb] at h
      cases h
      exact ⟨v, rfl, h1⟩
    | false =>
      rw [hb] at h
      exact repF_look h2 h
/-- e.f -/
theorem jx_xf {C a : Addr} {oe : Obj} {cls : Value} {pn : List (Addr × Obj)} {n f : Str} {p2 : Pos} (T : XfC X.K C) (hno : PySem.W.findIn X.K (.ref C) f = some none) (hc : cls = .ref C) (hz : Zc cls (some dd) oe) (hf : ∃ vs, oe.data = .fields vs) (he : PE (X.suite a ((a, oe) :: pn)) (.Name n p2) (tVar i)) :
    JX κ (X.suite a ((a, oe) :: pn)) i a dd (.Attribute (.Name n p2) f pos) (fun δ μ => xfD f μ δ[i]?) := by
  refine pe_imp (pe_xf T hno hz hf he) fun σ H Q ⟨ρ, δ, μ, s, t, r, p⟩ => ?_
  unfold xfD at p
  dsimp only at p
  split at p
  · rename_i l hl
    obtain ⟨t1, t2⟩ := t l hl
    split at p
    · rename_i fs hfs
      split at p
      · rename_i d hd
        obtain ⟨o, h1, h2⟩ := r.at t2
        rw [hfs] at h1
        cases h1
        obtain ⟨gs, h3, h4⟩ := h2
        obtain ⟨v, h5, h6⟩ := repF_look h4 hd
        exact ⟨_, t1, rfl, hc, dd, gs, v, rfl, h3, h5, p.ok r h6⟩
      · exact p.elim
    · exact p.elim
  · exact p.elim
end
/-! the translation -/
def trX (c : Ctx) (i : Nat) (nm : Str) : Nat → Expr → Option E
  | 0, _ => none
  | n + 1, e => match e with
    | .Constant k _ _ => (match k with
      | .none => some (.c .non)
      | .bool b => some (.c (.bl b))
      | .int i => some (.c (.int i))
      | .str x => some (.c (.str x))
      | _ => none)
    | .Name x _ => (c.slot x).bind fun j => if j = i then none else some (.v j)
    | .Attribute (.Name x _) f _ => if c.slot x = some i ∧ (f = "place" ∨ f = "name") then some (.xf i f) else none
    | .Tuple es _ _ => (trL (trX c i nm n) es).map .tup
    | .BinOp a o b _ => (trX c i nm n a).bind fun a' => (trX c i nm n b).map fun b' => .bin o a' b'
    | .Compare a [o] [b] _ => if behindInMarks o b = true then none else (trX c i nm n a).bind fun a' => (trX c i nm n b).map fun b' => .cmp o a' b'
    | .BoolOp .And [a, b] _ => (trX c i nm n a).bind fun a' => (trX c i nm n b).map fun b' => .and a' b'
    | .Call (.Name x _) [a] [] _ => if x = "len" ∧ c.freeB x = true ∧ plainB a = true then (trX c i nm n a).map fun a' => .blt .len (.cons a' .nil) else none
    | _ => none
section
variable {κ : Kx} {Ω : Om} {c : Ctx} {X : Cx} {i : Nat} {nm : Str} {a dd C : Addr} {oe : Obj} {cls : Value} {pn : List (Addr × Obj)}
theorem trX_list {f : Expr → Option E} (hf : ∀ e t, f e = some t → JX κ X i a dd e (ev Ω t)) : ∀ {es : List Expr} {r : Es}, trL f es = some r → JXA κ X i a dd es (evs Ω r)
  | [], r, h => by
    unfold trL at h
    cases h
    exact jxa_nil
  | e :: es, r, h => by
    unfold trL at h
    split at h
    · rename_i hp
      obtain ⟨a, h1, h2⟩ := Option.bind_eq_some_iff.mp h
      obtain ⟨b, h3, h4⟩ := Option.bind_eq_some_iff.mp h2
      cases h4
      exact jxa_cons (hf e a h1) (trX_list hf h3) (star_cons hp)
    · cases h
theorem slot_of (hN : X.N = c.N) (hsc : X.env.scope = c.sc) {x : Str} {i : Nat} {pos : Pos} (hs : c.slot x = some i) : PE X (.Name x pos) (tVar i) := by
  unfold Ctx.slot at hs
  split at hs
  · rename_i hc
    refine pe_var (by rw [hN]; exact idx_some hs) ?_ hc.2.1 hc.2.2
    unfold Vis
    rw [hsc]
    have h1 := hc.1
    unfold isLoc at h1
    split at h1
    · exact .inl (by assumption)
    · exact .inr (.inl (by assumption))
    · exact .inr (.inr (by assumption))
    · cases h1
  · cases hs
theorem trX_ok {k : Nat} {W : WX} (h : XOk c κ Ω k X W) {cc : Nat} (hcc : cc < Ω.X.length) (hc : cls = .ref (κ.xl cc)) (hz : Zc cls (some dd) oe) (hf : ∃ vs, oe.data = .fields vs) : ∀ (n : Nat) (e : Expr) (t : E), trX c i nm n e = some t → JX κ (X.suite a ((a, oe) :: pn)) i a dd e (ev Ω t)
  | 0, e, t, ht => by unfold trX at ht; cases ht
  | n + 1, e, t, ht => by
    have ih := trX_ok h hcc hc hz hf n
    have hK : (X.suite a ((a, oe) :: pn)).K = κ.K := h.hK
    have hu : (X.suite a ((a, oe) :: pn)).A.units + 64 < cLine := (units_of h.room).1
    have sl : ∀ {x : Str} {j : Nat} {pos : Pos}, c.slot x = some j → PE (X.suite a ((a, oe) :: pn)) (.Name x pos) (tVar j) := fun hs => slot_of (X := X.suite a ((a, oe) :: pn)) h.N h.sc hs
    unfold trX at ht
    split at ht
    · split at ht
      · cases ht; exact jx_c pe_non fun ρ H => rep_non.mpr rfl
      · cases ht; exact jx_c pe_bl fun ρ H => rep_bl.mpr rfl
      · cases ht; exact jx_c pe_int fun ρ H => rep_int.mpr rfl
      · cases ht; exact jx_c pe_str fun ρ H => rep_str.mpr rfl
      · cases ht
    · obtain ⟨j, h1, h2⟩ := Option.bind_eq_some_iff.mp ht
      split at h2
      · cases h2
      · rename_i hj
        cases h2
        exact jx_v hj (sl h1)
    · split at ht
      · rename_i hx
        cases ht
        obtain ⟨f1, f2, f3⟩ := h.xrd.xf cc hcc
        refine jx_xf f1 ?_ hc hz hf (sl hx.1)
        rcases hx.2 with rfl | rfl
        · exact f2
        · exact f3
      · cases ht
    · obtain ⟨r, h1, rfl⟩ := Option.map_eq_some_iff.mp ht
      exact jx_tup (trX_list ih h1)
    · obtain ⟨a', h1, h2⟩ := Option.bind_eq_some_iff.mp ht
      obtain ⟨b', h3, rfl⟩ := Option.map_eq_some_iff.mp h2
      exact jx_bin (oj_bin hK _) (ih _ a' h1) (ih _ b' h3)
    · split at ht
      · cases ht
      · rename_i hm
        obtain ⟨a', h1, h2⟩ := Option.bind_eq_some_iff.mp ht
        obtain ⟨b', h3, rfl⟩ := Option.map_eq_some_iff.mp h2
        exact jx_cmp (oj_cmpD hK hu _) (ih _ a' h1) (ih _ b' h3) (by simpa using hm)
    · obtain ⟨a', h1, h2⟩ := Option.bind_eq_some_iff.mp ht
      obtain ⟨b', h3, rfl⟩ := Option.map_eq_some_iff.mp h2
      exact jx_and (ih _ a' h1) (ih _ b' h3)
    · split at ht
      · rename_i hx
        obtain ⟨hn, hfr, hp⟩ := hx
        obtain ⟨a', h1, rfl⟩ := Option.map_eq_some_iff.mp ht
        unfold Ctx.freeB at hfr
        split at hfr
        · rename_i hg
          obtain ⟨g1, g2, _, g3⟩ := h.gl hg
          have ja := jxa_cons (ih _ a' h1) (jxa_nil (κ := κ) (X := X.suite a ((a, oe) :: pn)) (i := i) (x := a) (dd := dd)) (star_cons hp)
          have e0 : evs Ω (.cons a' .nil) = fun δ μ => (ev Ω a' δ μ).bind fun d μ1 => (Res.ok [] μ1 : Res (List D)).bind fun ds μ2 => .ok (d :: ds) μ2 := by
            funext δ μ
            rw [evs]
            rfl
          rw [← e0] at ja
          exact jx_len hn hK g1 (h.free _ g3) ja (star_cons hp) rfl
        · cases hfr
      · cases ht
    · cases ht
end

/-! ### try: body / except C as n: return e -/
section
variable {κ : Kx} {Ω : Om} {k : Nat} {c : Ctx} {X : Cx} {W : WX}
theorem js_try (h : XOk c κ Ω k X W) (hs : X.stack = X.env :: X.outer) (hfr : X.env.frame = some X.env.locals) {cc i m : Nat} {x nm : Str} {body : List Stmt} {b' : Ss} {e : Expr} {e' : E} {np hp rp pos : Pos} (hg : c.glob x = some (.xcl cc)) (hi : X.N[i]? = some nm) (hln : X.env.scope.names.lookup nm = some .local)
    (hb : ∀ (W' : WX) (pn : List (Addr × Obj)) (xe : Value → Shared → Prop), Takes (X.tr pn xe) W' → PassesOwn (model X.prog X.w) X.A X.env xe → JSs κ (X.tr pn xe) W' body (evSs Ω b'))
    (he : trX c i nm m e = some e') : JS κ X W (.Try body [.ExceptHandler (some (.Name x np)) (some nm) [.Return (some e) rp] hp] [] [] pos) (evS Ω (.tryR b' cc i e')) := by
  obtain ⟨g1, g2, _, g3⟩ := h.gl hg
  have hN : Names X x (.ref (κ.xl cc)) := ⟨g1, g2, .inl (h.xg x cc g3)⟩
  refine ps_imp (ps_try_as (tb := fun W' => tS κ W' (evSs Ω b')) (ts := fun a cls d D σ H => ∃ dd c', d = some dd ∧ cls = .ref (κ.xl c') ∧ c' < Ω.X.length ∧ tX κ (Rep κ) i a dd (ev Ω e') σ H fun v H' => D.rt v H') (Wout := W) (c := .ref (κ.xl cc)) hs hfr (by rw [h.N]; exact h.nd) hi hln hN h.tk (fun W' pn xe t1 t2 => hb W' pn xe t1 t2) fun a oe cls d pn hz hf => ?_) fun D σ H ⟨ρ, δ, μ, s, r, q⟩ => ?_
  · refine ⟨fun pins s σ H D I ⟨dd, c', hd, hcl, hc', t⟩ => ?_⟩
    subst hd
    exact (pss_cons (ps_ret (trX_ok h hc' hcl hz hf m e e' he)) pss_nil).run pins s σ H D I t
  · refine ⟨ρ, δ, μ, s, r, ?_⟩
    have q : PostS κ W ρ H (tryK Ω (ev Ω e') cc i (evSs Ω b' δ μ)) D := q
    cases hm : evSs Ω b' δ μ with
    | nx δ1 μ1 => rw [hm] at q; exact q
    | ret d μ1 => rw [hm] at q; exact q
    | brk δ1 μ1 => rw [hm] at q; exact q
    | cont δ1 μ1 => rw [hm] at q; exact q
    | stuck => rw [hm] at q; exact q.elim
    | exc c' fs δ1 μ1 =>
      rw [hm] at q
      unfold tryK at q
      dsimp only at q
      split at q
      · rename_i hlt
        intro ρ1 H1 σ1 dd gs e1 r1 s1 h1 f1
        refine ⟨xsub c' cc, by rw [h.xrd.xm c' cc hlt.1 hlt.2], fun hx a ha => ?_, fun hx => ?_⟩
        · rw [if_pos hx] at q
          obtain ⟨r2, e2⟩ := r1.adopt h1 f1
          refine ⟨dd, c', rfl, rfl, hlt.1, ρ1 ++ [dd], δ1.set i (some (.loc μ1.length)), μ1 ++ [.xd fs], ?_, fun n hn => ?_, r2, ?_⟩
          · rw [List.set_set]
            exact (s1.ext e2).hole i _
          · by_cases hl : i < δ1.length
            · rw [List.getElem?_set_self hl] at hn
              cases hn
              exact ⟨List.getElem?_set_self (by rw [← s1.len]; exact hl), by rw [List.getElem?_append_right (by rw [r1.len]; exact Nat.le_refl _), r1.len, Nat.sub_self]; rfl⟩
            · rw [List.getElem?_eq_none (by simpa using hl)] at hn
              cases hn
          · have q2 := PostS.ext e2 (PostS.ext e1 q)
            cases hv : ev Ω e' (δ1.set i (some (.loc μ1.length))) (μ1 ++ [.xd fs]) with
            | ok d μ2 => rw [hv] at q2; exact q2
            | exc _ _ _ => rw [hv] at q2; exact q2.elim
            | stuck => rw [hv] at q2; exact q2.elim
        · rw [if_neg (by rw [hx]; exact Bool.false_ne_true)] at q
          exact q ρ1 H1 σ1 dd gs e1 r1 s1 h1 f1
      · exact q.elim
end
end Tk

namespace Tk
open PySem PySem.Spec PyProof.Rows L2

/-! ### stores by place -/
section
variable {κ : Kx} {X : Cx}
def rSetJ (κ : Kx) : TSet := fun o i v H Q => ∃ ρ μ d1 d2 d3 W σ, Rel κ ρ H μ ∧ Rep κ ρ H d1 o ∧ Rep κ ρ H d2 i ∧ Rep κ ρ H d3 v ∧ Post κ (fun _ _ (_ : Unit) (_ : Unit) => True) W σ ρ H (setixD d1 d2 d3 μ) (fun _ H' => Q H')
theorem Rel.wdic {ρ H μ} (r : Rel κ ρ H μ) {n : Nat} {a : Addr} {ks ls : List (Key × V)} {kvs : List (D × D)} (ha : ρ[n]? = some a) (h : H a = some (.dK ks)) (hs : RepK κ ρ H kvs ls) : Rel κ ρ (upd H a (.dK ls)) (μ.set n (.dic kvs)) ∧ Ext ρ H ρ (upd H a (.dK ls)) :=
  ⟨r.write ha (not_tup_dK h) ⟨ls, upd_same, hs.ext (.write (not_tup_dK h))⟩, .write (not_tup_dK h)⟩
theorem set_any (hu : X.A.units + 1 < cLine) : PSet X (rSetJ κ) := by
  intro pins s σ H o i v ov iv u Q I ro ri rv h
  obtain ⟨ρ, μ, d1, d2, d3, W, σ', r, h1, h2, h3, p⟩ := h
  unfold setixD at p
  split at p
  · obtain ⟨a, g0, rfl⟩ := rep_loc.mp h1
    split at p
    · rename_i xs hl
      obtain ⟨vs, g1, g2⟩ := r.lst hl g0
      split at p
      · obtain rfl := rep_int.mp h2
        split at p
        · rename_i j hj
          obtain ⟨r', e'⟩ := r.wlst g0 g1 (g2.set h3 j)
          exact set_list pins s σ H _ _ v ov iv u Q I ro ri rv ⟨a, vs, _, j, rfl, rfl, g1, by rw [← g2.len]; exact hj, p ρ _ () e' r' trivial⟩
        · exact p.elim
      · exact p.elim
    · rename_i kvs hl
      obtain ⟨ks, g1, g2⟩ := r.dic hl g0
      split at p
      · rename_i k hk
        split at p
        · rename_i hlen
          obtain rfl := rep_key hk h2
          obtain ⟨r', e'⟩ := r.wdic g0 g1 (putKD hk h3 g2)
          obtain rfl : ov = Value.ref a := ro
          exact d_setItem hu I (.k g1 (by rw [← lenK g2]; exact hlen)) ri rv fun s' I' => ⟨_, I', p ρ _ () e' r' trivial⟩
        · exact p.elim
      · exact p.elim
    · exact p.elim
  · exact p.elim
end

/-! ### a, b, c = x, y, z with plain local names -/
section
variable {X : Cx} {pos : Pos}
def tPar3 (i j k : Nat) (ta : TA) : TS := fun D σ H => ta σ H fun vs H1 => ∃ v w z, vs = [v, w, z] ∧ D.nx (((σ.set i (some v)).set j (some w)).set k (some z)) H1
theorem vals3 {x y z : V} {us : List Value} (r : Vals [x, y, z] us) : ∃ u1 u2 u3, us = [u1, u2, u3] ∧ RelV x u1 ∧ RelV y u2 ∧ RelV z u3 := by
  cases r with
  | cons p q =>
    cases q with
    | cons p' q' =>
      cases q' with
      | cons p'' q'' =>
        cases q''
        exact ⟨_, _, _, rfl, p, p', p''⟩
theorem ps_par3 {i j k : Nat} {x y z : Str} {a b c : Expr} {ta : TA} {px py pz pt : Pos} {kt k2 pt2} (hc : X.calm = true) (hN : X.N.Nodup) (hi : X.N[i]? = some x) (hj : X.N[j]? = some y) (hk : X.N[k]? = some z) (hij : i ≠ j) (hik : i ≠ k) (hjk : j ≠ k)
    (hx : X.env.scope.names.lookup x = some .local) (hy : X.env.scope.names.lookup y = some .local) (hz : X.env.scope.names.lookup z = some .local) (ha : PA X [a, b, c] ta)
    (hw : swappedStores [.Tuple [.Name x px, .Name y py, .Name z pz] kt pt] (.Tuple [a, b, c] k2 pt2) X.env = pure (some [x, y, z]))
    (hs : swapsWithSole [.Tuple [.Name x px, .Name y py, .Name z pz] kt pt] (.Tuple [a, b, c] k2 pt2) pos.line X.env = pure false := by rfl) :
    PS X (.Assign [.Tuple [.Name x px, .Name y py, .Name z pz] kt pt] (.Tuple [a, b, c] k2 pt2) pos) (tPar3 i j k ta) := by
  refine ⟨fun pins s σ H D I h => ?_⟩
  rw [exec_Assign_arm]
  refine wpAny_bind (wpAny_standAt ?_)
  rw [hs]
  refine wpAny_bind (wpAny_pure ?_)
  rw [if_neg (by decide)]
  refine wpAny_bind (Tuple_ (thn (ha.run _ pins s σ H _ I h) fun us s1 ⟨vs, H1, I1, r1, q1⟩ => ?_))
  obtain ⟨v, w, zz, e1, q1⟩ := q1
  subst e1
  obtain ⟨u1, u2, u3, rfl, rv, rw', rz⟩ := vals3 r1
  refine wpAny_newObj_type ?_ (by show 3 ≤ sizeLine; decide)
  have I2 : Inv X pins σ H1 { s1 with heap := s1.heap.push { cls := .type "tuple", data := .seq [u1, u2, u3].toArray } } := I1.kept (t' := s1.toks) fun b o e => Heap.get?_push_of_some _ e
  rw [hw]
  refine wpAny_bind (wpAny_pure ?_)
  show wpAny (model X.prog X.w) X.A (do rule "assign.swapped-stores"; let items ← unpackItems (.ref s1.heap.objs.size) 3 none; assignInOrder [fun v => bindName X.env z v, fun v => bindName X.env y v, fun v => bindName X.env x v] items.reverse; pure Flow.next) _ _ _
  refine wpAny_bind (wpAny_rule (wpAny_bind (unpackItems_tuple (items := #[u1, u2, u3]) (I.ok.hd hc) (IsTup.new s1.heap _) fun h' hx' => ?_)))
  have I3 := I2.kept (h' := h') (t' := s1.toks) fun b o e => hx' b o (Nat.ne_of_lt (Heap.lt_size e)) e
  show wpAny _ _ (assignInOrder [fun v => bindName X.env z v, fun v => bindName X.env y v, fun v => bindName X.env x v] [u3, u2, u1] >>= fun _ => pure Flow.next) _ _ _
  refine wpAny_bind (assignInOrder_cons (wpAny_bindName (store_ok I3 hN hk (.inl hz) rz (fun s2 I4 => ?_) (.inr hz))))
  refine assignInOrder_cons (wpAny_bindName (store_ok I4 hN hj (.inl hy) rw' (fun s3 I5 => ?_) (.inr hy)))
  refine assignInOrder_cons (wpAny_bindName (store_ok I5 hN hi (.inl hx) rv (fun s4 I6 => assignInOrder_nil (wpAny_pure ?_)) (.inr hx)))
  have e : ((σ.set k (some zz)).set j (some w)).set i (some v) = ((σ.set i (some v)).set j (some w)).set k (some zz) := by
    rw [List.set_comm _ _ (Ne.symm hij), List.set_comm _ _ (Ne.symm hik), List.set_comm _ _ (Ne.symm hjk)]
  rw [e] at I6
  exact ⟨_, H1, I6, q1⟩
end

/-! ### the translation of statements -/
def compB : Expr → Bool
  | .ListComp .. => true
  | .SetComp .. => true
  | .DictComp .. => true
  | _ => false
theorem swaps_no {e : Expr} {t : Option Expr} {l : Nat} {env : Env} (h : compB e = false) : swapsWith e t l env = pure false := by
  cases e <;> first | rfl | (cases h; done)
/-- a comprehension given to a name of its own line -/
def swLc (c : Ctx) (scope : Scope) (pos : Pos) (y : Str) (py : Pos) : Bool :=
  c.sc.names.lookup y == some .local && py.line == pos.line && !(scope.names.any fun (n, k) => n == y && (k == .local || k == .cell))
theorem swaps_lc {c : Ctx} {env : Env} (hsc : env.scope = c.sc) (hk : c.sc.kind = .function) {elt : Expr} {gs : List Comprehension} {scope : Scope} {pos py : Pos} {y : Str} {l : Nat} : swapsWith (.ListComp elt gs scope pos) (some (.Name y py)) l env = pure (swLc c scope pos y py) := by
  have hb : env.blockKind = .function := by unfold Env.blockKind; rw [hsc, hk]; rfl
  unfold swapsWith swLc
  simp only [hb, Env.kindOf, hsc, Expr.pos]
  rfl
/-- which names of a tuple are stored from the right: none is «not known» -/
def swNames (c : Ctx) (line : Nat) (ts : List Expr) : List Str := ts.filterMap fun
  | .Name id pos => if c.sc.names.lookup id == some .local && pos.line == line then some id else none
  | _ => none
def swSt (c : Ctx) (ts vs : List Expr) : Option (Option (List Str)) :=
  if (!(ts.length == 2 || ts.length == 3) || vs.length != ts.length) = true then some none
  else if (vs.any fun | .Starred .. => true | _ => false) = true then some none
  else
    let names := swNames c ((ts.head?.map (·.pos.line)).getD 0) ts
    if (names.length != ts.length || names.eraseDups.length != names.length) = true then some none
    else if (vs.all (foldedForSure 8)) = true then some none
    else if (vs.all (constantsAlone 8)) = true then none
    else some (some names)
theorem swst_ok {c : Ctx} {env : Env} (hsc : env.scope = c.sc) (hk : c.sc.kind = .function) {ts vs : List Expr} {k k2 : Nat} {p p2 : Pos} {r : Option (List Str)} (h : swSt c ts vs = some r) : swappedStores [.Tuple ts k p] (.Tuple vs k2 p2) env = pure r := by
  obtain ⟨N, sc, G, fb⟩ := c
  dsimp only at hsc hk
  subst hsc
  have hb : env.blockKind = .function := by unfold Env.blockKind; rw [hk]; rfl
  unfold swSt at h
  unfold swappedStores
  dsimp only at h ⊢
  have e1 : (!(ts.length == 2 || ts.length == 3) || vs.length != ts.length || env.blockKind != .function) = (!(ts.length == 2 || ts.length == 3) || vs.length != ts.length) := by
    rw [hb]
    simp
  rw [e1]
  split at h
  · rename_i h1
    refine Eq.trans (if_pos h1) ?_
    cases h
    rfl
  · rename_i h1
    refine Eq.trans (if_neg h1) ?_
    split at h
    · rename_i h2
      refine Eq.trans (if_pos (by exact h2)) ?_
      cases h
      rfl
    · rename_i h2
      refine Eq.trans (if_neg (by exact h2)) ?_
      split at h
      · rename_i h3
        refine Eq.trans (if_pos (by exact h3)) ?_
        cases h
        rfl
      · rename_i h3
        refine Eq.trans (if_neg (by exact h3)) ?_
        split at h
        · rename_i h4
          refine Eq.trans (if_pos (by exact h4)) ?_
          cases h
          rfl
        · rename_i h4
          refine Eq.trans (if_neg (by exact h4)) ?_
          split at h
          · cases h
          · rename_i h5
            refine Eq.trans (if_neg (by exact h5)) ?_
            cases h
            rfl
theorem sw_other {ts : List Expr} {e : Expr} {env : Env} {k : Nat} {p : Pos} (h : ∀ vs k p, e ≠ .Tuple vs k p) : swappedStores [.Tuple ts k p] e env = pure none := by
  cases e with
  | Tuple vs k p => exact absurd rfl (h vs k p)
  | _ => rfl
end Tk

namespace Tk
open PySem PySem.Spec PyProof.Rows L2

section
variable {κ : Kx} {Ω : Om} {k : Nat}
/-- a comprehension that is given to a name of its line -/
theorem tr_lc {n : Nat} {c : Ctx} {X : Cx} {W : WX} (h : XOk c κ Ω k X W) {elt : Expr} {gens : List Comprehension} {scope : Scope} {pos : Pos} {t : E} (ht : trE (n + 1) c (.ListComp elt gens scope pos) = some t) :
    ∃ te : TE, (∀ (i : Nat) (y : Str) (py spos : Pos), X.N[i]? = some y → X.env.scope.names.lookup y = some .local → swapsWith (.ListComp elt gens scope pos) (some (.Name y py)) spos.line X.env = pure true →
      PS X (.Assign [.Name y py] (.ListComp elt gens scope pos) spos) (tAsg te (gName i))) ∧ ∀ σ H Q, tE κ W (ev Ω t) σ H Q → te σ H Q := by
  have ih : ∀ e t, trE n c e = some t → Both κ Ω X W e t := fun e t => tr_expr n h e t
  unfold trE at ht
  dsimp only at ht
  split at ht
  · rename_i tg it ifs ai
    split at ht
    · rename_i hc
      obtain ⟨rfl, hb⟩ := hc
      obtain ⟨it', h1, h2⟩ := Option.bind_eq_some_iff.mp ht
      obtain ⟨t, h3, h4⟩ := Option.bind_eq_some_iff.mp h2
      split at h4
      · rename_i hsub
        obtain ⟨o, h5, h6⟩ := Option.bind_eq_some_iff.mp h4
        obtain ⟨fs, h7, h8⟩ := Option.bind_eq_some_iff.mp h6
        obtain ⟨e', h9, rfl⟩ := Option.map_eq_some_iff.mp h8
        obtain ⟨g1, g2⟩ := tr_iter h ih (tg := tg) h1
        have ok := blkOk_by hb
        have hx := fun s H C cl fp => h.blk scope ok.kind s H C cl fp
        -- the target's reading is one for all blocks
        have t1 := fun s H C cl fp => tr_tgt (hx s H C cl fp) n _ t h3
        have t2 := gok_of (κ := κ) t
        have ok' : BlkOk X.N X.env.scope scope (ownOf c.N scope) := by rw [h.N, h.sc]; exact ok
        have hts : ∀ s H C cl fp, JTs κ (X.blk s H scope (compEnvC scope cl C X.env) fp) W0 ifs (tvo Ω fs) := fun s H C cl fp => by
          unfold oneIf at h5
          split at h5
          · cases h5
            unfold trO at h7
            cases h7
            exact jts_nil
          · cases h5
            unfold trO at h7
            obtain ⟨a', k1, rfl⟩ := Option.map_eq_some_iff.mp h7
            exact jts_one (tr_expr n (hx s H C cl fp) _ a' k1).t
          · cases h5
        refine ⟨_, fun i y py spos hy hyl hsw => ps_setLc h.calm (by rw [h.N]; exact h.nd) hy hyl hsw g1 ok' t1 (fun s H C cl fp => hts s H C cl fp) (fun s H C cl fp => (tr_expr n (hx s H C cl fp) elt e' h9).v) (g2 _), fun σ H Q q => lc_read t2 (sub_ok hsub) q⟩
      · cases h4
    · cases ht
  · rename_i tg it ifs ai tg1 it1 ifs1 ai1
    split at ht
    · rename_i hc
      obtain ⟨rfl, rfl, hi1, hi2, hb⟩ := hc
      obtain rfl : ifs = [] := by cases ifs <;> first | rfl | cases hi1
      obtain rfl : ifs1 = [] := by cases ifs1 <;> first | rfl | cases hi2
      obtain ⟨it', h1, h2⟩ := Option.bind_eq_some_iff.mp ht
      obtain ⟨t, h3, h4⟩ := Option.bind_eq_some_iff.mp h2
      obtain ⟨it1', h5, h6⟩ := Option.bind_eq_some_iff.mp h4
      obtain ⟨t1, h7, h8⟩ := Option.bind_eq_some_iff.mp h6
      split at h8
      · rename_i hsub
        obtain ⟨e', h9, rfl⟩ := Option.map_eq_some_iff.mp h8
        obtain ⟨g1, g2⟩ := tr_iter h ih (tg := tg) h1
        have ok := blkOk_by hb
        have hx := fun s H C cl fp => h.blk scope ok.kind s H C cl fp
        have u1 := fun s H C cl fp => tr_tgt (hx s H C cl fp) n _ t h3
        have u2 := gok_of (κ := κ) t
        have u3 := fun s H C cl fp => tr_tgt (hx s H C cl fp) n _ t1 h7
        have u4 := gok_of (κ := κ) t1
        have ok' : BlkOk X.N X.env.scope scope (ownOf c.N scope) := by rw [h.N, h.sc]; exact ok
        have hi := fun s H C cl fp => tr_iter (hx s H C cl fp) (tr_expr n (hx s H C cl fp)) (tg := tg1) h5
        refine ⟨_, fun i y py spos hy hyl hsw => ps_setLc2 h.calm (by rw [h.N]; exact h.nd) hy hyl hsw g1 ok' (sub_ok hsub.2) u1 (fun s H C cl fp => pts_nil) (fun s H C cl fp => (hi s H C cl fp).1) u3 (fun s H C cl fp => pts_nil) (fun s H C cl fp => (tr_expr n (hx s H C cl fp) elt e' h9).v) (g2 _) (fold_iter h5), fun σ H Q q => lc2_read u2 (sub_ok hsub.1) u4 (fun i hi => hi) q⟩
      · cases h8
    · cases ht
  · cases ht

end

/-! ### the translation of statements -/
def trSs (f : Stmt → Option S) : List Stmt → Option Ss
  | [] => some .nil
  | s :: r => (f s).bind fun a => (trSs f r).map fun b => .cons a b
def Ctx.lslot (c : Ctx) (x : Str) : Option Nat := if c.sc.names.lookup x = some .local then c.N.idxOf? x else none
def subs2 : List Expr → Bool
  | [.Subscript .., .Subscript ..] => true
  | _ => false
def swOkB (c : Ctx) (tgs : List Expr) (e : Expr) : Bool := match e with
  | .Tuple vs _ _ => (match swSt c tgs vs with
    | some none => true
    | _ => false)
  | _ => true
def trS (m : Nat) : Nat → Ctx → Stmt → Option S
  | 0, _, _ => none
  | n + 1, c, st => match st with
    | .Assign ts e pos => (match ts with
      | [t] => (match t with
        | .Name x px => if compB e = false then (trG c m t).bind fun t' => (trE m c e).map fun e' => .asg t' e' else (match e with
          | .ListComp elt gens scope lpos => if swLc c scope lpos x px = true then (c.lslot x).bind fun i => (trE m c (.ListComp elt gens scope lpos)).map fun e' => .asg (.name i) e'
            else (trG c m t).bind fun t' => (trE m c (.ListComp elt gens scope lpos)).map fun e' => .asg t' e'
          | .DictComp kx vx gens scope lpos => if swLc c scope lpos x px = true then (c.lslot x).bind fun i => (trE m c (.DictComp kx vx gens scope lpos)).map fun e' => .asg (.name i) e'
            else (trG c m t).bind fun t' => (trE m c (.DictComp kx vx gens scope lpos)).map fun e' => .asg t' e'
          | _ => none)
        | .Tuple tgs kt pt => if subs2 tgs = true then (match tgs with
            | [.Subscript o1 i1 _, .Subscript o2 i2 _] => if sliceB i1 = false ∧ sliceB i2 = false ∧ swOkB c tgs e = true then
                (trE m c e).bind fun e' => (trE m c o1).bind fun a => (trE m c i1).bind fun b => (trE m c o2).bind fun a2 => (trE m c i2).map fun b2 => .set2 a b a2 b2 e' else none
            | _ => none)
          else (match e with
          | .Tuple vs k2 p2 => (match swSt c tgs vs with
            | none => none
            | some none => (trG c m (.Tuple tgs kt pt)).bind fun t' => (trE m c (.Tuple vs k2 p2)).map fun e' => .asg t' e'
            | some (some names) => (match tgs, vs with
              | [.Name x _, .Name y _], [a, b] => if names = [x, y] then (c.lslot x).bind fun i => (c.lslot y).bind fun j => if i ≠ j then (trL (trE m c) [a, b]).map fun es => .asg (.tup [.name i, .name j]) (.tup es) else none else none
              | [.Name x _, .Name y _, .Name z _], [a, b, d] => if names = [x, y, z] then (c.lslot x).bind fun i => (c.lslot y).bind fun j => (c.lslot z).bind fun l => if i ≠ j ∧ i ≠ l ∧ j ≠ l then (trL (trE m c) [a, b, d]).map fun es => .asg (.tup [.name i, .name j, .name l]) (.tup es) else none else none
              | _, _ => none))
          | e => (trG c m (.Tuple tgs kt pt)).bind fun t' => (trE m c e).map fun e' => .asg t' e')
        | .Subscript o i _ => if sliceB i = true then none else (trE m c e).bind fun e' => (trE m c o).bind fun o' => (trE m c i).map fun i' => .setix o' i' e'
        | .Attribute o f _ => if c.low = true then none else (trE m c e).bind fun e' => (trE m c o).map fun o' => .setfld o' f e'
        | _ => none)
      | _ => none)
    | .AugAssign t op e _ => (match t with
      | .Name x _ => (c.lslot x).bind fun i => (trE m c e).map fun e' => .aug i op e'
      | _ => none)
    | .Expr e _ => if compB e = true then none else (trE m c e).map .expr
    | .Return v _ => (match v with
      | none => some .retn
      | some e => (trE m c e).map .ret)
    | .If t a b _ => (trE m c t).bind fun t' => (trSs (trS m n c) a).bind fun a' => (trSs (trS m n c) b).map fun b' => .ifs t' a' b'
    | .For tg it body orelse _ => (match orelse with
      | [] => (trI c (trE m c) tg it).bind fun it' => (trG c m tg).bind fun t => (trSs (trS m n c) body).map fun b => .for_ t it' b
      | _ => none)
    | .While t body orelse _ => (match orelse with
      | [] => (trE m c t).bind fun t' => (trSs (trS m n c) body).map fun b => .while_ t' b
      | _ => none)
    | .Pass _ => some .pass
    | .Break _ => some .brk
    | .Continue _ => some .cont
    | .Raise e1 e2 _ => (match e1, e2 with
      | some (.Call (.Name x _) [e] [] _), none => (match c.glob x with
        | some (.xcl cc) => if c.low = true ∨ plainB e = false then some .bad else (match trE m c e with
          | some e' => some (.raise_ cc (.cons e' .nil))
          | none => some .bad)
        | _ => some .bad)
      | _, _ => some .bad)
    | .Try body hds orelse final _ => (match hds, orelse, final with
      | [.ExceptHandler (some (.Name x _)) (some nm) [.Return (some e) _] _], [], [] => (match c.glob x with
        | some (.xcl cc) => (trSs (trS m n c) body).bind fun b => (c.lslot nm).bind fun i => (trX c i nm m e).map fun e' => .tryR b cc i e'
        | _ => none)
      | _, _, _ => none)
    | _ => none
section
variable {κ : Kx} {Ω : Om} {k : Nat}
structure SOk (X : Cx) : Prop where
  pass : PassesOwn (model X.prog X.w) X.A X.env X.xe
  hs : X.stack = X.env :: X.outer
  hf : X.env.frame = some X.env.locals
variable {c : Ctx} {X : Cx} {W : WX}
theorem lslot_ok (h : XOk c κ Ω k X W) {x : Str} {i : Nat} (hs : c.lslot x = some i) : X.N[i]? = some x ∧ X.env.scope.names.lookup x = some .local := by
  unfold Ctx.lslot at hs
  split at hs
  · rename_i hc
    exact ⟨by rw [h.N]; exact idx_some hs, by rw [h.sc]; exact hc⟩
  · cases hs
theorem tr_block {f : Stmt → Option S} (hf : ∀ st s, f st = some s → JS κ X W st (evS Ω s)) : ∀ {sts : List Stmt} {r : Ss}, trSs f sts = some r → JSs κ X W sts (evSs Ω r)
  | [], r, h => by
    unfold trSs at h
    cases h
    exact js_nil
  | st :: sts, r, h => by
    unfold trSs at h
    obtain ⟨a, h1, h2⟩ := Option.bind_eq_some_iff.mp h
    obtain ⟨b, h3, rfl⟩ := Option.map_eq_some_iff.mp h2
    exact js_cons (hf st a h1) (tr_block hf h3)
theorem swaps_dc {c : Ctx} {env : Env} (hsc : env.scope = c.sc) (hk : c.sc.kind = .function) {kx vx : Expr} {gs : List Comprehension} {scope : Scope} {pos py : Pos} {y : Str} {l : Nat} : swapsWith (.DictComp kx vx gs scope pos) (some (.Name y py)) l env = pure (swLc c scope pos y py) := by
  have hb : env.blockKind = .function := by unfold Env.blockKind; rw [hsc, hk]; rfl
  unfold swapsWith swLc
  simp only [hb, Env.kindOf, hsc, Expr.pos]
  rfl
theorem swaps_attr {e o : Expr} {f : Str} {p : Pos} {l : Nat} {env : Env} : swapsWith e (some (.Attribute o f p)) l env = pure false := by
  cases e <;> rfl
theorem tr_dc {n : Nat} {c : Ctx} {X : Cx} {W : WX} (h : XOk c κ Ω k X W) {kx vx : Expr} {gens : List Comprehension} {scope : Scope} {pos : Pos} {t : E} (ht : trE (n + 1) c (.DictComp kx vx gens scope pos) = some t) :
    ∃ te : TE, (∀ (i : Nat) (y : Str) (py spos : Pos), X.N[i]? = some y → X.env.scope.names.lookup y = some .local → swapsWith (.DictComp kx vx gens scope pos) (some (.Name y py)) spos.line X.env = pure true →
      PS X (.Assign [.Name y py] (.DictComp kx vx gens scope pos) spos) (tAsg te (gName i))) ∧ ∀ σ H Q, tE κ W (ev Ω t) σ H Q → te σ H Q := by
  have ih : ∀ e t, trE n c e = some t → Both κ Ω X W e t := fun e t => tr_expr n h e t
  unfold trE at ht
  dsimp only at ht
  split at ht
  · rename_i tg it ifs ai
    split at ht
    · rename_i hc
      obtain ⟨rfl, hifs, hb⟩ := hc
      obtain rfl : ifs = [] := by cases ifs <;> first | rfl | cases hifs
      obtain ⟨it', h1, h2⟩ := Option.bind_eq_some_iff.mp ht
      obtain ⟨t, h3, h4⟩ := Option.bind_eq_some_iff.mp h2
      split at h4
      · rename_i hsub
        obtain ⟨k', h5, h6⟩ := Option.bind_eq_some_iff.mp h4
        obtain ⟨v', h7, rfl⟩ := Option.map_eq_some_iff.mp h6
        obtain ⟨g1, g2⟩ := tr_iter h ih (tg := tg) h1
        have ok := blkOk_by hb
        have hx := fun s H C cl fp => h.blk scope ok.kind s H C cl fp
        have t1 := fun s H C cl fp => tr_tgt (hx s H C cl fp) n _ t h3
        have t2 := gok_of (κ := κ) t
        have ok' : BlkOk X.N X.env.scope scope (ownOf c.N scope) := by rw [h.N, h.sc]; exact ok
        exact ⟨_, fun i y py spos hy hyl hsw => ps_setDc h.calm (by rw [h.N]; exact h.nd) hy hyl hsw g1 ok' t1 (fun s H C cl fp => pts_nil) (fun s H C cl fp => (tr_expr n (hx s H C cl fp) kx k' h5).v) (fun s H C cl fp => (tr_expr n (hx s H C cl fp) vx v' h7).v) (g2 _), fun σ H Q q => dc_read t2 (sub_ok hsub) q⟩
      · cases h4
    · cases ht
  · cases ht
theorem js_gen (h : XOk c κ Ω k X W) {m : Nat} {t e : Expr} {t' : Tg} {e' : E} {pos : Pos} (h1 : trG c m t = some t') (h2 : trE m c e = some e') (hs : swapsWithSole [t] e pos.line X.env = pure false) (hw : swappedStores [t] e X.env = pure none)
    (h3 : (assignEach [t] X.env).map (·.2) = [assign t X.env]) : JS κ X W (.Assign [t] e pos) (evS Ω (.asg t' e')) :=
  js_asg (ps_asg (tr_expr m h e e' h2).v (tr_tgt h m t t' h1) hs hw h3) (fun _ _ _ z => z) (gok_of t')
theorem sws_no {t e : Expr} {l : Nat} {env : Env} (h : compB e = false) : swapsWithSole [t] e l env = pure false := swaps_no h
theorem sws_tup {ts : List Expr} {kt : Nat} {pt : Pos} {e : Expr} {l : Nat} {env : Env} : swapsWithSole [.Tuple ts kt pt] e l env = pure false := by cases e <;> rfl
theorem sws_sub {o i : Expr} {pt : Pos} {e : Expr} {l : Nat} {env : Env} : swapsWithSole [.Subscript o i pt] e l env = pure false := by cases e <;> rfl
theorem par2 {σ : L2.St} {H : Hp} {D : Ends} {es : Es} {i j : Nat} (hij : i ≠ j) (h : tS κ W (evS Ω (.asg (.tup [.name i, .name j]) (.tup es))) D σ H) (hl : ∀ δ μ ds μ', evs Ω es δ μ = .ok ds μ' → ds.length = 2) : tPar i j (tA κ W (evs Ω es)) D σ H := by
  obtain ⟨ρ, δ, μ, s, r, q⟩ := h
  have q' : PostS κ W ρ H (RS.of δ (evs Ω es δ μ) fun ds μ1 => match (if ds.length ≤ sizeLine then bindG (.tup [.name i, .name j]) (.tup ds) δ else none) with
    | some δ1 => .nx δ1 μ1
    | none => .stuck) D := by
    have q2 : PostS κ W ρ H (RS.of δ ((evs Ω es δ μ).bind fun ds μ1 => if ds.length ≤ sizeLine then .ok (.tup ds) μ1 else .stuck) fun d μ1 => match bindG (.tup [.name i, .name j]) d δ with
      | some δ1 => .nx δ1 μ1
      | none => .stuck) D := q
    cases hm : evs Ω es δ μ with
    | ok ds μ1 =>
      rw [hm] at q2
      dsimp only [Res.bind] at q2
      show PostS κ W ρ H (match (if ds.length ≤ sizeLine then bindG (.tup [.name i, .name j]) (.tup ds) δ else none) with
        | some δ1 => .nx δ1 μ1
        | none => .stuck) D
      by_cases hz : ds.length ≤ sizeLine
      · rw [if_pos hz] at q2 ⊢; exact q2
      · rw [if_neg hz] at q2; exact q2.elim
    | exc _ _ _ => rw [hm] at q2; exact q2
    | stuck => rw [hm] at q2; exact q2
  refine ⟨ρ, δ, μ, s, r, ?_⟩
  cases hm : evs Ω es δ μ with
  | exc c fs μ1 =>
    rw [hm] at q'
    exact fun ρ1 H1 dd gs e1 r1 h1 f1 => q' ρ1 H1 σ dd gs e1 r1 (s.ext e1) h1 f1
  | stuck => rw [hm] at q'; exact q'.elim
  | ok ds μ1 =>
    rw [hm] at q'
    have hl' := hl δ μ ds μ1 hm
    match ds, hl' with
    | [d1, d2], _ =>
      intro ρ1 H1 vs e1 r1 x1
      obtain ⟨v, w, rfl, y1, y2⟩ := reps2 x1
      refine ⟨v, w, rfl, ?_⟩
      have q3 : PostS κ W ρ H (.nx ((δ.set i (some d1)).set j (some d2)) μ1) D := by
        have e : (if [d1, d2].length ≤ sizeLine then bindG (.tup [.name i, .name j]) (.tup [d1, d2]) δ else none) = some ((δ.set i (some d1)).set j (some d2)) := by
          rw [if_pos (by show 2 ≤ sizeLine; decide)]
          rfl
        have q4 := q'
        dsimp only [RS.of] at q4
        rw [e] at q4
        exact q4
      exact q3 ρ1 H1 _ e1 r1 (((s.ext e1).set y1 i).set y2 j)
theorem reps3 {ρ H d e f vs} (h : Reps κ ρ H [d, e, f] vs) : ∃ v w z, vs = [v, w, z] ∧ Rep κ ρ H d v ∧ Rep κ ρ H e w ∧ Rep κ ρ H f z := by
  unfold Reps at h
  obtain ⟨v, w, rfl, h1, h2⟩ := h
  obtain ⟨u, z, rfl, h3, h4⟩ := reps2 h2
  exact ⟨v, u, z, rfl, h1, h3, h4⟩
theorem par3 {σ : L2.St} {H : Hp} {D : Ends} {es : Es} {i j l : Nat} (h : tS κ W (evS Ω (.asg (.tup [.name i, .name j, .name l]) (.tup es))) D σ H) (hl : ∀ δ μ ds μ', evs Ω es δ μ = .ok ds μ' → ds.length = 3) : tPar3 i j l (tA κ W (evs Ω es)) D σ H := by
  obtain ⟨ρ, δ, μ, s, r, q⟩ := h
  have q' : PostS κ W ρ H (RS.of δ (evs Ω es δ μ) fun ds μ1 => match (if ds.length ≤ sizeLine then bindG (.tup [.name i, .name j, .name l]) (.tup ds) δ else none) with
    | some δ1 => .nx δ1 μ1
    | none => .stuck) D := by
    have q2 : PostS κ W ρ H (RS.of δ ((evs Ω es δ μ).bind fun ds μ1 => if ds.length ≤ sizeLine then .ok (.tup ds) μ1 else .stuck) fun d μ1 => match bindG (.tup [.name i, .name j, .name l]) d δ with
      | some δ1 => .nx δ1 μ1
      | none => .stuck) D := q
    cases hm : evs Ω es δ μ with
    | ok ds μ1 =>
      rw [hm] at q2
      dsimp only [Res.bind] at q2
      show PostS κ W ρ H (match (if ds.length ≤ sizeLine then bindG (.tup [.name i, .name j, .name l]) (.tup ds) δ else none) with
        | some δ1 => .nx δ1 μ1
        | none => .stuck) D
      by_cases hz : ds.length ≤ sizeLine
      · rw [if_pos hz] at q2 ⊢; exact q2
      · rw [if_neg hz] at q2; exact q2.elim
    | exc _ _ _ => rw [hm] at q2; exact q2
    | stuck => rw [hm] at q2; exact q2
  refine ⟨ρ, δ, μ, s, r, ?_⟩
  cases hm : evs Ω es δ μ with
  | exc c fs μ1 =>
    rw [hm] at q'
    exact fun ρ1 H1 dd gs e1 r1 h1 f1 => q' ρ1 H1 σ dd gs e1 r1 (s.ext e1) h1 f1
  | stuck => rw [hm] at q'; exact q'.elim
  | ok ds μ1 =>
    rw [hm] at q'
    have hl' := hl δ μ ds μ1 hm
    match ds, hl' with
    | [d1, d2, d3], _ =>
      intro ρ1 H1 vs e1 r1 x1
      obtain ⟨v, w, z, rfl, y1, y2, y3⟩ := reps3 x1
      refine ⟨v, w, z, rfl, ?_⟩
      have q3 : PostS κ W ρ H (.nx (((δ.set i (some d1)).set j (some d2)).set l (some d3)) μ1) D := by
        have e : (if [d1, d2, d3].length ≤ sizeLine then bindG (.tup [.name i, .name j, .name l]) (.tup [d1, d2, d3]) δ else none) = some (((δ.set i (some d1)).set j (some d2)).set l (some d3)) := by
          rw [if_pos (by show 3 ≤ sizeLine; decide)]
          rfl
        have q4 := q'
        dsimp only [RS.of] at q4
        rw [e] at q4
        exact q4
      exact q3 ρ1 H1 _ e1 r1 ((((s.ext e1).set y1 i).set y2 j).set y3 l)
theorem evs_len {f : Expr → Option E} : ∀ {es : List Expr} {r : Es}, trL f es = some r → ∀ δ μ ds μ', evs Ω r δ μ = .ok ds μ' → ds.length = es.length
  | [], r, h, δ, μ, ds, μ', he => by
    unfold trL at h
    cases h
    unfold evs at he
    cases he
    rfl
  | e :: es, r, h, δ, μ, ds, μ', he => by
    unfold trL at h
    split at h
    · obtain ⟨a, h1, h2⟩ := Option.bind_eq_some_iff.mp h
      obtain ⟨b, h3, h4⟩ := Option.bind_eq_some_iff.mp h2
      cases h4
      unfold evs at he
      cases hm : ev Ω a δ μ with
      | ok d μ1 =>
        rw [hm] at he
        dsimp only [Res.bind] at he
        cases hm2 : evs Ω b δ μ1 with
        | ok ds2 μ2 =>
          rw [hm2] at he
          cases he
          rw [List.length_cons, List.length_cons, evs_len h3 δ μ1 ds2 _ hm2]
        | exc _ _ _ => rw [hm2] at he; cases he
        | stuck => rw [hm2] at he; cases he
      | exc _ _ _ => rw [hm] at he; cases he
      | stuck => rw [hm] at he; cases he
    · cases h
end
end Tk

namespace Tk
open PySem PySem.Spec PyProof.Rows L2

section
variable {κ : Kx} {Ω : Om} {k : Nat}
variable {c : Ctx} {X : Cx} {W : WX}
theorem js_setix {m : Nat} (h : XOk c κ Ω k X W) {o i e : Expr} {e' o' i' : E} {pos ps : Pos} (hsl : sliceB i = false) (h1 : trE m c e = some e') (h2 : trE m c o = some o') (h3 : trE m c i = some i') : JS κ X W (.Assign [.Subscript o i ps] e pos) (evS Ω (.setix o' i' e')) := by
  have ha : ∀ v, assign (.Subscript o i ps) X.env v = (do
      let ov ← holding [v] (eval o X.env)
      let iv ← holding [v, ov] (eval i X.env)
      standAt ps
      holding [v, ov, iv] (setItem ov iv v)
      release [v, ov, iv] []) := by
    cases i <;> first | (intro _; rfl) | (cases hsl; done)
  refine ps_imp (ps_asg (tr_expr m h e e' h1).v (pg_sub (tr_expr m h o o' h2).v (tr_expr m h i i' h3).v (set_any (κ := κ) (units_of h.room).2) ha) sws_sub (by cases e <;> rfl) rfl) fun D σ H ⟨ρ, δ, μ, s, r, q⟩ => ?_
  have q' : PostS κ W ρ H (RS.of δ (ev Ω e' δ μ) fun d μ1 => RS.of δ (ev Ω o' δ μ1) fun x μ2 => RS.of δ (ev Ω i' δ μ2) fun kk μ3 => RS.of δ (setixD x kk d μ3) fun _ μ4 => .nx δ μ4) D := by
    have q2 : PostS κ W ρ H (RS.of δ ((ev Ω e' δ μ).bind fun d μ1 => (ev Ω o' δ μ1).bind fun x μ2 => (ev Ω i' δ μ2).bind fun k μ3 => setixD x k d μ3) fun _ μ1 => .nx δ μ1) D := q
    cases hm : ev Ω e' δ μ with
    | ok d μ1 =>
      rw [hm] at q2
      dsimp only [Res.bind, RS.of] at q2 ⊢
      cases hm2 : ev Ω o' δ μ1 with
      | ok x μ2 =>
        rw [hm2] at q2
        dsimp only [Res.bind, RS.of] at q2 ⊢
        cases hm3 : ev Ω i' δ μ2 with
        | ok x μ2 => rw [hm3] at q2; exact q2
        | exc _ _ _ => rw [hm3] at q2; exact q2
        | stuck => rw [hm3] at q2; exact q2
      | exc _ _ _ => rw [hm2] at q2; exact q2
      | stuck => rw [hm2] at q2; exact q2
    | exc _ _ _ => rw [hm] at q2; exact q2
    | stuck => rw [hm] at q2; exact q2
  refine gos s r q' fun ρ1 H1 d v μ1 e1 s1 r1 x1 p1 => gos s1 r1 p1 fun ρ2 H2 x u μ2 e2 s2 r2 x2 p2 => gos s2 r2 p2 fun ρ3 H3 kk w μ3 e3 s3 r3 x3 p3 => ?_
  refine ⟨ρ3, μ3, x, kk, d, W, σ, r3, x2.ext e3, x3, x1.ext (e2.trans e3), ?_⟩
  cases hz : setixD x kk d μ3 with
  | ok z μ4 =>
    rw [hz] at p3
    exact fun ρ4 H4 _ e4 r4 _ => p3 ρ4 H4 _ e4 r4 (s3.ext e4)
  | exc c fs μ4 =>
    rw [hz] at p3
    exact fun ρ4 H4 dd gs e4 r4 h4 f4 => p3 ρ4 H4 σ dd gs e4 r4 (s3.ext e4) h4 f4
  | stuck => rw [hz] at p3; exact p3.elim
theorem of_bind {α β} {m : Res α} {f : α → Mu → Res β} {δ : Dl} {g : β → Mu → RS} : RS.of δ (m.bind f) g = RS.of δ m fun a μ => RS.of δ (f a μ) g := by
  cases m <;> rfl
theorem js_set2 {m : Nat} (h : XOk c κ Ω k X W) {o1 i1 o2 i2 e : Expr} {a b a2 b2 e' : E} {pos p1 p2 pt : Pos} {kt : Nat} (s1 : sliceB i1 = false) (s2 : sliceB i2 = false) (hw : swOkB c [.Subscript o1 i1 p1, .Subscript o2 i2 p2] e = true)
    (h1 : trE m c e = some e') (h2 : trE m c o1 = some a) (h3 : trE m c i1 = some b) (h4 : trE m c o2 = some a2) (h5 : trE m c i2 = some b2) : JS κ X W (.Assign [.Tuple [.Subscript o1 i1 p1, .Subscript o2 i2 p2] kt pt] e pos) (evS Ω (.set2 a b a2 b2 e')) := by
  have as : ∀ (o i : Expr) (p : Pos), sliceB i = false → ∀ v, assign (.Subscript o i p) X.env v = (do
      let ov ← holding [v] (eval o X.env)
      let iv ← holding [v, ov] (eval i X.env)
      standAt p
      holding [v, ov, iv] (setItem ov iv v)
      release [v, ov, iv] []) := fun o i p hs => by
    cases i <;> first | (intro _; rfl) | (cases hs; done)
  have hn : swappedStores [.Tuple [.Subscript o1 i1 p1, .Subscript o2 i2 p2] kt pt] e X.env = pure none := by
    unfold swOkB at hw
    split at hw
    · rename_i vs k2 p3
      cases hq : swSt c [.Subscript o1 i1 p1, .Subscript o2 i2 p2] vs with
      | none => rw [hq] at hw; cases hw
      | some o =>
        cases o with
        | none => exact swst_ok h.sc h.kind hq
        | some _ => rw [hq] at hw; cases hw
    · rename_i hne
      exact sw_other fun vs k p => hne vs k p
  have g1 := pg_sub (tr_expr m h o1 a h2).v (tr_expr m h i1 b h3).v (set_any (κ := κ) (units_of h.room).2) (as o1 i1 p1 s1)
  have g2 := pg_sub (tr_expr m h o2 a2 h4).v (tr_expr m h i2 b2 h5).v (set_any (κ := κ) (units_of h.room).2) (as o2 i2 p2 s2)
  refine ps_imp (ps_asg (tr_expr m h e e' h1).v (pg_tup (n := 2) h.calm (pgs_cons g1 (pgs_cons g2 pgs_nil))) sws_tup hn rfl) fun D σ H ⟨ρ, δ, μ, s, r, q⟩ => ?_
  rw [evS, of_bind] at q
  refine gos s r q fun ρ1 H1 d v μ1 e1 s1 r1 x1 p1 => ?_
  cases d with
  | tup ds =>
    match ds, x1, p1 with
    | [d1, d2], x1, p1 =>
      obtain ⟨q, vs, rfl, h1, h2⟩ := rep_tup.mp x1
      unfold Reps at h2
      obtain ⟨v1, w1, rfl, y1, h2⟩ := h2
      unfold Reps at h2
      obtain ⟨v2, w2, rfl, y2, h2⟩ := h2
      unfold Reps at h2
      subst h2
      refine ⟨q, [v1, v2], rfl, h.hK ▸ h1, rfl, v1, [v2], rfl, ?_⟩
      dsimp only at p1
      rw [of_bind] at p1
      refine gos s1 r1 p1 fun ρ2 H2 x u μ2 e2 s2 r2 x2 p2 => ?_
      rw [of_bind] at p2
      refine gos s2 r2 p2 fun ρ3 H3 kk w μ3 e3 s3 r3 x3 p3 => ?_
      refine ⟨ρ3, μ3, x, kk, d1, W, σ, r3, x2.ext e3, x3, y1.ext (e2.trans e3), ?_⟩
      cases hz : setixD x kk d1 μ3 with
      | ok z μ4 =>
        rw [hz] at p3
        intro ρ4 H4 _ e4 r4 _
        refine ⟨v2, [], rfl, ?_⟩
        have p4 : PostS κ W ρ4 H4 (RS.of δ ((ev Ω a2 δ μ4).bind fun x2 μ5 => (ev Ω b2 δ μ5).bind fun k2 μ6 => setixD x2 k2 d2 μ6) fun _ μ1 => .nx δ μ1) D := PostS.ext e4 p3
        rw [of_bind] at p4
        refine gos (s3.ext e4) r4 p4 fun ρ5 H5 xx uu μ5 e5 s5 r5 x5 p5 => ?_
        rw [of_bind] at p5
        refine gos s5 r5 p5 fun ρ6 H6 k6 w6 μ6 e6 s6 r6 x6 p6 => ?_
        refine ⟨ρ6, μ6, xx, k6, d2, W, σ, r6, x5.ext e6, x6, y2.ext (e2.trans (e3.trans (e4.trans (e5.trans e6)))), ?_⟩
        cases hz2 : setixD xx k6 d2 μ6 with
        | ok z μ7 =>
          rw [hz2] at p6
          exact fun ρ7 H7 _ e7 r7 _ => ⟨rfl, p6 ρ7 H7 _ e7 r7 (s6.ext e7)⟩
        | exc c fs μ4 =>
          rw [hz2] at p6
          exact fun ρ4 H4 dd gs e4 r4 h4 f4 => p6 ρ4 H4 σ dd gs e4 r4 (s6.ext e4) h4 f4
        | stuck => rw [hz2] at p6; exact p6.elim
      | exc c fs μ4 =>
        rw [hz] at p3
        exact fun ρ4 H4 dd gs e4 r4 h4 f4 => p3 ρ4 H4 σ dd gs e4 r4 (s3.ext e4) h4 f4
      | stuck => rw [hz] at p3; exact p3.elim
    | [], _, p1 => exact p1.elim
    | [_], _, p1 => exact p1.elim
    | _ :: _ :: _ :: _, _, p1 => exact p1.elim
  | _ => exact p1.elim
theorem js_bad {st : Stmt} : JS κ X W st (evS Ω .bad) := ⟨fun pins s σ H D I q => by
  obtain ⟨ρ, δ, μ, s1, r, z⟩ := q
  exact z.elim⟩
theorem tr_stmt (m : Nat) : ∀ (n : Nat) {c : Ctx} {X : Cx} {W : WX}, XOk c κ Ω k X W → SOk X → ∀ (st : Stmt) (s : S), trS m n c st = some s → JS κ X W st (evS Ω s)
  | 0, c, X, W, h, so, st, s, hs => by unfold trS at hs; cases hs
  | n + 1, c, X, W, h, so, st, s, hs => by
    have ih : ∀ st s, trS m n c st = some s → JS κ X W st (evS Ω s) := fun st s => tr_stmt m n h so st s
    cases st with
    | Assign ts e pos =>
      unfold trS at hs
      dsimp only at hs
      split at hs
      · split at hs
        · rename_i x px
          split at hs
          · rename_i hc
            obtain ⟨t', h1, h2⟩ := Option.bind_eq_some_iff.mp hs
            obtain ⟨e', h3, rfl⟩ := Option.map_eq_some_iff.mp h2
            exact js_gen h h1 h3 (sws_no hc) (by cases e <;> rfl) rfl
          · split at hs
            · rename_i elt gens scope lpos hcx
              split at hs
              · rename_i hsw
                obtain ⟨i, h1, h2⟩ := Option.bind_eq_some_iff.mp hs
                obtain ⟨e', h3, rfl⟩ := Option.map_eq_some_iff.mp h2
                obtain ⟨l1, l2⟩ := lslot_ok h h1
                cases m with
                | zero => unfold trE at h3; cases h3
                | succ m' =>
                  obtain ⟨te, g1, g2⟩ := tr_lc h h3
                  refine js_asg (g1 i x px pos l1 l2 ?_) g2 gok_name
                  rw [swaps_lc h.sc h.kind, hsw]
              · rename_i hsw
                obtain ⟨t', h1, h2⟩ := Option.bind_eq_some_iff.mp hs
                obtain ⟨e', h3, rfl⟩ := Option.map_eq_some_iff.mp h2
                have e0 : swLc c scope lpos x px = false := by simpa using hsw
                exact js_gen h h1 h3 ((swaps_lc (l := pos.line) h.sc h.kind).trans (by rw [e0])) rfl rfl
            · rename_i kx vx gens scope lpos hcx
              split at hs
              · rename_i hsw
                obtain ⟨i, h1, h2⟩ := Option.bind_eq_some_iff.mp hs
                obtain ⟨e', h3, rfl⟩ := Option.map_eq_some_iff.mp h2
                obtain ⟨l1, l2⟩ := lslot_ok h h1
                cases m with
                | zero => unfold trE at h3; cases h3
                | succ m' =>
                  obtain ⟨te, g1, g2⟩ := tr_dc h h3
                  refine js_asg (g1 i x px pos l1 l2 ?_) g2 gok_name
                  rw [swaps_dc h.sc h.kind, hsw]
              · rename_i hsw
                obtain ⟨t', h1, h2⟩ := Option.bind_eq_some_iff.mp hs
                obtain ⟨e', h3, rfl⟩ := Option.map_eq_some_iff.mp h2
                have e0 : swLc c scope lpos x px = false := by simpa using hsw
                exact js_gen h h1 h3 ((swaps_dc (l := pos.line) h.sc h.kind).trans (by rw [e0])) rfl rfl
            · cases hs
        · rename_i tgs kt pt
          split at hs
          · split at hs
            · rename_i o1 i1 p1 o2 i2 p2 _
              split at hs
              · rename_i hc
                obtain ⟨e', h1, g1⟩ := Option.bind_eq_some_iff.mp hs
                obtain ⟨a, h2, g2⟩ := Option.bind_eq_some_iff.mp g1
                obtain ⟨b, h3, g3⟩ := Option.bind_eq_some_iff.mp g2
                obtain ⟨a2, h4, g4⟩ := Option.bind_eq_some_iff.mp g3
                obtain ⟨b2, h5, rfl⟩ := Option.map_eq_some_iff.mp g4
                exact js_set2 h hc.1 hc.2.1 hc.2.2 h1 h2 h3 h4 h5
              · cases hs
            · cases hs
          · split at hs
            · rename_i vs k2 p2
              split at hs
              · cases hs
              · rename_i hst
                obtain ⟨t', h1, h2⟩ := Option.bind_eq_some_iff.mp hs
                obtain ⟨e', h3, rfl⟩ := Option.map_eq_some_iff.mp h2
                exact js_gen h h1 h3 sws_tup (swst_ok h.sc h.kind hst) rfl
              · rename_i names hst
                split at hs
                · rename_i x px y py a b
                  split at hs
                  · rename_i hn
                    subst hn
                    obtain ⟨i, h1, h2⟩ := Option.bind_eq_some_iff.mp hs
                    obtain ⟨j, h3, h4⟩ := Option.bind_eq_some_iff.mp h2
                    split at h4
                    · rename_i hij
                      obtain ⟨es, h5, rfl⟩ := Option.map_eq_some_iff.mp h4
                      obtain ⟨l1, l2⟩ := lslot_ok h h1
                      obtain ⟨l3, l4⟩ := lslot_ok h h3
                      exact ps_imp (ps_par h.calm (by rw [h.N]; exact h.nd) l1 l3 hij l2 l4 (tr_list (fun e t => tr_expr m h e t) h5) (swst_ok h.sc h.kind hst) rfl) fun D σ H z => par2 hij z (evs_len h5)
                    · cases h4
                  · cases hs
                · rename_i x px y py z pz a b d
                  split at hs
                  · rename_i hn
                    subst hn
                    obtain ⟨i, h1, h2⟩ := Option.bind_eq_some_iff.mp hs
                    obtain ⟨j, h3, h4⟩ := Option.bind_eq_some_iff.mp h2
                    obtain ⟨l, h5, h6⟩ := Option.bind_eq_some_iff.mp h4
                    split at h6
                    · rename_i hij
                      obtain ⟨es, h7, rfl⟩ := Option.map_eq_some_iff.mp h6
                      obtain ⟨l1, l2⟩ := lslot_ok h h1
                      obtain ⟨l3, l4⟩ := lslot_ok h h3
                      obtain ⟨l5, l6⟩ := lslot_ok h h5
                      exact ps_imp (ps_par3 h.calm (by rw [h.N]; exact h.nd) l1 l3 l5 hij.1 hij.2.1 hij.2.2 l2 l4 l6 (tr_list (fun e t => tr_expr m h e t) h7) (swst_ok h.sc h.kind hst) rfl) fun D σ H z => par3 z (evs_len h7)
                    · cases h6
                  · cases hs
                · cases hs
            · rename_i hne
              obtain ⟨t', h1, h2⟩ := Option.bind_eq_some_iff.mp hs
              obtain ⟨e', h3, rfl⟩ := Option.map_eq_some_iff.mp h2
              exact js_gen h h1 h3 sws_tup (sw_other fun vs k p e => hne vs k p e) rfl
        · rename_i o i ps
          split at hs
          · cases hs
          · rename_i hsl
            obtain ⟨e', h1, h2⟩ := Option.bind_eq_some_iff.mp hs
            obtain ⟨o', h3, h4⟩ := Option.bind_eq_some_iff.mp h2
            obtain ⟨i', h5, rfl⟩ := Option.map_eq_some_iff.mp h4
            exact js_setix h (by simpa using hsl) h1 h3 h5
        · rename_i o f po
          split at hs
          · cases hs
          rename_i hlow
          obtain ⟨e', h1, h2⟩ := Option.bind_eq_some_iff.mp hs
          obtain ⟨o', h3, rfl⟩ := Option.map_eq_some_iff.mp h2
          exact js_setfld (h.cls (by simpa using hlow)) (tr_expr m h o o' h3).v (tr_expr m h e e' h1).v swaps_attr
        · cases hs
      · cases hs
    | AugAssign t op e pos =>
      unfold trS at hs
      dsimp only at hs
      split at hs
      · rename_i x px
        obtain ⟨i, h1, h2⟩ := Option.bind_eq_some_iff.mp hs
        obtain ⟨e', h3, rfl⟩ := Option.map_eq_some_iff.mp h2
        obtain ⟨l1, l2⟩ := lslot_ok h h1
        exact js_aug (ps_aug (by rw [h.N]; exact h.nd) l1 (.inl l2) (tr_expr m h e e' h3).v (ij_aug (κ := κ) op) (.inr l2)) fun _ _ _ _ z => z
      · cases hs
    | Expr e pos =>
      unfold trS at hs
      dsimp only at hs
      split at hs
      · cases hs
      · rename_i hc
        obtain ⟨e', h3, rfl⟩ := Option.map_eq_some_iff.mp hs
        exact js_expr (tr_expr m h e e' h3).v (swaps_no (by simpa using hc))
    | Return v pos =>
      unfold trS at hs
      dsimp only at hs
      split at hs
      · cases hs
        exact js_retn
      · obtain ⟨e', h3, rfl⟩ := Option.map_eq_some_iff.mp hs
        exact js_ret (tr_expr m h _ e' h3).v
    | If t a b pos =>
      unfold trS at hs
      obtain ⟨t', h1, h2⟩ := Option.bind_eq_some_iff.mp hs
      obtain ⟨a', h3, h4⟩ := Option.bind_eq_some_iff.mp h2
      obtain ⟨b', h5, rfl⟩ := Option.map_eq_some_iff.mp h4
      exact js_if (tr_expr m h t t' h1).t (tr_block ih h3) (tr_block ih h5)
    | For tg it body orelse pos =>
      unfold trS at hs
      dsimp only at hs
      split at hs
      · obtain ⟨it', h1, h2⟩ := Option.bind_eq_some_iff.mp hs
        obtain ⟨t, h3, h4⟩ := Option.bind_eq_some_iff.mp h2
        obtain ⟨b, h5, rfl⟩ := Option.map_eq_some_iff.mp h4
        obtain ⟨g1, g2⟩ := tr_iter h (fun e t => tr_expr m h e t) (tg := tg) h1
        exact js_for (ps_for so.pass h.calm g1 (tr_tgt h m tg t h3) (tr_block ih h5) (g2 _)) (gok_of t)
      · cases hs
    | While t body orelse pos =>
      unfold trS at hs
      dsimp only at hs
      split at hs
      · obtain ⟨t', h1, h2⟩ := Option.bind_eq_some_iff.mp hs
        obtain ⟨b, h5, rfl⟩ := Option.map_eq_some_iff.mp h2
        exact js_while (ps_while so.pass (tr_expr m h t t' h1).t (tr_block ih h5))
      · cases hs
    | Pass pos =>
      unfold trS at hs
      cases hs
      exact js_pass
    | Break pos =>
      unfold trS at hs
      cases hs
      exact js_brk
    | Continue pos =>
      unfold trS at hs
      cases hs
      exact js_cont
    | Raise e1 e2 pos =>
      unfold trS at hs
      dsimp only at hs
      split at hs
      · split at hs
        · rename_i hg
          split at hs
          · cases hs
            exact js_bad
          · rename_i hc
            split at hs
            · rename_i e' he
              cases hs
              have hc1 : c.low = false := by
                cases hq : c.low with
                | false => rfl
                | true => exact absurd (.inl hq) hc
              have hc2 := Bool.of_not_eq_false fun hq => hc (.inr hq)
              exact js_raise h hc1 hg (tr_expr m h _ e' he).v hc2
            · cases hs
              exact js_bad
        · cases hs
          exact js_bad
      · cases hs
        exact js_bad
    | Try body hds orelse final pos =>
      unfold trS at hs
      dsimp only at hs
      split at hs
      · split at hs
        · rename_i hg
          obtain ⟨b, h1, h2⟩ := Option.bind_eq_some_iff.mp hs
          obtain ⟨i, h3, h4⟩ := Option.bind_eq_some_iff.mp h2
          obtain ⟨e', h5, rfl⟩ := Option.map_eq_some_iff.mp h4
          obtain ⟨l1, l2⟩ := lslot_ok h h3
          exact js_try h so.hs so.hf hg l1 l2 (fun W' pn xe t1 t2 => tr_block (fun st s => tr_stmt m n (h.tr pn xe t1) ⟨t2, so.hs, so.hf⟩ st s) h1) h5
        · cases hs
      · cases hs
    | _ => unfold trS at hs; cases hs
end

/-! ### defs -/
/-- a def of the text: its names by slot (parameters first), its parameters' number (behind them a starred one, if star), its body -/
structure Df where
  qual : Str
  N : List Str
  n : Nat
  star : Bool
  sc : Scope
  body : List Stmt
  b : Ss
  tab : Bool
/-- a checked def -/
def fnScB (N : List Str) (n : Nat) (sc : Scope) : Bool :=
  (match sc.kind with | .function => true | _ => false) && !sc.isCoroutine && !sc.isGenerator && decide (N.Nodup) && decide (n ≤ N.length) &&
    ((N.take n).all fun x => decide (sc.names.lookup x = some .local) || decide (sc.names.lookup x = some .cell)) && (sc.names.all fun y => decide (y.2 ≠ .free))
theorem fnSc_ok {N : List Str} {n : Nat} {sc : Scope} (h : fnScB N n sc = true) : FnScope N (N.take n) sc := by
  unfold fnScB at h
  simp only [Bool.and_eq_true, decide_eq_true_eq, List.all_eq_true, Bool.not_eq_true', Bool.or_eq_true] at h
  obtain ⟨⟨⟨⟨⟨⟨h1, h2⟩, h3⟩, h4⟩, h5⟩, h6⟩, h7⟩ := h
  refine ⟨?_, h2, h3, h4, ?_, h6, h7⟩
  · split at h1
    · assumption
    · cases h1
  · rw [List.length_take, Nat.min_eq_left h5]
def Df.ps (d : Df) : Nat := if d.star = true then d.n + 1 else d.n
def Df.ctx (d : Df) (G : List (Str × GV)) (C : List Cd) : Ctx := ⟨d.N, d.sc, G, fun _ => true, C, false, d.tab⟩
/-- the arguments, bound -/
def Df.args (d : Df) (ds : List D) : Option (List D) :=
  if d.star = true then (if d.n ≤ ds.length ∧ ds.length ≤ sizeLine then some (ds.take d.n ++ [.tup (ds.drop d.n)]) else none)
  else (if ds.length = d.n then some ds else none)
/-- what a def does, from its body -/
def Df.run (d : Df) (Ω : Om) (ds : List D) (μ : Mu) : Res D := match d.args ds with
  | some es => runB Ω d.N.length d.b es μ
  | none => .stuck
/-- how a def's parameters are bound -/
def BindOk (d : Df) (fd : FuncData) : Prop :=
  if d.star = true then ∃ ps pv, d.N.take (d.n + 1) = ps ++ [pv] ∧ ps.length = d.n ∧ ∀ us rest : List Value, us.length = ps.length → bindArgs fd ⟨us ++ rest, []⟩ = (newTuple rest >>= fun t => pure (ps.zip us ++ [(pv, t)]))
  else ∀ us : List Value, us.length = (d.N.take d.n).length → bindArgs fd ⟨us, []⟩ = pure ((d.N.take d.n).zip us)
section
variable {P : Program} {w : World} {K : PySem.W.Frag} {mg : Str → Option Value} {base : Heap} {κ : Kx} {Ω Ω' : Om} {k : Nat}
/-- what the module's names are, for a body at level k -/
structure GOk' (P : Program) (w : World) (K : PySem.W.Frag) (mg : Str → Option Value) (base : Heap) (κ : Kx) (G : List (Str × GV)) (Ω : Om) (k : Nat) : Prop where
  con : ∀ x d, G.lookup x = some (.con d) → ∃ u v, mg x = some u ∧ RelV v u ∧ ∀ ρ H, Rep κ ρ H d v
  free : ∀ x, G.lookup x = some .free → mg x = none
  fn : ∀ x i, G.lookup x = some (.fn i) → ∃ f : Addr, mg x = some (.ref f) ∧ PySem.W.keepIn K (.ref f) = true ∧ FnR P w K mg base (L2.CX P w) k f (spR κ (Ω.Φ i))
  cls : ∀ (c : Nat) (d : Cd), Ω.C[c]? = some d → Cls K (κ.cl c)
  noat : ∀ (c : Nat) (d : Cd) (f : Str), Ω.C[c]? = some d → d.fs.contains f = true → NoAttr K (κ.cl c) f
  meth : ∀ (c : Nat) (d : Cd) (m : Str) (j : Nat), Ω.C[c]? = some d → d.ms.lookup m = some j → ∃ f, Meth K (κ.cl c) m f ∧ FnR P w K mg base (L2.CX P w) k f (spR κ (Ω.Φ j))
  low : Ω.lo = true → ∃ k', k = k' + 1 ∧ ∀ x i, G.lookup x = some (.fn i) → ∃ f : Addr, mg x = some (.ref f) ∧ PySem.W.keepIn K (.ref f) = true ∧ FnR P w K mg base (L2.CX P w) k' f (spR κ (Ω.Ψ i))
  make : ∀ x cc, G.lookup x = some (.cls cc) → mg x = some (.ref (κ.cl cc)) ∧ ∃ f, Mk K (κ.cl cc) f ∧ ∀ j, initI Ω.C cc = some j → (∃ k', k = k' + 1 ∧ FnR P w K mg base (L2.CX P w) k' f (spR κ (Ω.Ψ j))) ∨ ∀ ds μ, Ω.Ψ j ds μ = .stuck
  xmk : Ω.xo = true → ∀ cc, cc < Ω.X.length → ∃ (fI : Addr) (k' : Nat) (fd : FuncData) (ps : List Str), k = k' + 1 ∧ OexC K (κ.xl cc) ∧ PySem.W.findIn K (.ref (κ.xl cc)) "__init__" = some (some (.ref fI)) ∧
    PySem.W.typeIn K (.ref fI) = some (.type "function") ∧ FnOk P w K mg base (L2.CX P w) k' fI fd ps (TkExc.spI (fun C => C = κ.xl cc) (flX Ω.X cc)) ∧ Binds K fd ps []
  xg : ∀ x cc, G.lookup x = some (.xcl cc) → mg x = some (.ref (κ.xl cc))
  xrd : XRd K κ.xl Ω.X.length
/-- where a def's code object and its table stand -/
def TabOk (base : Heap) (mg : Str → Option Value) (κ : Kx) (b : Bool) (cdv : Value) : Prop := b = true → ∃ cc P, cdv = .ref cc ∧ LamX.TabB base mg cc P ∧ P ∈ κ.tabs
/-- the body keeps the promise -/
theorem body_ok {d : Df} {n : Nat} {f : Addr} {cdv : Value} {G : List (Str × GV)} {m : Nat} (hs : fnScB d.N n d.sc = true) (hK : K = κ.K) (hb : trSs (trS m m (d.ctx G Ω.C)) d.body = some d.b) (hg : GOk' P w K mg base κ G Ω k)
    (ht : TabOk base mg κ d.tab cdv) {A : Around} {outer : List Env} {s : Shared} {H : Hp} {vs : List V} {Q : VK} {E : XK} (hr : Room k (A.deeper (envOfC d.qual d.sc s.heap.objs.size f cdv))) (hsp : spR κ (fun ds μ => if ds.length = n then runB Ω d.N.length d.b ds μ else .stuck) vs H Q E) :
    ∃ t, PSs (cxOf (L2.CX P w) P w K mg base d.N d.qual d.sc f cdv A outer s H E) d.body t ∧ t { nx := fun _ H' => Q .non H', rt := Q } (L2.start d.N vs) H := by
  have S := fnSc_ok hs
  obtain ⟨ρ, μ, ds, r, h2, p⟩ := hsp
  dsimp only at p
  have XO : XOk (d.ctx G Ω.C) κ Ω k (cxOf (L2.CX P w) P w K mg base d.N d.qual d.sc f cdv A outer s H E) (fun cls dd _ H => E cls dd H) :=
    { N := rfl, nd := S.nd, sc := rfl, kind := S.kind, hK := hK, calm := rfl, room := hr, tk := takes_of rfl rfl rfl rfl, fnB := fun _ _ => rfl, con := hg.con, free := hg.free, fn := fun _ => hg.fn, fnL := fun z => absurd z Bool.false_ne_true, low := fun _ => hg.low, tab := ht, hC := rfl, cls := fun _ => ⟨hg.cls, hg.noat, hg.meth⟩, make := fun _ => hg.make, xmk := fun _ => hg.xmk, xg := hg.xg, xrd := hg.xrd }
  have SO : SOk (cxOf (L2.CX P w) P w K mg base d.N d.qual d.sc f cdv A outer s H E) := ⟨passes_of rfl, rfl, rfl⟩
  refine ⟨_, tr_block (fun st s => tr_stmt m m XO SO st s) hb, ?_⟩
  by_cases hl : ds.length = n
  · rw [if_pos hl] at p
    refine ⟨ρ, ds.map some ++ List.replicate (d.N.length - ds.length) none, μ, ?_, r, ?_⟩
    · have := h2.slot (d.N.length - ds.length)
      unfold L2.start
      rw [← h2.len]
      exact this
    · unfold runB at p
      cases hm : evSs Ω d.b (ds.map some ++ List.replicate (d.N.length - ds.length) none) μ with
      | nx δ1 μ1 =>
        rw [hm] at p
        exact fun ρ1 H1 σ1 e1 r1 s1 => p ρ1 H1 _ e1 r1 (rep_non.mpr rfl)
      | ret d1 μ1 => rw [hm] at p; exact p
      | brk _ _ => rw [hm] at p; exact p.elim
      | cont _ _ => rw [hm] at p; exact p.elim
      | exc c fs δ1 μ1 =>
        rw [hm] at p
        exact fun ρ1 H1 σ1 dd gs e1 r1 s1 h1 f1 => p ρ1 H1 dd gs e1 r1 h1 f1
      | stuck => rw [hm] at p; exact p.elim
  · rw [if_neg hl] at p
    exact p.elim
theorem df_plain {d : Df} {f : Addr} {x : Str} {params : Arguments} {dV kV doc pm cdv ct oc : Value} {an od : Option Addr} {osl : Array (Option Value)} {G : List (Str × GV)} {m : Nat}
    (lk : K.lookup f = some ⟨oc, od, .func (PySem.W.fnOf x d.qual params d.body d.sc dV kV doc pm an cdv ct), osl⟩) (hcd : PySem.W.codeIn K cdv d.qual = true) (hs : fnScB d.N d.ps d.sc = true)
    (hK : K = κ.K) (hb : trSs (trS m m (d.ctx G Ω.C)) d.body = some d.b) (hg : GOk' P w K mg base κ G Ω k) (ht : TabOk base mg κ d.tab cdv) (st : d.star = false) :
    FnOk P w K mg base (L2.CX P w) (k + 1) f (PySem.W.fnOf x d.qual params d.body d.sc dV kV doc pm an cdv ct) (d.N.take d.n) (spR κ fun ds μ => if ds.length = d.n then runB Ω d.N.length d.b ds μ else .stuck) := by
  have hps : d.ps = d.n := if_neg (by rw [st]; simp)
  rw [hps] at hs
  have S := fnSc_ok hs
  have hnl : d.n ≤ d.N.length := by
    unfold fnScB at hs
    simp only [Bool.and_eq_true, decide_eq_true_eq] at hs
    exact hs.1.1.2
  have hpl : (d.N.take d.n).length = d.n := by rw [List.length_take, Nat.min_eq_left hnl]
  refine fn_of lk hcd S (fun vs H Q E h => ?_) fun A outer s H vs Q E hr hsp => body_ok hs hK hb hg ht hr hsp
  obtain ⟨ρ, μ, ds, r, h2, p⟩ := h
  dsimp only at p
  by_cases hl : ds.length = d.n
  · rw [← h2.len, hl, hpl]
  · rw [if_neg hl] at p
    exact p.elim
theorem df_ok {d : Df} {f : Addr} {x : Str} {params : Arguments} {dV kV doc pm cdv ct oc : Value} {an od : Option Addr} {osl : Array (Option Value)} {G : List (Str × GV)} {m : Nat}
    (lk : K.lookup f = some ⟨oc, od, .func (PySem.W.fnOf x d.qual params d.body d.sc dV kV doc pm an cdv ct), osl⟩) (hcd : PySem.W.codeIn K cdv d.qual = true) (hs : fnScB d.N d.ps d.sc = true)
    (hK : K = κ.K) (hb : trSs (trS m m (d.ctx G Ω.C)) d.body = some d.b) (hg : GOk' P w K mg base κ G Ω k) (ht : TabOk base mg κ d.tab cdv) (hbind : BindOk d (PySem.W.fnOf x d.qual params d.body d.sc dV kV doc pm an cdv ct)) :
    FnR P w K mg base (L2.CX P w) (k + 1) f (spR κ (d.run Ω)) := by
  have S := fnSc_ok hs
  have hnl : d.ps ≤ d.N.length := by
    unfold fnScB at hs
    simp only [Bool.and_eq_true, decide_eq_true_eq] at hs
    exact hs.1.1.2
  by_cases st : d.star = true
  · unfold BindOk at hbind
    rw [if_pos st] at hbind
    obtain ⟨ps, pv, hp1, hp2, hb2⟩ := hbind
    have hps : d.ps = d.n + 1 := if_pos st
    rw [hps] at hs S
    rw [hp1] at S
    refine (StX.fn_star (k := k) (sp := spR κ fun ds μ => if ds.length = d.n + 1 then runB Ω d.N.length d.b ds μ else .stuck) lk hcd S StX.cxUp hb2 fun A outer s H vs Q E hr hsp => body_ok hs hK hb hg ht hr hsp).imp fun vs H Q E ⟨ρ, μ, ds, r, h2, p⟩ => ?_
    unfold Df.run Df.args at p
    rw [if_pos st] at p
    by_cases hl : d.n ≤ ds.length ∧ ds.length ≤ sizeLine
    · rw [if_pos hl] at p
      have hv := h2.len
      refine ⟨vs.take d.n, vs.drop d.n, (List.take_append_drop _ _).symm, by rw [List.length_take, hp2]; omega, by rw [List.length_drop]; omega, fun q hq => ?_⟩
      have ex : Ext ρ H ρ (upd H q (.tup (vs.drop d.n))) := .newt hq
      refine ⟨ρ, μ, ds.take d.n ++ [.tup (ds.drop d.n)], r.newt hq, ((h2.take d.n).ext ex).append (.cons (rep_tup.mpr ⟨q, vs.drop d.n, rfl, .inl (.inl upd_same), (h2.drop d.n).ext ex⟩) .nil), ?_⟩
      have hz : (ds.take d.n ++ [D.tup (ds.drop d.n)]).length = d.n + 1 := by
        rw [List.length_append, List.length_take]
        show min d.n ds.length + 1 = d.n + 1
        omega
      dsimp only
      rw [if_pos hz]
      exact Post.ext ex p
    · rw [if_neg hl] at p
      exact p.elim
  · have st' : d.star = false := by simpa using st
    unfold BindOk at hbind
    rw [if_neg st] at hbind
    have hps : d.ps = d.n := if_neg st
    rw [hps] at hs S
    have hpl : (d.N.take d.n).length = d.n := by rw [List.length_take, Nat.min_eq_left (by rw [← hps]; exact hnl)]
    have F : FnOk P w K mg base (L2.CX P w) (k + 1) f (PySem.W.fnOf x d.qual params d.body d.sc dV kV doc pm an cdv ct) (d.N.take d.n) (spR κ fun ds μ => if ds.length = d.n then runB Ω d.N.length d.b ds μ else .stuck) := by
      refine fn_of lk hcd S (fun vs H Q E h => ?_) fun A outer s H vs Q E hr hsp => body_ok hs hK hb hg ht hr hsp
      obtain ⟨ρ, μ, ds, r, h2, p⟩ := h
      dsimp only at p
      by_cases hl : ds.length = d.n
      · rw [← h2.len, hl, hpl]
      · rw [if_neg hl] at p
        exact p.elim
    refine (F.raw (Binds.all hbind) .nil).imp fun vs H Q E ⟨ρ, μ, ds, r, h2, p⟩ => ?_
    rw [List.append_nil]
    refine ⟨ρ, μ, ds, r, h2, ?_⟩
    unfold Df.run Df.args at p
    rw [if_neg st] at p
    by_cases hl : ds.length = d.n
    · rw [if_pos hl] at p
      dsimp only
      rw [if_pos hl]
      exact p
    · rw [if_neg hl] at p
      exact p.elim
end
end Tk

namespace Tk
open PySem PySem.Spec PyProof.Rows L2

/-! ### own exceptions: a first class over ValueError, the others over it -/
structure Xd where
  name : Str
  qual : Str
  st : Stmt
def Xd.at_ (d : Xd) : Str × Option Str := (d.name, some ("__init__" : Str))
/-- what its __init__ says: its parameters, whether it keeps the place, its name's text -/
def shOf : List Stmt → Option (Str × Str × Bool × Str)
  | [.Expr (.Call (.Attribute (.Call (.Name s _) [] [] _) m p2) [.Name y _] [] p4) _, .Assign [.Attribute (.Name x1 _) f1 _] (.Name y2 _) _, .Assign [.Attribute (.Name x2 _) f2 _] (.Constant (.str n) _ _) _] =>
    if s = "super" ∧ m = "__init__" ∧ (p2.endLine == p4.line) = true ∧ x1 = x2 ∧ y2 = y ∧ f1 = "place" ∧ f2 = "name" then some (x2, y, true, n) else none
  | [.Expr (.Call (.Attribute (.Call (.Name s _) [] [] _) m p2) [.Name y _] [] p4) _, .Assign [.Attribute (.Name x2 _) f2 _] (.Constant (.str n) _ _) _] =>
    if s = "super" ∧ m = "__init__" ∧ (p2.endLine == p4.line) = true ∧ f2 = "name" then some (x2, y, false, n) else none
  | _ => none
theorem shOf_root {b : List Stmt} {x y n : Str} (h : shOf b = some (x, y, true, n)) : ∃ (p0 p1 p2 py p4 p5 q1 q2 q3 q4 r1 r2 r3 r4 : Pos) (j : Nat), (p2.endLine == p4.line) = true ∧
    b = [TkExc.stSup y p0 p1 p2 py p4 p5, TkExc.stFld x "place" (.Name y q3) q1 q2 q4, TkExc.stFld x "name" (.Constant (.str n) j r3) r1 r2 r4] := by
  unfold shOf at h
  split at h
  · split at h
    · rename_i hc
      obtain ⟨rfl, rfl, hl, rfl, rfl, rfl, rfl⟩ := hc
      cases h
      exact ⟨_, _, _, _, _, _, _, _, _, _, _, _, _, _, _, hl, rfl⟩
    · cases h
  · split at h
    · cases h
    · cases h
  · cases h
theorem shOf_der {b : List Stmt} {x y n : Str} (h : shOf b = some (x, y, false, n)) : ∃ (p0 p1 p2 py p4 p5 r1 r2 r3 r4 : Pos) (j : Nat), (p2.endLine == p4.line) = true ∧
    b = [TkExc.stSup y p0 p1 p2 py p4 p5, TkExc.stFld x "name" (.Constant (.str n) j r3) r1 r2 r4] := by
  unfold shOf at h
  split at h
  · split at h
    · cases h
    · cases h
  · split at h
    · rename_i hc
      obtain ⟨rfl, rfl, hl, rfl⟩ := hc
      cases h
      exact ⟨_, _, _, _, _, _, _, _, _, _, _, hl, rfl⟩
    · cases h
  · cases h
def supSB (x y : Str) (sc : Scope) : Bool := NdefX.nscB [x, y, ("__class__" : Str)] [x, y] [("__class__" : Str)] sc && decide (sc.names.lookup ("super" : Str) = some .globalImplicit) && !(x == ("__debug__" : Str)) && !(y == ("__debug__" : Str)) && !(x == ("__classdict__" : Str)) && !(y == ("__classdict__" : Str))
theorem supS_ok {x y : Str} {sc : Scope} (h : supSB x y sc = true) : TkExc.SupS x y sc := by
  unfold supSB at h
  simp only [Bool.and_eq_true, decide_eq_true_eq, Bool.not_eq_true'] at h
  obtain ⟨⟨⟨⟨⟨h1, h2⟩, h3⟩, h4⟩, h5⟩, h6⟩ := h
  exact ⟨NdefX.nscope_by h1, h2, h3, h4, h5, h6⟩
def argN (a : Arguments) : List Str := (a.posonlyargs ++ a.args).map (·.arg)
/-- the text of class c -/
def Xd.ok (root : Bool) (d : Xd) : Bool := match shOf (defBody d.st) with
  | some (x, y, r, n) => (r == root) && decide (n = d.name) && decide (argN (defArgs d.st) = [x, y]) && supSB x y (defScope d.st)
  | none => false
theorem Xd.ok_sh {root : Bool} {d : Xd} (h : d.ok root = true) : ∃ x y, shOf (defBody d.st) = some (x, y, root, d.name) ∧ argN (defArgs d.st) = [x, y] ∧ TkExc.SupS x y (defScope d.st) := by
  unfold Xd.ok at h
  split at h
  · rename_i x y r n e
    simp only [Bool.and_eq_true, decide_eq_true_eq, beq_iff_eq] at h
    obtain ⟨⟨⟨rfl, rfl⟩, h3⟩, h4⟩ := h
    exact ⟨x, y, e, h3, supS_ok h4⟩
  · cases h
def bindX (d : Xd) : Prop := ∀ (kV doc pm : Value) (an : Option Addr) (cdv ct : Value) (cl : List (Str × Addr)) (u v : Value), bindArgs (PySem.W.fnX "__init__" d.qual (defArgs d.st) (defBody d.st) (defScope d.st) cl .none kV doc pm an cdv ct) ⟨[u, v], []⟩ = pure ((argN (defArgs d.st)).zip [u, v])

/-! ### what the written part says of them -/
abbrev XW : Type := Option (Str × Str × Arguments × FuncBody × Scope × Addr × List Str × Addr)
def xW (K : PySem.W.Frag) (p : Str × Option Str) : XW := match K.lookup (He.fAd K p) with
  | some ⟨_, _, .func fd, _⟩ => some (fd.name, fd.qualname, fd.params, fd.body, fd.scope, fd.globals, fd.closure.map (·.1), fd.builtins)
  | _ => none
def Xd.val (d : Xd) : XW := some (("__init__" : Str), d.qual, defArgs d.st, .stmts (defBody d.st), defScope d.st, mainGlobals, [("__class__" : Str)], builtinsNs)
def oexB (K : PySem.W.Frag) (C : Addr) : Bool := (match K.lookup C with
  | some ⟨.type "type", _, .cls cd, sl⟩ => (match cd.mro, sl.toList with
    | .ref C' :: bm, [_, _, _, _, some (.builtin n), _] => C' == C && n == "ValueError.__new__" && !cd.hasDel && cd.hasDict && PySem.HandSPX.refsVE bm
    | _, _ => false)
  | _ => false) && (decide (PySem.W.findIn K (.ref C) "__setattr__" = some (some (.builtin "object.__setattr__"))) && (decide (PySem.W.subIn K (.ref C) (.type "BaseException") = some true) && (decide (PySem.W.typeIn K (.ref C) = some (.type "type")) && PySem.W.keepIn K (.ref C))))
theorem oex_ok {K : PySem.W.Frag} {C : Addr} (h : oexB K C = true) : OexC K C := by
  obtain ⟨h1, h⟩ := Bool.and_eq_true_iff.mp h
  obtain ⟨h2, h⟩ := Bool.and_eq_true_iff.mp h
  obtain ⟨h3, h⟩ := Bool.and_eq_true_iff.mp h
  obtain ⟨h4, h5⟩ := Bool.and_eq_true_iff.mp h
  refine ⟨?_, of_decide_eq_true h2, of_decide_eq_true h3, of_decide_eq_true h4, h5⟩
  split at h1
  · rename_i dd cd sl ho
    split at h1
    · rename_i C' bm k0 k1 k2 k3 n k5 hm hs
      simp only [Bool.and_eq_true, beq_iff_eq, Bool.not_eq_true'] at h1
      obtain ⟨⟨⟨⟨rfl, rfl⟩, hdel⟩, hdict⟩, ht⟩ := h1
      obtain ⟨nm, bs, mro, ns, qn, hd, sn, sub, ab, col, del⟩ := cd
      dsimp only at hm hdel hdict
      subst hm hdel hdict
      have hsl : sl = #[k0, k1, k2, k3, some (.builtin "ValueError.__new__"), k5] := by
        obtain ⟨l⟩ := sl
        simp only at hs
        rw [hs]
      subst hsl
      exact ⟨nm, qn, ns, bs, bm, sn, sub, ab, col, dd, k0, k1, k2, k3, k5, ho, ht⟩
    · cases h1
  · cases h1
/-- its __init__'s code object and cell -/
def supFB (K : PySem.W.Frag) (file qual : Str) (f C : Addr) : Bool := PySem.W.fnIn K f && decide (PySem.W.typeIn K (.ref f) = some (.type "function")) && (match K.lookup f with
  | some ⟨_, _, .func fd, _⟩ => (match fd.defaults with | .none => true | _ => false) && PySem.W.codeIn K fd.code qual && (match fd.code with
      | .ref cda => (match K.lookup cda with
        | some ⟨_, _, .fields vs, _⟩ => (match (vs[2]? : Option Value) with
          | some (.str s _) => file == s
          | _ => false)
        | _ => false)
      | _ => false) && (match fd.closure with
      | [(_, cc)] => (match K.lookup cc with
        | some ⟨_, _, .cell (some (.ref D)), _⟩ => D == C
        | _ => false)
      | _ => false)
  | _ => false)
def xcB (K : PySem.W.Frag) (file : Str) (C0 : Addr) (root : Bool) (d : Xd) : Bool := oexB K (He.ga K d.name) && xfB K (He.ga K d.name) && supFB K file d.qual (He.fAd K d.at_) (He.ga K d.name) && (PySem.W.clsIn K (He.ga K d.name)).isSome && decide (PySem.W.subIn K (.ref (He.ga K d.name)) (.type "ValueError") = some true) &&
  decide (PySem.W.mroIn K (He.ga K d.name) (.ref C0) = some true) && decide (PySem.W.ks_superIn K (He.ga K d.name) C0 "__init__" = some (some (.builtin "ValueError.__init__"))) && decide (PySem.W.mroIn K (He.ga K d.name) (.ref (He.ga K d.name)) = some true) &&
  decide (PySem.W.findIn K (.ref (He.ga K d.name)) "__init__" = some (some (.ref (He.fAd K d.at_)))) && decide (PySem.W.findIn K (.ref (He.ga K d.name)) "place" = some none) && decide (PySem.W.findIn K (.ref (He.ga K d.name)) "name" = some none) &&
  He.eqO (PySem.W.nsIn K mainGlobals d.name) (some (some (.ref (He.ga K d.name))))
structure XcF (K : PySem.W.Frag) (file : Str) (C0 : Addr) (d : Xd) : Prop where
  oex : OexC K (He.ga K d.name)
  xf : XfC K (He.ga K d.name)
  sup : supFB K file d.qual (He.fAd K d.at_) (He.ga K d.name) = true
  cls : ∃ cd, PySem.W.clsIn K (He.ga K d.name) = some cd
  ve : PySem.W.subIn K (.ref (He.ga K d.name)) (.type "ValueError") = some true
  m0 : PySem.W.mroIn K (He.ga K d.name) (.ref C0) = some true
  s0 : PySem.W.ks_superIn K (He.ga K d.name) C0 "__init__" = some (some (.builtin "ValueError.__init__"))
  m1 : PySem.W.mroIn K (He.ga K d.name) (.ref (He.ga K d.name)) = some true
  ini : PySem.W.findIn K (.ref (He.ga K d.name)) "__init__" = some (some (.ref (He.fAd K d.at_)))
  np : PySem.W.findIn K (.ref (He.ga K d.name)) "place" = some none
  nn : PySem.W.findIn K (.ref (He.ga K d.name)) "name" = some none
  glo : PySem.W.nsIn K mainGlobals d.name = some (some (.ref (He.ga K d.name)))
theorem xcB_ok {K : PySem.W.Frag} {file : Str} {C0 : Addr} {root : Bool} {d : Xd} (h : xcB K file C0 root d = true) : XcF K file C0 d := by
  unfold xcB at h
  simp only [Bool.and_eq_true, decide_eq_true_eq] at h
  obtain ⟨⟨⟨⟨⟨⟨⟨⟨⟨⟨⟨h1, h2⟩, h3⟩, h4⟩, h5⟩, h6⟩, h7⟩, h8⟩, h9⟩, h10⟩, h11⟩, h12⟩ := h
  exact ⟨oex_ok h1, xfB_ok h2, h3, Option.isSome_iff_exists.mp h4, h5, h6, h7, h8, h9, h10, h11, He.eqO_ok h12⟩
theorem sup_facts {P : Program} {K : PySem.W.Frag} {d : Xd} {C0 : Addr} {x y : Str} (F : XcF K P.main.file C0 d) (w : xW K d.at_ = d.val) (ha : argN (defArgs d.st) = [x, y]) (hopq : PySem.W.nsIn K cStatics "thirdparty.any" = some none) (htop : (P.main.scope.names.lookup ("super" : Str)).isSome = false) :
    ∃ oc od osl kV doc pm an cda ct cc, K.lookup (He.fAd K d.at_) = some ⟨oc, od, .func (PySem.W.fnX "__init__" d.qual (defArgs d.st) (defBody d.st) (defScope d.st) [(("__class__" : Str), cc)] .none kV doc pm an (.ref cda) ct), osl⟩ ∧ PySem.W.codeIn K (.ref cda) d.qual = true ∧
      TkExc.SupF P K (He.fAd K d.at_) cda cc (He.ga K d.name) (PySem.W.fnX "__init__" d.qual (defArgs d.st) (defBody d.st) (defScope d.st) [(("__class__" : Str), cc)] .none kV doc pm an (.ref cda) ct) x ∧
      PySem.W.fnIn K (He.fAd K d.at_) = true ∧ PySem.W.typeIn K (.ref (He.fAd K d.at_)) = some (.type "function") := by
  have s := F.sup
  unfold supFB at s
  simp only [Bool.and_eq_true, decide_eq_true_eq] at s
  obtain ⟨⟨s1, s2⟩, s3⟩ := s
  unfold xW at w
  cases q : K.lookup (He.fAd K d.at_) with
  | none => rw [q] at s3; cases s3
  | some o =>
    obtain ⟨oc, od, dt, osl⟩ := o
    rw [q] at s3 w
    cases dt with
    | func fd =>
      obtain ⟨n1, n2, n3, n4, n5, n6, n7, n8, n9, n10, n11, n12, n13, n14, n15⟩ := fd
      have e2 : (some (n1, n2, n3, n4, n5, n6, n7.map (·.1), n15) : XW) = some (("__init__" : Str), d.qual, defArgs d.st, .stmts (defBody d.st), defScope d.st, mainGlobals, [("__class__" : Str)], builtinsNs) := w
      simp only [Option.some.injEq, Prod.mk.injEq] at e2
      obtain ⟨h1, h2, h3, h4, h5, h6, h7, h8⟩ := e2
      subst h1 h2 h3 h4 h5 h6 h8
      dsimp only at s3
      simp only [Bool.and_eq_true] at s3
      obtain ⟨⟨⟨t0, t1⟩, t2⟩, t3⟩ := s3
      have e8 : n8 = .none := by
        cases n8 <;> first | rfl | cases t0
      subst e8
      split at t2
      · rename_i cda
        split at t2
        · rename_i ccl cdd vs ccs hc
          split at t2
          · rename_i sv tf hv
            split at t3
            · rename_i x0 cc
              split at t3
              · rename_i cl cld D csl hcell
                have eD : D = He.ga K d.name := by simpa using t3
                subst eD
                have ex : x0 = ("__class__" : Str) := by simpa using h7
                subst ex
                refine ⟨oc, od, osl, n9, n10, n11, n12, cda, n14, cc, rfl, t1, ⟨⟨oc, od, osl, q⟩, ?_, ⟨ccl, cdd, vs, ccs, sv, tf, hc, hv, t2⟩, ⟨cl, cld, csl, hcell⟩, htop, hopq, F.cls⟩, s1, s2⟩
                unfold argN at ha
                cases hl : (defArgs d.st).posonlyargs ++ (defArgs d.st).args with
                | nil => rw [hl] at ha; cases ha
                | cons a r =>
                  rw [hl] at ha
                  rw [List.map_cons] at ha
                  refine ⟨a, ?_, (List.cons.inj ha).1⟩
                  rfl
              · cases t3
            · cases t3
          · cases t2
        · cases t2
      · cases t2
    | _ => cases s3

/-- the classes: the first one is the root -/
def xlOf (xs : List Xd) (K : PySem.W.Frag) (c : Nat) : Addr := match xs[c]? with
  | some d => He.ga K d.name
  | none => 0
def xChk (xs : List Xd) (file : Str) (K : PySem.W.Frag) : Bool := xs.isEmpty || (decide (PySem.W.nsIn K cStatics "thirdparty.any" = some none) && He.eqO (PySem.W.nsIn K mainGlobals ("super" : Str)) (some none) &&
  (xs.all fun d => xcB K file (xlOf xs K 0) true d) && ((xs.tail.all fun d => decide (PySem.W.ks_superIn K (He.ga K d.name) (He.ga K d.name) "__init__" = some (some (.ref (match xs[0]? with | some d0 => He.fAd K d0.at_ | none => 0))))) &&
  ((List.range xs.length).all fun a => (List.range xs.length).all fun b => decide (PySem.W.exmOne K (.ref (xlOf xs K a)) (.ref (xlOf xs K b)) = some (xsub a b)))))
def xOk : List Xd → Bool
  | [] => true
  | d0 :: ds => d0.ok true && ds.all fun d => d.ok false
structure XsF (xs : List Xd) (file : Str) (K : PySem.W.Frag) : Prop where
  opq : PySem.W.nsIn K cStatics "thirdparty.any" = some none
  sup : PySem.W.nsIn K mainGlobals ("super" : Str) = some none
  cls : ∀ d ∈ xs, XcF K file (xlOf xs K 0) d
  der : ∀ d ∈ xs.tail, PySem.W.ks_superIn K (He.ga K d.name) (He.ga K d.name) "__init__" = some (some (.ref (match xs[0]? with | some d0 => He.fAd K d0.at_ | none => 0)))
  exm : ∀ a b, a < xs.length → b < xs.length → PySem.W.exmOne K (.ref (xlOf xs K a)) (.ref (xlOf xs K b)) = some (xsub a b)
theorem xChk_ok {xs : List Xd} {file : Str} {K : PySem.W.Frag} (h : xChk xs file K = true) (hne : xs ≠ []) : XsF xs file K := by
  unfold xChk at h
  rcases Bool.or_eq_true_iff.mp h with h | h
  · exact absurd (List.isEmpty_iff.mp h) hne
  · simp only [Bool.and_eq_true, decide_eq_true_eq, List.all_eq_true, List.mem_range] at h
    obtain ⟨⟨⟨h1, h2⟩, h3⟩, h4, h5⟩ := h
    exact ⟨h1, He.eqO_ok h2, fun d hd => xcB_ok (h3 d hd), h4, fun a b ha hb => h5 a ha b hb⟩
section
variable {P : Program} {w : World} {K : PySem.W.Frag} {mg : Str → Option Value} {base h : Heap} {xs : List Xd}
theorem xrd_of (F : xs ≠ [] → XsF xs P.main.file K) : XRd K (xlOf xs K) xs.length := by
  refine ⟨fun c hc => ?_, fun a b ha hb => ?_⟩
  · have hne : xs ≠ [] := fun e => by rw [e] at hc; exact absurd hc (Nat.not_lt_zero _)
    have f := (F hne).cls xs[c] (List.getElem_mem hc)
    have e : xlOf xs K c = He.ga K xs[c].name := by
      unfold xlOf
      rw [List.getElem?_eq_getElem hc]
    rw [e]
    exact ⟨f.xf, f.np, f.nn⟩
  · have hne : xs ≠ [] := fun e => by rw [e] at ha; exact absurd ha (Nat.not_lt_zero _)
    exact (F hne).exm a b ha hb
theorem binds_x {d : Xd} {x y : Str} {kV doc pm cdv ct : Value} {an : Option Addr} {cl : List (Str × Addr)} (hb : bindX d) (ha : argN (defArgs d.st) = [x, y]) : Binds K (PySem.W.fnX "__init__" d.qual (defArgs d.st) (defBody d.st) (defScope d.st) cl .none kV doc pm an cdv ct) [x, y] [] := by
  refine Binds.all fun us hl => ?_
  match us, hl with
  | [u, v], _ =>
    have := hb kV doc pm an cdv ct cl u v
    rw [ha] at this
    exact this
theorem xmk_of (X : K.In h) (Gh : h.Ns mainGlobals mg) (F : xs ≠ [] → XsF xs P.main.file K) (hw : ∀ d ∈ xs, xW K d.at_ = d.val) (ok : xOk xs = true) (hb : ∀ d ∈ xs, bindX d) (htop : (P.main.scope.names.lookup ("super" : Str)).isSome = false) {k : Nat} (hk : 3 ≤ k) {cc : Nat} (hcc : cc < xs.length) :
    ∃ (fI : Addr) (k' : Nat) (fd : FuncData) (ps : List Str), k = k' + 1 ∧ OexC K (xlOf xs K cc) ∧ PySem.W.findIn K (.ref (xlOf xs K cc)) "__init__" = some (some (.ref fI)) ∧
    PySem.W.typeIn K (.ref fI) = some (.type "function") ∧ FnOk P w K mg base (L2.CX P w) k' fI fd ps (TkExc.spI (fun C => C = xlOf xs K cc) (flX (xs.map (·.name)) cc)) ∧ Binds K fd ps [] := by
  cases xs with
  | nil => exact absurd hcc (Nat.not_lt_zero _)
  | cons d0 ds =>
    have FF := F (by simp)
    obtain ⟨ok0, ok1⟩ := Bool.and_eq_true_iff.mp (show (d0.ok true && ds.all fun d => d.ok false) = true from ok)
    have m0 : d0 ∈ d0 :: ds := List.mem_cons_self
    have f0 := FF.cls d0 m0
    have hm : mg ("super" : Str) = none := PySem.W.mg_none_of X Gh FF.sup
    have xl0 : xlOf (d0 :: ds) K 0 = He.ga K d0.name := rfl
    obtain ⟨x, y, sh, ha, SS⟩ := Xd.ok_sh ok0
    obtain ⟨oc, od, osl, kV, doc, pm, an, cda, ct, cl, lk, hcd, SF, fn0, ty0⟩ := sup_facts (P := P) f0 (hw d0 m0) ha FF.opq htop
    obtain ⟨p0, p1, p2, py, p4, p5, q1, q2, q3, q4, r1, r2, r3, r4, j, hl, hbody⟩ := shOf_root sh
    have R0 := TkExc.root_ok (P := P) (w := w) (mg := mg) (base := base) (k := 0) SS lk hcd SF hm hl hbody
    have B0 := binds_x (K := K) (kV := kV) (doc := doc) (pm := pm) (cdv := .ref cda) (ct := ct) (an := an) (cl := [(("__class__" : Str), cl)]) (hb d0 m0) ha
    have okR : ∀ d ∈ d0 :: ds, TkExc.okRoot K (He.ga K d0.name) (He.ga K d.name) := fun d hd => by
      have f := FF.cls d hd
      exact ⟨⟨f.oex, f.np, f.nn, f.ve⟩, f.m0, f.s0⟩
    cases k with
    | zero => omega
    | succ k' =>
      cases cc with
      | zero =>
        refine ⟨He.fAd K d0.at_, k', _, [x, y], rfl, f0.oex, f0.ini, ty0, ?_, B0⟩
        refine (R0.mono (by omega)).imp fun vs H Q E ⟨a, C, v, e1, e2, e3, e4⟩ => ⟨a, C, v, e1, ?_, e3, e4⟩
        rw [e2]
        exact okR d0 m0
      | succ cc =>
        have hlt : cc < ds.length := by simpa using hcc
        have md : ds[cc] ∈ d0 :: ds := List.mem_cons_of_mem _ (List.getElem_mem hlt)
        have xlc : xlOf (d0 :: ds) K (cc + 1) = He.ga K ds[cc].name := by
          unfold xlOf
          rw [List.getElem?_cons_succ, List.getElem?_eq_getElem hlt]
        have fc := FF.cls _ md
        obtain ⟨x', y', sh', ha', SS'⟩ := Xd.ok_sh (List.all_eq_true.mp ok1 _ (List.getElem_mem hlt))
        obtain ⟨oc', od', osl', kV', doc', pm', an', cda', ct', cl', lk', hcd', SF', fn', ty'⟩ := sup_facts (P := P) fc (hw _ md) ha' FF.opq htop
        obtain ⟨p0', p1', p2', py', p4', p5', r1', r2', r3', r4', j', hl', hbody'⟩ := shOf_der sh'
        have RR : FnR P w K mg base (L2.CX P w) 1 (He.fAd K d0.at_) (TkExc.spI (TkExc.okRoot K (He.ga K d0.name)) (TkExc.flRoot d0.name)) := (R0.raw B0 .nil).imp fun vs H Q E z => by
          rw [List.append_nil]
          exact z
        have D0 := TkExc.der_ok (P := P) (w := w) (mg := mg) (base := base) (k := 1) SS' lk' hcd' SF' hm hl' hbody' ty0 fn0 RR
        have hnm : (List.map (fun d : Xd => d.name) (d0 :: ds)).getD (cc + 1) Str.empty = ds[cc].name := by
          simp [List.getD, hlt]
        have B1 := binds_x (K := K) (kV := kV') (doc := doc') (pm := pm') (cdv := .ref cda') (ct := ct') (an := an') (cl := [(("__class__" : Str), cl')]) (hb _ md) ha'
        refine ⟨He.fAd K ds[cc].at_, k', _, [x', y'], rfl, ?_, ?_, ty', ?_, B1⟩
        · rw [xlc]; exact fc.oex
        · rw [xlc]; exact fc.ini
        · refine (D0.mono (by omega)).imp fun vs H Q E ⟨a, C, v, e1, e2, e3, e4⟩ => ⟨a, C, v, e1, ?_, e3, ?_⟩
          · rw [e2, xlc]
            exact ⟨okR _ md, fc.m1, FF.der _ (List.getElem_mem hlt)⟩
          · unfold flX at e4
            dsimp only at e4
            rw [hnm] at e4
            exact e4
end
end Tk

namespace Tk
open PySem PySem.Spec PyProof.Rows L2

/-! ### the module's constants -/
mutual
def conB (K : PySem.W.Frag) : D → Value → Bool
  | .non, .none => true
  | .bl b, .bool c => b == c
  | .int i, .int j _ => decide (i = j)
  | .str x, .str y _ => decide (x = y)
  | .tup ds, .ref a => (match K.lookup a with
    | some ⟨.type c, _, .seq its _, _⟩ => decide (c = "tuple") && (decide (its.size ≤ sizeLine) && conBs K ds its.toList)
    | _ => false)
  | _, _ => false
def conBs (K : PySem.W.Frag) : List D → List Value → Bool
  | [], [] => true
  | d :: ds, v :: vs => conB K d v && conBs K ds vs
  | _, _ => false
end
def conAt (K : PySem.W.Frag) (x : Str) (d : D) : Bool := match PySem.W.nsIn K mainGlobals x with
  | some (some v) => conB K d v
  | _ => false
section
variable {κ : Kx}
mutual
theorem conB_ok : ∀ (d : D) (u : Value), conB κ.K d u = true → ∃ v, RelV v u ∧ ∀ ρ H, Rep κ ρ H d v
  | .non, u, h => by
    cases u <;> first | (exact ⟨.non, rfl, fun _ _ => rep_non.mpr rfl⟩) | (unfold conB at h; cases h; done)
  | .bl b, u, h => by
    cases u with
    | bool c =>
      unfold conB at h
      have e : b = c := by simpa using h
      exact ⟨.bl b, by rw [e]; rfl, fun _ _ => rep_bl.mpr rfl⟩
    | _ => unfold conB at h; cases h
  | .int b, u, h => by
    cases u with
    | int c t =>
      unfold conB at h
      have e : b = c := by simpa using h
      exact ⟨.int b, ⟨t, by rw [e]⟩, fun _ _ => rep_int.mpr rfl⟩
    | _ => unfold conB at h; cases h
  | .str b, u, h => by
    cases u with
    | str c t =>
      unfold conB at h
      have e : b = c := by simpa using h
      exact ⟨.str b, ⟨t, by rw [e]⟩, fun _ _ => rep_str.mpr rfl⟩
    | _ => unfold conB at h; cases h
  | .ty n, u, h => by unfold conB at h; cases u <;> cases h
  | .loc n, u, h => by unfold conB at h; cases u <;> cases h
  | .tup ds, u, h => by
    cases u with
    | ref a =>
      unfold conB at h
      split at h
      · rename_i c od its n sl q
        simp only [Bool.and_eq_true, decide_eq_true_eq] at h
        obtain ⟨h1, h2, h3⟩ := h
        obtain ⟨vs, h4, h5⟩ := conBs_ok ds its.toList h3
        refine ⟨.ref a, rfl, fun ρ H => rep_tup.mpr ⟨a, vs, rfl, .inr ⟨_, its, n, q, congrArg Value.type h1, rfl, h2, h4⟩, h5 ρ H⟩⟩
      · cases h
    | _ => unfold conB at h; cases h
theorem conBs_ok : ∀ (ds : List D) (us : List Value), conBs κ.K ds us = true → ∃ vs, Vals vs us ∧ ∀ ρ H, Reps κ ρ H ds vs
  | [], us, h => by
    cases us with
    | nil => exact ⟨[], .nil, fun _ _ => .nil⟩
    | cons u us => unfold conBs at h; cases h
  | d :: ds, us, h => by
    cases us with
    | nil => unfold conBs at h; cases h
    | cons u us =>
      unfold conBs at h
      obtain ⟨h1, h2⟩ := Bool.and_eq_true_iff.mp h
      obtain ⟨v, h3, h4⟩ := conB_ok d u h1
      obtain ⟨vs, h5, h6⟩ := conBs_ok ds us h2
      exact ⟨v :: vs, .cons h3 h5, fun ρ H => .cons (h4 ρ H) (h6 ρ H)⟩
end
theorem conAt_ok {h : Heap} {mg : Str → Option Value} (X : κ.K.In h) (G : h.Ns mainGlobals mg) {x : Str} {d : D} (c : conAt κ.K x d = true) : ∃ u v, mg x = some u ∧ RelV v u ∧ ∀ ρ H, Rep κ ρ H d v := by
  unfold conAt at c
  split at c
  · rename_i v hv
    obtain ⟨w, h1, h2⟩ := conB_ok d v c
    exact ⟨v, w, PySem.W.mg_of X G hv, h1, h2⟩
  · cases c
end

/-! ### the head's facts -/
def gvFa (x : Str) : GV → List He.Fa
  | .free => [.free x]
  | .fn _ => [.glo x]
  | .con _ => []
  | .cls _ => []
  | .xcl _ => []
def gFa (G : List (Str × GV)) : List He.Fa := G.flatMap fun p => gvFa p.1 p.2
def gEx (G : List (Str × GV)) (K : PySem.W.Frag) : Bool := G.all fun p => match p.2 with
  | .con d => conAt K p.1 d
  | _ => true
structure Dd where
  st : Stmt
  at_ : Str × Option Str
  name : Str
  qual : Str
  N : List Str
  n : Nat
  star : Bool
  b : Ss
  tab : Bool
def Dd.df (d : Dd) : Df := ⟨d.qual, d.N, d.n, d.star, defScope d.st, defBody d.st, d.b, d.tab⟩
def Dd.he (d : Dd) : He.DefD := ⟨d.at_, d.name, d.qual, defArgs d.st, defBody d.st, defScope d.st, [], []⟩
/-- the program: its defs, its names, its classes -/
structure Pg where
  T : List Dd
  G : List (Str × GV)
  C : List Cd
  X : List Xd
  file : Str
def clsFa (k : Cd) : List He.Fa := [.glo k.name, .cls k.name] ++ k.fs.map (.noat k.name) ++ k.ms.map (fun p => .meth k.name p.1) ++ (if (k.ms.lookup ("__init__" : Str)).isSome = true then [.mkr k.name] else [])
def Pg.fa (p : Pg) : List He.Fa := gFa p.G ++ p.C.flatMap clsFa
def Pg.ok (p : Pg) : Bool := (p.T.all fun d => fnScB d.N d.df.ps (defScope d.st)) && ((p.G.all fun q => match q.2 with
  | .fn i => (match p.T[i]? with
    | some d => decide (d.at_ = (q.1, none))
    | none => false)
  | .cls c => (match p.C[c]? with
    | some k => decide (k.name = q.1) && (k.ms.lookup ("__init__" : Str)).isSome
    | none => false)
  | _ => true) && p.C.all fun k => k.ms.all fun q => match p.T[q.2]? with
    | some d => decide (d.at_ = (k.name, some q.1))
    | none => false)
def Pg.okx (p : Pg) : Bool := xOk p.X && p.G.all fun q => match q.2 with
  | .xcl c => (match p.X[c]? with
    | some d => decide (d.name = q.1)
    | none => false)
  | _ => true
def stk : Nat → List D → Mu → Res D := fun _ _ _ => .stuck
def phiP (p : Pg) (fu : Nat) : Nat → (Nat → List D → Mu → Res D) × (Nat → List D → Mu → Res D)
  | 0 => (stk, stk)
  | k + 1 => (fun i ds μ => match p.T[i]? with
    | some d => d.df.run ⟨(phiP p fu k).1, (phiP p fu k).2, fu, p.C, decide (0 < k), p.X.map (fun d => d.name), decide (3 ≤ k)⟩ ds μ
    | none => .stuck, (phiP p fu k).1)
def phi (p : Pg) (fu k : Nat) : Nat → List D → Mu → Res D := (phiP p fu k).1
def psi (p : Pg) (fu k : Nat) : Nat → List D → Mu → Res D := (phiP p fu k).2
abbrev omAt (p : Pg) (fu k : Nat) : Om := ⟨phi p fu k, psi p fu k, fu, p.C, decide (0 < k), p.X.map (fun d => d.name), decide (3 ≤ k)⟩
theorem psi_s {p : Pg} {fu k : Nat} : psi p fu (k + 1) = phi p fu k := rfl
theorem phi_s {p : Pg} {fu k i : Nat} {d : Dd} (h : p.T[i]? = some d) : phi p fu (k + 1) i = d.df.run (omAt p fu k) := by
  funext ds μ
  show (match p.T[i]? with
    | some d => d.df.run (omAt p fu k) ds μ
    | none => .stuck) = _
  rw [h]
/-- the defs with a generator expression -/
def Pg.tf (p : Pg) : List He.Defn := (p.T.filter fun d => d.tab).map fun d => d.at_
structure SaysM (fa : List He.Fa) (fn : List He.DefD) (xs : List Xd) (tf : List He.Defn) (ex : PySem.W.Frag → Bool) (h : Heap) (K : PySem.W.Frag) : Prop where
  d : He.SaysD fa fn K
  more : ex K = true
  xw : ∀ d ∈ xs, xW K d.at_ = d.val
  hd : ∀ p ∈ tf, PySem.W.codeHdIn K (He.cT K p).1 (He.cT K p).2 = true
  out : ∀ p ∈ tf, K.lookup (He.cT K p).2 = none
  empty : ∀ p ∈ tf, h.get? (He.cT K p).2 = some { cls := .none, data := .fields #[] }
/-- the module's names, and the statics -/
def asX (g : Addr → Option Obj) (n : Nat) : List Addr := cStatics :: He.asD g n
def obsM (fa : List He.Fa) (fn : List He.DefD) (xs : List Xd) (tf : List He.Defn) (ex : PySem.W.Frag → Bool) (g : Addr → Option Obj) (K : PySem.W.Frag) : He.AlD × List XW × Bool := (He.obsD fa fn K, xs.map (fun d => xW K d.at_), ex K && He.tabsB g tf K)
theorem saysM_of {n : Nat} {fa : List He.Fa} {fn : List He.DefD} {xs : List Xd} {tf : List He.Defn} {ex : PySem.W.Frag → Bool} {h : Heap} (e : obsM fa fn xs tf ex h.get? (He.frT h.get? (asX h.get? n)) = (He.valD fn, xs.map Xd.val, true)) : SaysM fa fn xs tf ex h (He.frT h.get? (asX h.get? n)) := by
  have e1 := congrArg (fun z : He.AlD × List XW × Bool => z.1) e
  have e2 := congrArg (fun z : He.AlD × List XW × Bool => z.2.2) e
  have e3 := congrArg (fun z : He.AlD × List XW × Bool => z.2.1) e
  obtain ⟨h1, h2⟩ := Bool.and_eq_true_iff.mp e2
  have key : ∀ p ∈ tf, PySem.W.codeHdIn (He.frT h.get? (asX h.get? n)) (He.cT (He.frT h.get? (asX h.get? n)) p).1 (He.cT (He.frT h.get? (asX h.get? n)) p).2 = true ∧
      ∃ o, h.get? (He.cT (He.frT h.get? (asX h.get? n)) p).2 = some o ∧ He.emptyTab o = true := fun p hp => by
    obtain ⟨h3, h4⟩ := Bool.and_eq_true_iff.mp (List.all_eq_true.mp h2 p hp)
    refine ⟨h3, ?_⟩
    cases q : h.get? (He.cT (He.frT h.get? (asX h.get? n)) p).2 with
    | none => rw [q] at h4; cases h4
    | some o => rw [q] at h4; exact ⟨o, rfl, h4⟩
  refine ⟨e1, h1, fun d hd => ?_, fun p hp => (key p hp).1, fun p hp => ?_, fun p hp => ?_⟩
  · obtain ⟨i, hi⟩ := List.getElem?_of_mem hd
    have e4 := congrArg (fun l : List XW => l[i]?) e3
    dsimp only [obsM] at e4
    rw [List.getElem?_map, List.getElem?_map, hi] at e4
    exact Option.some.inj e4
  · obtain ⟨_, o, q, z⟩ := key p hp
    exact He.frT_none q z
  · obtain ⟨_, o, q, z⟩ := key p hp
    rw [q, He.emptyTab_eq z]
def hookM (n : Nat) (fa : List He.Fa) (fn : List He.DefD) (xs : List Xd) (tf : List He.Defn) (ex : PySem.W.Frag → Bool) : PySem.W.Hook where
  α := He.AlD × List XW × Bool
  obs := fun s => obsM fa fn xs tf ex s.heap.get? (He.frT s.heap.get? (asX s.heap.get? n))
  val := fun _ => (He.valD fn, xs.map Xd.val, true)
  says := fun _ h => ∃ K : PySem.W.Frag, K.In h ∧ SaysM fa fn xs tf ex h K
  of := fun _ _ e => ⟨_, He.frT_in, saysM_of e⟩
  keeps := fun _ _ _ ⟨K, hK, c⟩ k => ⟨K, PySem.W.Frag.In.keeps hK k, ⟨c.d, c.more, c.xw, c.hd, c.out, fun p hp => k _ _ (c.empty p hp)⟩⟩
def obM (n : Nat) (fa : List He.Fa) (fn : List He.DefD) (xs : List Xd) (tf : List He.Defn) (ex : PySem.W.Frag → Bool) (s : PySem.W.SharedT) : He.AlD × List XW × Bool := obsM fa fn xs tf ex (HandSHeadRun.getT s) (He.frT (HandSHeadRun.getT s) (asX (HandSHeadRun.getT s) n))
theorem obM_eq {n : Nat} {fa : List He.Fa} {fn : List He.DefD} {xs : List Xd} {tf : List He.Defn} {ex : PySem.W.Frag → Bool} (s : PySem.W.SharedT) : obM n fa fn xs tf ex s = (hookM n fa fn xs tf ex).obs s.abs := by
  have e : HandSHeadRun.getT s = s.abs.heap.get? := funext fun a => HandSHeadRun.getT_eq s a
  unfold obM
  rw [e]
  rfl
def bindOk (d : Dd) : Prop := ∀ (kV doc pm : Value) (an : Option Addr) (cdv ct : Value), BindOk d.df (PySem.W.fnOf d.name d.qual (defArgs d.st) (defBody d.st) (defScope d.st) .none kV doc pm an cdv ct)

theorem lookup_mem' {β α : Type} [BEq β] [LawfulBEq β] {x : β} {v : α} : ∀ {l : List (β × α)}, l.lookup x = some v → (x, v) ∈ l
  | [], h => by cases h
  | (y, u) :: r, h => by
    rw [List.lookup_cons] at h
    split at h
    · rename_i e
      cases h
      have : x = y := by simpa using e
      rw [this]
      exact List.mem_cons_self
    · exact List.mem_cons_of_mem _ (lookup_mem' h)
def clOf (p : Pg) (K : PySem.W.Frag) (c : Nat) : Addr := match p.C[c]? with
  | some k => He.ga K k.name
  | none => 0
/-- all that is asked of the own exceptions -/
structure XHyp (P : Program) (K : PySem.W.Frag) (p : Pg) : Prop where
  F : p.X ≠ [] → XsF p.X P.main.file K
  xw : ∀ d ∈ p.X, xW K d.at_ = d.val
  ok : p.okx = true
  hb : ∀ d ∈ p.X, bindX d
  top : (P.main.scope.names.lookup ("super" : Str)).isSome = false
section
variable {P : Program} {w : World} {K : PySem.W.Frag} {mg : Str → Option Value} {base h : Heap} {κ : Kx} {fu m : Nat} {p : Pg}
theorem go_of (hK : K = κ.K) (hcl : κ.cl = clOf p K) (hxl : κ.xl = xlOf p.X K) (XH : XHyp P K p) (X : K.In h) (Gh : h.Ns mainGlobals mg) (fa2 : List He.Fa) (c : He.SaysD (p.fa ++ fa2) (p.T.map Dd.he) K) (cx : gEx p.G K = true) (ok : p.ok = true)
    (hb : ∀ (i : Nat) (d : Dd), p.T[i]? = some d → trSs (trS m m (d.df.ctx p.G p.C)) (defBody d.st) = some d.b) (hbind : ∀ (i : Nat) (d : Dd), p.T[i]? = some d → bindOk d) :
    ∀ (k : Nat), (∀ j : Nat, j ≤ k → ∀ (i : Nat) (d : Dd), p.T[i]? = some d → FnR P w K mg base (L2.CX P w) j (He.fAd K d.at_) (spR κ (phi p fu j i))) → GOk' P w K mg base κ p.G (omAt p fu k) k := by
  unfold Pg.ok at ok
  obtain ⟨ok1, ok2⟩ := Bool.and_eq_true_iff.mp ok
  obtain ⟨ok2, ok3⟩ := Bool.and_eq_true_iff.mp ok2
  have fact : ∀ f ∈ p.fa, f.ok K = true := fun f hf => by
    obtain ⟨l, hl⟩ := List.getElem?_of_mem (List.mem_append_left fa2 hf)
    exact c.fact l hl
  have gf : ∀ f ∈ gFa p.G, f.ok K = true := fun f hf => fact f (List.mem_append_left _ hf)
  have cf : ∀ (cc : Nat) (kd : Cd), p.C[cc]? = some kd → ∀ f ∈ clsFa kd, f.ok K = true := fun cc kd hc f hf => fact f (List.mem_append_right _ (List.mem_flatMap.mpr ⟨kd, List.mem_of_getElem? hc, hf⟩))
  have cl_eq : ∀ (cc : Nat) (kd : Cd), p.C[cc]? = some kd → κ.cl cc = He.ga K kd.name := fun cc kd hc => by
    rw [hcl]
    unfold clOf
    rw [hc]
  have none_fn : ∀ (i : Nat) ds μ, p.T[i]? = none → ∀ k, phi p fu k i ds μ = .stuck := fun i ds μ hi k => by
    cases k with
    | zero => rfl
    | succ k =>
      show (match p.T[i]? with
        | some d => d.df.run (omAt p fu k) ds μ
        | none => .stuck) = _
      rw [hi]
  have mth : ∀ (cc : Nat) (kd : Cd) (mm : Str) (j : Nat), p.C[cc]? = some kd → kd.ms.lookup mm = some j → ∃ d, p.T[j]? = some d ∧ d.at_ = (kd.name, some mm) := fun cc kd mm j hc hm => by
    have h1 := List.all_eq_true.mp ok3 kd (List.mem_of_getElem? hc)
    have h2 := List.all_eq_true.mp h1 (mm, j) (lookup_mem' hm)
    dsimp only at h2
    cases hj : p.T[j]? with
    | none => rw [hj] at h2; cases h2
    | some d => rw [hj] at h2; exact ⟨d, rfl, of_decide_eq_true h2⟩
  intro k ih
  exact
  { con := fun x d hx => by
      have := List.all_eq_true.mp cx (x, .con d) (lookup_mem' hx)
      subst hK
      exact conAt_ok X Gh this
    free := fun x hx => He.free_ok X Gh (gf _ (List.mem_flatMap.mpr ⟨(x, .free), lookup_mem' hx, show He.Fa.free x ∈ [He.Fa.free x] from List.mem_cons_self⟩))
    fn := fun x j hx => by
      have h2 := List.all_eq_true.mp ok2 (x, .fn j) (lookup_mem' hx)
      dsimp only at h2
      have hg := He.glo_ok X Gh (gf (.glo x) (List.mem_flatMap.mpr ⟨(x, .fn j), lookup_mem' hx, show He.Fa.glo x ∈ [He.Fa.glo x] from List.mem_cons_self⟩))
      cases hj : p.T[j]? with
      | none => rw [hj] at h2; cases h2
      | some d2 =>
        rw [hj] at h2
        have e : d2.at_ = (x, none) := of_decide_eq_true h2
        have F2 := ih k (Nat.le_refl k) j d2 hj
        obtain ⟨fd2, D2⟩ := c.def_ j (d := d2.he) (by rw [List.getElem?_map, hj]; rfl)
        rw [e] at F2
        have kp := D2.kp
        rw [show d2.he.at_ = (x, none) from e] at kp
        exact ⟨_, hg, kp, F2⟩
    low := fun hlo => by
      cases k with
      | zero => exact absurd hlo Bool.false_ne_true
      | succ k' =>
        refine ⟨k', rfl, fun x j hx => ?_⟩
        have h2 := List.all_eq_true.mp ok2 (x, .fn j) (lookup_mem' hx)
        dsimp only at h2
        have hg := He.glo_ok X Gh (gf (.glo x) (List.mem_flatMap.mpr ⟨(x, .fn j), lookup_mem' hx, show He.Fa.glo x ∈ [He.Fa.glo x] from List.mem_cons_self⟩))
        cases hj : p.T[j]? with
        | none => rw [hj] at h2; cases h2
        | some d2 =>
          rw [hj] at h2
          have e : d2.at_ = (x, none) := of_decide_eq_true h2
          have F2 := ih k' (by omega) j d2 hj
          obtain ⟨fd2, D2⟩ := c.def_ j (d := d2.he) (by rw [List.getElem?_map, hj]; rfl)
          rw [e] at F2
          have kp := D2.kp
          rw [show d2.he.at_ = (x, none) from e] at kp
          exact ⟨_, hg, kp, F2⟩
    cls := fun cc kd hc => by
      rw [cl_eq cc kd hc]
      exact He.cls_ok (cf cc kd hc (.cls kd.name) (by simp [clsFa]))
    noat := fun cc kd f hc hf => by
      rw [cl_eq cc kd hc]
      have hm : f ∈ kd.fs := by simpa using hf
      exact He.noat_ok (cf cc kd hc (.noat kd.name f) (by unfold clsFa; simp only [List.mem_append, List.mem_map]; exact .inl (.inl (.inr ⟨f, hm, rfl⟩))))
    meth := fun cc kd mm j hc hm => by
      obtain ⟨d2, h1, h2⟩ := mth cc kd mm j hc hm
      rw [cl_eq cc kd hc]
      have F2 := ih k (Nat.le_refl k) j d2 h1
      rw [h2] at F2
      exact ⟨_, He.meth_ok (cf cc kd hc (.meth kd.name mm) (by unfold clsFa; simp only [List.mem_append, List.mem_map]; exact .inl (.inr ⟨(mm, j), lookup_mem' hm, rfl⟩))), F2⟩
    make := fun x cc hx => by
      have h2 := List.all_eq_true.mp ok2 (x, .cls cc) (lookup_mem' hx)
      dsimp only at h2
      cases hc : p.C[cc]? with
      | none => rw [hc] at h2; cases h2
      | some kd =>
        rw [hc] at h2
        obtain ⟨h3, h4⟩ := Bool.and_eq_true_iff.mp h2
        have e : kd.name = x := of_decide_eq_true h3
        rw [cl_eq cc kd hc]
        have hg := He.glo_ok X Gh (cf cc kd hc (.glo kd.name) (by simp [clsFa]))
        rw [e] at hg
        refine ⟨by rw [e]; exact hg, _, He.mkr_ok (cf cc kd hc (.mkr kd.name) (by unfold clsFa; rw [if_pos h4]; simp)), fun j hj => ?_⟩
        unfold initI at hj
        rw [hc] at hj
        obtain ⟨d2, h5, h6⟩ := mth cc kd _ j hc hj
        cases k with
        | zero => exact .inr fun ds μ => rfl
        | succ k' =>
          have F2 := ih k' (by omega) j d2 h5
          rw [h6] at F2
          exact .inl ⟨k', rfl, F2⟩
    xmk := fun hxo cc hcc => by
      rw [hxl]
      have hlen : (p.X.map (fun d => d.name)).length = p.X.length := List.length_map ..
      exact xmk_of (P := P) (w := w) (base := base) X Gh XH.F XH.xw (Bool.and_eq_true_iff.mp XH.ok).1 XH.hb XH.top (of_decide_eq_true hxo) (by rw [← hlen]; exact hcc)
    xg := fun x cc hx => by
      have h2 := List.all_eq_true.mp (Bool.and_eq_true_iff.mp XH.ok).2 (x, .xcl cc) (lookup_mem' hx)
      dsimp only at h2
      rw [hxl]
      unfold xlOf
      cases hc : p.X[cc]? with
      | none => rw [hc] at h2; cases h2
      | some d =>
        rw [hc] at h2
        have e : d.name = x := of_decide_eq_true h2
        have hne : p.X ≠ [] := fun z => by rw [z] at hc; cases hc
        have f := (XH.F hne).cls d (List.mem_of_getElem? hc)
        rw [← e]
        exact PySem.W.mg_of X Gh f.glo
    xrd := by
      rw [hxl]
      have hlen : (p.X.map (fun d => d.name)).length = p.X.length := List.length_map ..
      show XRd K (xlOf p.X K) (p.X.map (fun d => d.name)).length
      rw [hlen]
      exact xrd_of XH.F }
theorem dfl_none {dV : Value} (h : DflV K dV []) : dV = .none := by
  rcases h with h | h
  · exact h.2
  · exact absurd rfl h.1
/-- the code objects, their tables -/
def csOf (p : Pg) (K : PySem.W.Frag) : List (Addr × Addr) := p.tf.map (He.cT K)
theorem tab_at {d : Dd} {i : Nat} {oc : Value} {od : Option Addr} {osl : Array (Option Value)} {fd : FuncData} {q : Str} (hi : p.T[i]? = some d) (hK : K = κ.K) (hta : κ.tabs = (csOf p K).map (·.2)) (TB : ∀ c ∈ csOf p K, LamX.TabB base mg c.1 c.2)
    (lk : K.lookup (He.fAd K d.at_) = some ⟨oc, od, .func fd, osl⟩) (hcd : PySem.W.codeIn K fd.code q = true) : TabOk base mg κ d.tab fd.code := fun ht => by
  obtain ⟨c, e⟩ := He.codeIn_ref hcd
  have e2 : He.codeOf K d.at_ = c := He.codeOf_eq lk e
  have hm : He.cT K d.at_ ∈ csOf p K := List.mem_map.mpr ⟨d.at_, List.mem_map.mpr ⟨d, List.mem_filter.mpr ⟨List.mem_of_getElem? hi, ht⟩, rfl⟩, rfl⟩
  have T := TB _ hm
  have e3 : (He.cT K d.at_).1 = c := e2
  rw [e3] at T
  refine ⟨c, (He.cT K d.at_).2, e, T, ?_⟩
  rw [hta]
  exact List.mem_map.mpr ⟨_, hm, rfl⟩
theorem defs_fn (hta : κ.tabs = (csOf p K).map (·.2)) (TB : ∀ c ∈ csOf p K, LamX.TabB base mg c.1 c.2) (hK : K = κ.K) (hcl : κ.cl = clOf p K) (hxl : κ.xl = xlOf p.X K) (XH : XHyp P K p) (X : K.In h) (Gh : h.Ns mainGlobals mg) (fa2 : List He.Fa) (c : He.SaysD (p.fa ++ fa2) (p.T.map Dd.he) K) (cx : gEx p.G K = true) (ok : p.ok = true)
    (hb : ∀ (i : Nat) (d : Dd), p.T[i]? = some d → trSs (trS m m (d.df.ctx p.G p.C)) (defBody d.st) = some d.b) (hbind : ∀ (i : Nat) (d : Dd), p.T[i]? = some d → bindOk d) :
    ∀ (k i : Nat) (d : Dd), p.T[i]? = some d → FnR P w K mg base (L2.CX P w) k (He.fAd K d.at_) (spR κ (phi p fu k i)) := by
  intro k
  induction k using Nat.strongRecOn with
  | ind k ih =>
    intro i d hi
    cases k with
    | zero => exact fun A outer s H us vs Q E hr e0 r ⟨_, _, _, _, _, z⟩ => z.elim
    | succ k =>
      obtain ⟨fd, F⟩ := c.def_ i (d := d.he) (by rw [List.getElem?_map, hi]; rfl)
      obtain ⟨oc, od, dV, kV, doc, pm, an, cdv, ct, osl, rfl, lk, hcd, hdv, _⟩ := F.ex
      have hsc : fnScB d.df.N d.df.ps d.df.sc = true := List.all_eq_true.mp (Bool.and_eq_true_iff.mp ok).1 d (List.mem_of_getElem? hi)
      obtain rfl : dV = Value.none := dfl_none hdv
      rw [phi_s hi]
      have go := go_of (P := P) (w := w) (base := base) (fu := fu) (m := m) hK hcl hxl XH X Gh fa2 c cx ok hb hbind k fun j hj => ih j (by omega)
      exact df_ok (d := d.df) (G := p.G) (m := m) (Ω := omAt p fu k) lk hcd hsc hK (hb i d hi) go (tab_at hi hK hta TB lk hcd) (hbind i d hi kV doc pm an cdv ct)
end

/-! ### the law -/
def noList (K : PySem.W.Frag) : Bool := K.all fun p => match p.2.cls with
  | .type c => decide (c ≠ "list")
  | _ => true
theorem noList_ok {K : PySem.W.Frag} (h : noList K = true) {a : Addr} {o : Obj} (e : K.lookup a = some o) : o.cls ≠ .type "list" := fun z => by
  have := List.all_eq_true.mp h (a, o) (lookup_mem' e)
  dsimp only at this
  rw [z] at this
  simp at this
theorem cx_false {P : Program} {w : World} (H : Hp) (s : Shared) (e : Value) (s' : Shared) (h : L2.CX P w [] H s (fun _ _ _ => False) e s') : False := by
  obtain ⟨_, _, _, _, _, _, _, _, _, _, _, _, x⟩ := h
  exact x
theorem reps_ints {κ : Kx} {ρ H} : ∀ (ns : List Int), Reps κ ρ H (ns.map .int) (ns.map V.int)
  | [] => .nil
  | n :: ns => .cons (rep_int.mpr rfl) (reps_ints ns)
def exM (p : Pg) (K : PySem.W.Frag) : Bool := gEx p.G K && (noList K && xChk p.X p.file K)
theorem law_walk {l : PySem.W.OpenLaw} {n k N : Nat} {q : Program} {loose : List Str} {XP : (Str → Option Value) → Heap → Prop} {d : DefRec} {p : Pg} {iL fu m : Nat} {dl : Dd} {x : Str} {xn : Str}
    (hn : l.most = some n) (hn2 : n ≤ sizeLine) (hdf : d.params.defaults = []) (hr : Room k callerA) (hd : d.name = xn) (hat : dl.at_ = (xn, none)) (hT : p.T[iL]? = some dl) (hN : dl.N.take dl.n = [x]) (h1 : dl.n = 1) (hst : dl.star = false)
    (ok : p.ok = true) (hb : ∀ (i : Nat) (d : Dd), p.T[i]? = some d → trSs (trS m m (d.df.ctx p.G p.C)) (defBody d.st) = some d.b) (hbind : ∀ (i : Nat) (d : Dd), p.T[i]? = some d → bindOk d)
    (okx : p.okx = true) (hbx : ∀ d ∈ p.X, bindX d) (htop : (l.prog.main.scope.names.lookup ("super" : Str)).isSome = false) (hfile : (l.prog.main.file : Str) = p.file)
    (law : ∀ ns : List Int, ns.length ≤ n → ∃ μ, phi p fu k iL [.loc 0] [.fl (ns.map .int)] = .ok (.bl true) μ) :
    PySem.W.WalkO q loose XP (hookM N (p.fa ++ [.glo xn]) (p.T.map Dd.he) p.X p.tf (exM p)).says l.row.toRowW d [] (fun f vs => PySem.call f vs) := by
  refine Att.attach_call hn hdf fun w s₀ s₁ mg mb fa o pm cd doc a vs ns G Y ho hd' hcd hmg hobj hints hlen hg => ?_
  obtain ⟨K, KX, SM⟩ := Y
  have c := SM.d
  have ex := SM.more
  obtain ⟨ex1, ex2⟩ := Bool.and_eq_true_iff.mp (show (gEx p.G K && (noList K && xChk p.X p.file K)) = true from ex)
  obtain ⟨ex2, ex3⟩ := Bool.and_eq_true_iff.mp ex2
  have XH : XHyp l.prog K p := ⟨fun hne => hfile ▸ xChk_ok ex3 hne, SM.xw, okx, hbx, htop⟩
  have hmg' : mg xn = some (.ref fa) := by rw [← hd]; exact hmg
  have hgl : He.Fa.glo xn ∈ p.fa ++ [He.Fa.glo xn] := List.mem_append_right _ List.mem_cons_self
  obtain ⟨j, hj⟩ := List.getElem?_of_mem hgl
  have e := hmg'.symm.trans (He.glo_ok KX G.T.g (c.fact j hj))
  cases e
  let κ : Kx := ⟨K, clOf p K, (csOf p K).map (·.2), xlOf p.X K⟩
  obtain ⟨fd, F⟩ := c.def_ iL (d := dl.he) (by rw [List.getElem?_map, hT]; rfl)
  have FF := F
  obtain ⟨oc, od, dV, kV, doc, pm', an, cdv, ct, osl, rfl, lk, hcd', hdv, _⟩ := F.ex
  obtain rfl : dV = Value.none := dfl_none hdv
  have hsc : fnScB dl.df.N dl.df.ps dl.df.sc = true := List.all_eq_true.mp (Bool.and_eq_true_iff.mp ok).1 dl (List.mem_of_getElem? hT)
  cases k with
  | zero =>
    obtain ⟨μ, hμ⟩ := law ns hlen
    cases hμ
  | succ k =>
  have bnd := hbind iL dl hT kV doc pm' an cdv ct
  unfold BindOk at bnd
  rw [if_neg (by rw [show dl.df.star = dl.star from rfl, hst]; simp)] at bnd
  have lk2 := lk
  rw [show dl.he.at_ = (xn, none) from hat] at lk2
  have inT : ∀ q ∈ csOf p K, ∃ y ∈ p.tf, q = He.cT K y := fun q hq => by
    obtain ⟨y, hy, e⟩ := List.mem_map.mp hq
    exact ⟨y, hy, e.symm⟩
  refine LamX.law_callTs (cs := csOf p K) (fd := PySem.W.fnOf dl.he.name dl.he.qual dl.he.params dl.he.body dl.he.scope .none kV doc pm' an cdv ct) (CX := L2.CX l.prog w) (k := k + 1) (x := x) (sp := spR κ (fun ds μ => if ds.length = dl.df.n then runB (omAt p fu k) dl.df.N.length dl.df.b ds μ else .stuck)) KX G.T.g G.T.b G.T.builtins G.T.nolimit hg
    (fun q hq => by obtain ⟨y, hy, rfl⟩ := inT q hq; exact SM.empty y hy) (fun q hq => by obtain ⟨y, hy, rfl⟩ := inT q hq; exact SM.out y hy) (fun q hq => by obtain ⟨y, hy, rfl⟩ := inT q hq; exact PySem.W.codeHd_of_K KX (SM.hd y hy)) G.T.bmain
    hobj hints (Nat.le_trans hlen hn2) hr (fun base X Gb TB => ?_) (fun s u => ?_) (fun H hO hS => ?_) (fun H e s' => cx_false H s₁ e s')
  · have go := go_of (P := l.prog) (w := w) (base := base) (κ := κ) (fu := fu) (m := m) (p := p) rfl rfl rfl XH X Gb _ c ex1 ok hb hbind k fun j _ => defs_fn (P := l.prog) (w := w) (base := base) (κ := κ) (fu := fu) (m := m) (p := p) rfl TB rfl rfl rfl XH X Gb _ c ex1 ok hb hbind j
    have := df_plain (d := dl.df) (G := p.G) (m := m) (Ω := omAt p fu k) lk2 hcd' hsc rfl (hb iL dl hT) go (tab_at (κ := κ) hT rfl rfl TB lk hcd') hst
    rw [show dl.df.N.take dl.df.n = [x] from hN] at this
    exact this
  · have := bnd [u] (by rw [show dl.df.N.take dl.df.n = [x] from hN]; rfl)
    rw [show dl.df.N.take dl.df.n = [x] from hN] at this
    exact .of_eq this
  · have hf : Rd H a (.lst (ns.map V.int)) := by
      rcases hS with hS | hS
      · exact hS
      · obtain ⟨o, _, _, hl, hc, _⟩ := hS
        exact absurd hc (noList_ok ex2 hl)
    obtain ⟨μ, hμ⟩ := law ns hlen
    refine ⟨[a], [.fl (ns.map .int)], [.loc 0], ⟨rfl, by simp, fun n ob hn => ?_, fun P hP => ?_⟩, .cons (rep_loc.mpr ⟨a, rfl, rfl⟩) .nil, ?_⟩
    · cases n with
      | zero =>
        cases hn
        exact ⟨a, rfl, _, hf, reps_ints ns⟩
      | succ n => cases hn
    · obtain ⟨q, hq, rfl⟩ := List.mem_map.mp hP
      exact ⟨#[], hO q hq, True.intro⟩
    · rw [phi_s hT] at hμ
      unfold Df.run Df.args at hμ
      rw [if_neg (by rw [show dl.df.star = dl.star from rfl, hst]; simp)] at hμ
      have hn1 : dl.df.n = 1 := h1
      dsimp only
      rw [if_pos (by rw [hn1]; rfl)] at hμ ⊢
      dsimp only at hμ
      rw [hμ]
      intro ρ1 H1 v e1 r1 p1
      exact rep_bl.mp p1
end Tk

namespace Tk
open PySem PySem.Spec PyProof.Rows L2

/-! ### readings as goals; what stands behind is named, so that it is not looked at before its turn -/
abbrev XQ := Nat → List (Str × D) → Mu → Prop
def W {α : Type} (r : Res α) (N : α → Mu → Prop) (X : XQ) : Prop := match r with
  | .ok a μ => N a μ
  | .exc c fs μ => X c fs μ
  | .stuck => False
structure KS where
  n : Dl → Mu → Prop
  r : D → Mu → Prop
  b : Dl → Mu → Prop
  c : Dl → Mu → Prop
  x : Nat → List (Str × D) → Dl → Mu → Prop
def WS (r : RS) (k : KS) : Prop := match r with
  | .nx δ μ => k.n δ μ
  | .ret d μ => k.r d μ
  | .brk δ μ => k.b δ μ
  | .cont δ μ => k.c δ μ
  | .exc c fs δ μ => k.x c fs δ μ
  | .stuck => False
/-- a truth value first: r behind it, or itself -/
def andR (x : D) (r : Res D) (μ : Mu) : Res D := match x with
  | .bl true => r
  | .bl false => .ok (.bl false) μ
  | _ => .stuck
def orR (x : D) (r : Res D) (μ : Mu) : Res D := match x with
  | .bl true => .ok (.bl true) μ
  | .bl false => r
  | _ => .stuck
def notD (x : D) (μ : Mu) : Res D := match x with
  | .bl b => .ok (.bl (!b)) μ
  | _ => .stuck
def optI (d : D) (μ : Mu) : Res (Option Int) := match d with
  | .int i => .ok (some i) μ
  | _ => .stuck
def revS (d : D) (μ1 : Mu) : Res Src := match d with
  | .loc n => (match lstAt μ1 n with
    | some xs => .ok (.rvl n xs.length) μ1
    | none => .stuck)
  | _ => .stuck
def valS (d : D) (μ1 : Mu) : Res Src := match d with
  | .tup ds => .ok (.items ds) μ1
  | .str x => .ok (.items (signsD x)) μ1
  | .loc n => (match lstAt μ1 n with
    | some _ => .ok (.live n) μ1
    | none => .stuck)
  | _ => .stuck
def enmS (d : D) (μ1 : Mu) : Res Src := match d with
  | .tup ds => .ok (.ent ds) μ1
  | .loc n => (match lstAt μ1 n with
    | some _ => .ok (.enl n) μ1
    | none => .stuck)
  | _ => .stuck
/-- nothing, but stuck at a length that is not known (so that nobody counts down from 2 ^ 62) -/
def blk (n : Nat) : Bool := Nat.rec true (fun _ b => b) n
theorem blk_t {n : Nat} : blk n = true := by
  induction n with
  | zero => rfl
  | succ n ih => exact ih
def inR (i : Int) : Bool := blk i.natAbs && (decide (-4611686018427387904 ≤ i) && decide (i < 4611686018427387904))
theorem inR_iff {i : Int} : (inR i = true) = (-4611686018427387904 ≤ i ∧ i < 4611686018427387904) := by
  unfold inR
  rw [blk_t, Bool.true_and, Bool.and_eq_true, decide_eq_true_eq, decide_eq_true_eq]
def rng1S (d : D) (μ1 : Mu) : Res Src := match d with
  | .int n => if inR n = true then .ok (.rng 0 n.toNat) μ1 else .stuck
  | _ => .stuck
def rng2S (d d2 : D) (μ2 : Mu) : Res Src := match d, d2 with
  | .int i, .int j => if inR i = true then (if inR j = true then .ok (.rng i (j - i).toNat) μ2 else .stuck) else .stuck
  | _, _ => .stuck
theorem two62 : (2 : Int) ^ 62 = 4611686018427387904 := by decide +kernel
theorem rng1S_eq {d : D} {μ1 : Mu} : (match d with
    | .int n => if -(2 ^ 62) ≤ n ∧ n < 2 ^ 62 then .ok (.rng 0 n.toNat) μ1 else .stuck
    | _ => .stuck : Res Src) = rng1S d μ1 := by
  cases d with
  | int n =>
    unfold rng1S
    dsimp only
    by_cases h : inR n = true
    · rw [if_pos h, if_pos (by rw [inR_iff] at h; rw [two62]; omega)]
    · rw [if_neg h, if_neg (by rw [inR_iff] at h; rw [two62]; omega)]
  | _ => rfl
theorem rng2S_eq {d d2 : D} {μ2 : Mu} : (match d, d2 with
    | .int i, .int j => if -(2 ^ 62) ≤ i ∧ i < 2 ^ 62 ∧ -(2 ^ 62) ≤ j ∧ j < 2 ^ 62 then .ok (.rng i (j - i).toNat) μ2 else .stuck
    | _, _ => .stuck : Res Src) = rng2S d d2 μ2 := by
  cases d with
  | int i =>
    cases d2 with
    | int j =>
      unfold rng2S
      dsimp only
      by_cases h : inR i = true
      · by_cases h2 : inR j = true
        · rw [if_pos h, if_pos h2, if_pos (by rw [inR_iff] at h h2; rw [two62]; omega)]
        · rw [if_pos h, if_neg h2, if_neg (by rw [inR_iff] at h h2; rw [two62]; omega)]
      · rw [if_neg h, if_neg (by rw [inR_iff] at h; rw [two62]; omega)]
    | _ => rfl
  | _ => cases d2 <;> rfl
def boD (z : D) (μ3 : Mu) : Res Bool := match z with
  | .bl c => .ok c μ3
  | _ => .stuck
def asgR (t : Tg) (d : D) (δ : Dl) (μ : Mu) : RS := match bindG t d δ with
  | some δ1 => .nx δ1 μ
  | none => .stuck
def rdV (δ : Dl) (i : Nat) (μ : Mu) : Res D := match δ[i]? with
  | some (some d) => .ok d μ
  | _ => .stuck
def kBind {α β : Type} (f : α → Mu → Res β) (N : β → Mu → Prop) (X : XQ) : α → Mu → Prop := fun a μ => W (f a μ) N X
def kBin2 (o : Operator) (x : D) (N : D → Mu → Prop) (X : XQ) : D → Mu → Prop := fun y μ => W (binD o x y μ) N X
def kBin1 (Ω : Om) (o : Operator) (b : E) (δ : Dl) (N : D → Mu → Prop) (X : XQ) : D → Mu → Prop := fun x μ => W (ev Ω b δ μ) (kBin2 o x N X) X
def kNeg (N : D → Mu → Prop) (X : XQ) : D → Mu → Prop := fun x μ => W (negD x μ) N X
def kCmp2 (o : CmpOp) (x : D) (N : D → Mu → Prop) (X : XQ) : D → Mu → Prop := fun y μ => W (cmpD o x y μ) N X
def kCmp1 (Ω : Om) (o : CmpOp) (b : E) (δ : Dl) (N : D → Mu → Prop) (X : XQ) : D → Mu → Prop := fun x μ => W (ev Ω b δ μ) (kCmp2 o x N X) X
def kChn3 (Ω : Om) (p : CmpOp) (y : D) (c : E) (δ : Dl) (N : D → Mu → Prop) (X : XQ) : D → Mu → Prop := fun z μ => W (andR z ((ev Ω c δ μ).bind (cmpD p y)) μ) N X
def kChn2 (Ω : Om) (o p : CmpOp) (x : D) (c : E) (δ : Dl) (N : D → Mu → Prop) (X : XQ) : D → Mu → Prop := fun y μ => W (cmpD o x y μ) (kChn3 Ω p y c δ N X) X
def kChn1 (Ω : Om) (o p : CmpOp) (b c : E) (δ : Dl) (N : D → Mu → Prop) (X : XQ) : D → Mu → Prop := fun x μ => W (ev Ω b δ μ) (kChn2 Ω o p x c δ N X) X
def kAnd (Ω : Om) (b : E) (δ : Dl) (N : D → Mu → Prop) (X : XQ) : D → Mu → Prop := fun x μ => W (andR x (ev Ω b δ μ) μ) N X
def kOr (Ω : Om) (b : E) (δ : Dl) (N : D → Mu → Prop) (X : XQ) : D → Mu → Prop := fun x μ => W (orR x (ev Ω b δ μ) μ) N X
def kNot (N : D → Mu → Prop) (X : XQ) : D → Mu → Prop := fun x μ => W (notD x μ) N X
def kIte (Ω : Om) (a b : E) (δ : Dl) (N : D → Mu → Prop) (X : XQ) : Bool → Mu → Prop := fun c μ => W (if c = true then ev Ω a δ μ else ev Ω b δ μ) N X
def kIx2 (x : D) (N : D → Mu → Prop) (X : XQ) : D → Mu → Prop := fun y μ => W (ixD x y μ) N X
def kIx1 (Ω : Om) (b : E) (δ : Dl) (N : D → Mu → Prop) (X : XQ) : D → Mu → Prop := fun x μ => W (ev Ω b δ μ) (kIx2 x N X) X
def kSl3 (x : D) (l : Option Int) (N : D → Mu → Prop) (X : XQ) : Option Int → Mu → Prop := fun h μ => W (slD x l h μ) N X
def kSl2 (Ω : Om) (x : D) (hi : Eo) (δ : Dl) (N : D → Mu → Prop) (X : XQ) : Option Int → Mu → Prop := fun l μ => W (evo Ω hi δ μ) (kSl3 x l N X) X
def kSl1 (Ω : Om) (lo hi : Eo) (δ : Dl) (N : D → Mu → Prop) (X : XQ) : D → Mu → Prop := fun x μ => W (evo Ω lo δ μ) (kSl2 Ω x hi δ N X) X
def kCall (Ω : Om) (f : Nat) (N : D → Mu → Prop) (X : XQ) : List D → Mu → Prop := fun ds μ => W (Ω.Φ f ds μ) N X
def kBlt (b : Blt) (N : D → Mu → Prop) (X : XQ) : List D → Mu → Prop := fun ds μ => W (bltD b ds μ) N X
def kMth2 (m : Mth) (x : D) (N : D → Mu → Prop) (X : XQ) : List D → Mu → Prop := fun ds μ => W (mthD m x ds μ) N X
def kMth1 (Ω : Om) (m : Mth) (es : Es) (δ : Dl) (N : D → Mu → Prop) (X : XQ) : D → Mu → Prop := fun x μ => W (if mkD m x μ = true then evs Ω es δ μ else .stuck) (kMth2 m x N X) X
def kTup (N : D → Mu → Prop) (X : XQ) : List D → Mu → Prop := fun ds μ => W (if ds.length ≤ sizeLine then .ok (.tup ds) μ else .stuck) N X
def kLst (N : D → Mu → Prop) (X : XQ) : List D → Mu → Prop := fun ds μ => W (if ds.length ≤ sizeLine then newl μ ds else .stuck) N X
def kLc (Ω : Om) (own : List Nat) (t : Tg) (fs : Eo) (e : E) (δ : Dl) (N : D → Mu → Prop) (X : XQ) : Src → Mu → Prop := fun src μ1 => W (lcN (bindG t) (tvo Ω fs) (ev Ω e) src μ1.length (wipeD δ own) Ω.fu 0 (μ1 ++ [.lst []])) N X
def in2 (Ω : Om) (own2 : List Nat) (t2 : Tg) (it2 : It') (e : E) (ℓ : Nat) : Dl → Mu → Res Unit := fun δ1 μ2 => (evi Ω it2 δ1 μ2).noexc.bind fun s2 μ3 => lc2I (bindG t2) (ev Ω e) s2 ℓ (wipeD δ1 own2) Ω.fu 0 μ3
def kIn2 (Ω : Om) (own2 : List Nat) (t2 : Tg) (e : E) (ℓ : Nat) (δ1 : Dl) (N : Unit → Mu → Prop) (X : XQ) : Src → Mu → Prop := fun s2 μ3 => W (lc2I (bindG t2) (ev Ω e) s2 ℓ (wipeD δ1 own2) Ω.fu 0 μ3) N X
def kLc2 (Ω : Om) (own : List Nat) (t : Tg) (own2 : List Nat) (t2 : Tg) (it2 : It') (e : E) (δ : Dl) (N : D → Mu → Prop) (X : XQ) : Src → Mu → Prop := fun src μ1 => W (lc2N (bindG t) (in2 Ω own2 t2 it2 e μ1.length) src μ1.length (wipeD δ own) Ω.fu 0 (μ1 ++ [.lst []])) N X
def kFld (Ω : Om) (f : Str) (N : D → Mu → Prop) (X : XQ) : D → Mu → Prop := fun x μ => W (fldD Ω.C f x μ) N X
def kMc2 (Ω : Om) (j : Nat) (x : D) (N : D → Mu → Prop) (X : XQ) : List D → Mu → Prop := fun ds μ => W (Ω.Φ j (x :: ds) μ) N X
def mcW (Ω : Om) (es : Es) (δ : Dl) (x : D) (N : D → Mu → Prop) (X : XQ) : Option (Nat × Nat) → Mu → Prop := fun o μ => (match o with | some q => W (evs Ω es δ μ) (kMc2 Ω q.2 x N X) X | none => False)
def kMc1 (Ω : Om) (m : Str) (es : Es) (δ : Dl) (N : D → Mu → Prop) (X : XQ) : D → Mu → Prop := fun x μ => mcW Ω es δ x N X (methI Ω.C m x μ) μ
def kMk2 (ℓ : Nat) (N : D → Mu → Prop) : D → Mu → Prop := fun r μ => (match r with | .non => N (.loc ℓ) μ | _ => False)
def mkW (Ω : Om) (c : Nat) (ds : List D) (N : D → Mu → Prop) (X : XQ) : Option Nat → Mu → Prop := fun o μ => (match o with | some j => W (Ω.Ψ j (.loc μ.length :: ds) (μ ++ [.ins c []])) (kMk2 μ.length N) X | none => False)
def kMk1 (Ω : Om) (c : Nat) (N : D → Mu → Prop) (X : XQ) : List D → Mu → Prop := fun ds μ => mkW Ω c ds N X (initI Ω.C c) μ
def kDc (Ω : Om) (own : List Nat) (t : Tg) (a b : E) (δ : Dl) (N : D → Mu → Prop) (X : XQ) : Src → Mu → Prop := fun src μ1 => W (dcN (bindG t) (ev Ω a) (ev Ω b) src μ1.length (wipeD δ own) Ω.fu 0 (μ1 ++ [.dic []])) N X
def kDic (ℓ : Nat) (N : D → Mu → Prop) (X : XQ) : List (D × D) → Mu → Prop := fun kvs μ => W (dispD kvs ℓ μ) N X
def kCons2 (d : D) (N : List D → Mu → Prop) : List D → Mu → Prop := fun ds μ => N (d :: ds) μ
def kCons1 (Ω : Om) (r : Es) (δ : Dl) (N : List D → Mu → Prop) (X : XQ) : D → Mu → Prop := fun d μ => W (evs Ω r δ μ) (kCons2 d N) X
def kOs (N : Option Int → Mu → Prop) (X : XQ) : D → Mu → Prop := fun d μ => W (optI d μ) N X
def kCallL (Ω : Om) (f : Nat) (N : D → Mu → Prop) (X : XQ) : List D → Mu → Prop := fun ds μ => W (Ω.Ψ f ds μ) N X
def kAll (Ω : Om) (own : List Nat) (t : Tg) (e : E) (δ : Dl) (N : D → Mu → Prop) (X : XQ) : Src → Mu → Prop := fun src μ1 => W (allN (bindG t) (ev Ω e) src (wipeD δ own) Ω.fu 0 μ1) N X
def kRev (N : Src → Mu → Prop) (X : XQ) : D → Mu → Prop := fun d μ => W (revS d μ) N X
def kVal (N : Src → Mu → Prop) (X : XQ) : D → Mu → Prop := fun d μ => W (valS d μ) N X
def kR1 (N : Src → Mu → Prop) (X : XQ) : D → Mu → Prop := fun d μ => W (rng1S d μ) N X
def kEnm (N : Src → Mu → Prop) (X : XQ) : D → Mu → Prop := fun d μ => W (enmS d μ) N X
def kR2b (d : D) (N : Src → Mu → Prop) (X : XQ) : D → Mu → Prop := fun d2 μ => W (rng2S d d2 μ) N X
def kR2a (Ω : Om) (f : E) (δ : Dl) (N : Src → Mu → Prop) (X : XQ) : D → Mu → Prop := fun d μ => W (ev Ω f δ μ) (kR2b d N X) X
def kPc3 (x y : D) (N : List (D × D) → Mu → Prop) : List (D × D) → Mu → Prop := fun ps μ => N ((x, y) :: ps) μ
def kPc2 (Ω : Om) (x : D) (r : Ep) (δ : Dl) (N : List (D × D) → Mu → Prop) (X : XQ) : D → Mu → Prop := fun y μ => W (evp Ω r δ μ) (kPc3 x y N) X
def kPc1 (Ω : Om) (b : E) (r : Ep) (δ : Dl) (N : List (D × D) → Mu → Prop) (X : XQ) : D → Mu → Prop := fun x μ => W (ev Ω b δ μ) (kPc2 Ω x r δ N X) X
def tAnd (Ω : Om) (b : E) (δ : Dl) (M : Bool → Mu → Prop) (X : XQ) : Bool → Mu → Prop := fun c μ => W (if c = true then tv Ω b δ μ else .ok false μ) M X
def tOr (Ω : Om) (b : E) (δ : Dl) (M : Bool → Mu → Prop) (X : XQ) : Bool → Mu → Prop := fun c μ => W (if c = true then .ok true μ else tv Ω b δ μ) M X
def tNot (M : Bool → Mu → Prop) : Bool → Mu → Prop := fun c μ => M (!c) μ
def kBo (M : Bool → Mu → Prop) (X : XQ) : D → Mu → Prop := fun z μ => W (boD z μ) M X
def kTru (M : Bool → Mu → Prop) (X : XQ) : D → Mu → Prop := fun d μ => W (truD d μ) M X
def kAsg (t : Tg) (δ : Dl) (k : KS) : D → Mu → Prop := fun d μ => WS (asgR t d δ μ) k
def kX (δ : Dl) (k : KS) : XQ := fun c fs μ => k.x c fs δ μ
def kSet4 (δ : Dl) (k : KS) : Unit → Mu → Prop := fun _u μ => k.n δ μ
def kSet3 (d x : D) (δ : Dl) (k : KS) : D → Mu → Prop := fun kk μ => W (setixD x kk d μ) (kSet4 δ k) (kX δ k)
def kSet2 (Ω : Om) (d : D) (i : E) (δ : Dl) (k : KS) : D → Mu → Prop := fun x μ => W (ev Ω i δ μ) (kSet3 d x δ k) (kX δ k)
def kSet1 (Ω : Om) (o i : E) (δ : Dl) (k : KS) : D → Mu → Prop := fun d μ => W (ev Ω o δ μ) (kSet2 Ω d i δ k) (kX δ k)
def kAug3 (i : Nat) (δ : Dl) (k : KS) : D → Mu → Prop := fun z μ => k.n (δ.set i (some z)) μ
def kAug2 (i : Nat) (o : Operator) (x : D) (δ : Dl) (k : KS) : D → Mu → Prop := fun y μ => W (augD o x y μ) (kAug3 i δ k) (kX δ k)
def kAug1 (Ω : Om) (i : Nat) (o : Operator) (e : E) (δ : Dl) (k : KS) : D → Mu → Prop := fun x μ => W (ev Ω e δ μ) (kAug2 i o x δ k) (kX δ k)
def kSf2 (Ω : Om) (f : Str) (d : D) (δ : Dl) (k : KS) : D → Mu → Prop := fun x μ => W (setfD Ω.C f x d μ) (kSet4 δ k) (kX δ k)
def kSf1 (Ω : Om) (o : E) (f : Str) (δ : Dl) (k : KS) : D → Mu → Prop := fun d μ => W (ev Ω o δ μ) (kSf2 Ω f d δ k) (kX δ k)
def kExp (δ : Dl) (k : KS) : D → Mu → Prop := fun _d μ => k.n δ μ
def kIfs (Ω : Om) (a b : Ss) (δ : Dl) (k : KS) : Bool → Mu → Prop := fun c μ => WS (if c = true then evSs Ω a δ μ else evSs Ω b δ μ) k
def kFor (Ω : Om) (t : Tg) (b : Ss) (δ : Dl) (k : KS) : Src → Mu → Prop := fun src μ => WS (forN (bindG t) (evSs Ω b) src Ω.fu 0 δ μ) k
/-- the block's rest behind a statement -/
def seqK (Ω : Om) (r : Ss) (k : KS) : KS := { k with n := fun δ μ => WS (evSs Ω r δ μ) k }
def kRaise (Ω : Om) (c : Nat) (δ : Dl) (k : KS) : List D → Mu → Prop := fun ds μ => WS (raiseR Ω c ds δ μ) k
/-- what a try does with an exception of its body -/
def tryX (Ω : Om) (c i : Nat) (e : E) (k : KS) (c' : Nat) (fs : List (Str × D)) (δ : Dl) (μ : Mu) : Prop := if c' < Ω.X.length ∧ c < Ω.X.length then
  (if xsub c' c = true then W (ev Ω e (δ.set i (some (.loc μ.length))) (μ ++ [.xd fs])) k.r (fun _ _ _ => False) else k.x c' fs δ μ) else False
def tryS (Ω : Om) (c i : Nat) (e : E) (k : KS) : KS := ⟨k.n, k.r, k.b, k.c, tryX Ω c i e k⟩
def runK (N : D → Mu → Prop) (X : XQ) : KS := ⟨fun _ μ => N .non μ, N, fun _ _ => False, fun _ _ => False, fun c fs _ μ => X c fs μ⟩
def loopK (k : KS) (I : Dl → Mu → Prop) : KS := { k with n := I, c := I, b := k.n }
section
variable {Ω : Om} {r : Ss} {k : KS} {δ : Dl} {μ : Mu} {N : D → Mu → Prop} {X : XQ} {d : D} {c : Nat} {fs : List (Str × D)} {I : Dl → Mu → Prop}
theorem seqK_n : (seqK Ω r k).n δ μ = WS (evSs Ω r δ μ) k := (rfl)
theorem seqK_r : (seqK Ω r k).r = k.r := (rfl)
theorem seqK_b : (seqK Ω r k).b = k.b := (rfl)
theorem seqK_c : (seqK Ω r k).c = k.c := (rfl)
theorem seqK_x : (seqK Ω r k).x = k.x := (rfl)
theorem kRaise_ap {Ω : Om} {c : Nat} {δ : Dl} {k : KS} {ds} {μ} : kRaise Ω c δ k ds μ = WS (raiseR Ω c ds δ μ) k := (rfl)
theorem raise_1 {Ω : Om} {c : Nat} {d : D} {δ : Dl} {μ : Mu} : raiseR Ω c [d] δ μ = .exc c (mkX Ω.X c d) δ μ := (rfl)
theorem ws_exc {c : Nat} {fs : List (Str × D)} {δ : Dl} {μ : Mu} {k : KS} : WS (.exc c fs δ μ) k = k.x c fs δ μ := (rfl)
theorem tryS_n {Ω : Om} {c i : Nat} {e : E} {k : KS} : (tryS Ω c i e k).n = k.n := (rfl)
theorem tryS_r {Ω : Om} {c i : Nat} {e : E} {k : KS} : (tryS Ω c i e k).r = k.r := (rfl)
theorem tryS_b {Ω : Om} {c i : Nat} {e : E} {k : KS} : (tryS Ω c i e k).b = k.b := (rfl)
theorem tryS_c {Ω : Om} {c i : Nat} {e : E} {k : KS} : (tryS Ω c i e k).c = k.c := (rfl)
theorem tryS_x {Ω : Om} {c i : Nat} {e : E} {k : KS} {c' : Nat} {fs : List (Str × D)} {δ : Dl} {μ : Mu} : (tryS Ω c i e k).x c' fs δ μ = tryX Ω c i e k c' fs δ μ := (rfl)
theorem xsub_0 {a : Nat} : xsub a 0 = true := (rfl)
theorem xsub_s {a : Nat} : xsub a a = true := by unfold xsub; simp
theorem xfD_l {f : Str} {μ : Mu} {n : Nat} : xfD f μ (some (some (.loc n))) = (match μ[n]? with
    | some (.xd fs) => (match fs.lookup f with
      | some d => .ok d μ
      | none => .stuck)
    | _ => .stuck) := (rfl)
theorem runK_n : (runK N X).n δ μ = N .non μ := (rfl)
theorem runK_r : (runK N X).r = N := (rfl)
theorem runK_b : (runK N X).b δ μ = False := (rfl)
theorem runK_c : (runK N X).c δ μ = False := (rfl)
theorem runK_x : (runK N X).x c fs δ μ = X c fs μ := (rfl)
theorem loopK_n : (loopK k I).n = I := (rfl)
theorem loopK_r : (loopK k I).r = k.r := (rfl)
theorem loopK_b : (loopK k I).b = k.n := (rfl)
theorem loopK_c : (loopK k I).c = I := (rfl)
theorem loopK_x : (loopK k I).x = k.x := (rfl)
end
theorem kBind_ap {α β : Type} {f : α → Mu → Res β} {N : β → Mu → Prop} {X : XQ} {a} {μ} : kBind f N X a μ = (W (f a μ) N X) := (rfl)
theorem kBin2_ap {o : Operator} {x : D} {N : D → Mu → Prop} {X : XQ} {y} {μ} : kBin2 o x N X y μ = (W (binD o x y μ) N X) := (rfl)
theorem kBin1_ap {Ω : Om} {o : Operator} {b : E} {δ : Dl} {N : D → Mu → Prop} {X : XQ} {x} {μ} : kBin1 Ω o b δ N X x μ = (W (ev Ω b δ μ) (kBin2 o x N X) X) := (rfl)
theorem kNeg_ap {N : D → Mu → Prop} {X : XQ} {x} {μ} : kNeg N X x μ = (W (negD x μ) N X) := (rfl)
theorem kCmp2_ap {o : CmpOp} {x : D} {N : D → Mu → Prop} {X : XQ} {y} {μ} : kCmp2 o x N X y μ = (W (cmpD o x y μ) N X) := (rfl)
theorem kCmp1_ap {Ω : Om} {o : CmpOp} {b : E} {δ : Dl} {N : D → Mu → Prop} {X : XQ} {x} {μ} : kCmp1 Ω o b δ N X x μ = (W (ev Ω b δ μ) (kCmp2 o x N X) X) := (rfl)
theorem kChn3_ap {Ω : Om} {p : CmpOp} {y : D} {c : E} {δ : Dl} {N : D → Mu → Prop} {X : XQ} {z} {μ} : kChn3 Ω p y c δ N X z μ = (W (andR z ((ev Ω c δ μ).bind (cmpD p y)) μ) N X) := (rfl)
theorem kChn2_ap {Ω : Om} {o p : CmpOp} {x : D} {c : E} {δ : Dl} {N : D → Mu → Prop} {X : XQ} {y} {μ} : kChn2 Ω o p x c δ N X y μ = (W (cmpD o x y μ) (kChn3 Ω p y c δ N X) X) := (rfl)
theorem kChn1_ap {Ω : Om} {o p : CmpOp} {b c : E} {δ : Dl} {N : D → Mu → Prop} {X : XQ} {x} {μ} : kChn1 Ω o p b c δ N X x μ = (W (ev Ω b δ μ) (kChn2 Ω o p x c δ N X) X) := (rfl)
theorem kAnd_ap {Ω : Om} {b : E} {δ : Dl} {N : D → Mu → Prop} {X : XQ} {x} {μ} : kAnd Ω b δ N X x μ = (W (andR x (ev Ω b δ μ) μ) N X) := (rfl)
theorem kOr_ap {Ω : Om} {b : E} {δ : Dl} {N : D → Mu → Prop} {X : XQ} {x} {μ} : kOr Ω b δ N X x μ = (W (orR x (ev Ω b δ μ) μ) N X) := (rfl)
theorem kNot_ap {N : D → Mu → Prop} {X : XQ} {x} {μ} : kNot N X x μ = (W (notD x μ) N X) := (rfl)
theorem kIte_ap {Ω : Om} {a b : E} {δ : Dl} {N : D → Mu → Prop} {X : XQ} {c} {μ} : kIte Ω a b δ N X c μ = (W (if c = true then ev Ω a δ μ else ev Ω b δ μ) N X) := (rfl)
theorem kIx2_ap {x : D} {N : D → Mu → Prop} {X : XQ} {y} {μ} : kIx2 x N X y μ = (W (ixD x y μ) N X) := (rfl)
theorem kIx1_ap {Ω : Om} {b : E} {δ : Dl} {N : D → Mu → Prop} {X : XQ} {x} {μ} : kIx1 Ω b δ N X x μ = (W (ev Ω b δ μ) (kIx2 x N X) X) := (rfl)
theorem kSl3_ap {x : D} {l : Option Int} {N : D → Mu → Prop} {X : XQ} {h} {μ} : kSl3 x l N X h μ = (W (slD x l h μ) N X) := (rfl)
theorem kSl2_ap {Ω : Om} {x : D} {hi : Eo} {δ : Dl} {N : D → Mu → Prop} {X : XQ} {l} {μ} : kSl2 Ω x hi δ N X l μ = (W (evo Ω hi δ μ) (kSl3 x l N X) X) := (rfl)
theorem kSl1_ap {Ω : Om} {lo hi : Eo} {δ : Dl} {N : D → Mu → Prop} {X : XQ} {x} {μ} : kSl1 Ω lo hi δ N X x μ = (W (evo Ω lo δ μ) (kSl2 Ω x hi δ N X) X) := (rfl)
theorem kCall_ap {Ω : Om} {f : Nat} {N : D → Mu → Prop} {X : XQ} {ds} {μ} : kCall Ω f N X ds μ = (W (Ω.Φ f ds μ) N X) := (rfl)
theorem kBlt_ap {b : Blt} {N : D → Mu → Prop} {X : XQ} {ds} {μ} : kBlt b N X ds μ = (W (bltD b ds μ) N X) := (rfl)
theorem kMth2_ap {m : Mth} {x : D} {N : D → Mu → Prop} {X : XQ} {ds} {μ} : kMth2 m x N X ds μ = (W (mthD m x ds μ) N X) := (rfl)
theorem kMth1_ap {Ω : Om} {m : Mth} {es : Es} {δ : Dl} {N : D → Mu → Prop} {X : XQ} {x} {μ} : kMth1 Ω m es δ N X x μ = (W (if mkD m x μ = true then evs Ω es δ μ else .stuck) (kMth2 m x N X) X) := (rfl)
theorem kTup_ap {N : D → Mu → Prop} {X : XQ} {ds} {μ} : kTup N X ds μ = (W (if ds.length ≤ 16777216 then .ok (.tup ds) μ else .stuck) N X) := (rfl)
theorem kLst_ap {N : D → Mu → Prop} {X : XQ} {ds} {μ} : kLst N X ds μ = (W (if ds.length ≤ 16777216 then newl μ ds else .stuck) N X) := (rfl)
theorem kLc_ap {Ω : Om} {own : List Nat} {t : Tg} {fs : Eo} {e : E} {δ : Dl} {N : D → Mu → Prop} {X : XQ} {src} {μ1} : kLc Ω own t fs e δ N X src μ1 = (W (lcN (bindG t) (tvo Ω fs) (ev Ω e) src μ1.length (wipeD δ own) Ω.fu 0 (μ1 ++ [.lst []])) N X) := (rfl)
theorem kIn2_ap {Ω : Om} {own2 : List Nat} {t2 : Tg} {e : E} {ℓ : Nat} {δ1 : Dl} {N : Unit → Mu → Prop} {X : XQ} {s2} {μ3} : kIn2 Ω own2 t2 e ℓ δ1 N X s2 μ3 = (W (lc2I (bindG t2) (ev Ω e) s2 ℓ (wipeD δ1 own2) Ω.fu 0 μ3) N X) := (rfl)
theorem kLc2_ap {Ω : Om} {own : List Nat} {t : Tg} {own2 : List Nat} {t2 : Tg} {it2 : It'} {e : E} {δ : Dl} {N : D → Mu → Prop} {X : XQ} {src} {μ1} : kLc2 Ω own t own2 t2 it2 e δ N X src μ1 = (W (lc2N (bindG t) (in2 Ω own2 t2 it2 e μ1.length) src μ1.length (wipeD δ own) Ω.fu 0 (μ1 ++ [.lst []])) N X) := (rfl)
theorem kFld_ap {Ω : Om} {f : Str} {N : D → Mu → Prop} {X : XQ} {x} {μ} : kFld Ω f N X x μ = (W (fldD Ω.C f x μ) N X) := (rfl)
theorem kMc2_ap {Ω : Om} {j : Nat} {x : D} {N : D → Mu → Prop} {X : XQ} {ds} {μ} : kMc2 Ω j x N X ds μ = (W (Ω.Φ j (x :: ds) μ) N X) := (rfl)
theorem mcW_ap {Ω : Om} {es : Es} {δ : Dl} {x : D} {N : D → Mu → Prop} {X : XQ} {o} {μ} : mcW Ω es δ x N X o μ = ((match o with | some q => W (evs Ω es δ μ) (kMc2 Ω q.2 x N X) X | none => False)) := (rfl)
theorem kMc1_ap {Ω : Om} {m : Str} {es : Es} {δ : Dl} {N : D → Mu → Prop} {X : XQ} {x} {μ} : kMc1 Ω m es δ N X x μ = (mcW Ω es δ x N X (methI Ω.C m x μ) μ) := (rfl)
theorem kMk2_ap {ℓ : Nat} {N : D → Mu → Prop} {r} {μ} : kMk2 ℓ N r μ = ((match r with | .non => N (.loc ℓ) μ | _ => False)) := (rfl)
theorem mkW_ap {Ω : Om} {c : Nat} {ds : List D} {N : D → Mu → Prop} {X : XQ} {o} {μ} : mkW Ω c ds N X o μ = ((match o with | some j => W (Ω.Ψ j (.loc μ.length :: ds) (μ ++ [.ins c []])) (kMk2 μ.length N) X | none => False)) := (rfl)
theorem kMk1_ap {Ω : Om} {c : Nat} {N : D → Mu → Prop} {X : XQ} {ds} {μ} : kMk1 Ω c N X ds μ = (mkW Ω c ds N X (initI Ω.C c) μ) := (rfl)
theorem kDc_ap {Ω : Om} {own : List Nat} {t : Tg} {a b : E} {δ : Dl} {N : D → Mu → Prop} {X : XQ} {src} {μ1} : kDc Ω own t a b δ N X src μ1 = (W (dcN (bindG t) (ev Ω a) (ev Ω b) src μ1.length (wipeD δ own) Ω.fu 0 (μ1 ++ [.dic []])) N X) := (rfl)
theorem kDic_ap {ℓ : Nat} {N : D → Mu → Prop} {X : XQ} {kvs} {μ} : kDic ℓ N X kvs μ = (W (dispD kvs ℓ μ) N X) := (rfl)
theorem kCons2_ap {d : D} {N : List D → Mu → Prop} {ds} {μ} : kCons2 d N ds μ = (N (d :: ds) μ) := (rfl)
theorem kCons1_ap {Ω : Om} {r : Es} {δ : Dl} {N : List D → Mu → Prop} {X : XQ} {d} {μ} : kCons1 Ω r δ N X d μ = (W (evs Ω r δ μ) (kCons2 d N) X) := (rfl)
theorem kOs_ap {N : Option Int → Mu → Prop} {X : XQ} {d} {μ} : kOs N X d μ = (W (optI d μ) N X) := (rfl)
theorem kCallL_ap {Ω : Om} {f : Nat} {N : D → Mu → Prop} {X : XQ} {ds} {μ} : kCallL Ω f N X ds μ = (W (Ω.Ψ f ds μ) N X) := (rfl)
theorem kAll_ap {Ω : Om} {own : List Nat} {t : Tg} {e : E} {δ : Dl} {N : D → Mu → Prop} {X : XQ} {src} {μ1} : kAll Ω own t e δ N X src μ1 = (W (allN (bindG t) (ev Ω e) src (wipeD δ own) Ω.fu 0 μ1) N X) := (rfl)
theorem kRev_ap {N : Src → Mu → Prop} {X : XQ} {d} {μ} : kRev N X d μ = (W (revS d μ) N X) := (rfl)
theorem kVal_ap {N : Src → Mu → Prop} {X : XQ} {d} {μ} : kVal N X d μ = (W (valS d μ) N X) := (rfl)
theorem kR1_ap {N : Src → Mu → Prop} {X : XQ} {d} {μ} : kR1 N X d μ = (W (rng1S d μ) N X) := (rfl)
theorem kEnm_ap {N : Src → Mu → Prop} {X : XQ} {d} {μ} : kEnm N X d μ = (W (enmS d μ) N X) := (rfl)
theorem kR2b_ap {d : D} {N : Src → Mu → Prop} {X : XQ} {d2} {μ} : kR2b d N X d2 μ = (W (rng2S d d2 μ) N X) := (rfl)
theorem kR2a_ap {Ω : Om} {f : E} {δ : Dl} {N : Src → Mu → Prop} {X : XQ} {d} {μ} : kR2a Ω f δ N X d μ = (W (ev Ω f δ μ) (kR2b d N X) X) := (rfl)
theorem kPc3_ap {x y : D} {N : List (D × D) → Mu → Prop} {ps} {μ} : kPc3 x y N ps μ = (N ((x, y) :: ps) μ) := (rfl)
theorem kPc2_ap {Ω : Om} {x : D} {r : Ep} {δ : Dl} {N : List (D × D) → Mu → Prop} {X : XQ} {y} {μ} : kPc2 Ω x r δ N X y μ = (W (evp Ω r δ μ) (kPc3 x y N) X) := (rfl)
theorem kPc1_ap {Ω : Om} {b : E} {r : Ep} {δ : Dl} {N : List (D × D) → Mu → Prop} {X : XQ} {x} {μ} : kPc1 Ω b r δ N X x μ = (W (ev Ω b δ μ) (kPc2 Ω x r δ N X) X) := (rfl)
theorem tAnd_ap {Ω : Om} {b : E} {δ : Dl} {M : Bool → Mu → Prop} {X : XQ} {c} {μ} : tAnd Ω b δ M X c μ = (W (if c = true then tv Ω b δ μ else .ok false μ) M X) := (rfl)
theorem tOr_ap {Ω : Om} {b : E} {δ : Dl} {M : Bool → Mu → Prop} {X : XQ} {c} {μ} : tOr Ω b δ M X c μ = (W (if c = true then .ok true μ else tv Ω b δ μ) M X) := (rfl)
theorem tNot_ap {M : Bool → Mu → Prop} {c} {μ} : tNot M c μ = (M (!c) μ) := (rfl)
theorem kBo_ap {M : Bool → Mu → Prop} {X : XQ} {z} {μ} : kBo M X z μ = (W (boD z μ) M X) := (rfl)
theorem kTru_ap {M : Bool → Mu → Prop} {X : XQ} {d} {μ} : kTru M X d μ = (W (truD d μ) M X) := (rfl)
theorem kAsg_ap {t : Tg} {δ : Dl} {k : KS} {d} {μ} : kAsg t δ k d μ = (WS (asgR t d δ μ) k) := (rfl)
theorem kX_ap {δ : Dl} {k : KS} {c} {fs} {μ} : kX δ k c fs μ = (k.x c fs δ μ) := (rfl)
theorem kSet4_ap {δ : Dl} {k : KS} {_u} {μ} : kSet4 δ k _u μ = (k.n δ μ) := (rfl)
theorem kSet3_ap {d x : D} {δ : Dl} {k : KS} {kk} {μ} : kSet3 d x δ k kk μ = (W (setixD x kk d μ) (kSet4 δ k) (kX δ k)) := (rfl)
theorem kSet2_ap {Ω : Om} {d : D} {i : E} {δ : Dl} {k : KS} {x} {μ} : kSet2 Ω d i δ k x μ = (W (ev Ω i δ μ) (kSet3 d x δ k) (kX δ k)) := (rfl)
theorem kSet1_ap {Ω : Om} {o i : E} {δ : Dl} {k : KS} {d} {μ} : kSet1 Ω o i δ k d μ = (W (ev Ω o δ μ) (kSet2 Ω d i δ k) (kX δ k)) := (rfl)
theorem kAug3_ap {i : Nat} {δ : Dl} {k : KS} {z} {μ} : kAug3 i δ k z μ = (k.n (δ.set i (some z)) μ) := (rfl)
theorem kAug2_ap {i : Nat} {o : Operator} {x : D} {δ : Dl} {k : KS} {y} {μ} : kAug2 i o x δ k y μ = (W (augD o x y μ) (kAug3 i δ k) (kX δ k)) := (rfl)
theorem kAug1_ap {Ω : Om} {i : Nat} {o : Operator} {e : E} {δ : Dl} {k : KS} {x} {μ} : kAug1 Ω i o e δ k x μ = (W (ev Ω e δ μ) (kAug2 i o x δ k) (kX δ k)) := (rfl)
theorem kSf2_ap {Ω : Om} {f : Str} {d : D} {δ : Dl} {k : KS} {x} {μ} : kSf2 Ω f d δ k x μ = (W (setfD Ω.C f x d μ) (kSet4 δ k) (kX δ k)) := (rfl)
theorem kSf1_ap {Ω : Om} {o : E} {f : Str} {δ : Dl} {k : KS} {d} {μ} : kSf1 Ω o f δ k d μ = (W (ev Ω o δ μ) (kSf2 Ω f d δ k) (kX δ k)) := (rfl)
theorem kExp_ap {δ : Dl} {k : KS} {_d} {μ} : kExp δ k _d μ = (k.n δ μ) := (rfl)
theorem kIfs_ap {Ω : Om} {a b : Ss} {δ : Dl} {k : KS} {c} {μ} : kIfs Ω a b δ k c μ = (WS (if c = true then evSs Ω a δ μ else evSs Ω b δ μ) k) := (rfl)
theorem kFor_ap {Ω : Om} {t : Tg} {b : Ss} {δ : Dl} {k : KS} {src} {μ} : kFor Ω t b δ k src μ = (WS (forN (bindG t) (evSs Ω b) src Ω.fu 0 δ μ) k) := (rfl)

section
variable {α β : Type} {Ω : Om} {δ : Dl} {μ : Mu} {X : XQ} {N : D → Mu → Prop} {k : KS}
theorem w_ok {N : α → Mu → Prop} {a : α} : W (.ok a μ) N X = N a μ := (rfl)
theorem w_exc {N : α → Mu → Prop} {c fs} : W (.exc c fs μ) N X = X c fs μ := rfl
theorem w_stuck {N : α → Mu → Prop} : W .stuck N X = False := (rfl)
theorem ws_nx : WS (.nx δ μ) k = k.n δ μ := (rfl)
theorem ws_ret {d : D} : WS (.ret d μ) k = k.r d μ := (rfl)
theorem ws_stuck : WS .stuck k = False := (rfl)
theorem w_bind {r : Res α} {f : α → Mu → Res β} {N : β → Mu → Prop} : W (r.bind f) N X = W r (kBind f N X) X := by cases r <;> rfl
theorem w_ifs {N : α → Mu → Prop} {c : Prop} [Decidable c] {a : Res α} : W (if c then a else .stuck) N X = (c ∧ W a N X) := by
  by_cases h : c
  · rw [if_pos h]; exact propext ⟨fun z => ⟨h, z⟩, fun z => z.2⟩
  · rw [if_neg h]; exact propext ⟨fun z => z.elim, fun z => (h z.1).elim⟩
theorem w_of {r : Res α} {f : α → Mu → RS} : WS (RS.of δ r f) k = W r (fun a μ1 => WS (f a μ1) k) (kX δ k) := by cases r <;> rfl
theorem ws_seq {Ω : Om} {r : RS} {b : Ss} : WS (r.seq (evSs Ω b)) k = WS r (seqK Ω b k) := by cases r <;> rfl
theorem rdV_0 {d : D} : rdV (some d :: δ) 0 μ = .ok d μ := (rfl)
theorem rdV_s {o : Option D} {i : Nat} : rdV (o :: δ) (i + 1) μ = rdV δ i μ := (rfl)
theorem w_noexc {r : Res α} {N : α → Mu → Prop} : W r.noexc N X = W r N (fun _ _ _ => False) := by cases r <;> rfl
theorem andR_b {b : Bool} {r : Res D} : andR (.bl b) r μ = if b = true then r else .ok (.bl false) μ := by cases b <;> rfl
theorem orR_b {b : Bool} {r : Res D} : orR (.bl b) r μ = if b = true then .ok (.bl true) μ else r := by cases b <;> rfl
theorem w_v {i : Nat} : W (ev Ω (.v i) δ μ) N X = W (rdV δ i μ) N X := by rw [ev]; rfl
theorem w_c {d : D} : W (ev Ω (.c d) δ μ) N X = N d μ := by rw [ev]; rfl
theorem w_tup {es : Es} : W (ev Ω (.tup es) δ μ) N X = W (evs Ω es δ μ) (kTup N X) X := by rw [ev, w_bind]; rfl
theorem w_lst {es : Es} : W (ev Ω (.lst es) δ μ) N X = W (evs Ω es δ μ) (kLst N X) X := by rw [ev, w_bind]; rfl
theorem w_bin {o : Operator} {a b : E} : W (ev Ω (.bin o a b) δ μ) N X = W (ev Ω a δ μ) (kBin1 Ω o b δ N X) X := by
  rw [ev, w_bind]
  congr 1; funext x μ1
  rw [kBind_ap, w_bind]; rfl
theorem w_neg {a : E} : W (ev Ω (.neg a) δ μ) N X = W (ev Ω a δ μ) (kNeg N X) X := by rw [ev, w_bind]; rfl
theorem w_cmp {o : CmpOp} {a b : E} : W (ev Ω (.cmp o a b) δ μ) N X = W (ev Ω a δ μ) (kCmp1 Ω o b δ N X) X := by
  rw [ev, w_bind]
  congr 1; funext x μ1
  rw [kBind_ap, w_bind]; rfl
theorem w_chn {o p : CmpOp} {a b c : E} : W (ev Ω (.chn o p a b c) δ μ) N X = W (ev Ω a δ μ) (kChn1 Ω o p b c δ N X) X := by
  rw [ev, w_bind]
  congr 1; funext x μ1
  rw [kBind_ap, w_bind, kChn1_ap]
  congr 1; funext y μ2
  rw [kBind_ap, w_bind, kChn2_ap]
  rfl
theorem w_and {a b : E} : W (ev Ω (.and a b) δ μ) N X = W (ev Ω a δ μ) (kAnd Ω b δ N X) X := by rw [ev, w_bind]; rfl
theorem w_or {a b : E} : W (ev Ω (.or a b) δ μ) N X = W (ev Ω a δ μ) (kOr Ω b δ N X) X := by rw [ev, w_bind]; rfl
theorem w_not {a : E} : W (ev Ω (.not a) δ μ) N X = W (ev Ω a δ μ) (kNot N X) X := by rw [ev, w_bind]; rfl
theorem w_ite {t a b : E} : W (ev Ω (.ite t a b) δ μ) N X = W (tv Ω t δ μ) (kIte Ω a b δ N X) X := by rw [ev, w_bind]; rfl
theorem w_ix {a b : E} : W (ev Ω (.ix a b) δ μ) N X = W (ev Ω a δ μ) (kIx1 Ω b δ N X) X := by
  rw [ev, w_bind]
  congr 1; funext x μ1
  rw [kBind_ap, w_bind]; rfl
theorem w_sl {a : E} {lo hi : Eo} : W (ev Ω (.sl a lo hi) δ μ) N X = W (ev Ω a δ μ) (kSl1 Ω lo hi δ N X) X := by
  rw [ev, w_bind]
  congr 1; funext x μ1
  rw [kBind_ap, w_bind, kSl1_ap]
  congr 1; funext y μ2
  rw [kBind_ap, w_bind]; rfl
theorem w_call {f : Nat} {es : Es} : W (ev Ω (.call f es) δ μ) N X = W (evs Ω es δ μ) (kCall Ω f N X) X := by rw [ev, w_bind]; rfl
theorem w_callL {f : Nat} {es : Es} : W (ev Ω (.callL f es) δ μ) N X = W (evs Ω es δ μ) (kCallL Ω f N X) X := by rw [ev, w_bind]; rfl
theorem w_all {p : Pg} {fu k : Nat} {own : List Nat} {t : Tg} {it : It'} {e : E} : W (ev (omAt p fu (k + 1)) (.all own t it e) δ μ) N X = W (evi (omAt p fu (k + 1)) it δ μ) (kAll (omAt p fu (k + 1)) own t e δ N X) X := by
  rw [ev, if_pos (by simp), w_bind]; rfl
theorem w_ir {N : Src → Mu → Prop} {e : E} : W (evi Ω (.rev e) δ μ) N X = W (ev Ω e δ μ) (kRev N X) X := by rw [evi, w_bind]; rfl
theorem t_callL {M : Bool → Mu → Prop} {f : Nat} {es : Es} : W (tv Ω (.callL f es) δ μ) M X = W (ev Ω (.callL f es) δ μ) (kTru M X) X := by rw [tv, w_bind, ev]; rfl
theorem t_all {M : Bool → Mu → Prop} {own : List Nat} {t : Tg} {it : It'} {e : E} : W (tv Ω (.all own t it e) δ μ) M X = W (ev Ω (.all own t it e) δ μ) (kTru M X) X := by rw [tv, w_bind, ev]; rfl
theorem w_blt {b : Blt} {es : Es} : W (ev Ω (.blt b es) δ μ) N X = W (evs Ω es δ μ) (kBlt b N X) X := by rw [ev, w_bind]; rfl
theorem w_mth {m : Mth} {a : E} {es : Es} : W (ev Ω (.mth m a es) δ μ) N X = W (ev Ω a δ μ) (kMth1 Ω m es δ N X) X := by
  rw [ev, w_bind]
  congr 1; funext x μ1
  rw [kBind_ap, kMth1_ap]
  split
  · rw [w_bind]; rfl
  · rfl
theorem w_lc {own : List Nat} {t : Tg} {it : It'} {fs : Eo} {e : E} : W (ev Ω (.lc own t it fs e) δ μ) N X = W (evi Ω it δ μ) (kLc Ω own t fs e δ N X) X := by rw [ev, w_bind]; rfl
theorem w_lc2 {own : List Nat} {t : Tg} {it : It'} {own2 : List Nat} {t2 : Tg} {it2 : It'} {e : E} : W (ev Ω (.lc2 own t it own2 t2 it2 e) δ μ) N X = W (evi Ω it δ μ) (kLc2 Ω own t own2 t2 it2 e δ N X) X := by rw [ev, w_bind]; rfl
theorem w_fld {a : E} {f : Str} : W (ev Ω (.fld a f) δ μ) N X = W (ev Ω a δ μ) (kFld Ω f N X) X := by rw [ev, w_bind]; rfl
theorem w_mc {m : Str} {a : E} {es : Es} : W (ev Ω (.mc m a es) δ μ) N X = W (ev Ω a δ μ) (kMc1 Ω m es δ N X) X := by
  rw [ev, w_bind]
  congr 1; funext x μ1
  rw [kBind_ap, kMc1_ap, mcW_ap]
  cases methI Ω.C m x μ1 with
  | none => rfl
  | some q =>
    obtain ⟨q1, q2⟩ := q
    dsimp only
    rw [w_bind]; rfl
theorem w_mk {c : Nat} {es : Es} : W (ev Ω (.mk c es) δ μ) N X = W (evs Ω es δ μ) (kMk1 Ω c N X) X := by
  rw [ev, w_bind]
  congr 1; funext ds μ1
  rw [kBind_ap, kMk1_ap, mkW_ap]
  cases initI Ω.C c with
  | none => rfl
  | some j =>
    dsimp only
    rw [w_bind]
    congr 1; funext r μ2
    rw [kBind_ap, kMk2_ap]
    cases r <;> rfl
theorem w_dc {own : List Nat} {t : Tg} {it : It'} {a b : E} : W (ev Ω (.dc own t it a b) δ μ) N X = W (evi Ω it δ μ) (kDc Ω own t a b δ N X) X := by rw [ev, w_bind]; rfl
theorem w_dic {ps : Ep} : W (ev Ω (.dic ps) δ μ) N X = W (evp Ω ps δ (μ ++ [.dic []])) (kDic μ.length N X) X := by rw [ev, w_bind]; rfl
theorem w_nil {N : List D → Mu → Prop} : W (evs Ω (.nil) δ μ) N X = N [] μ := by rw [evs]; rfl
theorem w_cons {N : List D → Mu → Prop} {e : E} {r : Es} : W (evs Ω (.cons e r) δ μ) N X = W (ev Ω e δ μ) (kCons1 Ω r δ N X) X := by
  rw [evs, w_bind]
  congr 1; funext x μ1
  rw [kBind_ap, w_bind]; rfl
theorem w_on {N : Option Int → Mu → Prop} : W (evo Ω (.none) δ μ) N X = N none μ := by rw [evo]; rfl
theorem w_os {N : Option Int → Mu → Prop} {e : E} : W (evo Ω (.some e) δ μ) N X = W (ev Ω e δ μ) (kOs N X) X := by rw [evo, w_bind]; rfl
theorem w_tn {N : Bool → Mu → Prop} : W (tvo Ω (.none) δ μ) N X = N true μ := by rw [tvo]; rfl
theorem w_ts {N : Bool → Mu → Prop} {e : E} : W (tvo Ω (.some e) δ μ) N X = W (tv Ω e δ μ) N X := by rw [tvo]
theorem w_iv {N : Src → Mu → Prop} {e : E} : W (evi Ω (.val e) δ μ) N X = W (ev Ω e δ μ) (kVal N X) X := by rw [evi, w_bind]; rfl
theorem w_i1 {N : Src → Mu → Prop} {e : E} : W (evi Ω (.rng1 e) δ μ) N X = W (ev Ω e δ μ) (kR1 N X) X := by
  rw [evi, w_bind]
  congr 1; funext d μ1
  exact congrArg (fun r => W r N X) rng1S_eq
theorem w_ie {N : Src → Mu → Prop} {e : E} : W (evi Ω (.enm e) δ μ) N X = W (ev Ω e δ μ) (kEnm N X) X := by rw [evi, w_bind]; rfl
theorem w_i2 {N : Src → Mu → Prop} {e f : E} : W (evi Ω (.rng2 e f) δ μ) N X = W (ev Ω e δ μ) (kR2a Ω f δ N X) X := by
  rw [evi, w_bind]
  congr 1; funext x μ1
  rw [kBind_ap, w_bind]
  show W _ (kBind _ N X) X = W _ (kR2b x N X) X
  congr 1; funext y μ2
  exact congrArg (fun r => W r N X) rng2S_eq
theorem w_pn {N : List (D × D) → Mu → Prop} : W (evp Ω (.nil) δ μ) N X = N [] μ := by rw [evp]; rfl
theorem w_pc {N : List (D × D) → Mu → Prop} {a b : E} {r : Ep} : W (evp Ω (.cons a b r) δ μ) N X = W (ev Ω a δ μ) (kPc1 Ω b r δ N X) X := by
  rw [evp, w_bind]
  congr 1; funext x μ1
  rw [kBind_ap, w_bind, kPc1_ap]
  congr 1; funext y μ2
  rw [kBind_ap, w_bind]; rfl
theorem t_and {M : Bool → Mu → Prop} {a b : E} : W (tv Ω (.and a b) δ μ) M X = W (tv Ω a δ μ) (tAnd Ω b δ M X) X := by rw [tv, w_bind]; rfl
theorem t_or {M : Bool → Mu → Prop} {a b : E} : W (tv Ω (.or a b) δ μ) M X = W (tv Ω a δ μ) (tOr Ω b δ M X) X := by rw [tv, w_bind]; rfl
theorem t_not {M : Bool → Mu → Prop} {a : E} : W (tv Ω (.not a) δ μ) M X = W (tv Ω a δ μ) (tNot M) X := by rw [tv, w_bind]; rfl
theorem t_cmp {M : Bool → Mu → Prop} {o : CmpOp} {a b : E} : W (tv Ω (.cmp o a b) δ μ) M X = W (ev Ω a δ μ) (kCmp1 Ω o b δ (kBo M X) X) X := by
  rw [tv, w_bind]
  congr 1; funext x μ1
  rw [kBind_ap, w_bind, kCmp1_ap]
  congr 1; funext y μ2
  rw [kBind_ap, w_bind]; rfl
theorem t_chn {M : Bool → Mu → Prop} {o p : CmpOp} {a b c : E} : W (tv Ω (.chn o p a b c) δ μ) M X = W (ev Ω a δ μ) (kChn1 Ω o p b c δ (kBo M X) X) X := by
  rw [tv, w_bind]
  congr 1; funext x μ1
  rw [kBind_ap, w_bind, kChn1_ap]
  congr 1; funext y μ2
  rw [kBind_ap, w_bind, kChn2_ap]
  congr 1; funext z μ3
  rw [kBind_ap, kChn3_ap]
  cases z with
  | bl b =>
    cases b with
    | true =>
      show W (Res.bind _ _) M X = W (Res.bind _ _) (kBo M X) X
      rw [w_bind, w_bind]
      congr 1; funext w μ4
      rw [kBind_ap, kBind_ap, w_bind]; rfl
    | false => rfl
  | _ => rfl
theorem t_v {M : Bool → Mu → Prop} {i : Nat} : W (tv Ω (.v i) δ μ) M X = W (rdV δ i μ) (kTru M X) X := by
  rw [tv]; unfold rdV
  cases h : δ[i]? with
  | none => rfl
  | some o => cases o <;> rfl
theorem t_c {M : Bool → Mu → Prop} {d : D} : W (tv Ω (.c d) δ μ) M X = W (truD d μ) M X := by rw [tv]
theorem t_ix {M : Bool → Mu → Prop} {a b : E} : W (tv Ω (.ix a b) δ μ) M X = W (ev Ω (.ix a b) δ μ) (kTru M X) X := by rw [tv, w_bind, ev]; rfl
theorem t_call {M : Bool → Mu → Prop} {f : Nat} {es : Es} : W (tv Ω (.call f es) δ μ) M X = W (ev Ω (.call f es) δ μ) (kTru M X) X := by rw [tv, w_bind, ev]; rfl
theorem t_blt {M : Bool → Mu → Prop} {b : Blt} {es : Es} : W (tv Ω (.blt b es) δ μ) M X = W (ev Ω (.blt b es) δ μ) (kTru M X) X := by rw [tv, w_bind, ev]; rfl
theorem t_mth {M : Bool → Mu → Prop} {m : Mth} {a : E} {es : Es} : W (tv Ω (.mth m a es) δ μ) M X = W (ev Ω (.mth m a es) δ μ) (kTru M X) X := by rw [tv, w_bind, ev]; rfl
theorem t_fld {M : Bool → Mu → Prop} {a : E} {f : Str} : W (tv Ω (.fld a f) δ μ) M X = W (ev Ω (.fld a f) δ μ) (kTru M X) X := by rw [tv, w_bind, ev]; rfl
theorem t_mc {M : Bool → Mu → Prop} {m : Str} {a : E} {es : Es} : W (tv Ω (.mc m a es) δ μ) M X = W (ev Ω (.mc m a es) δ μ) (kTru M X) X := by rw [tv, w_bind, ev]; rfl
theorem s_asg {t : Tg} {e : E} : WS (evS Ω (.asg t e) δ μ) k = W (ev Ω e δ μ) (kAsg t δ k) (kX δ k) := by rw [evS, w_of]; rfl
theorem s_asg_n {i : Nat} {d : D} : WS (asgR (.name i) d δ μ) k = k.n (δ.set i (some d)) μ := (rfl)
theorem s_setix {o i e : E} : WS (evS Ω (.setix o i e) δ μ) k = W (ev Ω e δ μ) (kSet1 Ω o i δ k) (kX δ k) := by
  rw [evS, w_of, w_bind]
  congr 1; funext d μ1
  rw [kBind_ap, w_bind, kSet1_ap]
  congr 1; funext x μ2
  rw [kBind_ap, w_bind, kSet2_ap]
  rfl
theorem s_aug {i : Nat} {o : Operator} {e : E} : WS (evS Ω (.aug i o e) δ μ) k = W (rdV δ i μ) (kAug1 Ω i o e δ k) (kX δ k) := by
  rw [evS]
  unfold rdV
  cases h : δ[i]? with
  | none => rfl
  | some o =>
    cases o with
    | none => rfl
    | some x =>
      show WS (RS.of δ _ _) k = _
      rw [w_of, w_bind]
      rfl
theorem s_expr {e : E} : WS (evS Ω (.expr e) δ μ) k = W (ev Ω e δ μ) (kExp δ k) (kX δ k) := by rw [evS, w_of]; rfl
theorem s_ret {e : E} : WS (evS Ω (.ret e) δ μ) k = W (ev Ω e δ μ) k.r (kX δ k) := by rw [evS, w_of]; rfl
theorem s_retn  : WS (evS Ω (.retn) δ μ) k = k.r .non μ := by rw [evS]; rfl
theorem s_ifs {t : E} {a b : Ss} : WS (evS Ω (.ifs t a b) δ μ) k = W (tv Ω t δ μ) (kIfs Ω a b δ k) (kX δ k) := by rw [evS, w_of]; rfl
theorem s_for {t : Tg} {it : It'} {b : Ss} : WS (evS Ω (.for_ t it b) δ μ) k = W (evi Ω it δ μ) (kFor Ω t b δ k) (kX δ k) := by rw [evS, w_of]; rfl
theorem s_while {t : E} {b : Ss} : WS (evS Ω (.while_ t b) δ μ) k = WS (whileN (tv Ω t) (evSs Ω b) Ω.fu δ μ) k := by rw [evS]
theorem s_setfld {o e : E} {f : Str} : WS (evS Ω (.setfld o f e) δ μ) k = W (ev Ω e δ μ) (kSf1 Ω o f δ k) (kX δ k) := by
  rw [evS, w_of, w_bind]
  congr 1; funext d μ1
  rw [kBind_ap, w_bind, kSf1_ap]
  rfl
theorem s_raise {p : Pg} {fu n c : Nat} {es : Es} : WS (evS (omAt p fu (n + 3)) (.raise_ c es) δ μ) k = if c < (p.X.map (fun d => d.name)).length then W (evs (omAt p fu (n + 3)) es δ μ) (kRaise (omAt p fu (n + 3)) c δ k) (kX δ k) else False := by
  rw [evS]
  by_cases h : c < (p.X.map (fun d => d.name)).length
  · rw [if_pos h, if_pos ⟨by show decide (3 ≤ n + 3) = true; exact decide_eq_true (by omega), h⟩, w_of]
    rfl
  · rw [if_neg h, if_neg fun z => h z.2]
    rfl
theorem s_try {b : Ss} {c i : Nat} {e : E} : WS (evS Ω (.tryR b c i e) δ μ) k = WS (evSs Ω b δ μ) (tryS Ω c i e k) := by
  rw [evS]
  cases evSs Ω b δ μ with
  | exc c' fs δ1 μ1 =>
    show WS (tryK Ω (ev Ω e) c i (.exc c' fs δ1 μ1)) k = tryX Ω c i e k c' fs δ1 μ1
    unfold tryK tryX
    dsimp only
    split
    · split
      · rw [w_of, w_noexc]
        rfl
      · rfl
    · rfl
  | _ => rfl
theorem w_xf {i : Nat} {f : Str} : W (ev Ω (.xf i f) δ μ) N X = W (xfD f μ δ[i]?) N X := by rw [ev]
theorem s_bad  : WS (evS Ω (.bad) δ μ) k = False := by rw [evS]; rfl
theorem s_pass  : WS (evS Ω (.pass) δ μ) k = k.n δ μ := by rw [evS]; rfl
theorem s_brk  : WS (evS Ω (.brk) δ μ) k = k.b δ μ := by rw [evS]; rfl
theorem s_cont  : WS (evS Ω (.cont) δ μ) k = k.c δ μ := by rw [evS]; rfl
theorem s_nil : WS (evSs Ω .nil δ μ) k = k.n δ μ := by rw [evSs]; rfl
theorem s_cons {s : S} {r : Ss} : WS (evSs Ω (.cons s r) δ μ) k = WS (evS Ω s δ μ) (seqK Ω r k) := by rw [evSs, ws_seq]
theorem w_runB {n : Nat} {b : Ss} {ds : List D} : W (runB Ω n b ds μ) N X = WS (evSs Ω b (ds.map some ++ List.replicate (n - ds.length) none) μ) (runK N X) := by
  unfold runB
  cases evSs Ω b (ds.map some ++ List.replicate (n - ds.length) none) μ <;> rfl
theorem w_in2 {own2 : List Nat} {t2 : Tg} {it2 : It'} {e : E} {ℓ : Nat} {N : Unit → Mu → Prop} : W (in2 Ω own2 t2 it2 e ℓ δ μ) N X = W (evi Ω it2 δ μ) (kIn2 Ω own2 t2 e ℓ δ N X) (fun _ _ _ => False) := by
  unfold in2
  rw [w_bind, w_noexc]
  rfl
theorem mcW_s {es : Es} {x : D} {c j : Nat} : mcW Ω es δ x N X (some (c, j)) μ = W (evs Ω es δ μ) (kMc2 Ω j x N X) X := (rfl)
theorem mkW_s {ds : List D} {c j : Nat} : mkW Ω c ds N X (some j) μ = W (Ω.Ψ j (.loc μ.length :: ds) (μ ++ [.ins c []])) (kMk2 μ.length N) X := (rfl)
theorem kMk2_n {ℓ : Nat} : kMk2 ℓ N .non μ = N (.loc ℓ) μ := (rfl)
theorem W.imp {α : Type} {r : Res α} {N N' : α → Mu → Prop} {X X' : XQ} (h : W r N X) (hn : ∀ a μ, N a μ → N' a μ) (hx : ∀ c fs μ, X c fs μ → X' c fs μ) : W r N' X' := by
  cases r with
  | ok a μ => exact hn a μ h
  | exc c fs μ => exact hx c fs μ h
  | stuck => exact h
theorem W.okof {α : Type} {r : Res α} {a : α} {μ : Mu} (h : W r (fun a' μ' => a' = a ∧ μ' = μ) (fun _ _ _ => False)) : r = .ok a μ := by
  cases r with
  | ok a' μ' => obtain ⟨rfl, rfl⟩ := (show a' = a ∧ μ' = μ from h); rfl
  | exc c fs μ => exact (show False from h).elim
  | stuck => exact (show False from h).elim
theorem W.get {r : Res D} {d : D} (h : W r (fun a _ => a = d) (fun _ _ _ => False)) : ∃ μ, r = .ok d μ := by
  cases r with
  | ok a μ => exact ⟨μ, by rw [show a = d from h]⟩
  | exc c fs μ => exact (show False from h).elim
  | stuck => exact (show False from h).elim
end
end Tk

namespace Tk
open PySem PySem.Spec PyProof.Rows L2

/-! ### operations, read -/

section
variable {μ : Mu} {i j : Int} {x y : Str} {d e : D} {ds : List D} {n : Nat} {X : XQ}
theorem ite_F {c : Prop} [Decidable c] {A : Prop} : (if c then A else False) = (c ∧ A) := by by_cases h : c <;> simp [h]
def resO (o : Option D) (μ : Mu) : Res D := match o with
  | some d => .ok d μ
  | none => .stuck
def resX (o : Option D) (μ : Mu) : Res D := match o with
  | some d => .ok d μ
  | none => .stuck
theorem resX_s {d : D} {μ : Mu} : resX (some d) μ = .ok d μ := rfl
def xfO (o : Option MO) (f : Str) (μ : Mu) : Res D := match o with
  | some (.xd fs) => resX (fs.lookup f) μ
  | _ => .stuck
theorem xf_u {f : Str} {n : Nat} {μ : Mu} : xfD f μ (some (some (.loc n))) = xfO μ[n]? f μ := by
  show (match μ[n]? with
    | some (.xd fs) => (match fs.lookup f with
      | some d => Res.ok d μ
      | none => Res.stuck)
    | _ => Res.stuck) = _
  unfold xfO
  cases μ[n]? with
  | none => rfl
  | some o =>
    cases o with
    | xd fs =>
      dsimp only
      unfold resX
      rfl
    | _ => rfl
theorem xfO_x {fs : List (Str × D)} {f : Str} {μ : Mu} : xfO (some (.xd fs)) f μ = resX (fs.lookup f) μ := rfl
theorem sizeLine_eq : sizeLine = 16777216 := rfl
theorem resO_s : resO (some d) μ = .ok d μ := rfl
theorem ix_str1 {z : Str} {i : Int} : ixD (.str z) (.int i) μ = ixT z i μ := rfl
theorem ix_tup : ixD (.tup ds) (.int i) μ = resO (atI ds i) μ := rfl
theorem dic_none (h : lstAt μ n = some ds) : dicAt μ (.loc n) = none := by
  unfold dicAt
  unfold lstAt at h
  dsimp only
  split
  · rename_i q; rw [q] at h; cases h
  · rfl
theorem ix_loc (h : lstAt μ n = some ds) : ixD (.loc n) (.int i) μ = resO (atI ds i) μ := by
  unfold ixD
  rw [dic_none h]
  unfold ixQ
  dsimp only
  rw [show seqD μ (.loc n) = lstAt μ n from rfl, h]
  rfl
theorem atI_nn {α : Type} {xs : List α} (h : 0 ≤ i) : atI xs i = xs[i.toNat]? := by
  unfold atI ixN
  rw [if_pos h]
  split
  · rfl
  · rename_i q
    rw [List.getElem?_eq_none (by omega)]
    rfl
theorem atI_n {α : Type} {xs : List α} {k : Nat} : atI xs (k : Int) = xs[k]? := by rw [atI_nn (by omega)]; rfl
theorem atI_l {α : Type} {xs : List α} {k : Nat} : atI xs (no_index (@OfNat.ofNat Int k _)) = xs[(@OfNat.ofNat Nat k _)]? := atI_n (k := k)
theorem atI_0 {α : Type} {xs : List α} : atI xs 0 = xs[0]? := atI_n (k := 0)
theorem atI_1 {α : Type} {xs : List α} : atI xs 1 = xs[1]? := atI_n (k := 1)
theorem b_add : binD .Add (.int i) (.int j) μ = .ok (.int (i + j)) μ := rfl
theorem b_sub : binD .Sub (.int i) (.int j) μ = .ok (.int (i - j)) μ := rfl
theorem b_mul : binD .Mult (.int i) (.int j) μ = if cmulB i j = true then .ok (.int (i * j)) μ else .stuck := rfl
theorem b_div : binD .FloorDiv (.int i) (.int j) μ = if 0 < j ∧ j < 1073741824 then .ok (.int (i / j)) μ else .stuck := rfl
theorem b_mod : binD .Mod (.int i) (.int j) μ = if 0 < j then .ok (.int (i % j)) μ else .stuck := rfl
theorem b_pow : binD .Pow (.int i) (.int j) μ = if 0 ≤ j ∧ j ≤ 1000000 ∧ i.natAbs < 2 ^ 64 then .ok (.int (i ^ j.toNat)) μ else .stuck := rfl
theorem b_tup {ds es : List D} : binD .Add (.tup ds) (.tup es) μ = if ds.length + es.length ≤ 16777216 then .ok (.tup (ds ++ es)) μ else .stuck := rfl
theorem b_str : binD .Add (.str x) (.str y) μ = if x.length + y.length ≤ 16777216 then .ok (.str (x ++ y)) μ else .stuck := rfl
theorem a_add : augD .Add (.int i) (.int j) μ = .ok (.int (i + j)) μ := rfl
theorem a_sub : augD .Sub (.int i) (.int j) μ = .ok (.int (i - j)) μ := rfl
theorem n_int : negD (.int i) μ = .ok (.int (-i)) μ := rfl
def optB (o : Option Bool) (μ : Mu) : Res D := match o with
  | some b => .ok (.bl b) μ
  | none => .stuck
theorem optB_s {b} : optB (some b) μ = .ok (.bl b) μ := rfl
theorem c_eq : cmpD .Eq d e μ = optB (eqD μ d e) μ := by unfold cmpD optB; rfl
theorem c_ne : cmpD .NotEq d e μ = optB ((eqD μ d e).map not) μ := by
  rw [show cmpD .NotEq d e μ = (match eqD μ d e with
    | some b => Res.ok (D.bl (!b)) μ
    | none => .stuck) from rfl]
  cases eqD μ d e <;> rfl
theorem c_lt : cmpD .Lt (.int i) (.int j) μ = .ok (.bl (decide (i < j))) μ := rfl
theorem c_le : cmpD .LtE (.int i) (.int j) μ = .ok (.bl (decide (i ≤ j))) μ := rfl
theorem c_gt : cmpD .Gt (.int i) (.int j) μ = .ok (.bl (decide (j < i))) μ := rfl
theorem c_ge : cmpD .GtE (.int i) (.int j) μ = .ok (.bl (decide (j ≤ i))) μ := rfl
theorem c_in : cmpD .In d (.tup ds) μ = optB (inD μ d (.tup ds)) μ := rfl
theorem c_ni : cmpD .NotIn d (.tup ds) μ = optB ((inD μ d (.tup ds)).map not) μ := by
  show (match inD μ d (.tup ds) with
    | some b => Res.ok (D.bl (!b)) μ
    | none => .stuck) = _
  cases inD μ d (.tup ds) <;> rfl
def inO (o : Option MO) (x : D) : Option Bool := match o with
  | some (.lst xs) => if flatD x = true ∧ xs.all flatD = true then some (inF x xs) else none
  | some (.fl xs) => if flatD x = true ∧ xs.all flatD = true then some (inF x xs) else none
  | some (.dic kvs) => (match keyD x with
    | some _ => some (kvs.any fun kv => eqF kv.1 x)
    | none => none)
  | _ => none
theorem c_inl : cmpD .In d (.loc n) μ = optB (inO μ[n]? d) μ := by
  unfold cmpD dicAt inO optB
  dsimp only
  cases h : μ[n]? with
  | none => unfold cmpQ inD seqD lstAt; dsimp only; rw [h]; rfl
  | some o =>
    cases o with
    | lst xs => unfold cmpQ inD seqD lstAt; dsimp only; rw [h]; dsimp only [Option.bind]; try (cases (if flatD d = true ∧ xs.all flatD = true then some (inF d xs) else none) <;> rfl)
    | fl xs => unfold cmpQ inD seqD lstAt; dsimp only; rw [h]; dsimp only [Option.bind]; try (cases (if flatD d = true ∧ xs.all flatD = true then some (inF d xs) else none) <;> rfl)
    | dic kvs => dsimp only; cases keyD d <;> rfl
    | dit kvs => unfold cmpQ inD seqD lstAt; dsimp only; rw [h]; rfl
    | ins c fs => unfold cmpQ inD seqD lstAt; dsimp only; rw [h]; rfl
    | xd fs => unfold cmpQ inD seqD lstAt; dsimp only; rw [h]; rfl
theorem c_nil : cmpD .NotIn d (.loc n) μ = optB ((inO μ[n]? d).map not) μ := by
  have hq : inO μ[n]? d = match dicAt μ (.loc n) with
      | some kvs => (match keyD d with
        | some _ => some (kvs.any fun kv => eqF kv.1 d)
        | none => none)
      | none => inD μ d (.loc n) := by
    unfold inO dicAt inD seqD lstAt
    dsimp only
    cases μ[n]? with
    | none => rfl
    | some o => cases o <;> rfl
  rw [hq]
  unfold cmpD
  dsimp only
  cases dicAt μ (.loc n) with
  | some kvs => dsimp only; cases keyD d <;> rfl
  | none =>
    dsimp only
    show (match inD μ d (.loc n) with
      | some b => Res.ok (D.bl (!b)) μ
      | none => .stuck) = _
    cases inD μ d (.loc n) <;> rfl
theorem inO_l : inO (some (.lst ds)) d = if flatD d = true ∧ ds.all flatD = true then some (inF d ds) else none := rfl
theorem inO_ds {kvs} : inO (some (.dic kvs)) (.str x) = some (kvs.any fun kv => eqF kv.1 (.str x)) := rfl
theorem inO_di {kvs} : inO (some (.dic kvs)) (.int i) = some (kvs.any fun kv => eqF kv.1 (.int i)) := rfl
theorem inD_tup : inD μ d (.tup ds) = if flatD d = true ∧ ds.all flatD = true then some (inF d ds) else none := rfl
theorem inD_loc (h : lstAt μ n = some ds) : inD μ d (.loc n) = if flatD d = true ∧ ds.all flatD = true then some (inF d ds) else none := by
  show (lstAt μ n).bind _ = _
  rw [h]
  rfl
theorem eqD_ii : eqD μ (.int i) (.int j) = some (i == j) := rfl
theorem eqD_ss : eqD μ (.str x) (.str y) = some (x == y) := rfl
theorem eqD_nn : eqD μ .non .non = some true := rfl
theorem eqD_bb {a b : Bool} : eqD μ (.bl a) (.bl b) = some (a == b) := rfl
theorem eqD_iv {a b c d : Int} : eqD μ (.tup [.int a, .int b]) (.tup [.int c, .int d]) = some (a == c && b == d) := by
  simp [eqD, pyD, allS, PyData.eqv, PyData.eqvAll]
theorem eqD_tn : eqD μ (.tup ds) .non = (pyD μ 40 (.tup ds)).map fun _ => false := by
  unfold eqD
  cases h : pyD μ 40 (.tup ds) with
  | none => rfl
  | some p =>
    unfold pyD at h
    obtain ⟨ps, _, rfl⟩ := Option.map_eq_some_iff.mp h
    rfl
theorem eqF_ii : eqF (.int i) (.int j) = (i == j) := rfl
theorem eqF_ss : eqF (.str x) (.str y) = (x == y) := rfl
theorem bltD_q {bb : Blt} (h1 : bb ≠ .len) (h2 : bb ≠ .str) : bltD bb ds μ = bltQ bb ds μ := by
  cases bb <;> first | rfl | exact absurd rfl h1 | exact absurd rfl h2
theorem bl_len_tup : bltD .len [.tup ds] μ = .ok (.int ds.length) μ := rfl
theorem bl_len_loc (h : lstAt μ n = some ds) : bltD .len [.loc n] μ = .ok (.int ds.length) μ := by
  unfold bltD
  dsimp only
  rw [dic_none h]
  dsimp only
  unfold bltQ
  dsimp only
  rw [show seqD μ (.loc n) = lstAt μ n from rfl, h]
theorem bl_int : bltD .int [.int i] μ = .ok (.int i) μ := rfl
theorem bl_bool {b} : bltD .int [.bl b] μ = .ok (.int (if b = true then 1 else 0)) μ := rfl
theorem bl_max : bltD .max [.int i, .int j] μ = .ok (.int (max i j)) μ := by
  show Res.ok (D.int (if j > i then j else i)) μ = _
  congr 2
  omega
theorem bl_min : bltD .min [.int i, .int j] μ = .ok (.int (min i j)) μ := by
  show Res.ok (D.int (if j < i then j else i)) μ = _
  congr 2
  omega
def optN (o : Option Int) (μ : Mu) : Res D := match o with
  | some b => .ok (.int b) μ
  | none => .stuck
theorem optN_s {b} : optN (some b) μ = .ok (.int b) μ := rfl
theorem bl_maxl (h : lstAt μ n = some ds) : bltD .max [.loc n] μ = optN ((intsD ds).bind maxI) μ := by
  rw [bltD_q (by decide) (by decide)]
  unfold bltQ
  dsimp only
  rw [h]
  cases h1 : intsD ds with
  | none => simp [Option.bind, optN, h1]
  | some ns => simp only [Option.bind, h1]; rfl
theorem bl_minl (h : lstAt μ n = some ds) : bltD .min [.loc n] μ = optN ((intsD ds).bind minI) μ := by
  rw [bltD_q (by decide) (by decide)]
  unfold bltQ
  dsimp only
  rw [h]
  cases h1 : intsD ds with
  | none => simp [Option.bind, optN, h1]
  | some ns => simp only [Option.bind, h1]; rfl
theorem bl_list_tup : bltD .list [.tup ds] μ = newl μ ds := rfl
theorem bl_list_loc (h : lstAt μ n = some ds) : bltD .list [.loc n] μ = newl μ ds := by
  rw [bltD_q (by decide) (by decide)]
  unfold bltQ
  dsimp only
  rw [show seqD μ (.loc n) = lstAt μ n from rfl, h]
theorem bl_tup_loc (h : lstAt μ n = some ds) : bltD .tuple [.loc n] μ = .ok (.tup ds) μ := by
  rw [bltD_q (by decide) (by decide)]
  unfold bltQ
  dsimp only
  rw [show seqD μ (.loc n) = lstAt μ n from rfl, h]
theorem bl_isi : bltD .isi [.tup ds, .ty "tuple"] μ = .ok (.bl true) μ := by
  have : kitB "tuple" "tuple" = some true := by decide +kernel
  show (match kitB "tuple" "tuple" with
    | some b => Res.ok (D.bl b) μ
    | none => .stuck) = _
  rw [this]
theorem newl_eq : newl μ ds = .ok (.loc μ.length) (μ ++ [.lst ds]) := rfl
theorem tru_b {b} : truD (.bl b) μ = .ok b μ := rfl
theorem tru_n : truD .non μ = .ok false μ := rfl
theorem tru_i : truD (.int i) μ = .ok (i != 0) μ := rfl
theorem boD_b {c} : boD (.bl c) μ = .ok c μ := rfl
theorem not_b {b} : notD (.bl b) μ = .ok (.bl (!b)) μ := rfl
theorem mk_app (h : μ[n]? = some (.lst ds)) : mkD .append (.loc n) μ = true := by
  show isLst (.loc n) μ = true
  unfold isLst
  dsimp only
  rw [h]
theorem m_app (h : μ[n]? = some (.lst ds)) : mthD .append (.loc n) [d] μ = if ds.length < sizeLine then .ok .non (μ.set n (.lst (ds ++ [d]))) else .stuck := by
  show appendD (.loc n) [d] μ = _
  unfold appendD
  dsimp only
  rw [h]
def setR (o : Option Nat) (n : Nat) (ds : List D) (d : D) (μ : Mu) : Res Unit := match o with
  | some k => .ok () (μ.set n (.lst (ds.set k d)))
  | none => .stuck
theorem setR_s {k : Nat} : setR (some k) n ds d μ = .ok () (μ.set n (.lst (ds.set k d))) := rfl
theorem ixN_nn {m : Nat} (h0 : 0 ≤ i) (h1 : i < m) : ixN m i = some i.toNat := by unfold ixN; rw [if_pos h0, if_pos h1]
theorem ixN_n {m k : Nat} : ixN m (k : Int) = if k < m then some k else none := by
  unfold ixN
  rw [if_pos (by omega)]
  by_cases h : k < m
  · rw [if_pos h, if_pos (by omega)]; rfl
  · rw [if_neg h, if_neg (by omega)]
theorem ixN_l {m k : Nat} : ixN m (no_index (@OfNat.ofNat Int k _)) = if (@OfNat.ofNat Nat k _) < m then some (@OfNat.ofNat Nat k _) else none := ixN_n
theorem ixN_0 {m : Nat} : ixN m 0 = if 0 < m then some 0 else none := ixN_n (k := 0)
theorem ixN_1 {m : Nat} : ixN m 1 = if 1 < m then some 1 else none := ixN_n (k := 1)
theorem set_l (h : μ[n]? = some (.lst ds)) : setixD (.loc n) (.int i) d μ = setR (ixN ds.length i) n ds d μ := by
  unfold setixD
  dsimp only
  rw [h]
  rfl
theorem lst_l (h : μ[n]? = some (.lst ds)) : lstAt μ n = some ds := by unfold lstAt; rw [h]
theorem lst_f (h : μ[n]? = some (.fl ds)) : lstAt μ n = some ds := by unfold lstAt; rw [h]
theorem valS_t : valS (.tup ds) μ = .ok (.items ds) μ := rfl
theorem valS_l (h : lstAt μ n = some ds) : valS (.loc n) μ = .ok (.live n) μ := by
  unfold valS
  dsimp only
  rw [h]
theorem optI_i : optI (.int i) μ = .ok (some i) μ := rfl
theorem cmul_l (h : -(2 ^ 64) < i ∧ i < 2 ^ 64) : cmulB i j = true := by
  unfold cmulB
  simp only [h.1, h.2, decide_true, Bool.and_self, Bool.true_or]
theorem cmul_r (h : -(2 ^ 64) < j ∧ j < 2 ^ 64) : cmulB i j = true := by
  unfold cmulB
  simp only [h.1, h.2, decide_true, Bool.and_self, Bool.or_true]
theorem cmulB_rl (h : (decide (-(2 ^ 64) < j) && decide (j < 2 ^ 64)) = true) : cmulB i j = true := by
  unfold cmulB
  rw [h, Bool.or_true]
theorem cmulB_ll (h : (decide (-(2 ^ 64) < i) && decide (i < 2 ^ 64)) = true) : cmulB i j = true := by
  unfold cmulB
  rw [h, Bool.true_or]
theorem natAbs_l {k : Nat} : Int.natAbs (no_index (@OfNat.ofNat Int k _)) = (@OfNat.ofNat Nat k _) := rfl
/-! the same, nothing asked -/
def lstO (o : Option MO) : Option (List D) := match o with
  | some (.lst xs) => some xs
  | some (.fl xs) => some xs
  | _ => none
theorem lstO_l : lstO (some (.lst ds)) = some ds := rfl
theorem lstO_f : lstO (some (.fl ds)) = some ds := rfl
theorem lst_u : lstAt μ n = lstO μ[n]? := by unfold lstAt lstO; rfl
def ixO (o : Option MO) (i : D) (μ : Mu) : Res D := match o with
  | some (.lst xs) => (match i with
    | .int k => resO (atI xs k) μ
    | _ => .stuck)
  | some (.fl xs) => (match i with
    | .int k => resO (atI xs k) μ
    | _ => .stuck)
  | some (.dic kvs) => (match keyD i with
    | some _ => resO (valD kvs i) μ
    | none => .stuck)
  | _ => .stuck
theorem ix_u : ixD (.loc n) d μ = ixO μ[n]? d μ := by
  unfold ixD dicAt ixQ seqD lstAt ixO
  dsimp only
  cases μ[n]? with
  | none => cases d <;> rfl
  | some o => cases o <;> cases d <;> rfl
theorem ixO_l : ixO (some (.lst ds)) (.int i) μ = resO (atI ds i) μ := rfl
theorem ixO_f : ixO (some (.fl ds)) (.int i) μ = resO (atI ds i) μ := rfl
theorem ixO_ds {kvs} : ixO (some (.dic kvs)) (.str x) μ = resO (valD kvs (.str x)) μ := rfl
theorem ixO_di {kvs} : ixO (some (.dic kvs)) (.int i) μ = resO (valD kvs (.int i)) μ := rfl
def optK (o : Option (List D)) (f : List D → Res D) : Res D := match o with
  | some ds => f ds
  | none => .stuck
theorem optK_s {f : List D → Res D} : optK (some ds) f = f ds := rfl
def lenO (o : Option MO) (μ : Mu) : Res D := match o with
  | some (.lst xs) => .ok (.int xs.length) μ
  | some (.fl xs) => .ok (.int xs.length) μ
  | some (.dic kvs) => .ok (.int kvs.length) μ
  | _ => .stuck
theorem lenO_l : lenO (some (.lst ds)) μ = .ok (.int ds.length) μ := rfl
theorem lenO_f : lenO (some (.fl ds)) μ = .ok (.int ds.length) μ := rfl
theorem lenO_d {kvs} : lenO (some (.dic kvs)) μ = .ok (.int kvs.length) μ := rfl
theorem len_u : bltD .len [.loc n] μ = lenO μ[n]? μ := by
  unfold bltD dicAt bltQ seqD lstAt lenO
  dsimp only
  cases μ[n]? with
  | none => rfl
  | some o => cases o <;> rfl
theorem str_i : bltD .str [.int i] μ = if i.natAbs.log2 < 1920 then .ok (.str (Str.ofString (toString i))) μ else .stuck := rfl
def extO (o o' : Option MO) (n : Nat) (μ : Mu) : Res D := match o, o' with
  | some (.lst xs), some (.lst ys) => if xs.length + ys.length ≤ sizeLine then .ok .non (μ.set n (.lst (xs ++ ys))) else .stuck
  | _, _ => .stuck
theorem extO_l {es : List D} : extO (some (.lst ds)) (some (.lst es)) n μ = if ds.length + es.length ≤ 16777216 then .ok .non (μ.set n (.lst (ds ++ es))) else .stuck := rfl
theorem ext_u {m : Nat} : mthD .extend (.loc n) [.loc m] μ = extO μ[n]? μ[m]? n μ := by
  show extendD (.loc n) [.loc m] μ = _
  unfold extendD extO
  rfl
theorem max_u : bltD .max [.loc n] μ = optN ((lstAt μ n).bind fun ds => (intsD ds).bind maxI) μ := by
  cases h : lstAt μ n with
  | none =>
    rw [bltD_q (by decide) (by decide)]
    unfold bltQ
    dsimp only
    rw [h]
    rfl
  | some ds => exact bl_maxl h
theorem min_u : bltD .min [.loc n] μ = optN ((lstAt μ n).bind fun ds => (intsD ds).bind minI) μ := by
  cases h : lstAt μ n with
  | none =>
    rw [bltD_q (by decide) (by decide)]
    unfold bltQ
    dsimp only
    rw [h]
    rfl
  | some ds => exact bl_minl h
theorem list_u : bltD .list [.loc n] μ = optK (lstAt μ n) fun ds => newl μ ds := by
  cases h : lstAt μ n with
  | none =>
    rw [bltD_q (by decide) (by decide)]
    unfold bltQ
    dsimp only
    rw [show seqD μ (.loc n) = lstAt μ n from rfl, h]
    rfl
  | some ds => exact bl_list_loc h
theorem tuple_u : bltD .tuple [.loc n] μ = optK (lstAt μ n) fun ds => .ok (.tup ds) μ := by
  cases h : lstAt μ n with
  | none =>
    rw [bltD_q (by decide) (by decide)]
    unfold bltQ
    dsimp only
    rw [show seqD μ (.loc n) = lstAt μ n from rfl, h]
    rfl
  | some ds => exact bl_tup_loc h
def optJ (o : Option (List Int)) (f : List Int → Res D) : Res D := match o with
  | some ds => f ds
  | none => .stuck
theorem optJ_s {f : List Int → Res D} {ns : List Int} : optJ (some ns) f = f ns := rfl
theorem sorted_u : bltD .sorted [.loc n] μ = optJ ((lstAt μ n).bind intsD) fun ns => newl μ ((sortI ns).map .int) := by
  rw [bltD_q (by decide) (by decide)]
  unfold bltQ
  dsimp only
  cases (lstAt μ n).bind intsD <;> rfl
theorem in_u : inD μ d (.loc n) = (lstAt μ n).bind fun ds => if flatD d = true ∧ ds.all flatD = true then some (inF d ds) else none := rfl
def valO (o : Option (List D)) (n : Nat) (μ : Mu) : Res Src := match o with
  | some _ => .ok (.live n) μ
  | none => .stuck
theorem valO_s : valO (some ds) n μ = .ok (.live n) μ := rfl
theorem valS_u : valS (.loc n) μ = valO (lstAt μ n) n μ := by unfold valS valO; rfl
def isLO (o : Option MO) : Bool := match o with
  | some (.lst _) => true
  | _ => false
theorem isLO_l : isLO (some (.lst ds)) = true := rfl
theorem mk_u : mkD .append (.loc n) μ = isLO μ[n]? := by
  show isLst (.loc n) μ = _
  unfold isLst isLO
  rfl
theorem mk_e : mkD .extend (.loc n) μ = isLO μ[n]? := by
  show isLst (.loc n) μ = _
  unfold isLst isLO
  rfl
theorem mk_i : mkD .index (.loc n) μ = isLO μ[n]? := by
  show isLst (.loc n) μ = _
  unfold isLst isLO
  rfl
theorem mk_p : mkD .pop (.loc n) μ = isLO μ[n]? := by
  show isLst (.loc n) μ = _
  unfold isLst isLO
  rfl
def fixO (o : Option Nat) (μ : Mu) : Res D := match o with
  | some j => .ok (.int j) μ
  | none => .stuck
theorem fixO_s {j : Nat} : fixO (some j) μ = .ok (.int j) μ := rfl
def idxO (o : Option MO) (y : D) (μ : Mu) : Res D := match o with
  | some (.lst xs) => if flatD y = true ∧ xs.all flatD = true then fixO (xs.findIdx? (fun z => eqF z y)) μ else .stuck
  | some (.fl xs) => if flatD y = true ∧ xs.all flatD = true then fixO (xs.findIdx? (fun z => eqF z y)) μ else .stuck
  | _ => .stuck
theorem idxO_l : idxO (some (.lst ds)) d μ = if flatD d = true ∧ ds.all flatD = true then fixO (ds.findIdx? (fun z => eqF z d)) μ else .stuck := rfl
theorem idx_u : mthD .index (.loc n) [d] μ = idxO μ[n]? d μ := by
  show indexD (.loc n) [d] μ = _
  unfold indexD lstAt idxO
  dsimp only
  cases μ[n]? with
  | none => rfl
  | some o => cases o <;> rfl
def popO (o : Option MO) (i : Int) (n : Nat) (μ : Mu) : Res D := match o with
  | some (.lst xs) => if -(2 ^ 63) ≤ i ∧ i < 2 ^ 63 then (match ixN xs.length i with
    | some k => (match xs[k]? with
      | some d => .ok d (μ.set n (.lst (xs.eraseIdx k)))
      | none => .stuck)
    | none => .stuck) else .stuck
  | _ => .stuck
theorem popO_l : popO (some (.lst ds)) i n μ = if -(2 ^ 63) ≤ i ∧ i < 2 ^ 63 then (match ixN ds.length i with
    | some k => (match ds[k]? with
      | some d => .ok d (μ.set n (.lst (ds.eraseIdx k)))
      | none => .stuck)
    | none => .stuck) else .stuck := rfl
theorem pop_u : mthD .pop (.loc n) [.int i] μ = popO μ[n]? i n μ := by
  show popD (.loc n) [.int i] μ = _
  unfold popD popO
  rfl
def appR (o : Option MO) (n : Nat) (d : D) (μ : Mu) : Res D := match o with
  | some (.lst xs) => if xs.length < sizeLine then .ok .non (μ.set n (.lst (xs ++ [d]))) else .stuck
  | _ => .stuck
theorem appR_l : appR (some (.lst ds)) n d μ = if ds.length < 16777216 then .ok .non (μ.set n (.lst (ds ++ [d]))) else .stuck := rfl
theorem m_u : mthD .append (.loc n) [d] μ = appR μ[n]? n d μ := by
  show appendD (.loc n) [d] μ = _
  unfold appendD appR
  rfl
def setO (o : Option MO) (n : Nat) (k d : D) (μ : Mu) : Res Unit := match o with
  | some (.lst xs) => (match k with
    | .int i => setR (ixN xs.length i) n xs d μ
    | _ => .stuck)
  | some (.dic kvs) => (match keyD k with
    | some _ => if kvs.length < sizeLine then .ok () (μ.set n (.dic (putD kvs k d))) else .stuck
    | none => .stuck)
  | _ => .stuck
theorem setO_l : setO (some (.lst ds)) n (.int i) d μ = setR (ixN ds.length i) n ds d μ := rfl
theorem set_u : setixD (.loc n) e d μ = setO μ[n]? n e d μ := by
  unfold setixD setO setR
  rfl
/-! instances -/
def okF (C : List Cd) (c : Nat) (f : Str) : Bool := match C[c]? with
  | some k => k.fs.contains f
  | none => false
def mIx (C : List Cd) (c : Nat) (m : Str) : Option Nat := match C[c]? with
  | some k => k.ms.lookup m
  | none => none
def fldO (o : Option MO) (C : List Cd) (f : Str) (μ : Mu) : Res D := match o with
  | some (.ins c fs) => if okF C c f = true then resO (fs.lookup f) μ else .stuck
  | _ => .stuck
theorem fld_u {C : List Cd} {f : Str} : fldD C f (.loc n) μ = fldO μ[n]? C f μ := by
  unfold fldD insAt fldO okF
  dsimp only
  cases μ[n]? with
  | none => rfl
  | some o =>
    cases o with
    | ins c fs =>
      dsimp only
      cases C[c]? with
      | none => rfl
      | some k =>
        dsimp only
        split
        · unfold resO; rfl
        · rfl
    | _ => rfl
theorem fldO_i {C : List Cd} {c : Nat} {fs : List (Str × D)} {f : Str} : fldO (some (.ins c fs)) C f μ = if okF C c f = true then resO (fs.lookup f) μ else .stuck := rfl
def methO (o : Option MO) (C : List Cd) (m : Str) : Option (Nat × Nat) := match o with
  | some (.ins c fs) => if (fs.lookup m).isNone = true then (mIx C c m).map fun j => (c, j) else none
  | _ => none
theorem meth_u {C : List Cd} {m : Str} : methI C m (.loc n) μ = methO μ[n]? C m := by
  unfold methI insAt methO mIx
  dsimp only
  cases μ[n]? with
  | none => rfl
  | some o =>
    cases o with
    | ins c fs =>
      dsimp only
      cases C[c]? with
      | none => dsimp only; split <;> rfl
      | some k => rfl
    | _ => rfl
theorem methO_i {C : List Cd} {c : Nat} {fs : List (Str × D)} {m : Str} : methO (some (.ins c fs)) C m = if (fs.lookup m).isNone = true then (mIx C c m).map fun j => (c, j) else none := rfl
theorem init_u {C : List Cd} {c : Nat} : initI C c = mIx C c "__init__" := by
  unfold initI mIx
  cases C[c]? <;> rfl
def setfO (o : Option MO) (C : List Cd) (f : Str) (n : Nat) (d : D) (μ : Mu) : Res Unit := match o with
  | some (.ins c fs) => if okF C c f = true ∧ fs.length < 1000 then .ok () (μ.set n (.ins c (putFD f d fs))) else .stuck
  | _ => .stuck
theorem setf_u {C : List Cd} {f : Str} : setfD C f (.loc n) d μ = setfO μ[n]? C f n d μ := by
  unfold setfD setfO okF
  dsimp only
  cases μ[n]? with
  | none => rfl
  | some o =>
    cases o with
    | ins c fs =>
      dsimp only
      cases C[c]? with
      | none => simp
      | some k => rfl
    | _ => rfl
theorem setfO_i {C : List Cd} {c : Nat} {fs : List (Str × D)} {f : Str} : setfO (some (.ins c fs)) C f n d μ = if okF C c f = true ∧ fs.length < 1000 then .ok () (μ.set n (.ins c (putFD f d fs))) else .stuck := rfl
theorem putFD_n {f : Str} : putFD f d [] = [(f, d)] := rfl
theorem putFD_c {f g : Str} {r : List (Str × D)} : putFD f d ((g, e) :: r) = if g = f then (g, d) :: r else (g, e) :: putFD f d r := rfl
theorem lookup_c {f g : Str} {r : List (Str × D)} : ((g, d) :: r : List (Str × D)).lookup f = if f = g then some d else r.lookup f := by
  rw [List.lookup_cons]
  by_cases h : f = g
  · rw [if_pos h, beq_iff_eq.mpr h]
  · rw [if_neg h, beq_eq_false_iff_ne.mpr h]
theorem lookup_n {f : Str} : ([] : List (Str × D)).lookup f = none := rfl
theorem enm_t : enmS (.tup ds) μ = .ok (.ent ds) μ := rfl
theorem dispO {kvs : List (D × D)} (hk : (kvs.all fun kv => (keyD kv.1).isSome) = true) (hl : kvs.length ≤ 15) (h : μ[n]? = some (.dic [])) : dispD kvs n μ = .ok (.loc n) (μ.set n (.dic (mergeD [] kvs))) := by
  unfold dispD
  rw [h]
  dsimp only
  rw [if_pos ⟨hk, hl⟩]
theorem intsD_map : ∀ (ns : List Int), intsD (ns.map .int) = some ns
  | [] => rfl
  | n :: ns => by rw [List.map_cons, intsD, intsD_map ns]; rfl
def minL : Int → List Int → Int
  | x, [] => x
  | x, y :: r => min x (minL y r)
def maxL : Int → List Int → Int
  | x, [] => x
  | x, y :: r => max x (maxL y r)
theorem minI_c : ∀ (r : List Int) (x : Int), minI (x :: r) = some (minL x r)
  | [], x => rfl
  | y :: r, x => by
    rw [minI, minI_c r y]
    show some (if x < minL y r then x else minL y r) = some (min x (minL y r))
    congr 1
    omega
    all_goals (intro h; cases h)
theorem maxI_c : ∀ (r : List Int) (x : Int), maxI (x :: r) = some (maxL x r)
  | [], x => rfl
  | y :: r, x => by
    rw [maxI, maxI_c r y]
    show some (if x > maxL y r then x else maxL y r) = some (max x (maxL y r))
    congr 1
    omega
    all_goals (intro h; cases h)
theorem minL_le : ∀ (r : List Int) (x : Int), ∀ y ∈ x :: r, minL x r ≤ y
  | [], x, y, h => by cases h with | head => exact Int.le_refl _ | tail _ h => cases h
  | z :: r, x, y, h => by
    have ih := minL_le r z
    rw [minL]
    cases h with
    | head => omega
    | tail _ h => have := ih y h; omega
theorem minL_mem : ∀ (r : List Int) (x : Int), minL x r ∈ x :: r
  | [], x => List.mem_cons_self
  | z :: r, x => by
    rw [minL]
    have ih := minL_mem r z
    by_cases h : x ≤ minL z r
    · rw [Int.min_eq_left h]; exact List.mem_cons_self
    · rw [Int.min_eq_right (by omega)]; exact List.mem_cons_of_mem _ ih
theorem maxL_le : ∀ (r : List Int) (x : Int), ∀ y ∈ x :: r, y ≤ maxL x r
  | [], x, y, h => by cases h with | head => exact Int.le_refl _ | tail _ h => cases h
  | z :: r, x, y, h => by
    have ih := maxL_le r z
    rw [maxL]
    cases h with
    | head => omega
    | tail _ h => have := ih y h; omega
theorem maxL_mem : ∀ (r : List Int) (x : Int), maxL x r ∈ x :: r
  | [], x => List.mem_cons_self
  | z :: r, x => by
    rw [maxL]
    have ih := maxL_mem r z
    by_cases h : maxL z r ≤ x
    · rw [Int.max_eq_left h]; exact List.mem_cons_self
    · rw [Int.max_eq_right (by omega)]; exact List.mem_cons_of_mem _ ih
def isDO (o : Option MO) : Bool := match o with
  | some (.dic _) => true
  | _ => false
theorem isDO_d {kvs} : isDO (some (.dic kvs)) = true := rfl
theorem mk_g : mkD .get (.loc n) μ = isDO μ[n]? := by
  show isDic (.loc n) μ = _
  unfold isDic isDO
  rfl
def getO (o : Option MO) (k d : D) (μ : Mu) : Res D := match o with
  | some (.dic kvs) => (match keyD k with
    | some _ => .ok ((valD kvs k).getD d) μ
    | none => .stuck)
  | _ => .stuck
theorem getO_s {kvs} : getO (some (.dic kvs)) (.str x) d μ = .ok ((valD kvs (.str x)).getD d) μ := rfl
theorem getO_i {kvs} : getO (some (.dic kvs)) (.int i) d μ = .ok ((valD kvs (.int i)).getD d) μ := rfl
theorem g_u : mthD .get (.loc n) [e, d] μ = getO μ[n]? e d μ := by
  show Tk.getD (.loc n) [e, d] μ = _
  unfold Tk.getD getO
  rfl
def disO (o : Option MO) (kvs : List (D × D)) (n : Nat) (μ : Mu) : Res D := match o with
  | some (.dic []) => if (kvs.all fun kv => (keyD kv.1).isSome) = true ∧ kvs.length ≤ 15 then .ok (.loc n) (μ.set n (.dic (mergeD [] kvs))) else .stuck
  | _ => .stuck
theorem disO_d {kvs : List (D × D)} : disO (some (.dic [])) kvs n μ = if (kvs.all fun kv => (keyD kv.1).isSome) = true ∧ kvs.length ≤ 15 then .ok (.loc n) (μ.set n (.dic (mergeD [] kvs))) else .stuck := rfl
theorem dis_u {kvs : List (D × D)} : dispD kvs n μ = disO μ[n]? kvs n μ := by unfold dispD disO; rfl
theorem key_s : keyD (.str x) = some (.inr x) := rfl
theorem key_i : keyD (.int i) = some (.inl i) := rfl
theorem valD_c {k v : D} {kvs : List (D × D)} : valD ((k, v) :: kvs) d = if eqF k d = true then some v else valD kvs d := by
  unfold valD
  rw [List.find?_cons]
  dsimp only
  cases eqF k d <;> rfl
theorem valD_n : valD [] d = none := rfl
/-! places -/
variable {o o' : MO}
theorem at_new : (μ ++ [o])[μ.length]? = some o := by simp
theorem at_old (h : μ[n]? = some o') : (μ ++ [o])[n]? = some o' := by
  have hl : n < μ.length := by
    rcases Nat.lt_or_ge n μ.length with q | q
    · exact q
    · rw [List.getElem?_eq_none q] at h; cases h
  rw [List.getElem?_append_left hl, h]
theorem at_lt (h : μ[n]? = some o') : n < μ.length := by
  rcases Nat.lt_or_ge n μ.length with q | q
  · exact q
  · rw [List.getElem?_eq_none q] at h; cases h
theorem at_set (h : μ[n]? = some o') : (μ.set n o)[n]? = some o := by
  rw [List.getElem?_set_self (at_lt h)]
theorem at_ne {m : Nat} (hm : n ≠ m) : (μ.set n o)[m]? = μ[m]? := List.getElem?_set_ne hm
theorem at_app {l : Mu} {k : Nat} : (μ ++ l)[μ.length + k]? = l[k]? := by rw [List.getElem?_append_right (by omega)]; congr 1; omega
theorem at_app0 {l : Mu} : (μ ++ l)[μ.length]? = l[0]? := at_app (k := 0)
theorem set_app {l : Mu} {k : Nat} : (μ ++ l).set (μ.length + k) o = μ ++ l.set k o := by rw [List.set_append_right _ _ (by omega)]; congr 2; omega
theorem set_app0 {l : Mu} : (μ ++ l).set μ.length o = μ ++ l.set 0 o := set_app (k := 0)
theorem at_appl {l : Mu} (h : μ[n]? = some o') : (μ ++ l)[n]? = some o' := by rw [List.getElem?_append_left (at_lt h), h]
end
/-- places below s keep what stands there, but those in xs -/
structure Kp (xs : List Nat) (μ μ' : Mu) : Prop where
  len : μ.length ≤ μ'.length
  at_ : ∀ n, n < μ.length → n ∉ xs → μ'[n]? = μ[n]?
theorem Kp.refl {xs μ} : Kp xs μ μ := ⟨Nat.le_refl _, fun _ _ _ => rfl⟩
theorem Kp.trans {xs a b c} (h : Kp xs a b) (g : Kp xs b c) : Kp xs a c := ⟨Nat.le_trans h.len g.len, fun n hn hx => (g.at_ n (Nat.lt_of_lt_of_le hn h.len) hx).trans (h.at_ n hn hx)⟩
theorem Kp.imp {xs ys a b} (h : Kp xs a b) (k : ∀ n ∈ xs, n ∈ ys) : Kp ys a b := ⟨h.len, fun n hn hx => h.at_ n hn fun q => hx (k n q)⟩
theorem Kp.new {xs μ o} : Kp xs μ (μ ++ [o]) := ⟨by simp, fun n hn _ => List.getElem?_append_left hn⟩
theorem Kp.app {xs μ l} : Kp xs μ (μ ++ l) := ⟨by simp, fun n hn _ => List.getElem?_append_left hn⟩
theorem Kp.set {xs : List Nat} {μ : Mu} {n o} (h : n ∈ xs) : Kp xs μ (μ.set n o) := ⟨by simp, fun m _ hx => List.getElem?_set_ne fun e => hx (by rw [← e]; exact h)⟩
theorem Kp.set' {xs : List Nat} {μ μ' : Mu} {n o} (k : Kp xs μ μ') (h : μ.length ≤ n) : Kp xs μ (μ'.set n o) := ⟨by simpa using k.len, fun m hm hx => by rw [List.getElem?_set_ne (by omega), k.at_ m hm hx]⟩
theorem Kp.get {xs : List Nat} {μ μ' : Mu} {n o} (k : Kp xs μ μ') (h : μ[n]? = some o) (hx : n ∉ xs) : μ'[n]? = some o := by
  rw [k.at_ n (at_lt h) hx, h]


theorem strEq_t {x y : Str} (h : (x == y) = true) : (x = y) = True := eq_true (eq_of_beq h)
theorem strEq_f {x y : Str} (h : (x == y) = false) : (x = y) = False := eq_false (beq_eq_false_iff_ne.mp h)
def smallB (j : Int) : Bool := decide (-18446744073709551616 < j) && decide (j < 18446744073709551616)
theorem small_u {j : Int} : smallB j = (decide (-18446744073709551616 < j) && decide (j < 18446744073709551616)) := rfl
theorem cmulS_r {i j : Int} (h : smallB j = true) : cmulB i j = true := by
  unfold smallB at h
  simp only [Bool.and_eq_true, decide_eq_true_eq] at h
  exact cmul_r ⟨by omega, by omega⟩
theorem cmulS_l {i j : Int} (h : smallB i = true) : cmulB i j = true := by
  unfold smallB at h
  simp only [Bool.and_eq_true, decide_eq_true_eq] at h
  exact cmul_l ⟨by omega, by omega⟩
theorem bindG_n {i : Nat} {d : D} {δ : Dl} : bindG (.name i) d δ = some (δ.set i (some d)) := by unfold bindG; rfl
theorem bindG_t {ts : List Tg} {ds : List D} {δ : Dl} : bindG (.tup ts) (.tup ds) δ = bindGs ts ds δ := by rw [bindG]
theorem bindGs_n {δ : Dl} : bindGs [] [] δ = some δ := by unfold bindGs; rfl
theorem bindGs_c {t : Tg} {ts : List Tg} {d : D} {ds : List D} {δ : Dl} : bindGs (t :: ts) (d :: ds) δ = (bindG t d δ).bind (bindGs ts ds) := by rw [bindGs]
def asgO (o : Option Dl) (μ : Mu) : RS := match o with
  | some δ1 => .nx δ1 μ
  | none => .stuck
theorem asgO_s {δ : Dl} {μ : Mu} : asgO (some δ) μ = .nx δ μ := rfl
theorem asgR_u {t : Tg} {d : D} {δ : Dl} {μ : Mu} : asgR t d δ μ = asgO (bindG t d δ) μ := rfl
theorem idx_inj {tbl : List Str} {x y : Str} {i : Nat} (hx : tbl.idxOf? x = some i) (hy : tbl.idxOf? y = some i) : x = y := by
  rw [List.idxOf?_eq_some_iff] at hx hy
  obtain ⟨h1, h2, _⟩ := hx
  obtain ⟨h3, h4, _⟩ := hy
  have e1 : tbl[i] = x := by simpa using h2
  have e2 : tbl[i] = y := by simpa using h4
  rw [← e1, ← e2]
theorem str_eq {tbl : List Str} {x y : Str} (hx : (tbl.idxOf? x).isSome = true) : (x = y) = (tbl.idxOf? x = tbl.idxOf? y) := by
  refine propext ⟨fun h => by rw [h], fun h => ?_⟩
  obtain ⟨i, hi⟩ := Option.isSome_iff_exists.mp hx
  exact idx_inj hi (h ▸ hi)
theorem str_beq {tbl : List Str} {x y : Str} (hx : (tbl.idxOf? x).isSome = true) : (x == y) = (tbl.idxOf? x == tbl.idxOf? y) := by
  rw [Bool.eq_iff_iff]
  simp only [beq_iff_eq]
  exact iff_of_eq (str_eq hx)
end Tk
local macro_rules | `(tactic| simp_all! only [$ls,*]) => `(tactic| simp only [Tk.kBind_ap, Tk.kBin2_ap, Tk.kBin1_ap, Tk.kNeg_ap, Tk.kCmp2_ap, Tk.kCmp1_ap, Tk.kChn3_ap, Tk.kChn2_ap, Tk.kChn1_ap, Tk.kAnd_ap, Tk.kOr_ap, Tk.kNot_ap, Tk.kIte_ap, Tk.kIx2_ap, Tk.kIx1_ap, Tk.kSl3_ap, Tk.kSl2_ap, Tk.kSl1_ap, Tk.kCall_ap, Tk.kBlt_ap, Tk.kMth2_ap, Tk.kMth1_ap, Tk.kTup_ap, Tk.kLst_ap, Tk.kLc_ap, Tk.kIn2_ap, Tk.kLc2_ap, Tk.kFld_ap, Tk.kMc2_ap, Tk.kMc1_ap, Tk.kMk1_ap, Tk.kDc_ap, Tk.kDic_ap, Tk.kCons2_ap, Tk.kCons1_ap, Tk.kOs_ap, Tk.kVal_ap, Tk.kR1_ap, Tk.kEnm_ap, Tk.kR2b_ap, Tk.kR2a_ap, Tk.kPc3_ap, Tk.kPc2_ap, Tk.kPc1_ap, Tk.tAnd_ap, Tk.tOr_ap, Tk.tNot_ap, Tk.kBo_ap, Tk.kTru_ap, Tk.kAsg_ap, Tk.kX_ap, Tk.kSet4_ap, Tk.kSet3_ap, Tk.kSet2_ap, Tk.kSet1_ap, Tk.kAug3_ap, Tk.kAug2_ap, Tk.kAug1_ap, Tk.kSf2_ap, Tk.kSf1_ap, Tk.kExp_ap, Tk.kIfs_ap, Tk.kFor_ap, Tk.seqK_n, Tk.seqK_r, Tk.seqK_b, Tk.seqK_c, Tk.seqK_x, Tk.runK_n, Tk.runK_r, Tk.runK_b, Tk.runK_c, Tk.runK_x, Tk.w_ok, Tk.w_stuck, Tk.ws_nx, Tk.ws_ret, Tk.ws_stuck, Tk.w_bind, Tk.w_ifs, Tk.rdV_0, Tk.rdV_s, Tk.andR_b, Tk.orR_b, Tk.w_v, Tk.w_c, Tk.w_tup, Tk.w_lst, Tk.w_bin, Tk.w_neg, Tk.w_cmp, Tk.w_chn, Tk.w_and, Tk.w_or, Tk.w_not, Tk.w_ite, Tk.w_ix, Tk.w_sl, Tk.w_call, Tk.w_blt, Tk.w_mth, Tk.w_lc, Tk.w_lc2, Tk.w_fld, Tk.w_mc, Tk.w_mk, Tk.w_dc, Tk.w_dic, Tk.w_nil, Tk.w_cons, Tk.w_on, Tk.w_os, Tk.w_tn, Tk.w_ts, Tk.w_iv, Tk.w_i1, Tk.w_ie, Tk.w_i2, Tk.w_pn, Tk.w_pc, Tk.t_and, Tk.t_or, Tk.t_not, Tk.t_cmp, Tk.t_chn, Tk.t_v, Tk.t_c, Tk.t_ix, Tk.t_call, Tk.t_blt, Tk.t_mth, Tk.t_fld, Tk.t_mc, Tk.s_asg, Tk.s_setix, Tk.s_aug, Tk.s_expr, Tk.s_ret, Tk.s_retn, Tk.s_ifs, Tk.s_for, Tk.s_while, Tk.s_setfld, Tk.s_bad, Tk.s_pass, Tk.s_brk, Tk.s_cont, Tk.s_nil, Tk.s_cons, Tk.w_runB, Tk.w_in2, Tk.mcW_s, Tk.mkW_s, Tk.kMk2_n, Tk.sizeLine_eq, Tk.setR_s, Tk.ixN_0, Tk.ixN_1, Tk.ixN_l, Tk.resO_s, Tk.ix_tup, Tk.atI_0, Tk.atI_1, Tk.atI_l, Tk.b_add, Tk.b_sub, Tk.b_mul, Tk.b_pow, Tk.cmulS_r, Tk.cmulS_l, Tk.small_u, Tk.natAbs_l, Tk.b_div, Tk.b_mod, Tk.b_tup, Tk.b_str, Tk.a_add, Tk.a_sub, Tk.n_int, Tk.optB_s, Tk.c_eq, Tk.c_ne, Tk.c_lt, Tk.c_le, Tk.c_gt, Tk.c_ge, Tk.c_in, Tk.c_ni, Tk.c_inl, Tk.c_nil, Tk.inO_l, Tk.inO_ds, Tk.inO_di, Tk.inD_tup, Tk.eqD_ii, Tk.eqD_ss, Tk.eqD_nn, Tk.eqD_bb, Tk.eqD_iv, Tk.eqF_ii, Tk.eqF_ss, Tk.bl_len_tup, Tk.bl_int, Tk.bl_bool, Tk.bl_max, Tk.bl_min, Tk.optN_s, Tk.bl_list_tup, Tk.bl_isi, Tk.newl_eq, Tk.tru_b, Tk.tru_n, Tk.tru_i, Tk.not_b, Tk.valS_t, Tk.optI_i, Tk.inF, Tk.flatD, Tk.at_app, Tk.at_app0, Tk.set_app, Tk.set_app0, Tk.lst_u, Tk.lstO_l, Tk.lstO_f, Tk.ix_u, Tk.ixO_l, Tk.ixO_f, Tk.ixO_ds, Tk.ixO_di, Tk.optK_s, Tk.len_u, Tk.lenO_l, Tk.lenO_f, Tk.lenO_d, Tk.str_i, Tk.extO_l, Tk.ext_u, Tk.mk_e, Tk.mk_i, Tk.mk_p, Tk.fixO_s, Tk.idxO_l, Tk.idx_u, Tk.popO_l, Tk.pop_u, Tk.max_u, Tk.min_u, Tk.list_u, Tk.tuple_u, Tk.optJ_s, Tk.sorted_u, Tk.valO_s, Tk.valS_u, Tk.isLO_l, Tk.mk_u, Tk.appR_l, Tk.m_u, Tk.isDO_d, Tk.mk_g, Tk.getO_s, Tk.getO_i, Tk.g_u, Tk.disO_d, Tk.dis_u, Tk.key_s, Tk.key_i, Tk.valD_c, Tk.valD_n, Tk.setO_l, Tk.set_u, Tk.intsD, Tk.intsD_map, Tk.minI_c, Tk.maxI_c, Tk.boD_b, Tk.bindG_n, Tk.bindG_t, Tk.bindGs_n, Tk.bindGs_c, Tk.asgO_s, Tk.asgR_u, Tk.fld_u, Tk.fldO_i, Tk.meth_u, Tk.methO_i, Tk.init_u, Tk.setf_u, Tk.setfO_i, Tk.putFD_n, Tk.putFD_c, Tk.lookup_c, Tk.lookup_n, Tk.enm_t, Nat.reduceAdd, Nat.reduceSub, Nat.reduceLeDiff, Nat.reduceLT, Int.reduceLT, Int.reduceLE, Int.reducePow, Int.reduceToNat, Int.reduceNeg, Nat.reducePow, Int.reduceAbs, List.all_cons, List.all_nil, List.any_cons, List.any_nil, Bool.and_true, Bool.true_and, Bool.or_false, Bool.false_or, Bool.or_true, Bool.true_or, Bool.and_false, Bool.false_and, Bool.not_true, Bool.not_false, Option.map_some, Option.bind_some, Option.isSome_some, Option.isNone_none, Option.getD_some, Option.getD_none, and_self, true_and, and_true, decide_eq_true_eq, decide_true, beq_iff_eq, Bool.false_eq_true, beq_self_eq_true, if_true, if_false, List.set_set, List.append_assoc, Nat.add_assoc, List.length_append, List.set_cons_zero, List.set_cons_succ, List.getElem?_nil, List.getElem?_cons_zero, List.getElem?_cons_succ, List.length_cons, List.length_nil, List.map_cons, List.map_nil, List.cons_append, List.nil_append, List.replicate_succ, List.replicate_zero, $ls,*])

namespace Tk
open PySem PySem.Spec PyProof.Rows L2

/-! ### loops -/
abbrev noX : XQ := fun _ _ _ => False
section
variable {α : Type} {bind : D → Dl → Option Dl} {test : Dl → Mu → Res Bool} {elt : Dl → Mu → Res D} {src : Src} {ℓ fu : Nat} {δ : Dl} {μ : Mu} {k : KS} {body : Dl → Mu → RS} {N : D → Mu → Prop} {X : XQ}
theorem forN_inv' (I : Nat → Dl → Mu → Prop)
    (step : ∀ i δ μ, i < fu → I i δ μ → match src.at_ i μ with
      | none => False
      | some none => k.n δ μ
      | some (some d) => i + 1 < fu ∧ ∃ δ1, bind d δ = some δ1 ∧ WS (body δ1 μ) (loopK k (I (i + 1)))) :
    ∀ (f i : Nat) (δ : Dl) (μ : Mu), f + i = fu → 0 < f → I i δ μ → WS (forN bind body src f i δ μ) k
  | 0, i, δ, μ, hf, hp, h => absurd hp (Nat.lt_irrefl 0)
  | f + 1, i, δ, μ, hf, hp, h => by
    have s := step i δ μ (by omega) h
    unfold forN
    cases ha : src.at_ i μ with
    | none => rw [ha] at s; exact s.elim
    | some o =>
      rw [ha] at s
      cases o with
      | none => exact s
      | some d =>
        obtain ⟨hi, δ1, h1, h2⟩ := s
        dsimp only
        rw [h1]
        dsimp only
        cases hb : body δ1 μ with
        | nx δ2 μ2 => rw [hb] at h2; exact forN_inv' I step f (i + 1) δ2 μ2 (by omega) (by omega) h2
        | cont δ2 μ2 => rw [hb] at h2; exact forN_inv' I step f (i + 1) δ2 μ2 (by omega) (by omega) h2
        | brk δ2 μ2 => rw [hb] at h2; exact h2
        | ret d2 μ2 => rw [hb] at h2; exact h2
        | exc c fs δ2 μ2 => rw [hb] at h2; exact h2
        | stuck => rw [hb] at h2; exact h2
/-- for i in range -/
theorem forN_rng {lo : Int} {n : Nat} (I : Nat → Dl → Mu → Prop) (h0 : I 0 δ μ) (hf : n < fu)
    (step : ∀ i δ μ, i < n → I i δ μ → ∃ δ1, bind (.int (lo + i)) δ = some δ1 ∧ WS (body δ1 μ) (loopK k (I (i + 1)))) (fin : ∀ δ μ, I n δ μ → k.n δ μ) : WS (forN bind body (.rng lo n) fu 0 δ μ) k := by
  refine forN_inv' (fu := fu) (fun i δ μ => i ≤ n ∧ I i δ μ) (fun i δ μ hi h => ?_) fu 0 δ μ (by omega) (by omega) ⟨Nat.zero_le _, h0⟩
  show match (some (if i < n then some (D.int (lo + i)) else none) : Option (Option D)) with
    | none => False
    | some none => k.n δ μ
    | some (some d) => _
  by_cases q : i < n
  · rw [if_pos q]
    obtain ⟨δ1, h1, h2⟩ := step i δ μ q h.2
    refine ⟨by omega, δ1, h1, ?_⟩
    cases hb : body δ1 μ with
    | nx δ2 μ2 => rw [hb] at h2; exact ⟨q, h2⟩
    | cont δ2 μ2 => rw [hb] at h2; exact ⟨q, h2⟩
    | brk δ2 μ2 => rw [hb] at h2; exact h2
    | ret d2 μ2 => rw [hb] at h2; exact h2
    | exc c fs δ2 μ2 => rw [hb] at h2; exact h2
    | stuck => rw [hb] at h2; exact h2
  · rw [if_neg q]
    have : i = n := by omega
    subst this
    exact fin δ μ h.2
/-- for d in a tuple -/
theorem forN_items {ds : List D} (I : Nat → Dl → Mu → Prop) (h0 : I 0 δ μ) (hf : ds.length < fu)
    (step : ∀ i d δ μ, ds[i]? = some d → I i δ μ → ∃ δ1, bind d δ = some δ1 ∧ WS (body δ1 μ) (loopK k (I (i + 1)))) (fin : ∀ δ μ, I ds.length δ μ → k.n δ μ) : WS (forN bind body (.items ds) fu 0 δ μ) k := by
  refine forN_inv' (fu := fu) (fun i δ μ => i ≤ ds.length ∧ I i δ μ) (fun i δ μ hi h => ?_) fu 0 δ μ (by omega) (by omega) ⟨Nat.zero_le _, h0⟩
  show match (some ds[i]? : Option (Option D)) with
    | none => False
    | some none => k.n δ μ
    | some (some d) => _
  cases q : ds[i]? with
  | some d =>
    have hl := (List.getElem?_eq_some_iff.mp q).1
    obtain ⟨δ1, h1, h2⟩ := step i d δ μ q h.2
    refine ⟨by omega, δ1, h1, ?_⟩
    cases hb : body δ1 μ with
    | nx δ2 μ2 => rw [hb] at h2; exact ⟨hl, h2⟩
    | cont δ2 μ2 => rw [hb] at h2; exact ⟨hl, h2⟩
    | brk δ2 μ2 => rw [hb] at h2; exact h2
    | ret d2 μ2 => rw [hb] at h2; exact h2
    | exc c fs δ2 μ2 => rw [hb] at h2; exact h2
    | stuck => rw [hb] at h2; exact h2
  | none =>
    have hl := List.getElem?_eq_none_iff.mp q
    have : i = ds.length := by omega
    subst this
    exact fin δ μ h.2
/-- for d in a list that the loop leaves as it is -/
theorem forN_live {n : Nat} {ds : List D} (I : Nat → Dl → Mu → Prop) (hl : ∀ i δ μ, I i δ μ → lstAt μ n = some ds) (h0 : I 0 δ μ) (hf : ds.length < fu)
    (step : ∀ i d δ μ, ds[i]? = some d → I i δ μ → ∃ δ1, bind d δ = some δ1 ∧ WS (body δ1 μ) (loopK k (I (i + 1)))) (fin : ∀ δ μ, I ds.length δ μ → k.n δ μ) : WS (forN bind body (.live n) fu 0 δ μ) k := by
  refine forN_inv' (fu := fu) (fun i δ μ => i ≤ ds.length ∧ I i δ μ) (fun i δ μ hi h => ?_) fu 0 δ μ (by omega) (by omega) ⟨Nat.zero_le _, h0⟩
  show match (lstAt μ n).map (fun xs => xs[i]?) with
    | none => False
    | some none => k.n δ μ
    | some (some d) => _
  rw [hl i δ μ h.2]
  show match (some ds[i]? : Option (Option D)) with
    | none => False
    | some none => k.n δ μ
    | some (some d) => _
  cases q : ds[i]? with
  | some d =>
    have hl := (List.getElem?_eq_some_iff.mp q).1
    obtain ⟨δ1, h1, h2⟩ := step i d δ μ q h.2
    refine ⟨by omega, δ1, h1, ?_⟩
    cases hb : body δ1 μ with
    | nx δ2 μ2 => rw [hb] at h2; exact ⟨hl, h2⟩
    | cont δ2 μ2 => rw [hb] at h2; exact ⟨hl, h2⟩
    | brk δ2 μ2 => rw [hb] at h2; exact h2
    | ret d2 μ2 => rw [hb] at h2; exact h2
    | exc c fs δ2 μ2 => rw [hb] at h2; exact h2
    | stuck => rw [hb] at h2; exact h2
  | none =>
    have hl := List.getElem?_eq_none_iff.mp q
    have : i = ds.length := by omega
    subst this
    exact fin δ μ h.2
def whK (body : Dl → Mu → RS) (k : KS) (J : Dl → Mu → Prop) (δ : Dl) : Bool → Mu → Prop := fun b μ1 => if b = true then WS (body δ μ1) (loopK k J) else k.n δ μ1
theorem whK_t {J : Dl → Mu → Prop} : whK body k J δ true μ = WS (body δ μ) (loopK k J) := (rfl)
theorem whK_f {J : Dl → Mu → Prop} : whK body k J δ false μ = k.n δ μ := (rfl)
/-- a while loop: a measure falls -/
theorem whileN_inv (I : Nat → Dl → Mu → Prop) (step : ∀ m δ μ, I m δ μ → W (test δ μ) (whK body k (fun δ2 μ2 => ∃ m2, m2 < m ∧ I m2 δ2 μ2) δ) (kX δ k)) :
    ∀ (f m : Nat) (δ : Dl) (μ : Mu), m < f → I m δ μ → WS (whileN test body f δ μ) k
  | 0, m, δ, μ, hf, h => absurd hf (Nat.not_lt_zero _)
  | f + 1, m, δ, μ, hf, h => by
    have s := step m δ μ h
    unfold whileN
    rw [w_of]
    cases ht : test δ μ with
    | ok b μ1 =>
      rw [ht] at s
      cases b with
      | true =>
        have s' : WS (body δ μ1) (loopK k fun δ2 μ2 => ∃ m2, m2 < m ∧ I m2 δ2 μ2) := s
        show WS (match body δ μ1 with
          | .nx δ2 μ2 => whileN test body f δ2 μ2
          | .cont δ2 μ2 => whileN test body f δ2 μ2
          | .brk δ2 μ2 => .nx δ2 μ2
          | r => r) k
        cases hb : body δ μ1 with
        | nx δ2 μ2 => rw [hb] at s'; obtain ⟨m2, h1, h2⟩ := s'; exact whileN_inv I step f m2 δ2 μ2 (by omega) h2
        | cont δ2 μ2 => rw [hb] at s'; obtain ⟨m2, h1, h2⟩ := s'; exact whileN_inv I step f m2 δ2 μ2 (by omega) h2
        | brk δ2 μ2 => rw [hb] at s'; exact s'
        | ret d2 μ2 => rw [hb] at s'; exact s'
        | exc c fs δ2 μ2 => rw [hb] at s'; exact s'
        | stuck => rw [hb] at s'; exact s'
      | false => exact s
    | exc c fs μ1 => rw [ht] at s; exact s
    | stuck => rw [ht] at s; exact s
/-- a comprehension -/
theorem lcN_inv' (I : Nat → List D → Mu → Prop)
    (step : ∀ i acc μ, i < fu → I i acc μ → μ[ℓ]? = some (.lst acc) ∧ match src.at_ i μ with
      | none => False
      | some none => N (.loc ℓ) μ
      | some (some d) => i + 1 < fu ∧ ∃ δ1, bind d δ = some δ1 ∧ W (test δ1 μ) (fun b μ2 => if b = true then W (elt δ1 μ2) (fun y μ3 => μ3[ℓ]? = some (.lst acc) ∧ acc.length < sizeLine ∧ I (i + 1) (acc ++ [y]) (μ3.set ℓ (.lst (acc ++ [y])))) noX else I (i + 1) acc μ2) noX) :
    ∀ (f i : Nat) (acc : List D) (μ : Mu), f + i = fu → 0 < f → I i acc μ → W (lcN bind test elt src ℓ δ f i μ) N X
  | 0, i, acc, μ, hf, hp, h => absurd hp (Nat.lt_irrefl 0)
  | f + 1, i, acc, μ, hf, hp, h => by
    obtain ⟨hl, s⟩ := step i acc μ (by omega) h
    unfold lcN
    cases ha : src.at_ i μ with
    | none => rw [ha] at s; exact s.elim
    | some o =>
      rw [ha] at s
      cases o with
      | none => exact s
      | some d =>
        obtain ⟨hi, δ1, h1, h2⟩ := s
        dsimp only
        rw [h1]
        dsimp only
        rw [w_bind, w_noexc]
        refine W.imp h2 (fun b μ2 hb => ?_) fun _ _ _ z => z.elim
        cases b with
        | false => exact lcN_inv' I step f (i + 1) acc μ2 (by omega) (by omega) hb
        | true =>
          show W (Res.bind _ _) N X
          rw [w_bind, w_noexc]
          refine W.imp (show W (elt δ1 μ2) _ noX from hb) (fun y μ3 hy => ?_) fun _ _ _ z => z.elim
          obtain ⟨g1, g2, g3⟩ := hy
          rw [kBind_ap, g1]
          dsimp only
          rw [if_pos g2]
          exact lcN_inv' I step f (i + 1) _ _ (by omega) (by omega) g3
/-- over a list or a tuple, nothing else touched -/
theorem lcN_pure {ds : List D} {p : D → Bool} {g : D → D} (hs : (src = .items ds) ∨ ∃ n, src = .live n ∧ lstAt μ n = some ds) (hf : ds.length < fu) (hz : ds.length ≤ sizeLine)
    (step : ∀ d ∈ ds, ∀ acc, ∃ δ1, bind d δ = some δ1 ∧ test δ1 (μ ++ [.lst acc]) = .ok (p d) (μ ++ [.lst acc]) ∧ (p d = true → elt δ1 (μ ++ [.lst acc]) = .ok (g d) (μ ++ [.lst acc])))
    (h : N (.loc μ.length) (μ ++ [.lst ((ds.filter p).map g)])) : W (lcN bind test elt src μ.length δ fu 0 (μ ++ [.lst []])) N X := by
  refine lcN_inv' (fu := fu) (ℓ := μ.length) (fun i acc μ' => i ≤ ds.length ∧ acc = ((ds.take i).filter p).map g ∧ μ' = μ ++ [.lst acc]) (fun i acc μ' hi hI => ?_) fu 0 [] _ (by omega) (by omega) ⟨Nat.zero_le _, rfl, rfl⟩
  obtain ⟨h1, h2, rfl⟩ := hI
  refine ⟨at_new, ?_⟩
  have ha : src.at_ i (μ ++ [.lst acc]) = some ds[i]? := by
    rcases hs with rfl | ⟨n, rfl, hn⟩
    · rfl
    · show (lstAt (μ ++ [.lst acc]) n).map _ = _
      have : lstAt (μ ++ [.lst acc]) n = lstAt μ n := by
        have hl : n < μ.length := by
          rcases Nat.lt_or_ge n μ.length with q | q
          · exact q
          · unfold lstAt at hn; rw [List.getElem?_eq_none q] at hn; cases hn
        unfold lstAt
        rw [List.getElem?_append_left hl]
      rw [this, hn]
      rfl
  rw [ha]
  cases q : ds[i]? with
  | none =>
    have hl := List.getElem?_eq_none_iff.mp q
    have : i = ds.length := by omega
    subst this
    rw [List.take_length] at h2
    show N (.loc μ.length) (μ ++ [.lst acc])
    rw [h2]
    exact h
  | some d =>
    obtain ⟨hl, hd⟩ := List.getElem?_eq_some_iff.mp q
    obtain ⟨δ1, g1, g2, g3⟩ := step d (List.mem_of_getElem? q) acc
    refine ⟨by omega, δ1, g1, ?_⟩
    rw [g2]
    have ht : ds.take (i + 1) = ds.take i ++ [d] := by rw [List.take_succ, q]; rfl
    show if p d = true then _ else _
    by_cases hp : p d = true
    · rw [if_pos hp, g3 hp]
      refine ⟨at_new, ?_, hl, ?_, ?_⟩
      · rw [h2, List.length_map]
        have := List.length_filter_le p (ds.take i)
        rw [List.length_take] at this
        omega
      · rw [ht, List.filter_append, List.map_append, h2]
        simp [hp]
      · simp
    · rw [if_neg hp]
      refine ⟨hl, ?_, rfl⟩
      rw [ht, List.filter_append, List.map_append, h2]
      simp [hp]
theorem lcN_at {μ0 μ' : Mu} {ds : List D} (p : D → Bool) (g : D → D) (hμ : μ' = μ0 ++ [.lst []]) (hℓ : ℓ = μ0.length) (hs : (src = .items ds) ∨ ∃ n, src = .live n ∧ lstAt μ0 n = some ds) (hf : ds.length < fu) (hz : ds.length ≤ sizeLine)
    (step : ∀ d ∈ ds, ∀ acc, ∃ δ1, bind d δ = some δ1 ∧ test δ1 (μ0 ++ [.lst acc]) = .ok (p d) (μ0 ++ [.lst acc]) ∧ (p d = true → elt δ1 (μ0 ++ [.lst acc]) = .ok (g d) (μ0 ++ [.lst acc])))
    (h : N (.loc ℓ) (μ0 ++ [.lst ((ds.filter p).map g)])) : W (lcN bind test elt src ℓ δ fu 0 μ') N X := by
  subst hμ hℓ
  exact lcN_pure hs hf hz step h
end
/-! ### turns, one by one -/
section
variable {α : Type} {bind : D → Dl → Option Dl} {test : Dl → Mu → Res Bool} {elt : Dl → Mu → Res D} {inner : Dl → Mu → Res Unit} {src : Src} {ℓ f i : Nat} {δ : Dl} {μ : Mu} {k : KS} {body : Dl → Mu → RS} {N : D → Mu → Prop} {X : XQ}
theorem at_items {ds : List D} : (Src.items ds).at_ i μ = some ds[i]? := rfl
theorem at_live {ds : List D} {n : Nat} (h : lstAt μ n = some ds) : (Src.live n).at_ i μ = some ds[i]? := by
  show (lstAt μ n).map _ = _
  rw [h]
  rfl
/-- the parts of a loop's turn, named -/
def wL (o : Option MO) (B : List D → Prop) : Prop := match o with
  | some (.lst acc) => B acc
  | _ => False
def lcW (bind : D → Dl → Option Dl) (test : Dl → Mu → Res Bool) (elt : Dl → Mu → Res D) (src : Src) (ℓ : Nat) (δ : Dl) (f i : Nat) (μ : Mu) (N : D → Mu → Prop) (X : XQ) : Prop := W (lcN bind test elt src ℓ δ f i μ) N X
def lcA (bind : D → Dl → Option Dl) (test : Dl → Mu → Res Bool) (elt : Dl → Mu → Res D) (src : Src) (ℓ : Nat) (δ : Dl) (f i : Nat) (N : D → Mu → Prop) (X : XQ) : D → Mu → Prop := fun y μ3 => wL μ3[ℓ]? fun acc => acc.length < sizeLine ∧ W (lcN bind test elt src ℓ δ f (i + 1) (μ3.set ℓ (.lst (acc ++ [y])))) N X
def lcB (o : Option MO) (y : D) (bind : D → Dl → Option Dl) (test : Dl → Mu → Res Bool) (elt : Dl → Mu → Res D) (src : Src) (ℓ : Nat) (δ : Dl) (f i : Nat) (μ3 : Mu) (N : D → Mu → Prop) (X : XQ) : Prop := match o with
  | some (.lst acc) => acc.length < sizeLine ∧ W (lcN bind test elt src ℓ δ f (i + 1) (μ3.set ℓ (.lst (acc ++ [y])))) N X
  | _ => False
theorem lcA_ap {y : D} {μ3 : Mu} : lcA bind test elt src ℓ δ f i N X y μ3 = lcB μ3[ℓ]? y bind test elt src ℓ δ f i μ3 N X := (rfl)
theorem lcB_s {y : D} {acc : List D} {μ3 : Mu} : lcB (some (.lst acc)) y bind test elt src ℓ δ f i μ3 N X = (acc.length < sizeLine ∧ W (lcN bind test elt src ℓ δ f (i + 1) (μ3.set ℓ (.lst (acc ++ [y])))) N X) := (rfl)
def lcT (bind : D → Dl → Option Dl) (test : Dl → Mu → Res Bool) (elt : Dl → Mu → Res D) (src : Src) (ℓ : Nat) (δ δ1 : Dl) (f i : Nat) (N : D → Mu → Prop) (X : XQ) : Bool → Mu → Prop := fun b μ2 => if b = true then W (elt δ1 μ2) (lcA bind test elt src ℓ δ f i N X) noX else W (lcN bind test elt src ℓ δ f (i + 1) μ2) N X
theorem lcT_t {δ1 : Dl} {μ2 : Mu} : lcT bind test elt src ℓ δ δ1 f i N X true μ2 = W (elt δ1 μ2) (lcA bind test elt src ℓ δ f i N X) noX := (rfl)
theorem lcT_f {δ1 : Dl} {μ2 : Mu} : lcT bind test elt src ℓ δ δ1 f i N X false μ2 = W (lcN bind test elt src ℓ δ f (i + 1) μ2) N X := (rfl)
def lcD (o : Option Dl) (bind : D → Dl → Option Dl) (test : Dl → Mu → Res Bool) (elt : Dl → Mu → Res D) (src : Src) (ℓ : Nat) (δ : Dl) (f i : Nat) (μ : Mu) (N : D → Mu → Prop) (X : XQ) : Prop := match o with
  | some δ1 => W (test δ1 μ) (lcT bind test elt src ℓ δ δ1 f i N X) noX
  | none => False
theorem lcD_s {δ1 : Dl} : lcD (some δ1) bind test elt src ℓ δ f i μ N X = W (test δ1 μ) (lcT bind test elt src ℓ δ δ1 f i N X) noX := (rfl)
def lcO (o : Option (Option D)) (bind : D → Dl → Option Dl) (test : Dl → Mu → Res Bool) (elt : Dl → Mu → Res D) (src : Src) (ℓ : Nat) (δ : Dl) (f i : Nat) (μ : Mu) (N : D → Mu → Prop) (X : XQ) : Prop := match o with
  | some none => N (.loc ℓ) μ
  | some (some d) => lcD (bind d δ) bind test elt src ℓ δ f i μ N X
  | none => False
theorem lcO_n : lcO (some none) bind test elt src ℓ δ f i μ N X = N (.loc ℓ) μ := (rfl)
theorem lcO_s {d : D} : lcO (some (some d)) bind test elt src ℓ δ f i μ N X = lcD (bind d δ) bind test elt src ℓ δ f i μ N X := (rfl)
theorem lcN_s : W (lcN bind test elt src ℓ δ (f + 1) i μ) N X = lcO (src.at_ i μ) bind test elt src ℓ δ f i μ N X := by
  rw [lcN]
  cases src.at_ i μ with
  | none => rfl
  | some o =>
    cases o with
    | none => rfl
    | some d =>
      rw [lcO_s]
      dsimp only
      cases bind d δ with
      | none => rfl
      | some δ1 =>
        rw [lcD_s]
        dsimp only
        rw [w_bind, w_noexc]
        congr 1
        funext b μ2
        cases b with
        | false => rfl
        | true =>
          rw [kBind_ap, if_pos rfl, lcT_t, w_bind, w_noexc]
          congr 1
          funext y μ3
          rw [kBind_ap, lcA_ap]
          cases μ3[ℓ]? with
          | none => rfl
          | some o =>
            cases o with
            | lst acc =>
              rw [lcB_s]
              dsimp only
              rw [w_ifs]
            | _ => rfl
def liB (o : Option MO) (y : D) (bind : D → Dl → Option Dl) (elt : Dl → Mu → Res D) (src : Src) (ℓ : Nat) (δ : Dl) (f i : Nat) (μ3 : Mu) (N : Unit → Mu → Prop) (X : XQ) : Prop := match o with
  | some (.lst acc) => acc.length < sizeLine ∧ W (lc2I bind elt src ℓ δ f (i + 1) (μ3.set ℓ (.lst (acc ++ [y])))) N X
  | _ => False
def liA (bind : D → Dl → Option Dl) (elt : Dl → Mu → Res D) (src : Src) (ℓ : Nat) (δ : Dl) (f i : Nat) (N : Unit → Mu → Prop) (X : XQ) : D → Mu → Prop := fun y μ3 => liB μ3[ℓ]? y bind elt src ℓ δ f i μ3 N X
def liD (o : Option Dl) (bind : D → Dl → Option Dl) (elt : Dl → Mu → Res D) (src : Src) (ℓ : Nat) (δ : Dl) (f i : Nat) (μ : Mu) (N : Unit → Mu → Prop) (X : XQ) : Prop := match o with
  | some δ1 => W (elt δ1 μ) (liA bind elt src ℓ δ f i N X) noX
  | none => False
def liO (o : Option (Option D)) (bind : D → Dl → Option Dl) (elt : Dl → Mu → Res D) (src : Src) (ℓ : Nat) (δ : Dl) (f i : Nat) (μ : Mu) (N : Unit → Mu → Prop) (X : XQ) : Prop := match o with
  | some none => N () μ
  | some (some d) => liD (bind d δ) bind elt src ℓ δ f i μ N X
  | none => False
section
variable {N : Unit → Mu → Prop}
theorem liA_ap {y : D} {μ3 : Mu} : liA bind elt src ℓ δ f i N X y μ3 = liB μ3[ℓ]? y bind elt src ℓ δ f i μ3 N X := (rfl)
theorem liB_s {y : D} {acc : List D} {μ3 : Mu} : liB (some (.lst acc)) y bind elt src ℓ δ f i μ3 N X = (acc.length < sizeLine ∧ W (lc2I bind elt src ℓ δ f (i + 1) (μ3.set ℓ (.lst (acc ++ [y])))) N X) := (rfl)
theorem liD_s {δ1 : Dl} : liD (some δ1) bind elt src ℓ δ f i μ N X = W (elt δ1 μ) (liA bind elt src ℓ δ f i N X) noX := (rfl)
theorem liO_n : liO (some none) bind elt src ℓ δ f i μ N X = N () μ := (rfl)
theorem liO_s {d : D} : liO (some (some d)) bind elt src ℓ δ f i μ N X = liD (bind d δ) bind elt src ℓ δ f i μ N X := (rfl)
theorem lc2I_s : W (lc2I bind elt src ℓ δ (f + 1) i μ) N X = liO (src.at_ i μ) bind elt src ℓ δ f i μ N X := by
  rw [lc2I]
  cases src.at_ i μ with
  | none => rfl
  | some o =>
    cases o with
    | none => rfl
    | some d =>
      rw [liO_s]
      dsimp only
      cases bind d δ with
      | none => rfl
      | some δ1 =>
        rw [liD_s]
        dsimp only
        rw [w_bind, w_noexc]
        congr 1
        funext y μ3
        rw [kBind_ap, liA_ap]
        cases μ3[ℓ]? with
        | none => rfl
        | some o =>
          cases o with
          | lst acc =>
            rw [liB_s]
            dsimp only
            rw [w_ifs]
          | _ => rfl
end
def l2A (bind : D → Dl → Option Dl) (inner : Dl → Mu → Res Unit) (src : Src) (ℓ : Nat) (δ : Dl) (f i : Nat) (N : D → Mu → Prop) (X : XQ) : Unit → Mu → Prop := fun _u μ2 => W (lc2N bind inner src ℓ δ f (i + 1) μ2) N X
def l2D (o : Option Dl) (bind : D → Dl → Option Dl) (inner : Dl → Mu → Res Unit) (src : Src) (ℓ : Nat) (δ : Dl) (f i : Nat) (μ : Mu) (N : D → Mu → Prop) (X : XQ) : Prop := match o with
  | some δ1 => W (inner δ1 μ) (l2A bind inner src ℓ δ f i N X) noX
  | none => False
def l2O (o : Option (Option D)) (bind : D → Dl → Option Dl) (inner : Dl → Mu → Res Unit) (src : Src) (ℓ : Nat) (δ : Dl) (f i : Nat) (μ : Mu) (N : D → Mu → Prop) (X : XQ) : Prop := match o with
  | some none => N (.loc ℓ) μ
  | some (some d) => l2D (bind d δ) bind inner src ℓ δ f i μ N X
  | none => False
theorem l2A_ap {u : Unit} {μ2 : Mu} : l2A bind inner src ℓ δ f i N X u μ2 = W (lc2N bind inner src ℓ δ f (i + 1) μ2) N X := (rfl)
theorem l2D_s {δ1 : Dl} : l2D (some δ1) bind inner src ℓ δ f i μ N X = W (inner δ1 μ) (l2A bind inner src ℓ δ f i N X) noX := (rfl)
theorem l2O_n : l2O (some none) bind inner src ℓ δ f i μ N X = N (.loc ℓ) μ := (rfl)
theorem l2O_s {d : D} : l2O (some (some d)) bind inner src ℓ δ f i μ N X = l2D (bind d δ) bind inner src ℓ δ f i μ N X := (rfl)
theorem lc2N_s : W (lc2N bind inner src ℓ δ (f + 1) i μ) N X = l2O (src.at_ i μ) bind inner src ℓ δ f i μ N X := by
  rw [lc2N]
  cases src.at_ i μ with
  | none => rfl
  | some o =>
    cases o with
    | none => rfl
    | some d =>
      rw [l2O_s]
      dsimp only
      cases bind d δ with
      | none => rfl
      | some δ1 =>
        rw [l2D_s]
        dsimp only
        rw [w_bind, w_noexc]
        rfl
def turnK (bind : D → Dl → Option Dl) (body : Dl → Mu → RS) (src : Src) (f i : Nat) (k : KS) : KS := loopK k fun δ2 μ2 => WS (forN bind body src f (i + 1) δ2 μ2) k
section
variable {c : Nat} {fs : List (Str × D)}
theorem turnK_n : (turnK bind body src f i k).n δ μ = WS (forN bind body src f (i + 1) δ μ) k := (rfl)
theorem turnK_c : (turnK bind body src f i k).c δ μ = WS (forN bind body src f (i + 1) δ μ) k := (rfl)
theorem turnK_b : (turnK bind body src f i k).b = k.n := (rfl)
theorem turnK_r : (turnK bind body src f i k).r = k.r := (rfl)
theorem turnK_x : (turnK bind body src f i k).x = k.x := (rfl)
end
def foD (o : Option Dl) (bind : D → Dl → Option Dl) (body : Dl → Mu → RS) (src : Src) (f i : Nat) (μ : Mu) (k : KS) : Prop := match o with
  | some δ1 => WS (body δ1 μ) (turnK bind body src f i k)
  | none => False
def foO (o : Option (Option D)) (bind : D → Dl → Option Dl) (body : Dl → Mu → RS) (src : Src) (f i : Nat) (δ : Dl) (μ : Mu) (k : KS) : Prop := match o with
  | some none => k.n δ μ
  | some (some d) => foD (bind d δ) bind body src f i μ k
  | none => False
theorem foD_s {δ1 : Dl} : foD (some δ1) bind body src f i μ k = WS (body δ1 μ) (turnK bind body src f i k) := (rfl)
theorem foO_n : foO (some none) bind body src f i δ μ k = k.n δ μ := (rfl)
theorem foO_s {d : D} : foO (some (some d)) bind body src f i δ μ k = foD (bind d δ) bind body src f i μ k := (rfl)
theorem forN_s : WS (forN bind body src (f + 1) i δ μ) k = foO (src.at_ i μ) bind body src f i δ μ k := by
  rw [forN]
  cases src.at_ i μ with
  | none => rfl
  | some o =>
    cases o with
    | none => rfl
    | some d =>
      rw [foO_s]
      dsimp only
      cases bind d δ with
      | none => rfl
      | some δ1 =>
        rw [foD_s]
        dsimp only
        cases body δ1 μ <;> rfl
end
/-! ### the laws' draws -/
structure DSt (s c : Nat) (ns : List Int) (rest : List D) (μ : Mu) : Prop where
  scr : μ[c]? = some (.fl (ns.map .int))
  st : ∃ a b, μ[s]? = some (.lst (.int a :: .int b :: rest)) ∧ 0 ≤ a ∧ 0 ≤ b
theorem DSt.keep {s c ns rest μ μ' xs} (h : DSt s c ns rest μ) (k : Kp xs μ μ') (h1 : s ∉ xs) (h2 : c ∉ xs) : DSt s c ns rest μ' := by
  obtain ⟨a, b, e, x⟩ := h.st
  exact ⟨k.get h.scr h2, a, b, k.get e h1, x⟩
end Tk
local macro_rules | `(tactic| simp_all! only [$ls,*]) => `(tactic| simp only [Tk.kBind_ap, Tk.kBin2_ap, Tk.kBin1_ap, Tk.kNeg_ap, Tk.kCmp2_ap, Tk.kCmp1_ap, Tk.kChn3_ap, Tk.kChn2_ap, Tk.kChn1_ap, Tk.kAnd_ap, Tk.kOr_ap, Tk.kNot_ap, Tk.kIte_ap, Tk.kIx2_ap, Tk.kIx1_ap, Tk.kSl3_ap, Tk.kSl2_ap, Tk.kSl1_ap, Tk.kCall_ap, Tk.kBlt_ap, Tk.kMth2_ap, Tk.kMth1_ap, Tk.kTup_ap, Tk.kLst_ap, Tk.kLc_ap, Tk.kIn2_ap, Tk.kLc2_ap, Tk.kFld_ap, Tk.kMc2_ap, Tk.kMc1_ap, Tk.kMk1_ap, Tk.kDc_ap, Tk.kDic_ap, Tk.kCons2_ap, Tk.kCons1_ap, Tk.kOs_ap, Tk.kVal_ap, Tk.kR1_ap, Tk.kEnm_ap, Tk.kR2b_ap, Tk.kR2a_ap, Tk.kPc3_ap, Tk.kPc2_ap, Tk.kPc1_ap, Tk.tAnd_ap, Tk.tOr_ap, Tk.tNot_ap, Tk.kBo_ap, Tk.kTru_ap, Tk.kAsg_ap, Tk.kX_ap, Tk.kSet4_ap, Tk.kSet3_ap, Tk.kSet2_ap, Tk.kSet1_ap, Tk.kAug3_ap, Tk.kAug2_ap, Tk.kAug1_ap, Tk.kSf2_ap, Tk.kSf1_ap, Tk.kExp_ap, Tk.kIfs_ap, Tk.kFor_ap, Tk.seqK_n, Tk.seqK_r, Tk.seqK_b, Tk.seqK_c, Tk.seqK_x, Tk.runK_n, Tk.runK_r, Tk.runK_b, Tk.runK_c, Tk.runK_x, Tk.w_ok, Tk.w_stuck, Tk.ws_nx, Tk.ws_ret, Tk.ws_stuck, Tk.w_bind, Tk.w_ifs, Tk.rdV_0, Tk.rdV_s, Tk.andR_b, Tk.orR_b, Tk.w_v, Tk.w_c, Tk.w_tup, Tk.w_lst, Tk.w_bin, Tk.w_neg, Tk.w_cmp, Tk.w_chn, Tk.w_and, Tk.w_or, Tk.w_not, Tk.w_ite, Tk.w_ix, Tk.w_sl, Tk.w_call, Tk.w_blt, Tk.w_mth, Tk.w_lc, Tk.w_lc2, Tk.w_fld, Tk.w_mc, Tk.w_mk, Tk.w_dc, Tk.w_dic, Tk.w_nil, Tk.w_cons, Tk.w_on, Tk.w_os, Tk.w_tn, Tk.w_ts, Tk.w_iv, Tk.w_i1, Tk.w_ie, Tk.w_i2, Tk.w_pn, Tk.w_pc, Tk.t_and, Tk.t_or, Tk.t_not, Tk.t_cmp, Tk.t_chn, Tk.t_v, Tk.t_c, Tk.t_ix, Tk.t_call, Tk.t_blt, Tk.t_mth, Tk.t_fld, Tk.t_mc, Tk.s_asg, Tk.s_setix, Tk.s_aug, Tk.s_expr, Tk.s_ret, Tk.s_retn, Tk.s_ifs, Tk.s_for, Tk.s_while, Tk.s_setfld, Tk.s_bad, Tk.s_pass, Tk.s_brk, Tk.s_cont, Tk.s_nil, Tk.s_cons, Tk.w_runB, Tk.w_in2, Tk.mcW_s, Tk.mkW_s, Tk.kMk2_n, Tk.sizeLine_eq, Tk.setR_s, Tk.ixN_0, Tk.ixN_1, Tk.ixN_l, Tk.resO_s, Tk.ix_tup, Tk.atI_0, Tk.atI_1, Tk.atI_l, Tk.b_add, Tk.b_sub, Tk.b_mul, Tk.b_pow, Tk.cmulS_r, Tk.cmulS_l, Tk.small_u, Tk.natAbs_l, Tk.b_div, Tk.b_mod, Tk.b_tup, Tk.b_str, Tk.a_add, Tk.a_sub, Tk.n_int, Tk.optB_s, Tk.c_eq, Tk.c_ne, Tk.c_lt, Tk.c_le, Tk.c_gt, Tk.c_ge, Tk.c_in, Tk.c_ni, Tk.c_inl, Tk.c_nil, Tk.inO_l, Tk.inO_ds, Tk.inO_di, Tk.inD_tup, Tk.eqD_ii, Tk.eqD_ss, Tk.eqD_nn, Tk.eqD_bb, Tk.eqD_iv, Tk.eqF_ii, Tk.eqF_ss, Tk.bl_len_tup, Tk.bl_int, Tk.bl_bool, Tk.bl_max, Tk.bl_min, Tk.optN_s, Tk.bl_list_tup, Tk.bl_isi, Tk.newl_eq, Tk.tru_b, Tk.tru_n, Tk.tru_i, Tk.not_b, Tk.valS_t, Tk.optI_i, Tk.inF, Tk.flatD, Tk.at_app, Tk.at_app0, Tk.set_app, Tk.set_app0, Tk.lst_u, Tk.lstO_l, Tk.lstO_f, Tk.ix_u, Tk.ixO_l, Tk.ixO_f, Tk.ixO_ds, Tk.ixO_di, Tk.optK_s, Tk.len_u, Tk.lenO_l, Tk.lenO_f, Tk.lenO_d, Tk.str_i, Tk.extO_l, Tk.ext_u, Tk.mk_e, Tk.mk_i, Tk.mk_p, Tk.fixO_s, Tk.idxO_l, Tk.idx_u, Tk.popO_l, Tk.pop_u, Tk.max_u, Tk.min_u, Tk.list_u, Tk.tuple_u, Tk.optJ_s, Tk.sorted_u, Tk.valO_s, Tk.valS_u, Tk.isLO_l, Tk.mk_u, Tk.appR_l, Tk.m_u, Tk.isDO_d, Tk.mk_g, Tk.getO_s, Tk.getO_i, Tk.g_u, Tk.disO_d, Tk.dis_u, Tk.key_s, Tk.key_i, Tk.valD_c, Tk.valD_n, Tk.setO_l, Tk.set_u, Tk.intsD, Tk.intsD_map, Tk.minI_c, Tk.maxI_c, Tk.boD_b, Tk.bindG_n, Tk.bindG_t, Tk.bindGs_n, Tk.bindGs_c, Tk.asgO_s, Tk.asgR_u, Tk.fld_u, Tk.fldO_i, Tk.meth_u, Tk.methO_i, Tk.init_u, Tk.setf_u, Tk.setfO_i, Tk.putFD_n, Tk.putFD_c, Tk.lookup_c, Tk.lookup_n, Tk.enm_t, Nat.reduceAdd, Nat.reduceSub, Nat.reduceLeDiff, Nat.reduceLT, Int.reduceLT, Int.reduceLE, Int.reducePow, Int.reduceToNat, Int.reduceNeg, Nat.reducePow, Int.reduceAbs, List.all_cons, List.all_nil, List.any_cons, List.any_nil, Bool.and_true, Bool.true_and, Bool.or_false, Bool.false_or, Bool.or_true, Bool.true_or, Bool.and_false, Bool.false_and, Bool.not_true, Bool.not_false, Option.map_some, Option.bind_some, Option.isSome_some, Option.isNone_none, Option.getD_some, Option.getD_none, and_self, true_and, and_true, decide_eq_true_eq, decide_true, beq_iff_eq, Bool.false_eq_true, beq_self_eq_true, if_true, if_false, List.set_set, List.append_assoc, Nat.add_assoc, List.length_append, List.set_cons_zero, List.set_cons_succ, List.getElem?_nil, List.getElem?_cons_zero, List.getElem?_cons_succ, List.length_cons, List.length_nil, List.map_cons, List.map_nil, List.cons_append, List.nil_append, List.replicate_succ, List.replicate_zero, Tk.at_items, Tk.lcA_ap, Tk.lcB_s, Tk.lcT_t, Tk.lcT_f, Tk.lcD_s, Tk.lcO_n, Tk.lcO_s, Tk.liA_ap, Tk.liB_s, Tk.liD_s, Tk.liO_n, Tk.liO_s, Tk.l2A_ap, Tk.l2D_s, Tk.l2O_n, Tk.l2O_s, Tk.turnK_n, Tk.turnK_c, Tk.turnK_b, Tk.turnK_r, Tk.turnK_x, Tk.foD_s, Tk.foO_n, Tk.foO_s, Tk.w_in2, Tk.whK_t, Tk.whK_f, $ls,*])

namespace Tk
open PySem PySem.Spec PyProof.Rows L2
def drawT : Ss :=
  (.cons (.asg (.name 5) (.bin .Mod (.blt .int (.cons (.ix (.v 0) (.c (.int (1)))) .nil)) (.v 2)))
  (.cons (.setix (.v 0) (.c (.int (1))) (.bin .FloorDiv (.ix (.v 0) (.c (.int (1)))) (.v 2)))
  (.cons (.ret (.v 5))
  .nil)))
def drawR : Ss :=
    (.cons (.asg (.name 4) (.bin .Mod (.blt .int (.cons (.bin .Mult (.bin .Add (.bin .Add (.v 3) (.bin .Mult (.ix (.v 0) (.c (.int (0)))) (.c (.int (7919))))) (.c (.int (1)))) (.c (.int (48271)))) .nil)) (.c (.int (2147483647)))))
    (.cons (.setix (.v 0) (.c (.int (1))) (.bin .Mod (.blt .int (.cons (.bin .Add (.bin .Mult (.v 4) (.c (.int (69621)))) (.bin .Mult (.ix (.v 0) (.c (.int (0)))) (.c (.int (104729))))) .nil)) (.c (.int (4294967291)))))
    (.cons (.ifs (.and (.cmp .GtE (.v 3) (.bin .Pow (.c (.int (10))) (.c (.int (18))))) (.cmp .Lt (.ix (.v 0) (.c (.int (0)))) (.blt .len (.cons (.v 1) .nil)))) (.cons (.setix (.v 0) (.c (.int (1))) (.v 3))
      .nil) .nil)
    (.cons (.setix (.v 0) (.c (.int (0))) (.bin .Add (.ix (.v 0) (.c (.int (0)))) (.c (.int (1)))))
    .nil))))
def drawH : S :=
  (.ifs (.cmp .Eq (.ix (.v 0) (.c (.int (1)))) (.c (.int (0)))) (.cons (.asg (.name 3) (.c (.int (0))))
    (.cons (.ifs (.cmp .Gt (.blt .len (.cons (.v 1) .nil)) (.c (.int (0)))) (.cons (.asg (.name 3) (.ix (.v 1) (.bin .Mod (.ix (.v 0) (.c (.int (0)))) (.blt .len (.cons (.v 1) .nil)))))
      .nil) .nil)
    (.cons (.ifs (.cmp .Lt (.v 3) (.c (.int (0)))) (.cons (.asg (.name 3) (.bin .Sub (.c (.int (1))) (.bin .Mult (.c (.int (2))) (.v 3))))
      .nil) .nil)
    drawR))) .nil)
def drawB : Ss := .cons drawH drawT
section
variable {Ω : Om} {s c : Nat} {ns : List Int} {rest : List D} {μ : Mu} {size : Int} {N : D → Mu → Prop} {X : XQ}
theorem nlt0 {n : Nat} : (0 < n + 2) = True := eq_true (by omega)
theorem nlt1 {n : Nat} : (1 < n + 2) = True := eq_true (by omega)
theorem draw_tail (h : DSt s c ns rest μ) (hsc : s ≠ c) (h0 : 0 < size) (h1 : size < 1073741824) {o3 o4 o5 : Option D} (hN : ∀ d μ', 0 ≤ d → d < size → Kp [s] μ μ' → DSt s c ns rest μ' → N (.int d) μ') {k : KS} (hk : k.r = N) :
    WS (evSs Ω drawT [some (.loc s), some (.loc c), some (.int size), o3, o4, o5] μ) k := by
  obtain ⟨a, b, e, ha, hb⟩ := h.st
  have l1 := lst_l e
  unfold drawT
  simp_all! only [nlt0, nlt1, e, h0, h1]
  rw [hk]
  refine hN _ _ (Int.emod_nonneg _ (by omega)) (Int.emod_lt_of_pos _ h0) (Kp.set (by simp)) ⟨by rw [at_ne hsc]; exact h.scr, a, b / size, at_set e, ha, Int.ediv_nonneg hb (by omega)⟩
theorem draw_rest (h : DSt s c ns rest μ) (hsc : s ≠ c) (hl : ns.length < 4294967296) {x : Int} (hx : 0 ≤ x) {o4 o5 : Option D} {k : KS} {sz : D} (hk : ∀ o3 o4 μ', Kp [s] μ μ' → DSt s c ns rest μ' → k.n [some (.loc s), some (.loc c), some sz, o3, o4, o5] μ') :
    WS (evSs Ω drawR [some (.loc s), some (.loc c), some sz, some (.int x), o4, o5] μ) k := by
  obtain ⟨a, b, e, ha, hb⟩ := h.st
  have l1 := lst_l e
  have l2 := lst_f h.scr
  have e2 := fun o => at_set (o := o) e
  have e4 := fun o : MO => show (μ.set s o)[c]? = _ from (at_ne hsc).trans h.scr
  unfold drawR
  simp_all! only [nlt0, nlt1, e, e2, e4, h.scr, List.length_map]
  have fin : ∀ y, 0 ≤ y → k.n [some (D.loc s), some (D.loc c), some sz, some (D.int x), some (D.int ((x + a * 7919 + 1) * 48271 % 2147483647)), o5] (List.set μ s (.lst (.int (a + 1) :: .int y :: rest))) := fun y hy =>
    hk _ _ _ (Kp.set (by simp)) ⟨by rw [at_ne hsc]; exact h.scr, a + 1, y, at_set e, by omega, hy⟩
  have hp : 0 ≤ ((x + a * 7919 + 1) * 48271 % 2147483647 * 69621 + a * 104729) % 4294967291 := Int.emod_nonneg _ (by omega)
  by_cases h1 : 1000000000000000000 ≤ x
  · rw [if_pos h1]
    simp_all! only [nlt0, nlt1, e, e2, e4, h.scr, List.length_map]
    by_cases h2 : a < ns.length
    · rw [if_pos h2]
      simp_all! only [nlt0, nlt1, e, e2, e4]
      exact fin _ hx
    · rw [if_neg h2]
      simp_all! only [nlt0, nlt1, e, e2, e4]
      exact fin _ hp
  · rw [if_neg h1]
    simp_all! only [nlt0, nlt1, e, e2, e4]
    exact fin _ hp
theorem draw_head (h : DSt s c ns rest μ) (hsc : s ≠ c) (hl : ns.length < 4294967296) {o3 o4 o5 : Option D} {k : KS} {sz : D} (hk : ∀ o3 o4 μ', Kp [s] μ μ' → DSt s c ns rest μ' → k.n [some (.loc s), some (.loc c), some sz, o3, o4, o5] μ') :
    WS (evS Ω drawH [some (.loc s), some (.loc c), some sz, o3, o4, o5] μ) k := by
  obtain ⟨a, b, e, ha, hb⟩ := h.st
  have l1 := lst_l e
  have l2 := lst_f h.scr
  unfold drawH
  simp_all! only [nlt0, nlt1, e, h.scr, List.length_map]
  by_cases hb0 : b = 0
  · rw [if_pos hb0]
    simp_all! only [nlt0, nlt1, e, h.scr, List.length_map]
    by_cases hn : 0 < ns.length
    · rw [if_pos (by omega)]
      simp_all! only [nlt0, nlt1, e, h.scr, List.length_map]
      have ht : (a % (ns.length : Int)).toNat < ns.length := by
        have := Int.emod_lt_of_pos a (show (0 : Int) < ns.length by omega)
        have := Int.emod_nonneg a (show (ns.length : Int) ≠ 0 by omega)
        omega
      refine ⟨by omega, ?_⟩
      rw [atI_nn (Int.emod_nonneg _ (by omega)), List.getElem?_map, List.getElem?_eq_getElem ht]
      simp_all! only []
      by_cases hc : ns[(a % (ns.length : Int)).toNat] < 0
      · rw [if_pos hc]
        simp_all! only []
        exact draw_rest h hsc hl (by omega) hk
      · rw [if_neg hc]
        simp_all! only []
        exact draw_rest h hsc hl (by omega) hk
    · rw [if_neg (by omega)]
      simp_all! only [nlt0, nlt1, e, h.scr, List.length_map]
      exact draw_rest h hsc hl (by omega) hk
  · rw [if_neg hb0]
    simp_all! only []
    exact hk _ _ _ Kp.refl h
theorem w_draw (h : DSt s c ns rest μ) (hsc : s ≠ c) (hl : ns.length < 4294967296) (h0 : 0 < size) (h1 : size < 1073741824) (hN : ∀ d μ', 0 ≤ d → d < size → Kp [s] μ μ' → DSt s c ns rest μ' → N (.int d) μ') :
    W (runB Ω 6 drawB [.loc s, .loc c, .int size] μ) N X := by
  rw [w_runB, drawB]
  simp_all! only []
  exact draw_head h hsc hl fun o3 o4 μ' k h' => draw_tail h' hsc h0 h1 (fun d μ2 g1 g2 g3 g4 => hN d μ2 g1 g2 (k.trans g3) g4) rfl
end
/-! ### sorted numbers -/
theorem mem_insI {x y : Int} : ∀ {l : List Int}, y ∈ insI x l ↔ y = x ∨ y ∈ l
  | [] => by simp [insI]
  | z :: r => by
    unfold insI
    split
    · simp
    · rw [List.mem_cons, mem_insI (l := r), List.mem_cons]
      constructor
      · rintro (h | h | h)
        · exact .inr (.inl h)
        · exact .inl h
        · exact .inr (.inr h)
      · rintro (h | h | h)
        · exact .inr (.inl h)
        · exact .inl h
        · exact .inr (.inr h)
theorem mem_sortI {y : Int} : ∀ {l : List Int}, y ∈ sortI l ↔ y ∈ l
  | [] => by simp [sortI]
  | z :: r => by rw [sortI, mem_insI, mem_sortI (l := r), List.mem_cons]
theorem len_insI {x : Int} : ∀ {l : List Int}, (insI x l).length = l.length + 1
  | [] => rfl
  | z :: r => by
    unfold insI
    split
    · rfl
    · rw [List.length_cons, len_insI (l := r), List.length_cons]
theorem len_sortI : ∀ {l : List Int}, (sortI l).length = l.length
  | [] => rfl
  | z :: r => by rw [sortI, len_insI, len_sortI (l := r), List.length_cons]
theorem inc_insI {x : Int} : ∀ {l : List Int}, l.Pairwise (· ≤ ·) → (insI x l).Pairwise (· ≤ ·)
  | [], _ => by simp [insI]
  | z :: r, h => by
    obtain ⟨h1, h2⟩ := List.pairwise_cons.mp h
    unfold insI
    split
    · rename_i hx
      refine List.pairwise_cons.mpr ⟨fun y hy => ?_, h⟩
      rcases List.mem_cons.mp hy with rfl | hy
      · exact hx
      · exact Int.le_trans hx (h1 y hy)
    · refine List.pairwise_cons.mpr ⟨fun y hy => ?_, inc_insI h2⟩
      rcases mem_insI.mp hy with rfl | hy
      · omega
      · exact h1 y hy
theorem inc_sortI : ∀ {l : List Int}, (sortI l).Pairwise (· ≤ ·)
  | [] => List.Pairwise.nil
  | z :: r => inc_insI (inc_sortI (l := r))
theorem all_flat_int {es : List Int} : (es.map D.int).all flatD = true := by
  rw [List.all_map]
  exact List.all_eq_true.mpr fun _ _ => rfl
end Tk

namespace Tk
open PySem PySem.Spec PyProof.Rows L2

/-! ### more rules -/
section
variable {μ : Mu} {ds es : List D} {m n : Nat} {x y : D} {lo hi : Option Int}
def addO (o o' : Option MO) (μ : Mu) : Res D := match o, o' with
  | some (.lst a), some (.lst b) => if a.length + b.length ≤ sizeLine then newl μ (a ++ b) else .stuck
  | _, _ => .stuck
theorem b_addl : binD .Add (.loc m) (.loc n) μ = addO μ[m]? μ[n]? μ := by
  show addD (.loc m) (.loc n) μ = _
  unfold addD addO
  rfl
theorem addO_l : addO (some (.lst ds)) (some (.lst es)) μ = if ds.length + es.length ≤ 16777216 then newl μ (ds ++ es) else .stuck := rfl
def slO (o : Option MO) (lo hi : Option Int) (μ : Mu) : Res D := match o with
  | some (.lst xs) => newl μ (cutD xs lo hi)
  | some (.fl xs) => newl μ (cutD xs lo hi)
  | _ => .stuck
theorem sl_u : slD (.loc n) lo hi μ = slO μ[n]? lo hi μ := by
  unfold slD lstAt slO
  dsimp only
  cases μ[n]? with
  | none => rfl
  | some o => cases o <;> rfl
theorem slO_l : slO (some (.lst ds)) lo hi μ = newl μ (cutD ds lo hi) := rfl
theorem sl_t : slD (.tup ds) lo hi μ = .ok (.tup (cutD ds lo hi)) μ := rfl
theorem setO_ds {kvs : List (D × D)} {k : Str} : setO (some (.dic kvs)) n (.str k) x μ = if kvs.length < 16777216 then .ok () (μ.set n (.dic (putD kvs (.str k) x))) else .stuck := rfl
theorem setO_di {kvs : List (D × D)} {k : Int} : setO (some (.dic kvs)) n (.int k) x μ = if kvs.length < 16777216 then .ok () (μ.set n (.dic (putD kvs (.int k) x))) else .stuck := rfl
theorem b_multup {k : Int} : binD .Mult (.tup ds) (.int k) μ = if ds ≠ [] ∧ 1 ≤ k ∧ k ≤ 1000 ∧ ds.length ≤ 1000 then .ok (.tup (List.replicate k.toNat ds).flatten) μ else .stuck := rfl
theorem cut_to {α : Type} {xs : List D} {j : Int} (h : 0 ≤ j) : cutD xs none (some j) = xs.take j.toNat := by
  unfold cutD
  have h1 : HT.sIx xs.length 0 none = 0 := rfl
  rw [h1, List.drop_zero, Nat.sub_zero]
  have h2 : HT.sIx xs.length xs.length (some j) = min j.toNat xs.length := by
    unfold HT.sIx
    simp
    try omega
  rw [h2]
  rw [List.take_eq_take_iff]
  omega
theorem optI_n {i : Int} : optI (.int i) μ = .ok (some i) μ := rfl
end
theorem rng1_j {i : Int} {μ : Mu} {N : Src → Mu → Prop} {X : XQ} : W (rng1S (.int i) μ) N X = ((-4611686018427387904 ≤ i ∧ i < 4611686018427387904) ∧ N (.rng 0 i.toNat) μ) := by
  rw [show rng1S (.int i) μ = if inR i = true then .ok (.rng 0 i.toNat) μ else .stuck from rfl, w_ifs, w_ok, inR_iff]
theorem rng2_j {i j : Int} {μ : Mu} {N : Src → Mu → Prop} {X : XQ} : W (rng2S (.int i) (.int j) μ) N X = ((-4611686018427387904 ≤ i ∧ i < 4611686018427387904 ∧ -4611686018427387904 ≤ j ∧ j < 4611686018427387904) ∧ N (.rng i (j - i).toNat) μ) := by
  rw [show rng2S (.int i) (.int j) μ = if inR i = true then (if inR j = true then .ok (.rng i (j - i).toNat) μ else .stuck) else .stuck from rfl, w_ifs, w_ifs, w_ok, inR_iff, inR_iff]
  exact propext ⟨fun ⟨⟨a, b⟩, ⟨c, d⟩, e⟩ => ⟨⟨a, b, c, d⟩, e⟩, fun ⟨⟨a, b, c, d⟩, e⟩ => ⟨⟨a, b⟩, ⟨c, d⟩, e⟩⟩
/-! ### drawn trees, typed -/
inductive Lf where
  | num (n : Int) | loc (w : Str) | inp (w : Str) | box (w : Str)
inductive K2 where
  | plus | minus | times | less | most | equal | unlike | and | or
  deriving DecidableEq
def K2.s : K2 → Str
  | .plus => "plus" | .minus => "minus" | .times => "times" | .less => "less" | .most => "most" | .equal => "equal" | .unlike => "unlike" | .and => "and" | .or => "or"
inductive Tr where
  | lf (l : Lf) | item (w : Str) (i : Tr) | call (w : Str) (ps : List Lf) | neg (a : Tr) | two (k : K2) (a b : Tr)
mutual
inductive Sm where
  | let_ (w : Str) (t : Tr) | set (w : Str) (t : Tr) | store (w : Str) (i t : Tr)
  | ifs (c : Tr) (a b : Sms) | for_ (w : Str) (n : Int) (b : Sms) | whl (c : Tr) (n : Int) (b : Sms)
  | hold (l : Str) (b : Sms) | put (w : Str) (t : Tr) | show_ (t : Tr)
inductive Sms where
  | nil | cons (s : Sm) (r : Sms)
end
def Lf.d : Lf → D
  | .num n => .tup [.str "number", .int n]
  | .loc w => .tup [.str "local", .str w]
  | .inp w => .tup [.str "input", .str w]
  | .box w => .tup [.str "box", .str w]
def Tr.d : Tr → D
  | .lf l => l.d
  | .item w i => .tup [.str "item", .str w, i.d]
  | .call w ps => .tup [.str "call", .str w, .tup (ps.map Lf.d)]
  | .neg a => .tup [.str "not", a.d]
  | .two k a b => .tup [.str k.s, a.d, b.d]
mutual
def Sm.d : Sm → D
  | .let_ w t => .tup [.str "let", .str w, t.d]
  | .set w t => .tup [.str "set", .str w, t.d]
  | .store w i t => .tup [.str "store", .str w, i.d, t.d]
  | .ifs c a b => .tup [.str "if", c.d, .tup a.ds, .tup b.ds]
  | .for_ w n b => .tup [.str "for", .str w, .int n, .tup b.ds]
  | .whl c n b => .tup [.str "while", c.d, .int n, .tup b.ds]
  | .hold l b => .tup [.str "hold", .str l, .tup b.ds]
  | .put w t => .tup [.str "put", .str w, t.d]
  | .show_ t => .tup [.str "show", t.d]
def Sms.ds : Sms → List D
  | .nil => []
  | .cons s r => s.d :: r.ds
end
def Sms.app : Sms → Sms → Sms
  | .nil, b => b
  | .cons s r, b => .cons s (r.app b)
theorem Sms.ds_app : ∀ (a b : Sms), (a.app b).ds = a.ds ++ b.ds
  | .nil, b => rfl
  | .cons s r, b => by simp only [Sms.app, Sms.ds, Sms.ds_app r b, List.cons_append]
-- its new words, in the order of the text
mutual
def Sm.ws : Sm → List Str
  | .let_ w _ => [w]
  | .ifs _ a b => a.ws ++ b.ws
  | .for_ w _ b => w :: b.ws
  | .whl _ _ b => b.ws
  | .hold _ b => b.ws
  | _ => []
def Sms.ws : Sms → List Str
  | .nil => []
  | .cons s r => s.ws ++ r.ws
end
theorem Sms.ws_app : ∀ (a b : Sms), (a.app b).ws = a.ws ++ b.ws
  | .nil, b => rfl
  | .cons s r, b => by simp only [Sms.app, Sms.ws, Sms.ws_app r b, List.append_assoc]
/-- levels of a tree -/
def Tr.h : Tr → Nat
  | .lf _ => 0
  | .item _ i => i.h + 1
  | .call _ _ => 1
  | .neg a => a.h + 1
  | .two _ a b => max a.h b.h + 1
def Tr.isL : Tr → Bool
  | .lf (.loc _) => true
  | _ => false
/-- how many words a tree lays at most -/
def Tr.sz : Tr → Nat
  | .lf _ => 1
  | .item _ i => i.sz + 2
  | .call _ ps => ps.length + 1
  | .neg a => a.sz + 1
  | .two _ a b => a.sz + b.sz + 1

/-! what may be named -/
structure Sc where
  ins : List Str
  boxes : List Str
  tabs : List (Str × Int)
  own : List (Str × Int)
  shs : List (Str × Int × Str)
  procs : List (Str × Int)
  locks : List Str
def Sc.stores (s : Sc) (lk : Str) : List (Str × Int) := s.own ++ (s.shs.filter fun r => r.2.2 = lk).map fun r => (r.1, r.2.1)
def Sc.rows (s : Sc) (lk : Str) : List (Str × Int) := s.tabs ++ s.stores lk
def Lf.ok (s : Sc) (V : List Str) : Lf → Prop
  | .num n => 0 ≤ n ∧ n ≤ 32767
  | .loc w => w ∈ V
  | .inp w => w ∈ s.ins
  | .box w => w ∈ s.boxes
def Tr.ok (s : Sc) (V : List Str) (lk : Str) : Tr → Prop
  | .lf l => l.ok s V
  | .item w i => (∃ n, (w, n) ∈ s.rows lk) ∧ i.ok s V lk
  | .call w ps => (w, (ps.length : Int)) ∈ s.procs ∧ ps.length ≤ 4 ∧ ∀ l ∈ ps, l.ok s V
  | .neg a => a.ok s V lk
  | .two _ a b => a.ok s V lk ∧ b.ok s V lk
theorem Lf.ok.mono {s : Sc} {V V' : List Str} (hv : ∀ w ∈ V, w ∈ V') : ∀ {l : Lf}, l.ok s V → l.ok s V'
  | .num n, h => h
  | .loc w, h => hv _ h
  | .inp w, h => h
  | .box w, h => h
theorem Tr.ok.mono {s : Sc} {V V' : List Str} {lk : Str} (hv : ∀ w ∈ V, w ∈ V') : ∀ {t : Tr}, t.ok s V lk → t.ok s V' lk
  | .lf l, h => Lf.ok.mono hv h
  | .item w i, h => ⟨h.1, Tr.ok.mono hv h.2⟩
  | .call w ps, h => ⟨h.1, h.2.1, fun l hl => Lf.ok.mono hv (h.2.2 l hl)⟩
  | .neg a, h => Tr.ok.mono (t := a) hv h
  | .two _ a b, h => ⟨Tr.ok.mono hv h.1, Tr.ok.mono hv h.2⟩
-- how deep statements nest
mutual
def Sm.dep : Sm → Nat
  | .ifs _ a b => max a.dep b.dep
  | .for_ _ _ b => b.dep
  | .whl _ _ b => b.dep
  | .hold _ b => b.dep
  | _ => 0
def Sms.dep : Sms → Nat
  | .nil => 0
  | .cons s r => max (s.dep + 1) r.dep
end
theorem Sms.dep_app : ∀ (a b : Sms), (a.app b).dep = max a.dep b.dep
  | .nil, b => by simp [Sms.app, Sms.dep]
  | .cons s r, b => by simp only [Sms.app, Sms.dep, Sms.dep_app r b]; omega
-- top: in a task
mutual
def Sm.ok (s : Sc) (V : List Str) (top : Bool) (lk : Str) : Sm → Prop
  | .let_ w t => w ∈ V ∧ t.ok s V lk ∧ t.h ≤ 4
  | .set w t => w ∈ V ∧ t.ok s V lk ∧ t.h ≤ 4
  | .store w i t => (∃ n, (w, n) ∈ s.stores lk) ∧ i.ok s V lk ∧ t.ok s V lk ∧ i.h ≤ 4 ∧ t.h ≤ 4
  | .ifs c a b => c.ok s V lk ∧ c.h ≤ 4 ∧ a.ok s V top lk ∧ b.ok s V top lk
  | .for_ w n b => w ∈ V ∧ (1 ≤ n ∧ n ≤ 4) ∧ b.ok s V top lk
  | .whl c n b => c.ok s V lk ∧ c.h ≤ 4 ∧ (1 ≤ n ∧ n ≤ 4) ∧ b.ok s V top lk
  | .hold l b => top = true ∧ lk = "" ∧ l ∈ s.locks ∧ b.ok s V top l
  | .put w t => top = true ∧ w ∈ s.boxes ∧ t.ok s V lk ∧ t.h ≤ 4
  | .show_ t => top = true ∧ t.ok s V lk ∧ t.h ≤ 4
def Sms.ok (s : Sc) (V : List Str) (top : Bool) (lk : Str) : Sms → Prop
  | .nil => True
  | .cons x r => x.ok s V top lk ∧ r.ok s V top lk
end
mutual
theorem Sm.ok.mono {s : Sc} {V V' : List Str} {top : Bool} (hv : ∀ w ∈ V, w ∈ V') : ∀ {lk : Str} (x : Sm), x.ok s V top lk → x.ok s V' top lk
  | _, .let_ w t, h => ⟨hv _ h.1, h.2.1.mono hv, h.2.2⟩
  | _, .set w t, h => ⟨hv _ h.1, h.2.1.mono hv, h.2.2⟩
  | _, .store w i t, h => ⟨h.1, h.2.1.mono hv, h.2.2.1.mono hv, h.2.2.2⟩
  | _, .ifs c a b, h => ⟨h.1.mono hv, h.2.1, Sms.ok.mono hv a h.2.2.1, Sms.ok.mono hv b h.2.2.2⟩
  | _, .for_ w n b, h => ⟨hv _ h.1, h.2.1, Sms.ok.mono hv b h.2.2⟩
  | _, .whl c n b, h => ⟨h.1.mono hv, h.2.1, h.2.2.1, Sms.ok.mono hv b h.2.2.2⟩
  | _, .hold l b, h => ⟨h.1, h.2.1, h.2.2.1, Sms.ok.mono hv b h.2.2.2⟩
  | _, .put w t, h => ⟨h.1, h.2.1, h.2.2.1.mono hv, h.2.2.2⟩
  | _, .show_ t, h => ⟨h.1, h.2.1.mono hv, h.2.2⟩
theorem Sms.ok.mono {s : Sc} {V V' : List Str} {top : Bool} (hv : ∀ w ∈ V, w ∈ V') : ∀ {lk : Str} (x : Sms), x.ok s V top lk → x.ok s V' top lk
  | _, .nil, h => trivial
  | _, .cons x r, h => ⟨Sm.ok.mono hv x h.1, Sms.ok.mono hv r h.2⟩
end
theorem Sms.ok_app {s : Sc} {V : List Str} {top : Bool} {lk : Str} : ∀ (a b : Sms), (a.app b).ok s V top lk ↔ a.ok s V top lk ∧ b.ok s V top lk
  | .nil, b => by simp [Sms.app, Sms.ok]
  | .cons x r, b => by simp only [Sms.app, Sms.ok, Sms.ok_app r b, and_assoc]
-- words laid at most
mutual
def Sm.sz : Sm → Nat
  | .ifs c a b => c.sz + 2 + a.sz + b.sz
  | .for_ _ _ b => 3 + b.sz
  | .whl c _ b => c.sz + 5 + b.sz
  | .hold _ b => 2 + b.sz
  | .let_ _ t => t.sz
  | .set _ t => t.sz
  | .store _ i t => i.sz + t.sz + 3
  | .put _ t => t.sz + 2
  | .show_ t => t.sz + 1
def Sms.sz : Sms → Nat
  | .nil => 0
  | .cons s r => s.sz + r.sz
end
theorem Sms.sz_app : ∀ (a b : Sms), (a.app b).sz = a.sz + b.sz
  | .nil, b => by simp [Sms.app, Sms.sz]
  | .cons s r, b => by simp only [Sms.app, Sms.sz, Sms.sz_app r b, Nat.add_assoc]
end Tk

namespace Tk
open PySem PySem.Spec PyProof.Rows L2

/-! ### loops that change the names vs -/
def up (δ : Dl) : List Nat → List (Option D) → Dl
  | v :: vs, o :: os => up (δ.set v o) vs os
  | _, _ => δ
theorem up_c {δ : Dl} {v : Nat} {vs : List Nat} {o : Option D} {os : List (Option D)} : up δ (v :: vs) (o :: os) = up (δ.set v o) vs os := rfl
theorem up_n {δ : Dl} {os : List (Option D)} : up δ [] os = δ := by cases os <;> rfl
section
variable {bind : D → Dl → Option Dl} {src : Src} {fu : Nat} {δ : Dl} {μ : Mu} {k : KS} {body : Dl → Mu → RS}
def upI (δ : Dl) (vs : List Nat) (I : List (Option D) → Mu → Prop) : Dl → Mu → Prop := fun δ2 μ2 => ∃ os, os.length = vs.length ∧ δ2 = up δ vs os ∧ I os μ2
theorem forN_up {lo : Int} {n : Nat} (vs : List Nat) (I : Nat → List (Option D) → Mu → Prop) (h0 : upI δ vs (I 0) δ μ) (hf : n < fu)
    (step : ∀ i os μ', i < n → os.length = vs.length → I i os μ' → ∃ δ1, bind (.int (lo + i)) (up δ vs os) = some δ1 ∧ WS (body δ1 μ') (loopK k (upI δ vs (I (i + 1)))))
    (fin : ∀ os μ', os.length = vs.length → I n os μ' → k.n (up δ vs os) μ') : WS (forN bind body (.rng lo n) fu 0 δ μ) k := by
  refine forN_rng (fun i δ' μ' => upI δ vs (I i) δ' μ') h0 hf (fun i δ' μ' hi hI => ?_) (fun δ' μ' hI => ?_)
  · obtain ⟨os, h1, rfl, h2⟩ := hI
    exact step i os μ' hi h1 h2
  · obtain ⟨os, h1, rfl, h2⟩ := hI
    exact fin os μ' h1 h2
theorem forN_upi {ds : List D} (vs : List Nat) (I : Nat → List (Option D) → Mu → Prop) (h0 : upI δ vs (I 0) δ μ) (hf : ds.length < fu)
    (step : ∀ i d os μ', ds[i]? = some d → os.length = vs.length → I i os μ' → ∃ δ1, bind d (up δ vs os) = some δ1 ∧ WS (body δ1 μ') (loopK k (upI δ vs (I (i + 1)))))
    (fin : ∀ os μ', os.length = vs.length → I ds.length os μ' → k.n (up δ vs os) μ') : WS (forN bind body (.items ds) fu 0 δ μ) k := by
  refine forN_items (fun i δ' μ' => upI δ vs (I i) δ' μ') h0 hf (fun i d δ' μ' hi hI => ?_) (fun δ' μ' hI => ?_)
  · obtain ⟨os, h1, rfl, h2⟩ := hI
    exact step i d os μ' hi h1 h2
  · obtain ⟨os, h1, rfl, h2⟩ := hI
    exact fin os μ' h1 h2
/-- enumerate over a tuple -/
theorem forN_ent {ds : List D} (I : Nat → Dl → Mu → Prop) (h0 : I 0 δ μ) (hf : ds.length < fu)
    (step : ∀ i d δ μ, ds[i]? = some d → I i δ μ → ∃ δ1, bind (.tup [.int i, d]) δ = some δ1 ∧ WS (body δ1 μ) (loopK k (I (i + 1)))) (fin : ∀ δ μ, I ds.length δ μ → k.n δ μ) : WS (forN bind body (.ent ds) fu 0 δ μ) k := by
  refine forN_inv' (fu := fu) (fun i δ μ => i ≤ ds.length ∧ I i δ μ) (fun i δ μ hi h => ?_) fu 0 δ μ (by omega) (by omega) ⟨Nat.zero_le _, h0⟩
  show match (some (ds[i]?.map fun d => D.tup [.int i, d]) : Option (Option D)) with
    | none => False
    | some none => k.n δ μ
    | some (some d) => _
  cases q : ds[i]? with
  | some d =>
    have hl := (List.getElem?_eq_some_iff.mp q).1
    obtain ⟨δ1, h1, h2⟩ := step i d δ μ q h.2
    refine ⟨by omega, δ1, h1, ?_⟩
    cases hb : body δ1 μ with
    | nx δ2 μ2 => rw [hb] at h2; exact ⟨hl, h2⟩
    | cont δ2 μ2 => rw [hb] at h2; exact ⟨hl, h2⟩
    | brk δ2 μ2 => rw [hb] at h2; exact h2
    | ret d2 μ2 => rw [hb] at h2; exact h2
    | exc c fs δ2 μ2 => rw [hb] at h2; exact h2
    | stuck => rw [hb] at h2; exact h2
  | none =>
    have hl := List.getElem?_eq_none_iff.mp q
    have : i = ds.length := by omega
    subst this
    exact fin δ μ h.2
end
/-- a dict comprehension -/
theorem dcN_inv {bind : D → Dl → Option Dl} {key val : Dl → Mu → Res D} {src : Src} {ℓ fu : Nat} {δ : Dl} {N : D → Mu → Prop} {X : XQ} (I : Nat → List (D × D) → Mu → Prop)
    (step : ∀ i acc μ, i < fu → I i acc μ → match src.at_ i μ with
      | none => False
      | some none => N (.loc ℓ) μ
      | some (some d) => i + 1 < fu ∧ ∃ δ1, bind d δ = some δ1 ∧ W (key δ1 μ) (fun x μ2 => W (val δ1 μ2) (fun y μ3 => μ3[ℓ]? = some (.dic acc) ∧ (keyD x).isSome = true ∧ acc.length < sizeLine ∧ I (i + 1) (putD acc x y) (μ3.set ℓ (.dic (putD acc x y)))) noX) noX) :
    ∀ (f i : Nat) (acc : List (D × D)) (μ : Mu), f + i = fu → 0 < f → I i acc μ → W (dcN bind key val src ℓ δ f i μ) N X
  | 0, i, acc, μ, hf, hp, h => absurd hp (Nat.lt_irrefl 0)
  | f + 1, i, acc, μ, hf, hp, h => by
    have s := step i acc μ (by omega) h
    unfold dcN
    cases ha : src.at_ i μ with
    | none => rw [ha] at s; exact s.elim
    | some o =>
      rw [ha] at s
      cases o with
      | none => exact s
      | some d =>
        obtain ⟨hi, δ1, h1, h2⟩ := s
        dsimp only
        rw [h1]
        dsimp only
        rw [w_bind, w_noexc]
        refine W.imp h2 (fun x μ2 hb => ?_) fun _ _ _ z => z.elim
        show W (Res.bind _ _) N X
        rw [w_bind, w_noexc]
        refine W.imp hb (fun y μ3 hy => ?_) fun _ _ _ z => z.elim
        obtain ⟨g1, g2, g3, g4⟩ := hy
        rw [kBind_ap, g1]
        obtain ⟨kk, hk⟩ := Option.isSome_iff_exists.mp g2
        rw [hk]
        dsimp only
        rw [if_pos g3]
        exact dcN_inv I step f (i + 1) _ _ (by omega) (by omega) g4
/-- over items, nothing else touched -/
theorem dcN_at {bind : D → Dl → Option Dl} {key val : Dl → Mu → Res D} {src : Src} {ℓ fu : Nat} {δ : Dl} {N : D → Mu → Prop} {X : XQ} {μ0 μ' : Mu} {ds : List D} (gk gv : D → D) (hμ : μ' = μ0 ++ [.dic []]) (hℓ : ℓ = μ0.length) (hs : (src = .items ds) ∨ ∃ n, src = .live n ∧ lstAt μ0 n = some ds) (hf : ds.length < fu) (hz : ds.length ≤ sizeLine)
    (step : ∀ d ∈ ds, ∀ acc, ∃ δ1, bind d δ = some δ1 ∧ (keyD (gk d)).isSome = true ∧ key δ1 (μ0 ++ [.dic acc]) = .ok (gk d) (μ0 ++ [.dic acc]) ∧ val δ1 (μ0 ++ [.dic acc]) = .ok (gv d) (μ0 ++ [.dic acc]))
    (h : N (.loc ℓ) (μ0 ++ [.dic (mergeD [] (ds.map fun d => (gk d, gv d)))])) : W (dcN bind key val src ℓ δ fu 0 μ') N X := by
  subst hμ hℓ
  have hput : ∀ (acc : List (D × D)) (x y : D), (putD acc x y).length ≤ acc.length + 1 := by
    intro acc x y
    unfold putD
    split
    · rw [List.length_map]; omega
    · simp
  refine dcN_inv (fu := fu) (fun i acc μ => i ≤ ds.length ∧ acc = mergeD [] ((ds.take i).map fun d => (gk d, gv d)) ∧ acc.length ≤ i ∧ μ = μ0 ++ [.dic acc]) (fun i acc μ hi hI => ?_) fu 0 [] _ (by omega) (by omega) ⟨Nat.zero_le _, rfl, Nat.zero_le _, rfl⟩
  obtain ⟨h1, h2, h3, rfl⟩ := hI
  have ha : src.at_ i (μ0 ++ [.dic acc]) = some ds[i]? := by
    rcases hs with rfl | ⟨n, rfl, hn⟩
    · rfl
    · show (lstAt (μ0 ++ [.dic acc]) n).map _ = _
      have : lstAt (μ0 ++ [.dic acc]) n = lstAt μ0 n := by
        have hl : n < μ0.length := by
          rcases Nat.lt_or_ge n μ0.length with q | q
          · exact q
          · unfold lstAt at hn; rw [List.getElem?_eq_none q] at hn; cases hn
        unfold lstAt
        rw [List.getElem?_append_left hl]
      rw [this, hn]
      rfl
  rw [ha]
  cases q : ds[i]? with
  | none =>
    have hl := List.getElem?_eq_none_iff.mp q
    have : i = ds.length := by omega
    subst this
    rw [List.take_length] at h2
    show N (.loc μ0.length) (μ0 ++ [.dic acc])
    rw [h2]
    exact h
  | some d =>
    obtain ⟨hl, hd⟩ := List.getElem?_eq_some_iff.mp q
    obtain ⟨δ1, g1, g2, g3, g4⟩ := step d (List.mem_of_getElem? q) acc
    refine ⟨by omega, δ1, g1, ?_⟩
    rw [g3]
    show W (val δ1 (μ0 ++ [.dic acc])) _ noX
    rw [g4]
    have ht : ds.take (i + 1) = ds.take i ++ [d] := by rw [List.take_succ, q]; rfl
    refine ⟨at_new, g2, by omega, hl, ?_, ?_, ?_⟩
    · rw [ht, List.map_append, mergeD, List.foldl_append, h2]
      rfl
    · have := hput acc (gk d) (gv d); omega
    · simp

/-! ### all(..), reversed(..), texts walked -/
section
variable {μ : Mu} {n : Nat} {x : Str} {ds es : List D} {bind : D → Dl → Option Dl} {elt : Dl → Mu → Res D} {src : Src} {δ : Dl} {N : D → Mu → Prop} {X : XQ}
def revO (o : Option (List D)) (n : Nat) (μ : Mu) : Res Src := match o with
  | some xs => .ok (.rvl n xs.length) μ
  | none => .stuck
theorem revS_u : revS (.loc n) μ = revO (lstAt μ n) n μ := by unfold revS revO; rfl
theorem revO_s : revO (some ds) n μ = .ok (.rvl n ds.length) μ := rfl
theorem valS_x : valS (.str x) μ = .ok (.items (signsD x)) μ := rfl
theorem allN_i (hsrc : ∀ i, src.at_ i μ = some es[i]?) (fb : D → Bool) (hh : ∀ d ∈ es, ∃ δ1, bind d δ = some δ1 ∧ ∀ (N : D → Mu → Prop) (X : XQ), N (.bl (fb d)) μ → W (elt δ1 μ) N X) :
    ∀ (f i : Nat), i ≤ es.length → es.length - i < f → N (.bl ((es.drop i).all fb)) μ → W (allN bind elt src δ f i μ) N X := by
  intro f
  induction f with
  | zero => intro i h1 h2; exact absurd h2 (Nat.not_lt_zero _)
  | succ f ih =>
    intro i h1 h2 hN
    unfold allN
    rw [hsrc]
    cases he : es[i]? with
    | none =>
      rw [List.drop_of_length_le (List.getElem?_eq_none_iff.mp he)] at hN
      exact hN
    | some d =>
      have hi : i < es.length := (List.getElem?_eq_some_iff.mp he).1
      obtain ⟨δ1, hb, hW⟩ := hh d (List.mem_of_getElem? he)
      dsimp only
      rw [hb]
      dsimp only
      have hd : es.drop i = d :: es.drop (i + 1) := by
        rw [List.drop_eq_getElem_cons hi, (List.getElem?_eq_some_iff.mp he).2]
      rw [hd, List.all_cons] at hN
      have h3 : elt δ1 μ = .ok (.bl (fb d)) μ := W.okof (hW _ _ ⟨rfl, rfl⟩)
      rw [h3]
      show W (match D.bl (fb d) with
        | .bl true => allN bind elt src δ f (i + 1) μ
        | .bl false => .ok (.bl false) μ
        | _ => .stuck) N X
      cases hf : fb d with
      | true =>
        rw [hf, Bool.true_and] at hN
        exact ih (i + 1) hi (by omega) hN
      | false =>
        rw [hf, Bool.false_and] at hN
        exact hN
theorem all_pure {fu : Nat} (hsrc : ∀ i, src.at_ i μ = some es[i]?) (fb : D → Bool) (hl : es.length < fu) (hh : ∀ d ∈ es, ∃ δ1, bind d δ = some δ1 ∧ ∀ (N : D → Mu → Prop) (X : XQ), N (.bl (fb d)) μ → W (elt δ1 μ) N X) (hN : N (.bl (es.all fb)) μ) :
    W (allN bind elt src δ fu 0 μ) N X := allN_i hsrc fb hh fu 0 (Nat.zero_le _) (by omega) (by rw [List.drop_zero]; exact hN)
theorem at_ent {i : Nat} : (Src.ent ds).at_ i μ = some ((ds.mapIdx fun j d => D.tup [.int j, d])[i]?) := by
  show some _ = _
  rw [List.getElem?_mapIdx]
theorem at_rvl {i : Nat} (h : lstAt μ n = some ds) : (Src.rvl n ds.length).at_ i μ = some (ds.reverse[i]?) := by
  show (lstAt μ n).bind _ = _
  rw [h, Option.bind_some]
  by_cases hi : i < ds.length
  · rw [if_pos hi, List.getElem?_reverse hi]
    have : ds.length - 1 - i < ds.length := by omega
    rw [List.getElem?_eq_getElem this]
    rfl
  · rw [if_neg hi, List.getElem?_eq_none (by simpa using hi)]
end
/-! ### kinds of values -/
def whB : D → Bool
  | .int _ => true
  | _ => false
def boB : D → Bool
  | .bl _ => true
  | _ => false
def tuB : D → Bool
  | .tup _ => true
  | _ => false
def stB : D → Bool
  | .str _ => true
  | _ => false
theorem kit_NoneType_int : kitB "NoneType" "int" = some false := by decide +kernel
theorem kit_NoneType_bool : kitB "NoneType" "bool" = some false := by decide +kernel
theorem kit_NoneType_tuple : kitB "NoneType" "tuple" = some false := by decide +kernel
theorem kit_NoneType_str : kitB "NoneType" "str" = some false := by decide +kernel
theorem kit_bool_int : kitB "bool" "int" = some true := by decide +kernel
theorem kit_bool_bool : kitB "bool" "bool" = some true := by decide +kernel
theorem kit_bool_tuple : kitB "bool" "tuple" = some false := by decide +kernel
theorem kit_bool_str : kitB "bool" "str" = some false := by decide +kernel
theorem kit_int_int : kitB "int" "int" = some true := by decide +kernel
theorem kit_int_bool : kitB "int" "bool" = some false := by decide +kernel
theorem kit_int_tuple : kitB "int" "tuple" = some false := by decide +kernel
theorem kit_int_str : kitB "int" "str" = some false := by decide +kernel
theorem kit_str_int : kitB "str" "int" = some false := by decide +kernel
theorem kit_str_bool : kitB "str" "bool" = some false := by decide +kernel
theorem kit_str_tuple : kitB "str" "tuple" = some false := by decide +kernel
theorem kit_str_str : kitB "str" "str" = some true := by decide +kernel
theorem kit_tuple_int : kitB "tuple" "int" = some false := by decide +kernel
theorem kit_tuple_bool : kitB "tuple" "bool" = some false := by decide +kernel
theorem kit_tuple_tuple : kitB "tuple" "tuple" = some true := by decide +kernel
theorem kit_tuple_str : kitB "tuple" "str" = some false := by decide +kernel
theorem kit_list_int : kitB "list" "int" = some false := by decide +kernel
theorem kit_list_bool : kitB "list" "bool" = some false := by decide +kernel
theorem kit_list_tuple : kitB "list" "tuple" = some false := by decide +kernel
theorem kit_list_str : kitB "list" "str" = some false := by decide +kernel
theorem kit_dict_int : kitB "dict" "int" = some false := by decide +kernel
theorem kit_dict_bool : kitB "dict" "bool" = some false := by decide +kernel
theorem kit_dict_tuple : kitB "dict" "tuple" = some false := by decide +kernel
theorem kit_dict_str : kitB "dict" "str" = some false := by decide +kernel
theorem isi_t {μ : Mu} {d : D} {t n : String} {b : Bool} (h : tyD d μ = some t) (hk : kitB t n = some b) : bltD .isi [d, .ty n] μ = .ok (.bl b) μ := by
  show (match tyD d μ with
    | some t => (match kitB t n with
      | some b => Res.ok (D.bl b) μ
      | none => .stuck)
    | none => .stuck) = _
  rw [h]
  dsimp only
  rw [hk]
theorem isi_all {μ : Mu} {d : D} (h : (tyD d μ).isSome = true) : bltD .isi [d, .ty "int"] μ = .ok (.bl (whB d || boB d)) μ ∧ bltD .isi [d, .ty "bool"] μ = .ok (.bl (boB d)) μ ∧ bltD .isi [d, .ty "tuple"] μ = .ok (.bl (tuB d)) μ ∧ bltD .isi [d, .ty "str"] μ = .ok (.bl (stB d)) μ := by
  cases d with
  | non => exact ⟨isi_t rfl kit_NoneType_int, isi_t rfl kit_NoneType_bool, isi_t rfl kit_NoneType_tuple, isi_t rfl kit_NoneType_str⟩
  | bl b => exact ⟨isi_t rfl kit_bool_int, isi_t rfl kit_bool_bool, isi_t rfl kit_bool_tuple, isi_t rfl kit_bool_str⟩
  | int i => exact ⟨isi_t rfl kit_int_int, isi_t rfl kit_int_bool, isi_t rfl kit_int_tuple, isi_t rfl kit_int_str⟩
  | str x => exact ⟨isi_t rfl kit_str_int, isi_t rfl kit_str_bool, isi_t rfl kit_str_tuple, isi_t rfl kit_str_str⟩
  | tup ds => exact ⟨isi_t rfl kit_tuple_int, isi_t rfl kit_tuple_bool, isi_t rfl kit_tuple_tuple, isi_t rfl kit_tuple_str⟩
  | ty n => cases h
  | loc n =>
    have hh : tyD (.loc n) μ = some "list" ∨ tyD (.loc n) μ = some "dict" := by
      show (match μ[n]? with
        | some (.lst _) => some "list"
        | some (.fl _) => some "list"
        | some (.dic _) => some "dict"
        | some (.dit _) => some "dict"
        | _ => none) = _ ∨ (match μ[n]? with
        | some (.lst _) => some "list"
        | some (.fl _) => some "list"
        | some (.dic _) => some "dict"
        | some (.dit _) => some "dict"
        | _ => none) = _
      have h2 : (match μ[n]? with
        | some (.lst _) => some "list"
        | some (.fl _) => some "list"
        | some (.dic _) => some "dict"
        | some (.dit _) => some "dict"
        | _ => none : Option String).isSome = true := h
      cases hm : μ[n]? with
      | none => rw [hm] at h2; cases h2
      | some o => cases o <;> first | exact .inl rfl | exact .inr rfl | (rw [hm] at h2; cases h2)
    rcases hh with hh | hh
    · exact ⟨isi_t hh kit_list_int, isi_t hh kit_list_bool, isi_t hh kit_list_tuple, isi_t hh kit_list_str⟩
    · exact ⟨isi_t hh kit_dict_int, isi_t hh kit_dict_bool, isi_t hh kit_dict_tuple, isi_t hh kit_dict_str⟩
/-! ### loops over anything told item by item -/
section
variable {bind : D → Dl → Option Dl} {src : Src} {fu : Nat} {δ : Dl} {μ : Mu} {k : KS} {body : Dl → Mu → RS}
theorem forN_src {es : List D} (I : Nat → Dl → Mu → Prop) (hs : ∀ i δ μ, I i δ μ → src.at_ i μ = some es[i]?) (h0 : I 0 δ μ) (hf : es.length < fu)
    (step : ∀ i d δ μ, es[i]? = some d → I i δ μ → ∃ δ1, bind d δ = some δ1 ∧ WS (body δ1 μ) (loopK k (I (i + 1)))) (fin : ∀ δ μ, I es.length δ μ → k.n δ μ) : WS (forN bind body src fu 0 δ μ) k := by
  refine forN_inv' (fu := fu) (fun i δ μ => i ≤ es.length ∧ I i δ μ) (fun i δ μ hi h => ?_) fu 0 δ μ (by omega) (by omega) ⟨Nat.zero_le _, h0⟩
  rw [hs i δ μ h.2]
  cases q : es[i]? with
  | some d =>
    have hl := (List.getElem?_eq_some_iff.mp q).1
    obtain ⟨δ1, h1, h2⟩ := step i d δ μ q h.2
    refine ⟨by omega, δ1, h1, ?_⟩
    have e : (loopK k fun δ μ => i + 1 ≤ es.length ∧ I (i + 1) δ μ) = loopK k (I (i + 1)) := by
      unfold loopK
      have : (fun δ μ => i + 1 ≤ es.length ∧ I (i + 1) δ μ) = I (i + 1) := by
        funext δ μ
        exact propext ⟨fun z => z.2, fun z => ⟨hl, z⟩⟩
      rw [this]
    rw [e]
    exact h2
  | none =>
    have hl := List.getElem?_eq_none_iff.mp q
    have e : i = es.length := by omega
    subst e
    exact fin δ μ h.2
theorem inF_int {x : Int} : ∀ {l : List Int}, inF (.int x) (l.map .int) = decide (x ∈ l)
  | [] => rfl
  | y :: l => by
    have ih := inF_int (x := x) (l := l)
    unfold inF at ih ⊢
    rw [List.map_cons, List.any_cons, ih]
    show ((y == x) || decide (x ∈ l)) = decide (x ∈ y :: l)
    by_cases h : y = x
    · subst h
      rw [beq_self_eq_true, Bool.true_or, decide_eq_true List.mem_cons_self]
    · rw [beq_eq_false_iff_ne.mpr h, Bool.false_or]
      by_cases h2 : x ∈ l
      · rw [decide_eq_true h2, decide_eq_true (List.mem_cons_of_mem _ h2)]
      · rw [decide_eq_false h2, decide_eq_false (fun z => (List.mem_cons.mp z).elim (fun e => h e.symm) h2)]
theorem cut_fr {xs : List D} {j : Int} (h : 0 ≤ j) : cutD xs (some j) none = xs.drop j.toNat := by
  unfold cutD
  have h1 : HT.sIx xs.length xs.length none = xs.length := rfl
  have h2 : HT.sIx xs.length 0 (some j) = min j.toNat xs.length := by
    show (if j < 0 then (j + (xs.length : Int)).toNat else min j.toNat xs.length) = _
    rw [if_neg (by omega)]
  rw [h1, h2]
  by_cases hj : j.toNat ≤ xs.length
  · rw [Nat.min_eq_left hj, List.take_of_length_le (by rw [List.length_drop]; omega)]
  · rw [Nat.min_eq_right (by omega), List.drop_of_length_le (Nat.le_refl _), List.drop_of_length_le (by omega), List.take_nil]
end
/-! ### equal to itself -/
def flt : Nat → D → Bool
  | 0, _ => false
  | k + 1, d => match d with
    | .non => true
    | .bl _ => true
    | .int _ => true
    | .str _ => true
    | .tup ds => ds.all (flt k)
    | _ => false
theorem flt_t {k : Nat} {ds : List D} : flt (k + 1) (.tup ds) = ds.all (flt k) := rfl
theorem flt_s {k : Nat} {s : Str} : flt (k + 1) (.str s) = true := rfl
theorem flt_i {k : Nat} {s : Int} : flt (k + 1) (.int s) = true := rfl
theorem flt_py {μ : Mu} : ∀ (k : Nat) (d : D), flt k d = true → ∃ p, pyD μ k d = some p ∧ PyData.eqv p p = true
  | 0, d, h => by cases h
  | k + 1, d, h => by
    cases d with
    | non => exact ⟨_, rfl, by simp [PyData.eqv]⟩
    | bl b => exact ⟨_, rfl, by simp [PyData.eqv]⟩
    | int b => exact ⟨_, rfl, by simp [PyData.eqv]⟩
    | str b => exact ⟨_, rfl, by simp [PyData.eqv]⟩
    | ty b => cases h
    | loc b => cases h
    | tup ds =>
      have all : ∀ ds : List D, ds.all (flt k) = true → ∃ ps, allS (ds.map (pyD μ k)) = some ps ∧ PyData.eqvAll ps ps = true := by
        intro ds
        induction ds with
        | nil => intro _; exact ⟨[], rfl, by simp [PyData.eqvAll]⟩
        | cons x r ih =>
          intro h
          rw [List.all_cons, Bool.and_eq_true] at h
          obtain ⟨q, q1, q2⟩ := flt_py k x h.1
          obtain ⟨ps, p1, p2⟩ := ih h.2
          refine ⟨q :: ps, ?_, ?_⟩
          · rw [List.map_cons, q1]
            show (allS (r.map (pyD μ k))).map _ = _
            rw [p1]; rfl
          · rw [PyData.eqvAll, q2, p2]; rfl
      obtain ⟨ps, p1, p2⟩ := all ds h
      refine ⟨.tuple ps, ?_, ?_⟩
      · show (allS (ds.map (pyD μ k))).map _ = _
        rw [p1]; rfl
      · simp only [PyData.eqv]; exact p2
theorem eq_self {μ : Mu} {d : D} (h : flt 40 d = true) : eqD μ d d = some true := by
  obtain ⟨p, p1, p2⟩ := flt_py (μ := μ) 40 d h
  unfold eqD
  rw [p1]
  show some (PyData.eqv p p) = _
  rw [p2]
theorem eq_lists {μ : Mu} {a b : Nat} {ds : List D} (ha : lstAt μ a = some ds) (hb : lstAt μ b = some ds) (h : ds.all (flt 39) = true) : eqD μ (.loc a) (.loc b) = some true := by
  obtain ⟨q, q1, q2⟩ := flt_py (μ := μ) 40 (.tup ds) h
  have e : pyD μ 40 (.tup ds) = (allS (ds.map (pyD μ 39))).map .tuple := rfl
  rw [e] at q1
  obtain ⟨ps, p1, rfl⟩ := Option.map_eq_some_iff.mp q1
  have f : ∀ n, lstAt μ n = some ds → pyD μ 40 (.loc n) = some (.list ps) := fun n hn => by
    show (lstAt μ n).bind (fun xs => (allS (xs.map (pyD μ 39))).map PyData.list) = _
    rw [hn, Option.bind_some, p1]
    rfl
  unfold eqD
  rw [f a ha, f b hb]
  show some (PyData.eqv (.list ps) (.list ps)) = _
  have : PyData.eqv (.list ps) (.list ps) = true := by
    simp only [PyData.eqv] at q2 ⊢
    exact q2
  rw [this]
end Tk

namespace Tk
open PySem PySem.Spec PyProof.Rows L2

/-! ### the words that trees lay -/
structure U where
  slot : Str → Int
  row : Str → Int × Int
  inp : Str → Int
  box : Str → Int
  rng : Str → Int × Int
  sh : Str → Option (Int × Int)
  lock : Str → Int
  free : Int
def wd (k : Str) (ns : List Int) : D := .tup (.str k :: ns.map .int)
def fillL (u : U) (out : Int) : Lf → D
  | .num n => .tup [.str "set", .int out, .int n]
  | .loc w => .tup [.str "move", .int out, .int (u.slot w)]
  | .inp w => .tup [.str "input", .int out, .int (u.inp w)]
  | .box w => .tup [.str "box", .int out, .int (u.box w)]
def U.sl (u : U) (t : Tr) (g : Int) : Int := match t with
  | .lf (.loc w) => u.slot w
  | _ => g
def callW (u : U) (g : Int) : List Lf → List D
  | [] => []
  | l :: r => fillL u g l :: callW u (g + 1) r
def fill (u : U) : Tr → Int → Int → List D
  | .lf l, _, out => [fillL u out l]
  | .item w i, g, out => (if i.isL = true then [] else fill u i g g) ++ [.tup [.str "check", .int (u.sl i g), .int (u.row w).2], .tup [.str "load", .int out, .int (u.row w).1, .int (u.sl i g)]]
  | .call w ps, g, out => callW u g ps ++ [.tup [.str "call", .str w, .int g, .int ps.length, .int out]]
  | .neg a, g, out => (if a.isL = true then [] else fill u a g g) ++ [.tup [.str "not", .int out, .int (u.sl a g)]]
  | .two k a b, g, out => (if a.isL = true then [] else fill u a g g) ++ ((if b.isL = true then [] else fill u b (g + 1) (g + 1)) ++ [.tup [.str k.s, .int out, .int (u.sl a g), .int (u.sl b (g + 1))]])
def opW (u : U) (t : Tr) (g : Int) : List D := if t.isL = true then [] else fill u t g g
theorem callW_len {u : U} : ∀ (ps : List Lf) (g : Int), (callW u g ps).length = ps.length
  | [], g => rfl
  | l :: r, g => by rw [callW, List.length_cons, callW_len r, List.length_cons]
theorem fill_len {u : U} : ∀ (t : Tr) (g out : Int), (fill u t g out).length ≤ t.sz
  | .lf l, g, out => Nat.le_refl 1
  | .item w i, g, out => by
    have := fill_len (u := u) i g g
    unfold fill
    split <;> simp only [List.length_append, List.length_cons, List.length_nil, Tr.sz] <;> omega
  | .call w ps, g, out => by
    unfold fill
    rw [List.length_append, callW_len]
    simp [Tr.sz]
  | .neg a, g, out => by
    have := fill_len (u := u) a g g
    unfold fill
    split <;> simp only [List.length_append, List.length_cons, List.length_nil, Tr.sz] <;> omega
  | .two k a b, g, out => by
    have h1 := fill_len (u := u) a g g
    have h2 := fill_len (u := u) b (g + 1) (g + 1)
    unfold fill
    split <;> split <;> simp only [List.length_append, List.length_cons, List.length_nil, Tr.sz] <;> omega
theorem opW_len {u : U} {t : Tr} {g : Int} : (opW u t g).length ≤ t.sz := by
  unfold opW
  split
  · simp
  · exact fill_len t g g
def spanW (o : Option (Int × Int)) (s : Int) : List D := match o with
  | some q => [.tup [.str "span", .int s, .int q.1, .int q.2]]
  | none => []
theorem spanW_len {o : Option (Int × Int)} {s : Int} : (spanW o s).length ≤ 1 := by cases o <;> simp [spanW]
def Sms.isN : Sms → Bool
  | .nil => true
  | _ => false
mutual
def lay (u : U) : Sm → Nat → List D
  | .let_ w t, _ => fill u t u.free (u.slot w)
  | .set w t, _ => fill u t u.free (u.slot w)
  | .store w i t, _ => opW u i u.free ++ (opW u t (u.free + 1) ++ (.tup [.str "check", .int (u.sl i u.free), .int (u.row w).2] :: (spanW (u.sh w) (u.sl t (u.free + 1)) ++ [.tup [.str "store", .int (u.row w).1, .int (u.sl i u.free), .int (u.sl t (u.free + 1))]])))
  | .ifs c a b, base => if b.isN = true then
      opW u c u.free ++ (.tup [.str "zero", .int (u.sl c u.free), .int ((base + (opW u c u.free).length + 1 + (lays u a (base + (opW u c u.free).length + 1)).length : Nat) : Int)] :: lays u a (base + (opW u c u.free).length + 1))
    else
      opW u c u.free ++ (.tup [.str "zero", .int (u.sl c u.free), .int ((base + (opW u c u.free).length + 1 + (lays u a (base + (opW u c u.free).length + 1)).length + 1 : Nat) : Int)] :: (lays u a (base + (opW u c u.free).length + 1) ++
        (.tup [.str "jump", .int ((base + (opW u c u.free).length + 1 + (lays u a (base + (opW u c u.free).length + 1)).length + 1 + (lays u b (base + (opW u c u.free).length + 1 + (lays u a (base + (opW u c u.free).length + 1)).length + 1)).length : Nat) : Int)] :: lays u b (base + (opW u c u.free).length + 1 + (lays u a (base + (opW u c u.free).length + 1)).length + 1))))
  | .for_ w n b, base => .tup [.str "begin", .int n] :: .tup [.str "round", .int (u.slot w)] :: (lays u b (base + 2) ++ [.tup [.str "again", .int ((base + 1 : Nat) : Int)]])
  | .whl c n b, base => .tup [.str "begin", .int (n + 1)] :: (opW u c u.free ++ (.tup [.str "zero", .int (u.sl c u.free), .int ((base + 1 + (opW u c u.free).length + 2 + (lays u b (base + 1 + (opW u c u.free).length + 2)).length + 1 : Nat) : Int)] :: .tup [.str "more"] :: (lays u b (base + 1 + (opW u c u.free).length + 2) ++ [.tup [.str "back", .int ((base + 1 : Nat) : Int)], .tup [.str "leave"]])))
  | .hold l b, base => .tup [.str "hold", .int (u.lock l)] :: (lays u b (base + 1) ++ [.tup [.str "free", .int (u.lock l)]])
  | .put w t, _ => opW u t u.free ++ [.tup [.str "span", .int (u.sl t u.free), .int (u.rng w).1, .int (u.rng w).2], .tup [.str "put", .int (u.box w), .int (u.sl t u.free)]]
  | .show_ t, _ => opW u t u.free ++ [.tup [.str "show", .int (u.sl t u.free)]]
def lays (u : U) : Sms → Nat → List D
  | .nil, _ => []
  | .cons s r, base => lay u s base ++ lays u r (base + (lay u s base).length)
end
mutual
theorem lay_len {u : U} : ∀ (s : Sm) (base : Nat), (lay u s base).length ≤ s.sz
  | .let_ w t, base => by rw [lay]; exact fill_len _ _ _
  | .set w t, base => by rw [lay]; exact fill_len _ _ _
  | .store w i t, base => by
    have h1 := opW_len (u := u) (t := i) (g := u.free)
    have h2 := opW_len (u := u) (t := t) (g := u.free + 1)
    have h3 := spanW_len (o := u.sh w) (s := u.sl t (u.free + 1))
    rw [lay]
    simp only [List.length_append, List.length_cons, List.length_nil, Sm.sz]; omega
  | .ifs c a b, base => by
    have h1 := opW_len (u := u) (t := c) (g := u.free)
    have h2 := lays_len (u := u) a (base + (opW u c u.free).length + 1)
    have h3 := lays_len (u := u) b (base + (opW u c u.free).length + 1 + (lays u a (base + (opW u c u.free).length + 1)).length + 1)
    rw [lay]
    split <;> simp only [List.length_append, List.length_cons, List.length_nil, Sm.sz] <;> omega
  | .for_ w n b, base => by
    have h2 := lays_len (u := u) b (base + 2)
    rw [lay]
    simp only [List.length_append, List.length_cons, List.length_nil, Sm.sz]; omega
  | .whl c n b, base => by
    have h1 := opW_len (u := u) (t := c) (g := u.free)
    have h2 := lays_len (u := u) b (base + 1 + (opW u c u.free).length + 2)
    rw [lay]
    simp only [List.length_append, List.length_cons, List.length_nil, Sm.sz]; omega
  | .hold l b, base => by
    have h2 := lays_len (u := u) b (base + 1)
    rw [lay]
    simp only [List.length_append, List.length_cons, List.length_nil, Sm.sz]; omega
  | .put w t, base => by
    have h1 := opW_len (u := u) (t := t) (g := u.free)
    rw [lay]
    simp only [List.length_append, List.length_cons, List.length_nil, Sm.sz]; omega
  | .show_ t, base => by
    have h1 := opW_len (u := u) (t := t) (g := u.free)
    rw [lay]
    simp only [List.length_append, List.length_cons, List.length_nil, Sm.sz]; omega
theorem lays_len {u : U} : ∀ (s : Sms) (base : Nat), (lays u s base).length ≤ s.sz
  | .nil, base => by rw [lays]; exact Nat.zero_le _
  | .cons s r, base => by
    have h1 := lay_len (u := u) s base
    have h2 := lays_len (u := u) r (base + (lay u s base).length)
    rw [lays, List.length_append, Sms.sz]
    omega
end
/-- a row of the layout that a word stands for -/
def rowHit (ow : Str) (locks : List Str) (w : Str) (r : Str × Str × Int × Int) : Bool := r.1 == w && ((("table" : Str) == r.2.1 || ow == r.2.1) || (locks.map D.str).any fun y => eqF y (.str r.2.1))
def layD (r : Str × Str × Int × Int) : D := .tup [.str r.1, .str r.2.1, .int r.2.2.1, .int r.2.2.2]
/-- what u tells is what the tables hold -/
structure UOk (u : U) (sc : Sc) (V : List Str) (ow : Str) (lay : List (Str × Str × Int × Int)) (slot : Str → Option D) (rng sh : List (D × D)) : Prop where
  slot : ∀ w ∈ V, slot w = some (.int (u.slot w))
  row : ∀ w lk n, (w, n) ∈ sc.rows lk → ∃ r, lay.find? (rowHit ow sc.locks w) = some r ∧ u.row w = (r.2.2.1, r.2.2.2)
  inp : ∀ w ∈ sc.ins, ∃ j : Nat, ((sc.ins.map D.str).findIdx? fun z => eqF z (.str w)) = some j ∧ u.inp w = j
  box : ∀ w ∈ sc.boxes, ∃ j : Nat, ((sc.boxes.map D.str).findIdx? fun z => eqF z (.str w)) = some j ∧ u.box w = j
  lock : ∀ w ∈ sc.locks, ∃ j : Nat, ((sc.locks.map D.str).findIdx? fun z => eqF z (.str w)) = some j ∧ u.lock w = j
  rng : ∀ w ∈ sc.boxes, valD rng (.str w) = some (.tup [.int (u.rng w).1, .int (u.rng w).2])
  sh : ∀ w lk n, (w, n) ∈ sc.stores lk → valD sh (.str w) = (u.sh w).map fun q => .tup [.int q.1, .int q.2]
theorem all_flat_str {es : List Str} : (es.map D.str).all flatD = true := by
  rw [List.all_map]
  exact List.all_eq_true.mpr fun _ _ => rfl
end Tk

namespace K00
open PySem PySem.Spec PyProof.Rows L2 Tk

def top (i : Nat) : Stmt := PySem.Challenge.pw_ticksahead_k00_numbers_and_errors.main.body.getD i (.Pass ⟨0, 0, 0, 0⟩)
def ctop (i j : Nat) : Stmt := match top i with
  | .ClassDef _ _ _ b _ _ _ _ _ _ _ => b.getD j (.Pass ⟨0, 0, 0, 0⟩)
  | s => s
def G : List (Str × GV) := [(("LOW" : Str), GV.con (.int (-32768))), (("ROUND" : Str), GV.con (.int (65536))), (("isinstance" : Str), GV.free), (("int" : Str), GV.free), (("bool" : Str), GV.free), (("is_whole" : Str), GV.fn 1), (("is_within" : Str), GV.fn 2), (("HIGH" : Str), GV.con (.int (32767))), (("tuple" : Str), GV.free), (("all" : Str), GV.free), (("is_number" : Str), GV.fn 3), (("TAKEN" : Str), GV.con (.tup [(.str "and"), (.str "box"), (.str "code"), (.str "data"), (.str "due"), (.str "else"), (.str "every"), (.str "for"), (.str "from"), (.str "gap"), (.str "give"), (.str "hold"), (.str "if"), (.str "input"), (.str "let"), (.str "lock"), (.str "machine"), (.str "miss"), (.str "most"), (.str "not"), (.str "of"), (.str "or"), (.str "proc"), (.str "put"), (.str "rank"), (.str "row"), (.str "shared"), (.str "show"), (.str "table"), (.str "task"), (.str "to"), (.str "turn"), (.str "while")])), (("LETTERS" : Str), GV.con (.str "abcdefghijklmnopqrstuvwxyz")), (("str" : Str), GV.free), (("len" : Str), GV.free), (("FIGURES" : Str), GV.con (.str "0123456789")), (("wrapped" : Str), GV.fn 0), (("_law_wrapped" : Str), GV.fn 8), (("max" : Str), GV.free), (("TicksaheadError" : Str), GV.xcl 0), (("TooLarge" : Str), GV.xcl 1), (("InvalidText" : Str), GV.xcl 2), (("InvalidTree" : Str), GV.xcl 3), (("InvalidCode" : Str), GV.xcl 4), (("InvalidState" : Str), GV.xcl 5), (("InvalidRun" : Str), GV.xcl 6), (("InvalidPaper" : Str), GV.xcl 7), (("InvalidName" : Str), GV.xcl 8), (("range" : Str), GV.free), (("_law_draw" : Str), GV.fn 7), (("is_numbers" : Str), GV.fn 4), (("is_word" : Str), GV.fn 5), (("_law_raised" : Str), GV.fn 10), (("sum_of" : Str), GV.fn 6), (("_law_joined" : Str), GV.fn 9)]
def C : List Cd := []
abbrev s_wrapped : Stmt := top 7
def N_wrapped : List Str := [("number" : Str)]
abbrev s_is_whole : Stmt := top 8
def N_is_whole : List Str := [("value" : Str)]
abbrev s_is_within : Stmt := top 9
def N_is_within : List Str := [("value" : Str), ("low" : Str), ("high" : Str)]
abbrev s_is_number : Stmt := top 10
def N_is_number : List Str := [("value" : Str)]
abbrev s_is_numbers : Stmt := top 11
def N_is_numbers : List Str := [("value" : Str), ("one" : Str)]
abbrev s_is_word : Stmt := top 12
def N_is_word : List Str := [("value" : Str), ("sign" : Str)]
abbrev s_sum_of : Stmt := top 13
def N_sum_of : List Str := [("kind" : Str), ("first" : Str), ("second" : Str)]
abbrev s__law_draw : Stmt := top 25
def N__law_draw : List Str := [("state" : Str), ("script" : Str), ("size" : Str), ("cell" : Str), ("mixed" : Str), ("digit" : Str)]
abbrev s__law_wrapped : Stmt := top 26
def N__law_wrapped : List Str := [("number" : Str)]
abbrev s__law_joined : Stmt := top 27
def N__law_joined : List Str := [("kind" : Str), ("first" : Str), ("second" : Str)]
abbrev s__law_raised : Stmt := top 28
def N__law_raised : List Str := [("k" : Str), ("place" : Str), ("e" : Str)]
abbrev s_law : Stmt := top 29
def N_law : List Str := [("script" : Str), ("state" : Str), ("names" : Str), ("k" : Str), ("place" : Str), ("first" : Str), ("second" : Str), ("kind" : Str), ("told" : Str), ("values" : Str), ("whole" : Str), ("number" : Str), ("numbers" : Str), ("word" : Str), ("low" : Str), ("high" : Str)]
def b_wrapped_0_0 : Ss := .cons (.ret (.bin .Add (.bin .Mod (.bin .Sub (.v 0) (.c (.int (-32768)))) (.c (.int (65536)))) (.c (.int (-32768))))) .nil
def b_wrapped : Ss := b_wrapped_0_0
def d_wrapped : Dd := ⟨s_wrapped, ("wrapped", none), "wrapped", "wrapped", N_wrapped, 1, false, b_wrapped, false⟩
theorem c_wrapped : trSs (trS 40 40 (d_wrapped.df.ctx G C)) (defBody d_wrapped.st) = some d_wrapped.b := by kernel_rfl
theorem u_wrapped : bindOk d_wrapped := fun _ _ _ _ _ _ us hl => match us, hl with | [_], _ => rfl
def b_is_whole_0_0 : Ss := .cons (.ret (.and (.blt .isi (.cons (.v 0) (.cons (.c (.ty "int")) .nil))) (.not (.blt .isi (.cons (.v 0) (.cons (.c (.ty "bool")) .nil)))))) .nil
def b_is_whole : Ss := b_is_whole_0_0
def d_is_whole : Dd := ⟨s_is_whole, ("is_whole", none), "is_whole", "is_whole", N_is_whole, 1, false, b_is_whole, false⟩
theorem c_is_whole : trSs (trS 40 40 (d_is_whole.df.ctx G C)) (defBody d_is_whole.st) = some d_is_whole.b := by kernel_rfl
theorem u_is_whole : bindOk d_is_whole := fun _ _ _ _ _ _ us hl => match us, hl with | [_], _ => rfl
def b_is_within_0_0 : Ss := .cons (.ret (.and (.call 1 (.cons (.v 0) .nil)) (.chn .LtE .LtE (.v 1) (.v 0) (.v 2)))) .nil
def b_is_within : Ss := b_is_within_0_0
def d_is_within : Dd := ⟨s_is_within, ("is_within", none), "is_within", "is_within", N_is_within, 3, false, b_is_within, false⟩
theorem c_is_within : trSs (trS 40 40 (d_is_within.df.ctx G C)) (defBody d_is_within.st) = some d_is_within.b := by kernel_rfl
theorem u_is_within : bindOk d_is_within := fun _ _ _ _ _ _ us hl => match us, hl with | [_, _, _], _ => rfl
def b_is_number_0_0 : Ss := .cons (.ret (.call 2 (.cons (.v 0) (.cons (.c (.int (-32768))) (.cons (.c (.int (32767))) .nil))))) .nil
def b_is_number : Ss := b_is_number_0_0
def d_is_number : Dd := ⟨s_is_number, ("is_number", none), "is_number", "is_number", N_is_number, 1, false, b_is_number, false⟩
theorem c_is_number : trSs (trS 40 40 (d_is_number.df.ctx G C)) (defBody d_is_number.st) = some d_is_number.b := by kernel_rfl
theorem u_is_number : bindOk d_is_number := fun _ _ _ _ _ _ us hl => match us, hl with | [_], _ => rfl
def b_is_numbers_0_0 : Ss := .cons (.ret (.and (.blt .isi (.cons (.v 0) (.cons (.c (.ty "tuple")) .nil))) (.all [1] (.name 1) (.val (.v 0)) (.callL 3 (.cons (.v 1) .nil))))) .nil
def b_is_numbers : Ss := b_is_numbers_0_0
def d_is_numbers : Dd := ⟨s_is_numbers, ("is_numbers", none), "is_numbers", "is_numbers", N_is_numbers, 1, false, b_is_numbers, true⟩
theorem c_is_numbers : trSs (trS 40 40 (d_is_numbers.df.ctx G C)) (defBody d_is_numbers.st) = some d_is_numbers.b := by kernel_rfl
theorem u_is_numbers : bindOk d_is_numbers := fun _ _ _ _ _ _ us hl => match us, hl with | [_], _ => rfl
def b_is_word_0_1 : Ss := .cons (.ret (.all [1] (.name 1) (.val (.v 0)) (.cmp .In (.v 1) (.bin .Add (.c (.str "abcdefghijklmnopqrstuvwxyz")) (.c (.str "0123456789")))))) .nil
def b_is_word_1_0 : Ss := .cons (.ret (.c (.bl false))) .nil
def b_is_word_0_0 : Ss := .cons (.ifs (.or (.not (.blt .isi (.cons (.v 0) (.cons (.c (.ty "str")) .nil)))) (.or (.not (.chn .LtE .LtE (.c (.int (1))) (.blt .len (.cons (.v 0) .nil)) (.c (.int (12))))) (.or (.cmp .In (.v 0) (.c (.tup [(.str "and"), (.str "box"), (.str "code"), (.str "data"), (.str "due"), (.str "else"), (.str "every"), (.str "for"), (.str "from"), (.str "gap"), (.str "give"), (.str "hold"), (.str "if"), (.str "input"), (.str "let"), (.str "lock"), (.str "machine"), (.str "miss"), (.str "most"), (.str "not"), (.str "of"), (.str "or"), (.str "proc"), (.str "put"), (.str "rank"), (.str "row"), (.str "shared"), (.str "show"), (.str "table"), (.str "task"), (.str "to"), (.str "turn"), (.str "while")]))) (.cmp .NotIn (.ix (.v 0) (.c (.int (0)))) (.c (.str "abcdefghijklmnopqrstuvwxyz")))))) b_is_word_1_0 .nil) b_is_word_0_1
def b_is_word : Ss := b_is_word_0_0
def d_is_word : Dd := ⟨s_is_word, ("is_word", none), "is_word", "is_word", N_is_word, 1, false, b_is_word, true⟩
theorem c_is_word : trSs (trS 40 40 (d_is_word.df.ctx G C)) (defBody d_is_word.st) = some d_is_word.b := by kernel_rfl
theorem u_is_word : bindOk d_is_word := fun _ _ _ _ _ _ us hl => match us, hl with | [_], _ => rfl
def b_sum_of_0_6 : Ss := .cons (.ret (.blt .int (.cons (.cmp .NotEq (.v 1) (.v 2)) .nil))) .nil
def b_sum_of_1_0 : Ss := .cons (.ret (.blt .int (.cons (.cmp .Eq (.v 1) (.v 2)) .nil))) .nil
def b_sum_of_0_5 : Ss := .cons (.ifs (.cmp .Eq (.v 0) (.c (.str "equal"))) b_sum_of_1_0 .nil) b_sum_of_0_6
def b_sum_of_3_0 : Ss := .cons (.ret (.blt .int (.cons (.cmp .LtE (.v 1) (.v 2)) .nil))) .nil
def b_sum_of_0_4 : Ss := .cons (.ifs (.cmp .Eq (.v 0) (.c (.str "most"))) b_sum_of_3_0 .nil) b_sum_of_0_5
def b_sum_of_5_0 : Ss := .cons (.ret (.blt .int (.cons (.cmp .Lt (.v 1) (.v 2)) .nil))) .nil
def b_sum_of_0_3 : Ss := .cons (.ifs (.cmp .Eq (.v 0) (.c (.str "less"))) b_sum_of_5_0 .nil) b_sum_of_0_4
def b_sum_of_7_0 : Ss := .cons (.ret (.call 0 (.cons (.bin .Mult (.v 1) (.v 2)) .nil))) .nil
def b_sum_of_0_2 : Ss := .cons (.ifs (.cmp .Eq (.v 0) (.c (.str "times"))) b_sum_of_7_0 .nil) b_sum_of_0_3
def b_sum_of_9_0 : Ss := .cons (.ret (.call 0 (.cons (.bin .Sub (.v 1) (.v 2)) .nil))) .nil
def b_sum_of_0_1 : Ss := .cons (.ifs (.cmp .Eq (.v 0) (.c (.str "minus"))) b_sum_of_9_0 .nil) b_sum_of_0_2
def b_sum_of_11_0 : Ss := .cons (.ret (.call 0 (.cons (.bin .Add (.v 1) (.v 2)) .nil))) .nil
def b_sum_of_0_0 : Ss := .cons (.ifs (.cmp .Eq (.v 0) (.c (.str "plus"))) b_sum_of_11_0 .nil) b_sum_of_0_1
def b_sum_of : Ss := b_sum_of_0_0
def d_sum_of : Dd := ⟨s_sum_of, ("sum_of", none), "sum_of", "sum_of", N_sum_of, 3, false, b_sum_of, false⟩
theorem c_sum_of : trSs (trS 40 40 (d_sum_of.df.ctx G C)) (defBody d_sum_of.st) = some d_sum_of.b := by kernel_rfl
theorem u_sum_of : bindOk d_sum_of := fun _ _ _ _ _ _ us hl => match us, hl with | [_, _, _], _ => rfl
def b__law_draw_0_3 : Ss := .cons (.ret (.v 5)) .nil
def b__law_draw_0_2 : Ss := .cons (.setix (.v 0) (.c (.int (1))) (.bin .FloorDiv (.ix (.v 0) (.c (.int (1)))) (.v 2))) b__law_draw_0_3
def b__law_draw_0_1 : Ss := .cons (.asg (.name 5) (.bin .Mod (.blt .int (.cons (.ix (.v 0) (.c (.int (1)))) .nil)) (.v 2))) b__law_draw_0_2
def b__law_draw_1_6 : Ss := .cons (.setix (.v 0) (.c (.int (0))) (.bin .Add (.ix (.v 0) (.c (.int (0)))) (.c (.int (1))))) .nil
def b__law_draw_2_0 : Ss := .cons (.setix (.v 0) (.c (.int (1))) (.v 3)) .nil
def b__law_draw_1_5 : Ss := .cons (.ifs (.and (.cmp .GtE (.v 3) (.bin .Pow (.c (.int (10))) (.c (.int (18))))) (.cmp .Lt (.ix (.v 0) (.c (.int (0)))) (.blt .len (.cons (.v 1) .nil)))) b__law_draw_2_0 .nil) b__law_draw_1_6
def b__law_draw_1_4 : Ss := .cons (.setix (.v 0) (.c (.int (1))) (.bin .Mod (.blt .int (.cons (.bin .Add (.bin .Mult (.v 4) (.c (.int (69621)))) (.bin .Mult (.ix (.v 0) (.c (.int (0)))) (.c (.int (104729))))) .nil)) (.c (.int (4294967291))))) b__law_draw_1_5
def b__law_draw_1_3 : Ss := .cons (.asg (.name 4) (.bin .Mod (.blt .int (.cons (.bin .Mult (.bin .Add (.bin .Add (.v 3) (.bin .Mult (.ix (.v 0) (.c (.int (0)))) (.c (.int (7919))))) (.c (.int (1)))) (.c (.int (48271)))) .nil)) (.c (.int (2147483647))))) b__law_draw_1_4
def b__law_draw_4_0 : Ss := .cons (.asg (.name 3) (.bin .Sub (.c (.int (1))) (.bin .Mult (.c (.int (2))) (.v 3)))) .nil
def b__law_draw_1_2 : Ss := .cons (.ifs (.cmp .Lt (.v 3) (.c (.int (0)))) b__law_draw_4_0 .nil) b__law_draw_1_3
def b__law_draw_6_0 : Ss := .cons (.asg (.name 3) (.ix (.v 1) (.bin .Mod (.ix (.v 0) (.c (.int (0)))) (.blt .len (.cons (.v 1) .nil))))) .nil
def b__law_draw_1_1 : Ss := .cons (.ifs (.cmp .Gt (.blt .len (.cons (.v 1) .nil)) (.c (.int (0)))) b__law_draw_6_0 .nil) b__law_draw_1_2
def b__law_draw_1_0 : Ss := .cons (.asg (.name 3) (.c (.int (0)))) b__law_draw_1_1
def b__law_draw_0_0 : Ss := .cons (.ifs (.cmp .Eq (.ix (.v 0) (.c (.int (1)))) (.c (.int (0)))) b__law_draw_1_0 .nil) b__law_draw_0_1
def b__law_draw : Ss := b__law_draw_0_0
def d__law_draw : Dd := ⟨s__law_draw, ("_law_draw", none), "_law_draw", "_law_draw", N__law_draw, 3, false, b__law_draw, false⟩
theorem c__law_draw : trSs (trS 40 40 (d__law_draw.df.ctx G C)) (defBody d__law_draw.st) = some d__law_draw.b := by kernel_rfl
theorem u__law_draw : bindOk d__law_draw := fun _ _ _ _ _ _ us hl => match us, hl with | [_, _, _], _ => rfl
def b__law_wrapped_0_0 : Ss := .cons (.ret (.bin .Sub (.bin .Mod (.blt .int (.cons (.bin .Add (.v 0) (.c (.int (32768)))) .nil)) (.c (.int (65536)))) (.c (.int (32768))))) .nil
def b__law_wrapped : Ss := b__law_wrapped_0_0
def d__law_wrapped : Dd := ⟨s__law_wrapped, ("_law_wrapped", none), "_law_wrapped", "_law_wrapped", N__law_wrapped, 1, false, b__law_wrapped, false⟩
theorem c__law_wrapped : trSs (trS 40 40 (d__law_wrapped.df.ctx G C)) (defBody d__law_wrapped.st) = some d__law_wrapped.b := by kernel_rfl
theorem u__law_wrapped : bindOk d__law_wrapped := fun _ _ _ _ _ _ us hl => match us, hl with | [_], _ => rfl
def b__law_joined_0_8 : Ss := .cons (.ret (.blt .int (.cons (.cmp .NotEq (.v 1) (.v 2)) .nil))) .nil
def b__law_joined_1_0 : Ss := .cons (.ret (.blt .int (.cons (.cmp .Eq (.v 1) (.v 2)) .nil))) .nil
def b__law_joined_0_7 : Ss := .cons (.ifs (.cmp .Eq (.v 0) (.c (.str "equal"))) b__law_joined_1_0 .nil) b__law_joined_0_8
def b__law_joined_3_0 : Ss := .cons (.ret (.blt .int (.cons (.cmp .LtE (.v 1) (.v 2)) .nil))) .nil
def b__law_joined_0_6 : Ss := .cons (.ifs (.cmp .Eq (.v 0) (.c (.str "most"))) b__law_joined_3_0 .nil) b__law_joined_0_7
def b__law_joined_5_0 : Ss := .cons (.ret (.blt .int (.cons (.cmp .Lt (.v 1) (.v 2)) .nil))) .nil
def b__law_joined_0_5 : Ss := .cons (.ifs (.cmp .Eq (.v 0) (.c (.str "less"))) b__law_joined_5_0 .nil) b__law_joined_0_6
def b__law_joined_7_0 : Ss := .cons (.ret (.blt .max (.cons (.v 1) (.cons (.v 2) .nil)))) .nil
def b__law_joined_0_4 : Ss := .cons (.ifs (.cmp .Eq (.v 0) (.c (.str "or"))) b__law_joined_7_0 .nil) b__law_joined_0_5
def b__law_joined_9_0 : Ss := .cons (.ret (.bin .Mult (.v 1) (.v 2))) .nil
def b__law_joined_0_3 : Ss := .cons (.ifs (.cmp .Eq (.v 0) (.c (.str "and"))) b__law_joined_9_0 .nil) b__law_joined_0_4
def b__law_joined_11_0 : Ss := .cons (.ret (.call 8 (.cons (.bin .Mult (.v 1) (.v 2)) .nil))) .nil
def b__law_joined_0_2 : Ss := .cons (.ifs (.cmp .Eq (.v 0) (.c (.str "times"))) b__law_joined_11_0 .nil) b__law_joined_0_3
def b__law_joined_13_0 : Ss := .cons (.ret (.call 8 (.cons (.bin .Sub (.v 1) (.v 2)) .nil))) .nil
def b__law_joined_0_1 : Ss := .cons (.ifs (.cmp .Eq (.v 0) (.c (.str "minus"))) b__law_joined_13_0 .nil) b__law_joined_0_2
def b__law_joined_15_0 : Ss := .cons (.ret (.call 8 (.cons (.bin .Add (.v 1) (.v 2)) .nil))) .nil
def b__law_joined_0_0 : Ss := .cons (.ifs (.cmp .Eq (.v 0) (.c (.str "plus"))) b__law_joined_15_0 .nil) b__law_joined_0_1
def b__law_joined : Ss := b__law_joined_0_0
def d__law_joined : Dd := ⟨s__law_joined, ("_law_joined", none), "_law_joined", "_law_joined", N__law_joined, 3, false, b__law_joined, false⟩
theorem c__law_joined : trSs (trS 40 40 (d__law_joined.df.ctx G C)) (defBody d__law_joined.st) = some d__law_joined.b := by kernel_rfl
theorem u__law_joined : bindOk d__law_joined := fun _ _ _ _ _ _ us hl => match us, hl with | [_, _, _], _ => rfl
def b__law_raised_0_1 : Ss := .cons (.ret (.c .non)) .nil
def b__law_raised_2_0 : Ss := .cons (.raise_ 8 (.cons (.v 1) .nil)) .nil
def b__law_raised_1_7 : Ss := .cons (.ifs (.cmp .Eq (.v 0) (.c (.int (7)))) b__law_raised_2_0 .nil) .nil
def b__law_raised_4_0 : Ss := .cons (.raise_ 7 (.cons (.v 1) .nil)) .nil
def b__law_raised_1_6 : Ss := .cons (.ifs (.cmp .Eq (.v 0) (.c (.int (6)))) b__law_raised_4_0 .nil) b__law_raised_1_7
def b__law_raised_6_0 : Ss := .cons (.raise_ 6 (.cons (.v 1) .nil)) .nil
def b__law_raised_1_5 : Ss := .cons (.ifs (.cmp .Eq (.v 0) (.c (.int (5)))) b__law_raised_6_0 .nil) b__law_raised_1_6
def b__law_raised_8_0 : Ss := .cons (.raise_ 5 (.cons (.v 1) .nil)) .nil
def b__law_raised_1_4 : Ss := .cons (.ifs (.cmp .Eq (.v 0) (.c (.int (4)))) b__law_raised_8_0 .nil) b__law_raised_1_5
def b__law_raised_10_0 : Ss := .cons (.raise_ 4 (.cons (.v 1) .nil)) .nil
def b__law_raised_1_3 : Ss := .cons (.ifs (.cmp .Eq (.v 0) (.c (.int (3)))) b__law_raised_10_0 .nil) b__law_raised_1_4
def b__law_raised_12_0 : Ss := .cons (.raise_ 3 (.cons (.v 1) .nil)) .nil
def b__law_raised_1_2 : Ss := .cons (.ifs (.cmp .Eq (.v 0) (.c (.int (2)))) b__law_raised_12_0 .nil) b__law_raised_1_3
def b__law_raised_14_0 : Ss := .cons (.raise_ 2 (.cons (.v 1) .nil)) .nil
def b__law_raised_1_1 : Ss := .cons (.ifs (.cmp .Eq (.v 0) (.c (.int (1)))) b__law_raised_14_0 .nil) b__law_raised_1_2
def b__law_raised_16_0 : Ss := .cons (.raise_ 1 (.cons (.v 1) .nil)) .nil
def b__law_raised_1_0 : Ss := .cons (.ifs (.cmp .Eq (.v 0) (.c (.int (0)))) b__law_raised_16_0 .nil) b__law_raised_1_1
def b__law_raised_0_0 : Ss := .cons (.tryR b__law_raised_1_0 0 2 (.tup (.cons (.xf 2 "name") (.cons (.xf 2 "place") .nil)))) b__law_raised_0_1
def b__law_raised : Ss := b__law_raised_0_0
def d__law_raised : Dd := ⟨s__law_raised, ("_law_raised", none), "_law_raised", "_law_raised", N__law_raised, 2, false, b__law_raised, false⟩
theorem c__law_raised : trSs (trS 40 40 (d__law_raised.df.ctx G C)) (defBody d__law_raised.st) = some d__law_raised.b := by kernel_rfl
theorem u__law_raised : bindOk d__law_raised := fun _ _ _ _ _ _ us hl => match us, hl with | [_, _], _ => rfl
def b_law_0_12 : Ss := .cons (.ret (.and (.not (.call 2 (.cons (.c (.bl true)) (.cons (.c (.int (0))) (.cons (.c (.int (5))) .nil))))) (.not (.call 2 (.cons (.c (.str "1")) (.cons (.c (.int (0))) (.cons (.c (.int (5))) .nil))))))) .nil
def b_law_2_0 : Ss := .cons (.ret (.c (.bl false))) .nil
def b_law_1_0 : Ss := .cons (.ifs (.cmp .NotEq (.call 2 (.cons (.v 3) (.cons (.v 14) (.cons (.v 15) .nil)))) (.and (.cmp .LtE (.v 14) (.v 3)) (.cmp .LtE (.v 3) (.v 15)))) b_law_2_0 .nil) .nil
def b_law_0_11 : Ss := .cons (.for_ (.name 3) (.rng2 (.neg (.c (.int (30)))) (.c (.int (50)))) b_law_1_0) b_law_0_12
def b_law_0_10 : Ss := .cons (.asg (.name 15) (.bin .Add (.v 14) (.call 7 (.cons (.v 1) (.cons (.v 0) (.cons (.c (.int (20))) .nil)))))) b_law_0_11
def b_law_0_9 : Ss := .cons (.asg (.name 14) (.bin .Sub (.call 7 (.cons (.v 1) (.cons (.v 0) (.cons (.c (.int (50))) .nil)))) (.c (.int (25))))) b_law_0_10
def b_law_4_0 : Ss := .cons (.ret (.c (.bl false))) .nil
def b_law_0_8 : Ss := .cons (.ifs (.or (.cmp .NotEq (.v 10) (.lst (.cons (.c (.int (0))) (.cons (.c (.int (1))) (.cons (.c (.int (2))) (.cons (.c (.int (18))) (.cons (.c (.int (19))) (.cons (.c (.int (20))) (.cons (.c (.int (21))) .nil))))))))) (.or (.cmp .NotEq (.v 11) (.lst (.cons (.c (.int (0))) (.cons (.c (.int (1))) (.cons (.c (.int (2))) (.cons (.c (.int (18))) (.cons (.c (.int (20))) .nil))))))) (.or (.cmp .NotEq (.v 12) (.lst (.cons (.c (.int (16))) (.cons (.c (.int (17))) .nil)))) (.cmp .NotEq (.v 13) (.lst (.cons (.c (.int (7))) (.cons (.c (.int (8))) (.cons (.c (.int (12))) (.cons (.c (.int (29))) (.cons (.c (.int (30))) .nil)))))))))) b_law_4_0 .nil) b_law_0_9
def b_law_7_0 : Ss := .cons (.expr (.mth .append (.v 13) (.cons (.v 3) .nil))) .nil
def b_law_6_3 : Ss := .cons (.ifs (.call 5 (.cons (.ix (.v 9) (.v 3)) .nil)) b_law_7_0 .nil) .nil
def b_law_9_0 : Ss := .cons (.expr (.mth .append (.v 12) (.cons (.v 3) .nil))) .nil
def b_law_6_2 : Ss := .cons (.ifs (.call 4 (.cons (.ix (.v 9) (.v 3)) .nil)) b_law_9_0 .nil) b_law_6_3
def b_law_11_0 : Ss := .cons (.expr (.mth .append (.v 11) (.cons (.v 3) .nil))) .nil
def b_law_6_1 : Ss := .cons (.ifs (.call 3 (.cons (.ix (.v 9) (.v 3)) .nil)) b_law_11_0 .nil) b_law_6_2
def b_law_13_0 : Ss := .cons (.expr (.mth .append (.v 10) (.cons (.v 3) .nil))) .nil
def b_law_6_0 : Ss := .cons (.ifs (.call 1 (.cons (.ix (.v 9) (.v 3)) .nil)) b_law_13_0 .nil) b_law_6_1
def b_law_0_7 : Ss := .cons (.for_ (.name 3) (.rng1 (.blt .len (.cons (.v 9) .nil))) b_law_6_0) b_law_0_8
def b_law_0_6 : Ss := .cons (.asg (.tup [(.name 10), (.name 11), (.name 12), (.name 13)]) (.tup (.cons (.lst .nil) (.cons (.lst .nil) (.cons (.lst .nil) (.cons (.lst .nil) .nil)))))) b_law_0_7
def b_law_0_5 : Ss := .cons (.asg (.name 9) (.bin .Add (.v 9) (.lst (.cons (.c (.int (32767))) (.cons (.c (.int (32768))) (.cons (.neg (.c (.int (32768)))) (.cons (.neg (.c (.int (32769)))) (.cons (.tup (.cons (.c (.int (1))) (.cons (.c (.bl true)) .nil))) (.cons (.lst (.cons (.c (.int (1))) .nil)) (.cons (.tup (.cons (.c (.int (32768))) .nil)) (.cons (.tup (.cons (.c (.str "a")) .nil)) (.cons (.tup (.cons (.c .non) .nil)) (.cons (.dic .nil) (.cons (.c (.str "rank")) (.cons (.c (.str "ranks")) (.cons (.c (.str "size")) .nil)))))))))))))))) b_law_0_6
def b_law_0_4 : Ss := .cons (.asg (.name 9) (.lst (.cons (.c (.int (0))) (.cons (.c (.int (1))) (.cons (.neg (.c (.int (1)))) (.cons (.c (.bl true)) (.cons (.c (.bl false)) (.cons (.c .non) (.cons (.c (.str "")) (.cons (.c (.str "a")) (.cons (.c (.str "b1")) (.cons (.c (.str "1b")) (.cons (.c (.str "for")) (.cons (.c (.str "machine")) (.cons (.c (.str "abcdefghijkl")) (.cons (.c (.str "abcdefghijklm")) (.cons (.c (.str "A")) (.cons (.c (.str "a_b")) (.cons (.tup .nil) (.cons (.tup (.cons (.c (.int (1))) (.cons (.c (.int (2))) .nil))) .nil)))))))))))))))))))) b_law_0_5
def b_law_17_0 : Ss := .cons (.ret (.c (.bl false))) .nil
def b_law_16_1 : Ss := .cons (.ifs (.or (.cmp .NotEq (.v 8) (.call 9 (.cons (.v 7) (.cons (.v 5) (.cons (.v 6) .nil))))) (.or (.not (.blt .isi (.cons (.v 8) (.cons (.c (.ty "int")) .nil)))) (.blt .isi (.cons (.v 8) (.cons (.c (.ty "bool")) .nil))))) b_law_17_0 .nil) .nil
def b_law_16_0 : Ss := .cons (.asg (.name 8) (.call 6 (.cons (.v 7) (.cons (.v 5) (.cons (.v 6) .nil))))) b_law_16_1
def b_law_15_5 : Ss := .cons (.for_ (.name 7) (.val (.tup (.cons (.c (.str "plus")) (.cons (.c (.str "minus")) (.cons (.c (.str "times")) (.cons (.c (.str "less")) (.cons (.c (.str "most")) (.cons (.c (.str "equal")) (.cons (.c (.str "unlike")) .nil))))))))) b_law_16_0) .nil
def b_law_19_0 : Ss := .cons (.asg (.name 5) (.v 6)) .nil
def b_law_15_4 : Ss := .cons (.ifs (.cmp .Eq (.call 7 (.cons (.v 1) (.cons (.v 0) (.cons (.c (.int (4))) .nil)))) (.c (.int (0)))) b_law_19_0 .nil) b_law_15_5
def b_law_15_3 : Ss := .cons (.asg (.name 5) (.call 8 (.cons (.v 5) .nil))) b_law_15_4
def b_law_21_0 : Ss := .cons (.ret (.c (.bl false))) .nil
def b_law_15_2 : Ss := .cons (.ifs (.or (.cmp .NotEq (.call 0 (.cons (.v 5) .nil)) (.call 8 (.cons (.v 5) .nil))) (.not (.chn .LtE .LtE (.neg (.c (.int (32768)))) (.call 0 (.cons (.v 5) .nil)) (.c (.int (32767)))))) b_law_21_0 .nil) b_law_15_3
def b_law_15_1 : Ss := .cons (.asg (.name 6) (.bin .Sub (.call 7 (.cons (.v 1) (.cons (.v 0) (.cons (.c (.int (65536))) .nil)))) (.c (.int (32768))))) b_law_15_2
def b_law_15_0 : Ss := .cons (.asg (.name 5) (.bin .Sub (.call 7 (.cons (.v 1) (.cons (.v 0) (.cons (.c (.int (200000))) .nil)))) (.c (.int (100000))))) b_law_15_1
def b_law_0_3 : Ss := .cons (.for_ (.name 3) (.rng1 (.c (.int (12)))) b_law_15_0) b_law_0_4
def b_law_24_0 : Ss := .cons (.ret (.c (.bl false))) .nil
def b_law_23_1 : Ss := .cons (.ifs (.cmp .NotEq (.call 10 (.cons (.v 3) (.cons (.v 4) .nil))) (.tup (.cons (.ix (.v 2) (.v 3)) (.cons (.v 4) .nil)))) b_law_24_0 .nil) .nil
def b_law_23_0 : Ss := .cons (.asg (.name 4) (.call 7 (.cons (.v 1) (.cons (.v 0) (.cons (.c (.int (1000))) .nil))))) b_law_23_1
def b_law_0_2 : Ss := .cons (.for_ (.name 3) (.rng1 (.c (.int (8)))) b_law_23_0) b_law_0_3
def b_law_0_1 : Ss := .cons (.asg (.name 2) (.lst (.cons (.c (.str "TooLarge")) (.cons (.c (.str "InvalidText")) (.cons (.c (.str "InvalidTree")) (.cons (.c (.str "InvalidCode")) (.cons (.c (.str "InvalidState")) (.cons (.c (.str "InvalidRun")) (.cons (.c (.str "InvalidPaper")) (.cons (.c (.str "InvalidName")) .nil)))))))))) b_law_0_2
def b_law_0_0 : Ss := .cons (.asg (.name 1) (.lst (.cons (.c (.int (0))) (.cons (.c (.int (0))) .nil)))) b_law_0_1
def b_law : Ss := b_law_0_0
def d_law : Dd := ⟨s_law, ("law", none), "law", "law", N_law, 1, false, b_law, false⟩
theorem c_law : trSs (trS 40 40 (d_law.df.ctx G C)) (defBody d_law.st) = some d_law.b := by kernel_rfl
theorem u_law : bindOk d_law := fun _ _ _ _ _ _ us hl => match us, hl with | [_], _ => rfl
def T : List Dd := [d_wrapped, d_is_whole, d_is_within, d_is_number, d_is_numbers, d_is_word, d_sum_of, d__law_draw, d__law_wrapped, d__law_joined, d__law_raised, d_law]
def x_0 : Xd := ⟨"TicksaheadError", "TicksaheadError.__init__", ctop 15 0⟩
theorem bx_0 : bindX x_0 := fun _ _ _ _ _ _ _ _ _ => rfl
def x_1 : Xd := ⟨"TooLarge", "TooLarge.__init__", ctop 16 0⟩
theorem bx_1 : bindX x_1 := fun _ _ _ _ _ _ _ _ _ => rfl
def x_2 : Xd := ⟨"InvalidText", "InvalidText.__init__", ctop 17 0⟩
theorem bx_2 : bindX x_2 := fun _ _ _ _ _ _ _ _ _ => rfl
def x_3 : Xd := ⟨"InvalidTree", "InvalidTree.__init__", ctop 18 0⟩
theorem bx_3 : bindX x_3 := fun _ _ _ _ _ _ _ _ _ => rfl
def x_4 : Xd := ⟨"InvalidCode", "InvalidCode.__init__", ctop 19 0⟩
theorem bx_4 : bindX x_4 := fun _ _ _ _ _ _ _ _ _ => rfl
def x_5 : Xd := ⟨"InvalidState", "InvalidState.__init__", ctop 20 0⟩
theorem bx_5 : bindX x_5 := fun _ _ _ _ _ _ _ _ _ => rfl
def x_6 : Xd := ⟨"InvalidRun", "InvalidRun.__init__", ctop 21 0⟩
theorem bx_6 : bindX x_6 := fun _ _ _ _ _ _ _ _ _ => rfl
def x_7 : Xd := ⟨"InvalidPaper", "InvalidPaper.__init__", ctop 22 0⟩
theorem bx_7 : bindX x_7 := fun _ _ _ _ _ _ _ _ _ => rfl
def x_8 : Xd := ⟨"InvalidName", "InvalidName.__init__", ctop 23 0⟩
theorem bx_8 : bindX x_8 := fun _ _ _ _ _ _ _ _ _ => rfl
def X : List Xd := [x_0, x_1, x_2, x_3, x_4, x_5, x_6, x_7, x_8]
def p : Pg := ⟨T, G, C, X, PySem.Challenge.pw_ticksahead_k00_numbers_and_errors.main.file⟩
theorem p_ok : p.ok = true := by decide +kernel
theorem p_okx : p.okx = true := by decide +kernel
theorem p_bx : ∀ d ∈ p.X, bindX d := show ∀ d ∈ X, bindX d from (List.forall_mem_cons.mpr ⟨bx_0, (List.forall_mem_cons.mpr ⟨bx_1, (List.forall_mem_cons.mpr ⟨bx_2, (List.forall_mem_cons.mpr ⟨bx_3, (List.forall_mem_cons.mpr ⟨bx_4, (List.forall_mem_cons.mpr ⟨bx_5, (List.forall_mem_cons.mpr ⟨bx_6, (List.forall_mem_cons.mpr ⟨bx_7, (List.forall_mem_cons.mpr ⟨bx_8, (fun _ h => nomatch h)⟩)⟩)⟩)⟩)⟩)⟩)⟩)⟩)⟩)
theorem xlen : (List.map (fun d : Xd => d.name) p.X).length = 9 := rfl
theorem tx {fu k c i : Nat} {e : E} {K : KS} {c2 : Nat} {fs : List (Str × D)} {δ : Dl} {μ : Mu} : tryX (omAt p fu k) c i e K c2 fs δ μ = if c2 < 9 ∧ c < 9 then (if xsub c2 c = true then W (ev (omAt p fu k) e (δ.set i (some (.loc μ.length))) (μ ++ [.xd fs])) K.r (fun _ _ _ => False) else K.x c2 fs δ μ) else False := rfl
theorem mkx_0 {d : D} : mkX (List.map (fun d : Xd => d.name) p.X) 0 d = [(("name" : Str), .str "TicksaheadError"), (("place" : Str), d)] := rfl
theorem mkx_1 {d : D} : mkX (List.map (fun d : Xd => d.name) p.X) 1 d = [(("name" : Str), .str "TooLarge"), (("name" : Str), .str "TicksaheadError"), (("place" : Str), d)] := rfl
theorem mkx_2 {d : D} : mkX (List.map (fun d : Xd => d.name) p.X) 2 d = [(("name" : Str), .str "InvalidText"), (("name" : Str), .str "TicksaheadError"), (("place" : Str), d)] := rfl
theorem mkx_3 {d : D} : mkX (List.map (fun d : Xd => d.name) p.X) 3 d = [(("name" : Str), .str "InvalidTree"), (("name" : Str), .str "TicksaheadError"), (("place" : Str), d)] := rfl
theorem mkx_4 {d : D} : mkX (List.map (fun d : Xd => d.name) p.X) 4 d = [(("name" : Str), .str "InvalidCode"), (("name" : Str), .str "TicksaheadError"), (("place" : Str), d)] := rfl
theorem mkx_5 {d : D} : mkX (List.map (fun d : Xd => d.name) p.X) 5 d = [(("name" : Str), .str "InvalidState"), (("name" : Str), .str "TicksaheadError"), (("place" : Str), d)] := rfl
theorem mkx_6 {d : D} : mkX (List.map (fun d : Xd => d.name) p.X) 6 d = [(("name" : Str), .str "InvalidRun"), (("name" : Str), .str "TicksaheadError"), (("place" : Str), d)] := rfl
theorem mkx_7 {d : D} : mkX (List.map (fun d : Xd => d.name) p.X) 7 d = [(("name" : Str), .str "InvalidPaper"), (("name" : Str), .str "TicksaheadError"), (("place" : Str), d)] := rfl
theorem mkx_8 {d : D} : mkX (List.map (fun d : Xd => d.name) p.X) 8 d = [(("name" : Str), .str "InvalidName"), (("name" : Str), .str "TicksaheadError"), (("place" : Str), d)] := rfl
def tbl : List Str := [("plus" : Str), ("minus" : Str), ("times" : Str), ("less" : Str), ("most" : Str), ("equal" : Str), ("and" : Str), ("or" : Str), ("TooLarge" : Str), ("InvalidText" : Str), ("InvalidTree" : Str), ("InvalidCode" : Str), ("InvalidState" : Str), ("InvalidRun" : Str), ("InvalidPaper" : Str), ("InvalidName" : Str), ("" : Str), ("a" : Str), ("b1" : Str), ("1b" : Str), ("for" : Str), ("machine" : Str), ("abcdefghijkl" : Str), ("abcdefghijklm" : Str), ("A" : Str), ("a_b" : Str), ("unlike" : Str), ("rank" : Str), ("ranks" : Str), ("size" : Str), ("1" : Str), ("TicksaheadError" : Str), ("name" : Str), ("place" : Str)]
def sIx (x : Str) : Option Nat := tbl.idxOf? x
theorem sx_0 : sIx "plus" = some 0 := by decide +kernel
theorem sx_1 : sIx "minus" = some 1 := by decide +kernel
theorem sx_2 : sIx "times" = some 2 := by decide +kernel
theorem sx_3 : sIx "less" = some 3 := by decide +kernel
theorem sx_4 : sIx "most" = some 4 := by decide +kernel
theorem sx_5 : sIx "equal" = some 5 := by decide +kernel
theorem sx_6 : sIx "and" = some 6 := by decide +kernel
theorem sx_7 : sIx "or" = some 7 := by decide +kernel
theorem sx_8 : sIx "TooLarge" = some 8 := by decide +kernel
theorem sx_9 : sIx "InvalidText" = some 9 := by decide +kernel
theorem sx_10 : sIx "InvalidTree" = some 10 := by decide +kernel
theorem sx_11 : sIx "InvalidCode" = some 11 := by decide +kernel
theorem sx_12 : sIx "InvalidState" = some 12 := by decide +kernel
theorem sx_13 : sIx "InvalidRun" = some 13 := by decide +kernel
theorem sx_14 : sIx "InvalidPaper" = some 14 := by decide +kernel
theorem sx_15 : sIx "InvalidName" = some 15 := by decide +kernel
theorem sx_16 : sIx "" = some 16 := by decide +kernel
theorem sx_17 : sIx "a" = some 17 := by decide +kernel
theorem sx_18 : sIx "b1" = some 18 := by decide +kernel
theorem sx_19 : sIx "1b" = some 19 := by decide +kernel
theorem sx_20 : sIx "for" = some 20 := by decide +kernel
theorem sx_21 : sIx "machine" = some 21 := by decide +kernel
theorem sx_22 : sIx "abcdefghijkl" = some 22 := by decide +kernel
theorem sx_23 : sIx "abcdefghijklm" = some 23 := by decide +kernel
theorem sx_24 : sIx "A" = some 24 := by decide +kernel
theorem sx_25 : sIx "a_b" = some 25 := by decide +kernel
theorem sx_26 : sIx "unlike" = some 26 := by decide +kernel
theorem sx_27 : sIx "rank" = some 27 := by decide +kernel
theorem sx_28 : sIx "ranks" = some 28 := by decide +kernel
theorem sx_29 : sIx "size" = some 29 := by decide +kernel
theorem sx_30 : sIx "1" = some 30 := by decide +kernel
theorem sx_31 : sIx "TicksaheadError" = some 31 := by decide +kernel
theorem sx_32 : sIx "name" = some 32 := by decide +kernel
theorem sx_33 : sIx "place" = some 33 := by decide +kernel
theorem str_b {x y : Str} (hx : (sIx x).isSome = true) (hy : (sIx y).isSome = true) : (x == y) = (sIx x == sIx y) := str_beq hx
theorem str_e {x y : Str} (hx : (sIx x).isSome = true) (hy : (sIx y).isSome = true) : (x = y) = (sIx x = sIx y) := str_eq hx
theorem p_b : ∀ (i : Nat) (d : Dd), p.T[i]? = some d → trSs (trS 40 40 (d.df.ctx p.G p.C)) (defBody d.st) = some d.b
  | 0, d, h => by cases (show some d_wrapped = some d from h); exact c_wrapped
  | 1, d, h => by cases (show some d_is_whole = some d from h); exact c_is_whole
  | 2, d, h => by cases (show some d_is_within = some d from h); exact c_is_within
  | 3, d, h => by cases (show some d_is_number = some d from h); exact c_is_number
  | 4, d, h => by cases (show some d_is_numbers = some d from h); exact c_is_numbers
  | 5, d, h => by cases (show some d_is_word = some d from h); exact c_is_word
  | 6, d, h => by cases (show some d_sum_of = some d from h); exact c_sum_of
  | 7, d, h => by cases (show some d__law_draw = some d from h); exact c__law_draw
  | 8, d, h => by cases (show some d__law_wrapped = some d from h); exact c__law_wrapped
  | 9, d, h => by cases (show some d__law_joined = some d from h); exact c__law_joined
  | 10, d, h => by cases (show some d__law_raised = some d from h); exact c__law_raised
  | 11, d, h => by cases (show some d_law = some d from h); exact c_law
  | i + 12, d, h => by cases (show (none : Option Dd) = some d from h)
theorem p_bind : ∀ (i : Nat) (d : Dd), p.T[i]? = some d → bindOk d
  | 0, d, h => by cases (show some d_wrapped = some d from h); exact u_wrapped
  | 1, d, h => by cases (show some d_is_whole = some d from h); exact u_is_whole
  | 2, d, h => by cases (show some d_is_within = some d from h); exact u_is_within
  | 3, d, h => by cases (show some d_is_number = some d from h); exact u_is_number
  | 4, d, h => by cases (show some d_is_numbers = some d from h); exact u_is_numbers
  | 5, d, h => by cases (show some d_is_word = some d from h); exact u_is_word
  | 6, d, h => by cases (show some d_sum_of = some d from h); exact u_sum_of
  | 7, d, h => by cases (show some d__law_draw = some d from h); exact u__law_draw
  | 8, d, h => by cases (show some d__law_wrapped = some d from h); exact u__law_wrapped
  | 9, d, h => by cases (show some d__law_joined = some d from h); exact u__law_joined
  | 10, d, h => by cases (show some d__law_raised = some d from h); exact u__law_raised
  | 11, d, h => by cases (show some d_law = some d from h); exact u_law
  | i + 12, d, h => by cases (show (none : Option Dd) = some d from h)
abbrev i_wrapped : Nat := 0
theorem f_wrapped {fu k : Nat} {μ : Mu} {a0 : D} : phi p fu (k + 1) 0 [a0] μ = runB (omAt p fu k) 1 b_wrapped [a0] μ := rfl
abbrev i_is_whole : Nat := 1
theorem f_is_whole {fu k : Nat} {μ : Mu} {a0 : D} : phi p fu (k + 1) 1 [a0] μ = runB (omAt p fu k) 1 b_is_whole [a0] μ := rfl
abbrev i_is_within : Nat := 2
theorem f_is_within {fu k : Nat} {μ : Mu} {a0 a1 a2 : D} : phi p fu (k + 1) 2 [a0, a1, a2] μ = runB (omAt p fu k) 3 b_is_within [a0, a1, a2] μ := rfl
abbrev i_is_number : Nat := 3
theorem f_is_number {fu k : Nat} {μ : Mu} {a0 : D} : phi p fu (k + 1) 3 [a0] μ = runB (omAt p fu k) 1 b_is_number [a0] μ := rfl
abbrev i_is_numbers : Nat := 4
theorem f_is_numbers {fu k : Nat} {μ : Mu} {a0 : D} : phi p fu (k + 1) 4 [a0] μ = runB (omAt p fu k) 2 b_is_numbers [a0] μ := rfl
abbrev i_is_word : Nat := 5
theorem f_is_word {fu k : Nat} {μ : Mu} {a0 : D} : phi p fu (k + 1) 5 [a0] μ = runB (omAt p fu k) 2 b_is_word [a0] μ := rfl
abbrev i_sum_of : Nat := 6
theorem f_sum_of {fu k : Nat} {μ : Mu} {a0 a1 a2 : D} : phi p fu (k + 1) 6 [a0, a1, a2] μ = runB (omAt p fu k) 3 b_sum_of [a0, a1, a2] μ := rfl
abbrev i__law_draw : Nat := 7
theorem f__law_draw {fu k : Nat} {μ : Mu} {a0 a1 a2 : D} : phi p fu (k + 1) 7 [a0, a1, a2] μ = runB (omAt p fu k) 6 b__law_draw [a0, a1, a2] μ := rfl
abbrev i__law_wrapped : Nat := 8
theorem f__law_wrapped {fu k : Nat} {μ : Mu} {a0 : D} : phi p fu (k + 1) 8 [a0] μ = runB (omAt p fu k) 1 b__law_wrapped [a0] μ := rfl
abbrev i__law_joined : Nat := 9
theorem f__law_joined {fu k : Nat} {μ : Mu} {a0 a1 a2 : D} : phi p fu (k + 1) 9 [a0, a1, a2] μ = runB (omAt p fu k) 3 b__law_joined [a0, a1, a2] μ := rfl
abbrev i__law_raised : Nat := 10
theorem f__law_raised {fu k : Nat} {μ : Mu} {a0 a1 : D} : phi p fu (k + 1) 10 [a0, a1] μ = runB (omAt p fu k) 3 b__law_raised [a0, a1] μ := rfl
abbrev i_law : Nat := 11
theorem f_law {fu k : Nat} {μ : Mu} {a0 : D} : phi p fu (k + 1) 11 [a0] μ = runB (omAt p fu k) 16 b_law [a0] μ := rfl
end K00
local macro_rules | `(tactic| simp_all! only [$ls,*]) => `(tactic| simp only [Tk.kBind_ap, Tk.kBin2_ap, Tk.kBin1_ap, Tk.kNeg_ap, Tk.kCmp2_ap, Tk.kCmp1_ap, Tk.kChn3_ap, Tk.kChn2_ap, Tk.kChn1_ap, Tk.kAnd_ap, Tk.kOr_ap, Tk.kNot_ap, Tk.kIte_ap, Tk.kIx2_ap, Tk.kIx1_ap, Tk.kSl3_ap, Tk.kSl2_ap, Tk.kSl1_ap, Tk.kCall_ap, Tk.kBlt_ap, Tk.kMth2_ap, Tk.kMth1_ap, Tk.kTup_ap, Tk.kLst_ap, Tk.kLc_ap, Tk.kIn2_ap, Tk.kLc2_ap, Tk.kFld_ap, Tk.kMc2_ap, Tk.kMc1_ap, Tk.kMk1_ap, Tk.kDc_ap, Tk.kDic_ap, Tk.kCons2_ap, Tk.kCons1_ap, Tk.kOs_ap, Tk.kVal_ap, Tk.kR1_ap, Tk.kEnm_ap, Tk.kR2b_ap, Tk.kR2a_ap, Tk.kPc3_ap, Tk.kPc2_ap, Tk.kPc1_ap, Tk.tAnd_ap, Tk.tOr_ap, Tk.tNot_ap, Tk.kBo_ap, Tk.kTru_ap, Tk.kAsg_ap, Tk.kX_ap, Tk.kSet4_ap, Tk.kSet3_ap, Tk.kSet2_ap, Tk.kSet1_ap, Tk.kAug3_ap, Tk.kAug2_ap, Tk.kAug1_ap, Tk.kSf2_ap, Tk.kSf1_ap, Tk.kExp_ap, Tk.kIfs_ap, Tk.kFor_ap, Tk.seqK_n, Tk.seqK_r, Tk.seqK_b, Tk.seqK_c, Tk.seqK_x, Tk.runK_n, Tk.runK_r, Tk.runK_b, Tk.runK_c, Tk.runK_x, Tk.w_ok, Tk.w_stuck, Tk.ws_nx, Tk.ws_ret, Tk.ws_stuck, Tk.w_bind, Tk.w_ifs, Tk.rdV_0, Tk.rdV_s, Tk.andR_b, Tk.orR_b, Tk.w_v, Tk.w_c, Tk.w_tup, Tk.w_lst, Tk.w_bin, Tk.w_neg, Tk.w_cmp, Tk.w_chn, Tk.w_and, Tk.w_or, Tk.w_not, Tk.w_ite, Tk.w_ix, Tk.w_sl, Tk.w_call, Tk.w_blt, Tk.w_mth, Tk.w_lc, Tk.w_lc2, Tk.w_fld, Tk.w_mc, Tk.w_mk, Tk.w_dc, Tk.w_dic, Tk.w_nil, Tk.w_cons, Tk.w_on, Tk.w_os, Tk.w_tn, Tk.w_ts, Tk.w_iv, Tk.w_i1, Tk.w_ie, Tk.w_i2, Tk.w_pn, Tk.w_pc, Tk.t_and, Tk.t_or, Tk.t_not, Tk.t_cmp, Tk.t_chn, Tk.t_v, Tk.t_c, Tk.t_ix, Tk.t_call, Tk.t_blt, Tk.t_mth, Tk.t_fld, Tk.t_mc, Tk.s_asg, Tk.s_setix, Tk.s_aug, Tk.s_expr, Tk.s_ret, Tk.s_retn, Tk.s_ifs, Tk.s_for, Tk.s_while, Tk.s_setfld, Tk.s_bad, Tk.s_pass, Tk.s_brk, Tk.s_cont, Tk.s_nil, Tk.s_cons, Tk.w_runB, Tk.w_in2, Tk.mcW_s, Tk.mkW_s, Tk.kMk2_n, Tk.sizeLine_eq, Tk.setR_s, Tk.ixN_0, Tk.ixN_1, Tk.ixN_l, Tk.resO_s, Tk.ix_tup, Tk.atI_0, Tk.atI_1, Tk.atI_l, Tk.b_add, Tk.b_sub, Tk.b_mul, Tk.b_pow, Tk.cmulS_r, Tk.cmulS_l, Tk.small_u, Tk.natAbs_l, Tk.b_div, Tk.b_mod, Tk.b_tup, Tk.b_str, Tk.a_add, Tk.a_sub, Tk.n_int, Tk.optB_s, Tk.c_eq, Tk.c_ne, Tk.c_lt, Tk.c_le, Tk.c_gt, Tk.c_ge, Tk.c_in, Tk.c_ni, Tk.c_inl, Tk.c_nil, Tk.inO_l, Tk.inO_ds, Tk.inO_di, Tk.inD_tup, Tk.eqD_ii, Tk.eqD_ss, Tk.eqD_nn, Tk.eqD_bb, Tk.eqD_iv, Tk.eqF_ii, Tk.eqF_ss, Tk.bl_len_tup, Tk.bl_int, Tk.bl_bool, Tk.bl_max, Tk.bl_min, Tk.optN_s, Tk.bl_list_tup, Tk.bl_isi, Tk.newl_eq, Tk.tru_b, Tk.tru_n, Tk.tru_i, Tk.not_b, Tk.valS_t, Tk.rng1_j, Tk.rng2_j, Tk.optI_i, Tk.inF, Tk.flatD, Tk.at_app, Tk.at_app0, Tk.set_app, Tk.set_app0, Tk.lst_u, Tk.lstO_l, Tk.lstO_f, Tk.ix_u, Tk.ixO_l, Tk.ixO_f, Tk.ixO_ds, Tk.ixO_di, Tk.optK_s, Tk.len_u, Tk.lenO_l, Tk.lenO_f, Tk.lenO_d, Tk.str_i, Tk.extO_l, Tk.ext_u, Tk.mk_e, Tk.mk_i, Tk.mk_p, Tk.fixO_s, Tk.idxO_l, Tk.idx_u, Tk.popO_l, Tk.pop_u, Tk.max_u, Tk.min_u, Tk.list_u, Tk.tuple_u, Tk.optJ_s, Tk.sorted_u, Tk.valO_s, Tk.valS_u, Tk.isLO_l, Tk.mk_u, Tk.appR_l, Tk.m_u, Tk.isDO_d, Tk.mk_g, Tk.getO_s, Tk.getO_i, Tk.g_u, Tk.disO_d, Tk.dis_u, Tk.key_s, Tk.key_i, Tk.valD_c, Tk.valD_n, Tk.setO_l, Tk.set_u, Tk.intsD, Tk.intsD_map, Tk.minI_c, Tk.maxI_c, Tk.boD_b, Tk.bindG_n, Tk.bindG_t, Tk.bindGs_n, Tk.bindGs_c, Tk.asgO_s, Tk.asgR_u, Tk.fld_u, Tk.fldO_i, Tk.meth_u, Tk.methO_i, Tk.init_u, Tk.setf_u, Tk.setfO_i, Tk.putFD_n, Tk.putFD_c, Tk.lookup_c, Tk.lookup_n, Tk.enm_t, Nat.reduceAdd, Nat.reduceSub, Nat.reduceLeDiff, Nat.reduceLT, Int.reduceLT, Int.reduceLE, Int.reducePow, Int.reduceToNat, Int.reduceNeg, Nat.reducePow, Int.reduceAbs, List.all_cons, List.all_nil, List.any_cons, List.any_nil, Bool.and_true, Bool.true_and, Bool.or_false, Bool.false_or, Bool.or_true, Bool.true_or, Bool.and_false, Bool.false_and, Bool.not_true, Bool.not_false, Option.map_some, Option.bind_some, Option.isSome_some, Option.isNone_none, Option.getD_some, Option.getD_none, and_self, true_and, and_true, decide_eq_true_eq, decide_true, beq_iff_eq, Bool.false_eq_true, beq_self_eq_true, if_true, if_false, List.set_set, List.append_assoc, Nat.add_assoc, List.length_append, List.set_cons_zero, List.set_cons_succ, List.getElem?_nil, List.getElem?_cons_zero, List.getElem?_cons_succ, List.length_cons, List.length_nil, List.map_cons, List.map_nil, List.cons_append, List.nil_append, List.replicate_succ, List.replicate_zero, Tk.b_addl, Tk.addO_l, Tk.sl_u, Tk.slO_l, Tk.sl_t, Tk.setO_ds, Tk.setO_di, Tk.b_multup, Tk.kCallL_ap, Tk.kAll_ap, Tk.kRev_ap, Tk.w_callL, Tk.w_all, Tk.w_ir, Tk.t_callL, Tk.t_all, Tk.psi_s, Tk.revS_u, Tk.revO_s, Tk.valS_x, Tk.kRaise_ap, Tk.raise_1, Tk.ws_exc, Tk.tryS_n, Tk.tryS_r, Tk.tryS_b, Tk.tryS_c, Tk.tryS_x, Tk.xsub_0, Tk.xsub_s, Tk.s_raise, Tk.s_try, Tk.w_xf, Tk.xf_u, Tk.xfO_x, Tk.resX_s, Tk.ix_str1, Tk.at_items, Tk.lcA_ap, Tk.lcB_s, Tk.lcT_t, Tk.lcT_f, Tk.lcD_s, Tk.lcO_n, Tk.lcO_s, Tk.liA_ap, Tk.liB_s, Tk.liD_s, Tk.liO_n, Tk.liO_s, Tk.l2A_ap, Tk.l2D_s, Tk.l2O_n, Tk.l2O_s, Tk.turnK_n, Tk.turnK_c, Tk.turnK_b, Tk.turnK_r, Tk.turnK_x, Tk.foD_s, Tk.foO_n, Tk.foO_s, Tk.w_in2, Tk.whK_t, Tk.whK_f, K00.xlen, K00.tx, K00.mkx_0, K00.mkx_1, K00.mkx_2, K00.mkx_3, K00.mkx_4, K00.mkx_5, K00.mkx_6, K00.mkx_7, K00.mkx_8, K00.str_b, K00.str_e, K00.sx_0, K00.sx_1, K00.sx_2, K00.sx_3, K00.sx_4, K00.sx_5, K00.sx_6, K00.sx_7, K00.sx_8, K00.sx_9, K00.sx_10, K00.sx_11, K00.sx_12, K00.sx_13, K00.sx_14, K00.sx_15, K00.sx_16, K00.sx_17, K00.sx_18, K00.sx_19, K00.sx_20, K00.sx_21, K00.sx_22, K00.sx_23, K00.sx_24, K00.sx_25, K00.sx_26, K00.sx_27, K00.sx_28, K00.sx_29, K00.sx_30, K00.sx_31, K00.sx_32, K00.sx_33, Option.some_beq_some, Option.some.injEq, Nat.reduceBEq, Nat.reduceEqDiff, $ls,*])

namespace K00
open PySem PySem.Spec PyProof.Rows L2 Tk
def wr (a : Int) : Int := (a + 32768) % 65536 - 32768
theorem wr_lo {a : Int} : -32768 ≤ wr a := by unfold wr; omega
theorem wr_hi {a : Int} : wr a ≤ 32767 := by unfold wr; omega
section
variable {μ : Mu} {k : Nat} {N : D → Mu → Prop} {X : XQ}
theorem w_wrapped {a : Int} (hk : 1 ≤ k) (hN : N (.int (wr a)) μ) : W (phi p 2000 k i_wrapped [.int a] μ) N X := by
  obtain ⟨k, rfl⟩ : ∃ k', k = k' + 1 := ⟨k - 1, by omega⟩
  rw [f_wrapped]
  simp_all! only [b_wrapped, b_wrapped_0_0]
  have e : (a - -32768) % 65536 + -32768 = wr a := by unfold wr; omega
  first
  | (rw [e]; exact hN)
  | exact ⟨by omega, by rw [e]; exact hN⟩
theorem w_law_wrapped {a : Int} (hk : 1 ≤ k) (hN : N (.int (wr a)) μ) : W (phi p 2000 k i__law_wrapped [.int a] μ) N X := by
  obtain ⟨k, rfl⟩ : ∃ k', k = k' + 1 := ⟨k - 1, by omega⟩
  rw [f__law_wrapped]
  simp_all! only [b__law_wrapped, b__law_wrapped_0_0]
  exact hN
def kds (i : Nat) : Str := ([("plus" : Str), "minus", "times", "less", "most", "equal", "unlike"]).getD i Str.empty
def smD (i : Nat) (a b : Int) : Int := match i with
  | 0 => wr (a + b)
  | 1 => wr (a - b)
  | 2 => wr (a * b)
  | 3 => if a < b then 1 else 0
  | 4 => if a ≤ b then 1 else 0
  | 5 => if a = b then 1 else 0
  | _ => if a = b then 0 else 1
theorem kd0 : kds 0 = "plus" := rfl
theorem kd1 : kds 1 = "minus" := rfl
theorem kd2 : kds 2 = "times" := rfl
theorem kd3 : kds 3 = "less" := rfl
theorem kd4 : kds 4 = "most" := rfl
theorem kd5 : kds 5 = "equal" := rfl
theorem kd6 : kds 6 = "unlike" := rfl
theorem ne_i {a b : Int} : (if (!a == b) = true then (1 : Int) else 0) = if a = b then 0 else 1 := by
  by_cases h : a = b
  · subst h
    simp
  · have : (a == b) = false := by simpa using h
    rw [this, if_neg h]
    rfl
theorem w_sum_of {i : Nat} {a b : Int} (hi : i < 7) (hk : 2 ≤ k) (hb : -32768 ≤ b ∧ b ≤ 32767) (hN : N (.int (smD i a b)) μ) : W (phi p 2000 k i_sum_of [.str (kds i), .int a, .int b] μ) N X := by
  obtain ⟨k, rfl⟩ : ∃ k', k = k' + 2 := ⟨k - 2, by omega⟩
  rw [f_sum_of]
  have c : cmulB a b = true := by
    unfold cmulB
    simp only [Bool.or_eq_true, Bool.and_eq_true, decide_eq_true_eq]
    omega
  match i, hi with
  | 0, _ =>
    simp_all! only [b_sum_of, b_sum_of_0_0, b_sum_of_11_0, kd0]
    exact w_wrapped (by omega) hN
  | 1, _ =>
    simp_all! only [b_sum_of, b_sum_of_0_0, b_sum_of_0_1, b_sum_of_9_0, kd1]
    exact w_wrapped (by omega) hN
  | 2, _ =>
    simp_all! only [b_sum_of, b_sum_of_0_0, b_sum_of_0_1, b_sum_of_0_2, b_sum_of_7_0, kd2, c]
    exact w_wrapped (by omega) hN
  | 3, _ =>
    simp_all! only [b_sum_of, b_sum_of_0_0, b_sum_of_0_1, b_sum_of_0_2, b_sum_of_0_3, b_sum_of_5_0, kd3]
    exact hN
  | 4, _ =>
    simp_all! only [b_sum_of, b_sum_of_0_0, b_sum_of_0_1, b_sum_of_0_2, b_sum_of_0_3, b_sum_of_0_4, b_sum_of_3_0, kd4]
    exact hN
  | 5, _ =>
    simp_all! only [b_sum_of, b_sum_of_0_0, b_sum_of_0_1, b_sum_of_0_2, b_sum_of_0_3, b_sum_of_0_4, b_sum_of_0_5, b_sum_of_1_0, kd5]
    exact hN
  | 6, _ =>
    simp_all! only [b_sum_of, b_sum_of_0_0, b_sum_of_0_1, b_sum_of_0_2, b_sum_of_0_3, b_sum_of_0_4, b_sum_of_0_5, b_sum_of_0_6, kd6]
    rw [ne_i]
    exact hN
theorem w_law_joined {i : Nat} {a b : Int} (hi : i < 7) (hk : 2 ≤ k) (hb : -32768 ≤ b ∧ b ≤ 32767) (hN : N (.int (smD i a b)) μ) : W (phi p 2000 k i__law_joined [.str (kds i), .int a, .int b] μ) N X := by
  obtain ⟨k, rfl⟩ : ∃ k', k = k' + 2 := ⟨k - 2, by omega⟩
  rw [f__law_joined]
  have c : cmulB a b = true := by
    unfold cmulB
    simp only [Bool.or_eq_true, Bool.and_eq_true, decide_eq_true_eq]
    omega
  match i, hi with
  | 0, _ =>
    simp_all! only [b__law_joined, b__law_joined_0_0, b__law_joined_15_0, kd0]
    exact w_law_wrapped (by omega) hN
  | 1, _ =>
    simp_all! only [b__law_joined, b__law_joined_0_0, b__law_joined_0_1, b__law_joined_13_0, kd1]
    exact w_law_wrapped (by omega) hN
  | 2, _ =>
    simp_all! only [b__law_joined, b__law_joined_0_0, b__law_joined_0_1, b__law_joined_0_2, b__law_joined_11_0, kd2, c]
    exact w_law_wrapped (by omega) hN
  | 3, _ =>
    simp_all! only [b__law_joined, b__law_joined_0_0, b__law_joined_0_1, b__law_joined_0_2, b__law_joined_0_3, b__law_joined_0_4, b__law_joined_0_5, b__law_joined_5_0, kd3]
    exact hN
  | 4, _ =>
    simp_all! only [b__law_joined, b__law_joined_0_0, b__law_joined_0_1, b__law_joined_0_2, b__law_joined_0_3, b__law_joined_0_4, b__law_joined_0_5, b__law_joined_0_6, b__law_joined_3_0, kd4]
    exact hN
  | 5, _ =>
    simp_all! only [b__law_joined, b__law_joined_0_0, b__law_joined_0_1, b__law_joined_0_2, b__law_joined_0_3, b__law_joined_0_4, b__law_joined_0_5, b__law_joined_0_6, b__law_joined_0_7, b__law_joined_1_0, kd5]
    exact hN
  | 6, _ =>
    simp_all! only [b__law_joined, b__law_joined_0_0, b__law_joined_0_1, b__law_joined_0_2, b__law_joined_0_3, b__law_joined_0_4, b__law_joined_0_5, b__law_joined_0_6, b__law_joined_0_7, b__law_joined_0_8, kd6]
    rw [ne_i]
    exact hN
/-! kinds -/
theorem w_is_whole {d : D} (hk : 1 ≤ k) (h : (tyD d μ).isSome = true) (hN : N (.bl (whB d)) μ) : W (phi p 2000 k i_is_whole [d] μ) N X := by
  obtain ⟨k, rfl⟩ : ∃ k', k = k' + 1 := ⟨k - 1, by omega⟩
  obtain ⟨h1, h2, _, _⟩ := isi_all h
  rw [f_is_whole]
  simp_all! only [b_is_whole, b_is_whole_0_0, h1]
  cases hb : boB d <;> cases d <;> (first | (cases hb; done) | (simp only [whB, boB] at hN h2 ⊢; simp_all! only [h2]; exact hN))
def wiB (d : D) (lo hi : Int) : Bool := match d with
  | .int i => decide (lo ≤ i) && decide (i ≤ hi)
  | _ => false
theorem w_is_within {d : D} {lo hi : Int} (hk : 2 ≤ k) (h : (tyD d μ).isSome = true) (hN : N (.bl (wiB d lo hi)) μ) : W (phi p 2000 k i_is_within [d, .int lo, .int hi] μ) N X := by
  obtain ⟨k, rfl⟩ : ∃ k', k = k' + 2 := ⟨k - 2, by omega⟩
  rw [f_is_within]
  simp_all! only [b_is_within, b_is_within_0_0]
  refine w_is_whole (by omega) h ?_
  cases d with
  | int i =>
    simp_all! only [whB]
    have hw : wiB (.int i) lo hi = (decide (lo ≤ i) && decide (i ≤ hi)) := rfl
    rw [hw] at hN
    by_cases h1 : lo ≤ i
    · rw [if_pos h1]
      simp_all! only []
      rw [decide_eq_true h1, Bool.true_and] at hN
      exact hN
    · rw [if_neg h1]
      simp_all! only []
      rw [decide_eq_false h1, Bool.false_and] at hN
      exact hN
  | _ => simp_all! only [whB]; exact hN
abbrev nuB (d : D) : Bool := wiB d (-32768) 32767
theorem w_is_number {d : D} (hk : 3 ≤ k) (h : (tyD d μ).isSome = true) (hN : N (.bl (nuB d)) μ) : W (phi p 2000 k i_is_number [d] μ) N X := by
  obtain ⟨k, rfl⟩ : ∃ k', k = k' + 3 := ⟨k - 3, by omega⟩
  rw [f_is_number]
  simp_all! only [b_is_number, b_is_number_0_0]
  exact w_is_within (by omega) h hN
/-! errors -/
def xnm (i : Nat) : Str := ([("TooLarge" : Str), "InvalidText", "InvalidTree", "InvalidCode", "InvalidState", "InvalidRun", "InvalidPaper", "InvalidName"]).getD i Str.empty
theorem w_raised_0 {v : Int} (hN : ∀ μ', Kp [] μ μ' → N (.tup [.str (xnm 0), .int v]) μ') : W (phi p 2000 (k + 6) i__law_raised [.int 0, .int v] μ) N X := by
  rw [f__law_raised]
  simp_all! only [b__law_raised, b__law_raised_0_0, b__law_raised_1_0]
  simp_all! only [b__law_raised_16_0]
  refine hN _ ?_
  exact Kp.app
theorem w_raised_1 {v : Int} (hN : ∀ μ', Kp [] μ μ' → N (.tup [.str (xnm 1), .int v]) μ') : W (phi p 2000 (k + 6) i__law_raised [.int 1, .int v] μ) N X := by
  rw [f__law_raised]
  simp_all! only [b__law_raised, b__law_raised_0_0, b__law_raised_1_0]
  rw [if_neg (by decide)]
  simp_all! only [b__law_raised_1_1]
  simp_all! only [b__law_raised_14_0]
  refine hN _ ?_
  exact Kp.app
theorem w_raised_2 {v : Int} (hN : ∀ μ', Kp [] μ μ' → N (.tup [.str (xnm 2), .int v]) μ') : W (phi p 2000 (k + 6) i__law_raised [.int 2, .int v] μ) N X := by
  rw [f__law_raised]
  simp_all! only [b__law_raised, b__law_raised_0_0, b__law_raised_1_0]
  rw [if_neg (by decide)]
  simp_all! only [b__law_raised_1_1]
  rw [if_neg (by decide)]
  simp_all! only [b__law_raised_1_2]
  simp_all! only [b__law_raised_12_0]
  exact hN _ Kp.app
theorem w_raised_3 {v : Int} (hN : ∀ μ', Kp [] μ μ' → N (.tup [.str (xnm 3), .int v]) μ') : W (phi p 2000 (k + 6) i__law_raised [.int 3, .int v] μ) N X := by
  rw [f__law_raised]
  simp_all! only [b__law_raised, b__law_raised_0_0, b__law_raised_1_0]
  rw [if_neg (by decide)]
  simp_all! only [b__law_raised_1_1]
  rw [if_neg (by decide)]
  simp_all! only [b__law_raised_1_2]
  rw [if_neg (by decide)]
  simp_all! only [b__law_raised_1_3]
  simp_all! only [b__law_raised_10_0]
  exact hN _ Kp.app
theorem w_raised_4 {v : Int} (hN : ∀ μ', Kp [] μ μ' → N (.tup [.str (xnm 4), .int v]) μ') : W (phi p 2000 (k + 6) i__law_raised [.int 4, .int v] μ) N X := by
  rw [f__law_raised]
  simp_all! only [b__law_raised, b__law_raised_0_0, b__law_raised_1_0]
  rw [if_neg (by decide)]
  simp_all! only [b__law_raised_1_1]
  rw [if_neg (by decide)]
  simp_all! only [b__law_raised_1_2]
  rw [if_neg (by decide)]
  simp_all! only [b__law_raised_1_3]
  rw [if_neg (by decide)]
  simp_all! only [b__law_raised_1_4]
  simp_all! only [b__law_raised_8_0]
  exact hN _ Kp.app
theorem w_raised_5 {v : Int} (hN : ∀ μ', Kp [] μ μ' → N (.tup [.str (xnm 5), .int v]) μ') : W (phi p 2000 (k + 6) i__law_raised [.int 5, .int v] μ) N X := by
  rw [f__law_raised]
  simp_all! only [b__law_raised, b__law_raised_0_0, b__law_raised_1_0]
  rw [if_neg (by decide)]
  simp_all! only [b__law_raised_1_1]
  rw [if_neg (by decide)]
  simp_all! only [b__law_raised_1_2]
  rw [if_neg (by decide)]
  simp_all! only [b__law_raised_1_3]
  rw [if_neg (by decide)]
  simp_all! only [b__law_raised_1_4]
  rw [if_neg (by decide)]
  simp_all! only [b__law_raised_1_5]
  simp_all! only [b__law_raised_6_0]
  exact hN _ Kp.app
theorem w_raised_6 {v : Int} (hN : ∀ μ', Kp [] μ μ' → N (.tup [.str (xnm 6), .int v]) μ') : W (phi p 2000 (k + 6) i__law_raised [.int 6, .int v] μ) N X := by
  rw [f__law_raised]
  simp_all! only [b__law_raised, b__law_raised_0_0, b__law_raised_1_0]
  rw [if_neg (by decide)]
  simp_all! only [b__law_raised_1_1]
  rw [if_neg (by decide)]
  simp_all! only [b__law_raised_1_2]
  rw [if_neg (by decide)]
  simp_all! only [b__law_raised_1_3]
  rw [if_neg (by decide)]
  simp_all! only [b__law_raised_1_4]
  rw [if_neg (by decide)]
  simp_all! only [b__law_raised_1_5]
  rw [if_neg (by decide)]
  simp_all! only [b__law_raised_1_6]
  simp_all! only [b__law_raised_4_0]
  exact hN _ Kp.app
theorem w_raised_7 {v : Int} (hN : ∀ μ', Kp [] μ μ' → N (.tup [.str (xnm 7), .int v]) μ') : W (phi p 2000 (k + 6) i__law_raised [.int 7, .int v] μ) N X := by
  rw [f__law_raised]
  simp_all! only [b__law_raised, b__law_raised_0_0, b__law_raised_1_0]
  rw [if_neg (by decide)]
  simp_all! only [b__law_raised_1_1]
  rw [if_neg (by decide)]
  simp_all! only [b__law_raised_1_2]
  rw [if_neg (by decide)]
  simp_all! only [b__law_raised_1_3]
  rw [if_neg (by decide)]
  simp_all! only [b__law_raised_1_4]
  rw [if_neg (by decide)]
  simp_all! only [b__law_raised_1_5]
  rw [if_neg (by decide)]
  simp_all! only [b__law_raised_1_6]
  rw [if_neg (by decide)]
  simp_all! only [b__law_raised_1_7]
  simp_all! only [b__law_raised_2_0]
  exact hN _ Kp.app
end
end K00

namespace K00
open PySem PySem.Spec PyProof.Rows L2 Tk
section
variable {μ : Mu} {k : Nat} {N : D → Mu → Prop} {X : XQ} {ns : List Int}
theorem w_law_raised {i : Nat} {v : Int} (hi : i < 8) (hk : 6 ≤ k) (hN : ∀ μ', Kp [] μ μ' → N (.tup [.str (xnm i), .int v]) μ') : W (phi p 2000 k i__law_raised [.int i, .int v] μ) N X := by
  obtain ⟨k, rfl⟩ : ∃ k', k = k' + 6 := ⟨k - 6, by omega⟩
  match i, hi with
  | 0, _ => exact w_raised_0 hN
  | 1, _ => exact w_raised_1 hN
  | 2, _ => exact w_raised_2 hN
  | 3, _ => exact w_raised_3 hN
  | 4, _ => exact w_raised_4 hN
  | 5, _ => exact w_raised_5 hN
  | 6, _ => exact w_raised_6 hN
  | 7, _ => exact w_raised_7 hN
theorem w_dr {s : Int} (hk : 1 ≤ k) (hl : ns.length ≤ 63) (h : DSt 1 0 ns [] μ) (h0 : 0 < s) (h1 : s < 1073741824) (hN : ∀ d μ', 0 ≤ d → d < s → Kp [1] μ μ' → DSt 1 0 ns [] μ' → N (.int d) μ') : W (phi p 2000 k i__law_draw [.loc 1, .loc 0, .int s] μ) N X := by
  obtain ⟨k, rfl⟩ : ∃ k', k = k' + 1 := ⟨k - 1, by omega⟩
  rw [f__law_draw]
  exact w_draw h (by decide) (by omega) h0 h1 hN
def nmL : List D := (List.range 8).map fun i => .str (xnm i)
theorem nm_at {i : Nat} (h : i < 8) : nmL[i]? = some (.str (xnm i)) := by
  unfold nmL
  rw [List.getElem?_map, List.getElem?_range h]
  rfl
/-- names of the law: state, names, k, place; the rest unset -/
abbrev δ1 (o3 o4 : Option D) : Dl := [some (.loc 0), some (.loc 1), some (.loc 2), o3, o4, none, none, none, none, none, none, none, none, none, none, none]
theorem w_first {K : KS} (hk : 9 ≤ k) (hl : ns.length ≤ 63) (h : DSt 1 0 ns [] μ) (a2 : μ[2]? = some (.lst nmL))
    (hN : ∀ o3 o4 μ', DSt 1 0 ns [] μ' → WS (evSs (omAt p 2000 k) b_law_0_3 (δ1 o3 o4) μ') K) : WS (evSs (omAt p 2000 k) b_law_0_2 (δ1 none none) μ) K := by
  obtain ⟨k, rfl⟩ : ∃ k', k = k' + 3 := ⟨k - 3, by omega⟩
  simp_all! only [b_law_0_2]
  refine forN_rng (fun i δ μ => ∃ o3 o4, δ = δ1 o3 o4 ∧ DSt 1 0 ns [] μ ∧ μ[2]? = some (.lst nmL)) ⟨none, none, rfl, h, a2⟩ (by decide) (fun i δ μ hi hI => ?_) (fun δ μ hI => ?_)
  · obtain ⟨o3, o4, rfl, h, a2⟩ := hI
    refine ⟨_, rfl, ?_⟩
    have hi8 : i < 8 := hi
    have e0 : (0 : Int) + (i : Int) = (i : Int) := by omega
    rw [e0]
    simp_all! only [b_law_23_0]
    refine w_dr (by omega) hl h (by decide) (by decide) fun v μ1 v0 v1 k1 h1 => ?_
    have a3 := k1.get a2 (by decide)
    simp_all! only [b_law_23_1]
    refine w_law_raised hi8 (by omega) fun μ2 k2 => ?_
    have a4 := k2.get a3 (by simp)
    have h2 := h1.keep k2 (by simp) (by simp)
    have ei : atI nmL (i : Int) = some (.str (xnm i)) := by rw [atI_nn (by omega)]; exact nm_at hi8
    have eq : eqD μ2 (.tup [.str (xnm i), .int v]) (.tup [.str (xnm i), .int v]) = some true := eq_self (by rfl)
    simp_all! only [a4, ei, eq]
    simp_all! only [loopK]
    exact ⟨_, _, rfl, h2, a4⟩
  · obtain ⟨o3, o4, rfl, h, a2⟩ := hI
    exact hN _ _ _ h
end
end K00

namespace K00
open PySem PySem.Spec PyProof.Rows L2 Tk
section
variable {μ : Mu} {k : Nat} {N : D → Mu → Prop} {X : XQ} {ns : List Int}
abbrev δ2 (o3 o4 o5 o6 o7 o8 : Option D) : Dl := [some (.loc 0), some (.loc 1), some (.loc 2), o3, o4, o5, o6, o7, o8, none, none, none, none, none, none, none]
def kdL : List D := (List.range 7).map fun i => .str (kds i)
theorem kd_at {i : Nat} {d : D} (h : kdL[i]? = some d) : i < 7 ∧ d = .str (kds i) := by
  unfold kdL at h
  rw [List.getElem?_map] at h
  by_cases hi : i < 7
  · rw [List.getElem?_range hi] at h
    exact ⟨hi, (Option.some.inj h).symm⟩
  · rw [List.getElem?_eq_none (by simpa using hi)] at h
    cases h
theorem kdL_eq : ([D.str "plus", D.str "minus", D.str "times", D.str "less", D.str "most", D.str "equal", D.str "unlike"] : List D) = kdL := rfl
theorem w_kinds {K : KS} {o3 o4 o7 o8 : Option D} {a b : Int} (hk : 4 ≤ k) (hb : -32768 ≤ b ∧ b ≤ 32767) (h : ∀ o7 o8, K.n (δ2 o3 o4 (some (.int a)) (some (.int b)) o7 o8) μ) :
    WS (evSs (omAt p 2000 k) b_law_15_5 (δ2 o3 o4 (some (.int a)) (some (.int b)) o7 o8) μ) K := by
  obtain ⟨k, rfl⟩ : ∃ k', k = k' + 3 := ⟨k - 3, by omega⟩
  simp_all! only [b_law_15_5, kdL_eq]
  refine ⟨by decide, ?_⟩
  refine forN_items (fun i δ μ' => ∃ o7 o8, δ = δ2 o3 o4 (some (.int a)) (some (.int b)) o7 o8 ∧ μ' = μ) ⟨o7, o8, rfl, rfl⟩ (show kdL.length < 2000 by decide) (fun i d δ μ' hd hI => ?_) (fun δ μ' hI => ?_)
  · obtain ⟨o7, o8, rfl, rfl⟩ := hI
    obtain ⟨hi, rfl⟩ := kd_at hd
    refine ⟨_, rfl, ?_⟩
    simp_all! only [b_law_16_0]
    refine w_sum_of hi (by omega) hb ?_
    simp_all! only [b_law_16_1]
    refine w_law_joined hi (by omega) hb ?_
    obtain ⟨i1, i2, _, _⟩ := isi_all (μ := μ') (d := .int (smD i a b)) rfl
    simp_all! only [i1, i2, whB, boB]
    simp_all! only [loopK]
    first | exact ⟨_, _, rfl, rfl⟩ | exact ⟨_, _, rfl⟩ | trace_state
  · obtain ⟨o7, o8, rfl, rfl⟩ := hI
    exact h _ _
theorem w_second {K : KS} {o3 o4 : Option D} (hk : 9 ≤ k) (hl : ns.length ≤ 63) (h : DSt 1 0 ns [] μ)
    (hN : ∀ o3 o4 o5 o6 o7 o8 μ', DSt 1 0 ns [] μ' → WS (evSs (omAt p 2000 k) b_law_0_4 (δ2 o3 o4 o5 o6 o7 o8) μ') K) : WS (evSs (omAt p 2000 k) b_law_0_3 (δ2 o3 o4 none none none none) μ) K := by
  obtain ⟨k, rfl⟩ : ∃ k', k = k' + 3 := ⟨k - 3, by omega⟩
  simp_all! only [b_law_0_3]
  refine forN_rng (fun i δ μ => ∃ o3 o4 o5 o6 o7 o8, δ = δ2 o3 o4 o5 o6 o7 o8 ∧ DSt 1 0 ns [] μ) ⟨_, _, _, _, _, _, rfl, h⟩ (by decide) (fun i δ μ hi hI => ?_) (fun δ μ hI => ?_)
  · obtain ⟨o3, o4, o5, o6, o7, o8, rfl, h⟩ := hI
    refine ⟨_, rfl, ?_⟩
    simp_all! only [b_law_15_0]
    refine w_dr (by omega) hl h (by decide) (by decide) fun v μ1 v0 v1 k1 h1 => ?_
    simp_all! only [b_law_15_1]
    refine w_dr (by omega) hl h1 (by decide) (by decide) fun u μ2 u0 u1 k2 h2 => ?_
    simp_all! only [b_law_15_2]
    refine w_wrapped (by omega) ?_
    simp_all! only []
    refine w_law_wrapped (by omega) ?_
    simp_all! only []
    refine w_wrapped (by omega) ?_
    have g1 := wr_lo (a := v - 100000)
    have g2 := wr_hi (a := v - 100000)
    simp_all! only [g1, g2, b_law_15_3]
    refine w_law_wrapped (by omega) ?_
    simp_all! only [b_law_15_4]
    refine w_dr (by omega) hl h2 (by decide) (by decide) fun t μ3 t0 t1 k3 h3 => ?_
    simp_all! only []
    by_cases ht : t = 0
    · rw [if_pos ht]
      simp_all! only [b_law_19_0]
      refine w_kinds (by omega) ⟨by omega, by omega⟩ fun o7 o8 => ?_
      simp_all! only [loopK]
      exact ⟨_, _, _, _, _, _, rfl, h3⟩
    · rw [if_neg ht]
      simp_all! only []
      refine w_kinds (by omega) ⟨by omega, by omega⟩ fun o7 o8 => ?_
      simp_all! only [loopK]
      exact ⟨_, _, _, _, _, _, rfl, h3⟩
  · obtain ⟨o3, o4, o5, o6, o7, o8, rfl, h⟩ := hI
    exact hN _ _ _ _ _ _ _ h
end
end K00

namespace K00
open PySem PySem.Spec PyProof.Rows L2 Tk
/-! the values of many kinds, one by one -/
def vals (l d : Nat) : List D := [.int 0, .int 1, .int (-1), .bl true, .bl false, .non, .str "", .str "a", .str "b1", .str "1b", .str "for", .str "machine", .str "abcdefghijkl", .str "abcdefghijklm", .str "A", .str "a_b", .tup [], .tup [.int 1, .int 2], .int 32767, .int 32768, .int (-32768), .int (-32769), .tup [.int 1, .bl true], .loc l, .tup [.int 32768], .tup [.str "a"], .tup [.non], .loc d, .str "rank", .str "ranks", .str "size"]
def vAt (l d i : Nat) : D := (vals l d).getD i .non
def in_whole (i : Nat) : Bool := ([0, 1, 2, 18, 19, 20, 21] : List Nat).contains i
def in_number (i : Nat) : Bool := ([0, 1, 2, 18, 20] : List Nat).contains i
def in_numbers (i : Nat) : Bool := ([16, 17] : List Nat).contains i
def in_word (i : Nat) : Bool := ([7, 8, 12, 29, 30] : List Nat).contains i
section
variable {μ : Mu} {k : Nat} {N : D → Mu → Prop} {X : XQ} {l d : Nat}
theorem q_whole_0 : phi p 2000 (k + 6) i_is_whole [.int 0] μ = .ok (.bl true) μ := by kernel_rfl
theorem q_whole_1 : phi p 2000 (k + 6) i_is_whole [.int 1] μ = .ok (.bl true) μ := by kernel_rfl
theorem q_whole_2 : phi p 2000 (k + 6) i_is_whole [.int (-1)] μ = .ok (.bl true) μ := by kernel_rfl
theorem q_whole_3 : phi p 2000 (k + 6) i_is_whole [.bl true] μ = .ok (.bl false) μ := by kernel_rfl
theorem q_whole_4 : phi p 2000 (k + 6) i_is_whole [.bl false] μ = .ok (.bl false) μ := by kernel_rfl
theorem q_whole_5 : phi p 2000 (k + 6) i_is_whole [.non] μ = .ok (.bl false) μ := by kernel_rfl
theorem q_whole_6 : phi p 2000 (k + 6) i_is_whole [.str ""] μ = .ok (.bl false) μ := by kernel_rfl
theorem q_whole_7 : phi p 2000 (k + 6) i_is_whole [.str "a"] μ = .ok (.bl false) μ := by kernel_rfl
theorem q_whole_8 : phi p 2000 (k + 6) i_is_whole [.str "b1"] μ = .ok (.bl false) μ := by kernel_rfl
theorem q_whole_9 : phi p 2000 (k + 6) i_is_whole [.str "1b"] μ = .ok (.bl false) μ := by kernel_rfl
theorem q_whole_10 : phi p 2000 (k + 6) i_is_whole [.str "for"] μ = .ok (.bl false) μ := by kernel_rfl
theorem q_whole_11 : phi p 2000 (k + 6) i_is_whole [.str "machine"] μ = .ok (.bl false) μ := by kernel_rfl
theorem q_whole_12 : phi p 2000 (k + 6) i_is_whole [.str "abcdefghijkl"] μ = .ok (.bl false) μ := by kernel_rfl
theorem q_whole_13 : phi p 2000 (k + 6) i_is_whole [.str "abcdefghijklm"] μ = .ok (.bl false) μ := by kernel_rfl
theorem q_whole_14 : phi p 2000 (k + 6) i_is_whole [.str "A"] μ = .ok (.bl false) μ := by kernel_rfl
theorem q_whole_15 : phi p 2000 (k + 6) i_is_whole [.str "a_b"] μ = .ok (.bl false) μ := by kernel_rfl
theorem q_whole_16 : phi p 2000 (k + 6) i_is_whole [.tup []] μ = .ok (.bl false) μ := by kernel_rfl
theorem q_whole_17 : phi p 2000 (k + 6) i_is_whole [.tup [.int 1, .int 2]] μ = .ok (.bl false) μ := by kernel_rfl
theorem q_whole_18 : phi p 2000 (k + 6) i_is_whole [.int 32767] μ = .ok (.bl true) μ := by kernel_rfl
theorem q_whole_19 : phi p 2000 (k + 6) i_is_whole [.int 32768] μ = .ok (.bl true) μ := by kernel_rfl
theorem q_whole_20 : phi p 2000 (k + 6) i_is_whole [.int (-32768)] μ = .ok (.bl true) μ := by kernel_rfl
theorem q_whole_21 : phi p 2000 (k + 6) i_is_whole [.int (-32769)] μ = .ok (.bl true) μ := by kernel_rfl
theorem q_whole_22 : phi p 2000 (k + 6) i_is_whole [.tup [.int 1, .bl true]] μ = .ok (.bl false) μ := by kernel_rfl
theorem q_whole_24 : phi p 2000 (k + 6) i_is_whole [.tup [.int 32768]] μ = .ok (.bl false) μ := by kernel_rfl
theorem q_whole_25 : phi p 2000 (k + 6) i_is_whole [.tup [.str "a"]] μ = .ok (.bl false) μ := by kernel_rfl
theorem q_whole_26 : phi p 2000 (k + 6) i_is_whole [.tup [.non]] μ = .ok (.bl false) μ := by kernel_rfl
theorem q_whole_28 : phi p 2000 (k + 6) i_is_whole [.str "rank"] μ = .ok (.bl false) μ := by kernel_rfl
theorem q_whole_29 : phi p 2000 (k + 6) i_is_whole [.str "ranks"] μ = .ok (.bl false) μ := by kernel_rfl
theorem q_whole_30 : phi p 2000 (k + 6) i_is_whole [.str "size"] μ = .ok (.bl false) μ := by kernel_rfl
theorem q_number_0 : phi p 2000 (k + 6) i_is_number [.int 0] μ = .ok (.bl true) μ := by kernel_rfl
theorem q_number_1 : phi p 2000 (k + 6) i_is_number [.int 1] μ = .ok (.bl true) μ := by kernel_rfl
theorem q_number_2 : phi p 2000 (k + 6) i_is_number [.int (-1)] μ = .ok (.bl true) μ := by kernel_rfl
theorem q_number_3 : phi p 2000 (k + 6) i_is_number [.bl true] μ = .ok (.bl false) μ := by kernel_rfl
theorem q_number_4 : phi p 2000 (k + 6) i_is_number [.bl false] μ = .ok (.bl false) μ := by kernel_rfl
theorem q_number_5 : phi p 2000 (k + 6) i_is_number [.non] μ = .ok (.bl false) μ := by kernel_rfl
theorem q_number_6 : phi p 2000 (k + 6) i_is_number [.str ""] μ = .ok (.bl false) μ := by kernel_rfl
theorem q_number_7 : phi p 2000 (k + 6) i_is_number [.str "a"] μ = .ok (.bl false) μ := by kernel_rfl
theorem q_number_8 : phi p 2000 (k + 6) i_is_number [.str "b1"] μ = .ok (.bl false) μ := by kernel_rfl
theorem q_number_9 : phi p 2000 (k + 6) i_is_number [.str "1b"] μ = .ok (.bl false) μ := by kernel_rfl
theorem q_number_10 : phi p 2000 (k + 6) i_is_number [.str "for"] μ = .ok (.bl false) μ := by kernel_rfl
theorem q_number_11 : phi p 2000 (k + 6) i_is_number [.str "machine"] μ = .ok (.bl false) μ := by kernel_rfl
theorem q_number_12 : phi p 2000 (k + 6) i_is_number [.str "abcdefghijkl"] μ = .ok (.bl false) μ := by kernel_rfl
theorem q_number_13 : phi p 2000 (k + 6) i_is_number [.str "abcdefghijklm"] μ = .ok (.bl false) μ := by kernel_rfl
theorem q_number_14 : phi p 2000 (k + 6) i_is_number [.str "A"] μ = .ok (.bl false) μ := by kernel_rfl
theorem q_number_15 : phi p 2000 (k + 6) i_is_number [.str "a_b"] μ = .ok (.bl false) μ := by kernel_rfl
theorem q_number_16 : phi p 2000 (k + 6) i_is_number [.tup []] μ = .ok (.bl false) μ := by kernel_rfl
theorem q_number_17 : phi p 2000 (k + 6) i_is_number [.tup [.int 1, .int 2]] μ = .ok (.bl false) μ := by kernel_rfl
theorem q_number_18 : phi p 2000 (k + 6) i_is_number [.int 32767] μ = .ok (.bl true) μ := by kernel_rfl
theorem q_number_19 : phi p 2000 (k + 6) i_is_number [.int 32768] μ = .ok (.bl false) μ := by kernel_rfl
theorem q_number_20 : phi p 2000 (k + 6) i_is_number [.int (-32768)] μ = .ok (.bl true) μ := by kernel_rfl
theorem q_number_21 : phi p 2000 (k + 6) i_is_number [.int (-32769)] μ = .ok (.bl false) μ := by kernel_rfl
theorem q_number_22 : phi p 2000 (k + 6) i_is_number [.tup [.int 1, .bl true]] μ = .ok (.bl false) μ := by kernel_rfl
theorem q_number_24 : phi p 2000 (k + 6) i_is_number [.tup [.int 32768]] μ = .ok (.bl false) μ := by kernel_rfl
theorem q_number_25 : phi p 2000 (k + 6) i_is_number [.tup [.str "a"]] μ = .ok (.bl false) μ := by kernel_rfl
theorem q_number_26 : phi p 2000 (k + 6) i_is_number [.tup [.non]] μ = .ok (.bl false) μ := by kernel_rfl
theorem q_number_28 : phi p 2000 (k + 6) i_is_number [.str "rank"] μ = .ok (.bl false) μ := by kernel_rfl
theorem q_number_29 : phi p 2000 (k + 6) i_is_number [.str "ranks"] μ = .ok (.bl false) μ := by kernel_rfl
theorem q_number_30 : phi p 2000 (k + 6) i_is_number [.str "size"] μ = .ok (.bl false) μ := by kernel_rfl
theorem q_numbers_0 : phi p 2000 (k + 6) i_is_numbers [.int 0] μ = .ok (.bl false) μ := by kernel_rfl
theorem q_numbers_1 : phi p 2000 (k + 6) i_is_numbers [.int 1] μ = .ok (.bl false) μ := by kernel_rfl
theorem q_numbers_2 : phi p 2000 (k + 6) i_is_numbers [.int (-1)] μ = .ok (.bl false) μ := by kernel_rfl
theorem q_numbers_3 : phi p 2000 (k + 6) i_is_numbers [.bl true] μ = .ok (.bl false) μ := by kernel_rfl
theorem q_numbers_4 : phi p 2000 (k + 6) i_is_numbers [.bl false] μ = .ok (.bl false) μ := by kernel_rfl
theorem q_numbers_5 : phi p 2000 (k + 6) i_is_numbers [.non] μ = .ok (.bl false) μ := by kernel_rfl
theorem q_numbers_6 : phi p 2000 (k + 6) i_is_numbers [.str ""] μ = .ok (.bl false) μ := by kernel_rfl
theorem q_numbers_7 : phi p 2000 (k + 6) i_is_numbers [.str "a"] μ = .ok (.bl false) μ := by kernel_rfl
theorem q_numbers_8 : phi p 2000 (k + 6) i_is_numbers [.str "b1"] μ = .ok (.bl false) μ := by kernel_rfl
theorem q_numbers_9 : phi p 2000 (k + 6) i_is_numbers [.str "1b"] μ = .ok (.bl false) μ := by kernel_rfl
theorem q_numbers_10 : phi p 2000 (k + 6) i_is_numbers [.str "for"] μ = .ok (.bl false) μ := by kernel_rfl
theorem q_numbers_11 : phi p 2000 (k + 6) i_is_numbers [.str "machine"] μ = .ok (.bl false) μ := by kernel_rfl
theorem q_numbers_12 : phi p 2000 (k + 6) i_is_numbers [.str "abcdefghijkl"] μ = .ok (.bl false) μ := by kernel_rfl
theorem q_numbers_13 : phi p 2000 (k + 6) i_is_numbers [.str "abcdefghijklm"] μ = .ok (.bl false) μ := by kernel_rfl
theorem q_numbers_14 : phi p 2000 (k + 6) i_is_numbers [.str "A"] μ = .ok (.bl false) μ := by kernel_rfl
theorem q_numbers_15 : phi p 2000 (k + 6) i_is_numbers [.str "a_b"] μ = .ok (.bl false) μ := by kernel_rfl
theorem q_numbers_16 : phi p 2000 (k + 6) i_is_numbers [.tup []] μ = .ok (.bl true) μ := by kernel_rfl
theorem q_numbers_17 : phi p 2000 (k + 6) i_is_numbers [.tup [.int 1, .int 2]] μ = .ok (.bl true) μ := by kernel_rfl
theorem q_numbers_18 : phi p 2000 (k + 6) i_is_numbers [.int 32767] μ = .ok (.bl false) μ := by kernel_rfl
theorem q_numbers_19 : phi p 2000 (k + 6) i_is_numbers [.int 32768] μ = .ok (.bl false) μ := by kernel_rfl
theorem q_numbers_20 : phi p 2000 (k + 6) i_is_numbers [.int (-32768)] μ = .ok (.bl false) μ := by kernel_rfl
theorem q_numbers_21 : phi p 2000 (k + 6) i_is_numbers [.int (-32769)] μ = .ok (.bl false) μ := by kernel_rfl
theorem q_numbers_22 : phi p 2000 (k + 6) i_is_numbers [.tup [.int 1, .bl true]] μ = .ok (.bl false) μ := by kernel_rfl
theorem q_numbers_24 : phi p 2000 (k + 6) i_is_numbers [.tup [.int 32768]] μ = .ok (.bl false) μ := by kernel_rfl
theorem q_numbers_25 : phi p 2000 (k + 6) i_is_numbers [.tup [.str "a"]] μ = .ok (.bl false) μ := by kernel_rfl
theorem q_numbers_26 : phi p 2000 (k + 6) i_is_numbers [.tup [.non]] μ = .ok (.bl false) μ := by kernel_rfl
theorem q_numbers_28 : phi p 2000 (k + 6) i_is_numbers [.str "rank"] μ = .ok (.bl false) μ := by kernel_rfl
theorem q_numbers_29 : phi p 2000 (k + 6) i_is_numbers [.str "ranks"] μ = .ok (.bl false) μ := by kernel_rfl
theorem q_numbers_30 : phi p 2000 (k + 6) i_is_numbers [.str "size"] μ = .ok (.bl false) μ := by kernel_rfl
theorem q_word_0 : phi p 2000 (k + 6) i_is_word [.int 0] μ = .ok (.bl false) μ := by kernel_rfl
theorem q_word_1 : phi p 2000 (k + 6) i_is_word [.int 1] μ = .ok (.bl false) μ := by kernel_rfl
theorem q_word_2 : phi p 2000 (k + 6) i_is_word [.int (-1)] μ = .ok (.bl false) μ := by kernel_rfl
theorem q_word_3 : phi p 2000 (k + 6) i_is_word [.bl true] μ = .ok (.bl false) μ := by kernel_rfl
theorem q_word_4 : phi p 2000 (k + 6) i_is_word [.bl false] μ = .ok (.bl false) μ := by kernel_rfl
theorem q_word_5 : phi p 2000 (k + 6) i_is_word [.non] μ = .ok (.bl false) μ := by kernel_rfl
theorem q_word_6 : phi p 2000 (k + 6) i_is_word [.str ""] μ = .ok (.bl false) μ := by kernel_rfl
theorem q_word_7 : phi p 2000 (k + 6) i_is_word [.str "a"] μ = .ok (.bl true) μ := by kernel_rfl
theorem q_word_8 : phi p 2000 (k + 6) i_is_word [.str "b1"] μ = .ok (.bl true) μ := by kernel_rfl
theorem q_word_9 : phi p 2000 (k + 6) i_is_word [.str "1b"] μ = .ok (.bl false) μ := by kernel_rfl
theorem q_word_10 : phi p 2000 (k + 6) i_is_word [.str "for"] μ = .ok (.bl false) μ := by kernel_rfl
theorem q_word_11 : phi p 2000 (k + 6) i_is_word [.str "machine"] μ = .ok (.bl false) μ := by kernel_rfl
theorem q_word_12 : phi p 2000 (k + 6) i_is_word [.str "abcdefghijkl"] μ = .ok (.bl true) μ := by kernel_rfl
theorem q_word_13 : phi p 2000 (k + 6) i_is_word [.str "abcdefghijklm"] μ = .ok (.bl false) μ := by kernel_rfl
theorem q_word_14 : phi p 2000 (k + 6) i_is_word [.str "A"] μ = .ok (.bl false) μ := by kernel_rfl
theorem q_word_15 : phi p 2000 (k + 6) i_is_word [.str "a_b"] μ = .ok (.bl false) μ := by kernel_rfl
theorem q_word_16 : phi p 2000 (k + 6) i_is_word [.tup []] μ = .ok (.bl false) μ := by kernel_rfl
theorem q_word_17 : phi p 2000 (k + 6) i_is_word [.tup [.int 1, .int 2]] μ = .ok (.bl false) μ := by kernel_rfl
theorem q_word_18 : phi p 2000 (k + 6) i_is_word [.int 32767] μ = .ok (.bl false) μ := by kernel_rfl
theorem q_word_19 : phi p 2000 (k + 6) i_is_word [.int 32768] μ = .ok (.bl false) μ := by kernel_rfl
theorem q_word_20 : phi p 2000 (k + 6) i_is_word [.int (-32768)] μ = .ok (.bl false) μ := by kernel_rfl
theorem q_word_21 : phi p 2000 (k + 6) i_is_word [.int (-32769)] μ = .ok (.bl false) μ := by kernel_rfl
theorem q_word_22 : phi p 2000 (k + 6) i_is_word [.tup [.int 1, .bl true]] μ = .ok (.bl false) μ := by kernel_rfl
theorem q_word_24 : phi p 2000 (k + 6) i_is_word [.tup [.int 32768]] μ = .ok (.bl false) μ := by kernel_rfl
theorem q_word_25 : phi p 2000 (k + 6) i_is_word [.tup [.str "a"]] μ = .ok (.bl false) μ := by kernel_rfl
theorem q_word_26 : phi p 2000 (k + 6) i_is_word [.tup [.non]] μ = .ok (.bl false) μ := by kernel_rfl
theorem q_word_28 : phi p 2000 (k + 6) i_is_word [.str "rank"] μ = .ok (.bl false) μ := by kernel_rfl
theorem q_word_29 : phi p 2000 (k + 6) i_is_word [.str "ranks"] μ = .ok (.bl true) μ := by kernel_rfl
theorem q_word_30 : phi p 2000 (k + 6) i_is_word [.str "size"] μ = .ok (.bl true) μ := by kernel_rfl
theorem ty_l (h : μ[l]? = some (.lst [.int 1])) : (tyD (.loc l) μ).isSome = true := by
  show (match μ[l]? with
    | some (.lst _) => some "list"
    | some (.fl _) => some "list"
    | some (.dic _) => some "dict"
    | some (.dit _) => some "dict"
    | _ => none : Option String).isSome = true
  rw [h]
  rfl
theorem ty_d (h : μ[d]? = some (.dic [])) : (tyD (.loc d) μ).isSome = true := by
  show (match μ[d]? with
    | some (.lst _) => some "list"
    | some (.fl _) => some "list"
    | some (.dic _) => some "dict"
    | some (.dit _) => some "dict"
    | _ => none : Option String).isSome = true
  rw [h]
  rfl
theorem loc_whole (h : (tyD (.loc l) μ).isSome = true) (hN : N (.bl false) μ) : W (phi p 2000 (k + 6) i_is_whole [.loc l] μ) N X := w_is_whole (by omega) h hN
theorem loc_number (h : (tyD (.loc l) μ).isSome = true) (hN : N (.bl false) μ) : W (phi p 2000 (k + 6) i_is_number [.loc l] μ) N X := w_is_number (by omega) h hN
theorem loc_numbers (h : (tyD (.loc l) μ).isSome = true) (hN : N (.bl false) μ) : W (phi p 2000 (k + 6) i_is_numbers [.loc l] μ) N X := by
  obtain ⟨_, _, h3, _⟩ := isi_all h
  rw [f_is_numbers]
  simp_all! only [b_is_numbers, b_is_numbers_0_0, h3, tuB]
  exact hN
theorem loc_word (h : (tyD (.loc l) μ).isSome = true) (hN : N (.bl false) μ) : W (phi p 2000 (k + 6) i_is_word [.loc l] μ) N X := by
  obtain ⟨_, _, _, h4⟩ := isi_all h
  rw [f_is_word]
  simp_all! only [b_is_word, b_is_word_0_0, h4, stB, b_is_word_1_0]
  exact hN
theorem v_whole {i : Nat} (hi : i < 31) (h1 : μ[l]? = some (.lst [.int 1])) (h2 : μ[d]? = some (.dic [])) (hN : N (.bl (in_whole i)) μ) : W (phi p 2000 (k + 6) i_is_whole [vAt l d i] μ) N X :=
  match i, hi, hN with
  | 0, _, hN => (show W (phi p 2000 (k + 6) i_is_whole [.int 0] μ) N X from by rw [q_whole_0]; exact hN)
  | 1, _, hN => (show W (phi p 2000 (k + 6) i_is_whole [.int 1] μ) N X from by rw [q_whole_1]; exact hN)
  | 2, _, hN => (show W (phi p 2000 (k + 6) i_is_whole [.int (-1)] μ) N X from by rw [q_whole_2]; exact hN)
  | 3, _, hN => (show W (phi p 2000 (k + 6) i_is_whole [.bl true] μ) N X from by rw [q_whole_3]; exact hN)
  | 4, _, hN => (show W (phi p 2000 (k + 6) i_is_whole [.bl false] μ) N X from by rw [q_whole_4]; exact hN)
  | 5, _, hN => (show W (phi p 2000 (k + 6) i_is_whole [.non] μ) N X from by rw [q_whole_5]; exact hN)
  | 6, _, hN => (show W (phi p 2000 (k + 6) i_is_whole [.str ""] μ) N X from by rw [q_whole_6]; exact hN)
  | 7, _, hN => (show W (phi p 2000 (k + 6) i_is_whole [.str "a"] μ) N X from by rw [q_whole_7]; exact hN)
  | 8, _, hN => (show W (phi p 2000 (k + 6) i_is_whole [.str "b1"] μ) N X from by rw [q_whole_8]; exact hN)
  | 9, _, hN => (show W (phi p 2000 (k + 6) i_is_whole [.str "1b"] μ) N X from by rw [q_whole_9]; exact hN)
  | 10, _, hN => (show W (phi p 2000 (k + 6) i_is_whole [.str "for"] μ) N X from by rw [q_whole_10]; exact hN)
  | 11, _, hN => (show W (phi p 2000 (k + 6) i_is_whole [.str "machine"] μ) N X from by rw [q_whole_11]; exact hN)
  | 12, _, hN => (show W (phi p 2000 (k + 6) i_is_whole [.str "abcdefghijkl"] μ) N X from by rw [q_whole_12]; exact hN)
  | 13, _, hN => (show W (phi p 2000 (k + 6) i_is_whole [.str "abcdefghijklm"] μ) N X from by rw [q_whole_13]; exact hN)
  | 14, _, hN => (show W (phi p 2000 (k + 6) i_is_whole [.str "A"] μ) N X from by rw [q_whole_14]; exact hN)
  | 15, _, hN => (show W (phi p 2000 (k + 6) i_is_whole [.str "a_b"] μ) N X from by rw [q_whole_15]; exact hN)
  | 16, _, hN => (show W (phi p 2000 (k + 6) i_is_whole [.tup []] μ) N X from by rw [q_whole_16]; exact hN)
  | 17, _, hN => (show W (phi p 2000 (k + 6) i_is_whole [.tup [.int 1, .int 2]] μ) N X from by rw [q_whole_17]; exact hN)
  | 18, _, hN => (show W (phi p 2000 (k + 6) i_is_whole [.int 32767] μ) N X from by rw [q_whole_18]; exact hN)
  | 19, _, hN => (show W (phi p 2000 (k + 6) i_is_whole [.int 32768] μ) N X from by rw [q_whole_19]; exact hN)
  | 20, _, hN => (show W (phi p 2000 (k + 6) i_is_whole [.int (-32768)] μ) N X from by rw [q_whole_20]; exact hN)
  | 21, _, hN => (show W (phi p 2000 (k + 6) i_is_whole [.int (-32769)] μ) N X from by rw [q_whole_21]; exact hN)
  | 22, _, hN => (show W (phi p 2000 (k + 6) i_is_whole [.tup [.int 1, .bl true]] μ) N X from by rw [q_whole_22]; exact hN)
  | 23, _, hN => loc_whole (ty_l h1) hN
  | 24, _, hN => (show W (phi p 2000 (k + 6) i_is_whole [.tup [.int 32768]] μ) N X from by rw [q_whole_24]; exact hN)
  | 25, _, hN => (show W (phi p 2000 (k + 6) i_is_whole [.tup [.str "a"]] μ) N X from by rw [q_whole_25]; exact hN)
  | 26, _, hN => (show W (phi p 2000 (k + 6) i_is_whole [.tup [.non]] μ) N X from by rw [q_whole_26]; exact hN)
  | 27, _, hN => loc_whole (ty_d h2) hN
  | 28, _, hN => (show W (phi p 2000 (k + 6) i_is_whole [.str "rank"] μ) N X from by rw [q_whole_28]; exact hN)
  | 29, _, hN => (show W (phi p 2000 (k + 6) i_is_whole [.str "ranks"] μ) N X from by rw [q_whole_29]; exact hN)
  | 30, _, hN => (show W (phi p 2000 (k + 6) i_is_whole [.str "size"] μ) N X from by rw [q_whole_30]; exact hN)
  | i + 31, hi, _ => absurd hi (by omega)
theorem v_number {i : Nat} (hi : i < 31) (h1 : μ[l]? = some (.lst [.int 1])) (h2 : μ[d]? = some (.dic [])) (hN : N (.bl (in_number i)) μ) : W (phi p 2000 (k + 6) i_is_number [vAt l d i] μ) N X :=
  match i, hi, hN with
  | 0, _, hN => (show W (phi p 2000 (k + 6) i_is_number [.int 0] μ) N X from by rw [q_number_0]; exact hN)
  | 1, _, hN => (show W (phi p 2000 (k + 6) i_is_number [.int 1] μ) N X from by rw [q_number_1]; exact hN)
  | 2, _, hN => (show W (phi p 2000 (k + 6) i_is_number [.int (-1)] μ) N X from by rw [q_number_2]; exact hN)
  | 3, _, hN => (show W (phi p 2000 (k + 6) i_is_number [.bl true] μ) N X from by rw [q_number_3]; exact hN)
  | 4, _, hN => (show W (phi p 2000 (k + 6) i_is_number [.bl false] μ) N X from by rw [q_number_4]; exact hN)
  | 5, _, hN => (show W (phi p 2000 (k + 6) i_is_number [.non] μ) N X from by rw [q_number_5]; exact hN)
  | 6, _, hN => (show W (phi p 2000 (k + 6) i_is_number [.str ""] μ) N X from by rw [q_number_6]; exact hN)
  | 7, _, hN => (show W (phi p 2000 (k + 6) i_is_number [.str "a"] μ) N X from by rw [q_number_7]; exact hN)
  | 8, _, hN => (show W (phi p 2000 (k + 6) i_is_number [.str "b1"] μ) N X from by rw [q_number_8]; exact hN)
  | 9, _, hN => (show W (phi p 2000 (k + 6) i_is_number [.str "1b"] μ) N X from by rw [q_number_9]; exact hN)
  | 10, _, hN => (show W (phi p 2000 (k + 6) i_is_number [.str "for"] μ) N X from by rw [q_number_10]; exact hN)
  | 11, _, hN => (show W (phi p 2000 (k + 6) i_is_number [.str "machine"] μ) N X from by rw [q_number_11]; exact hN)
  | 12, _, hN => (show W (phi p 2000 (k + 6) i_is_number [.str "abcdefghijkl"] μ) N X from by rw [q_number_12]; exact hN)
  | 13, _, hN => (show W (phi p 2000 (k + 6) i_is_number [.str "abcdefghijklm"] μ) N X from by rw [q_number_13]; exact hN)
  | 14, _, hN => (show W (phi p 2000 (k + 6) i_is_number [.str "A"] μ) N X from by rw [q_number_14]; exact hN)
  | 15, _, hN => (show W (phi p 2000 (k + 6) i_is_number [.str "a_b"] μ) N X from by rw [q_number_15]; exact hN)
  | 16, _, hN => (show W (phi p 2000 (k + 6) i_is_number [.tup []] μ) N X from by rw [q_number_16]; exact hN)
  | 17, _, hN => (show W (phi p 2000 (k + 6) i_is_number [.tup [.int 1, .int 2]] μ) N X from by rw [q_number_17]; exact hN)
  | 18, _, hN => (show W (phi p 2000 (k + 6) i_is_number [.int 32767] μ) N X from by rw [q_number_18]; exact hN)
  | 19, _, hN => (show W (phi p 2000 (k + 6) i_is_number [.int 32768] μ) N X from by rw [q_number_19]; exact hN)
  | 20, _, hN => (show W (phi p 2000 (k + 6) i_is_number [.int (-32768)] μ) N X from by rw [q_number_20]; exact hN)
  | 21, _, hN => (show W (phi p 2000 (k + 6) i_is_number [.int (-32769)] μ) N X from by rw [q_number_21]; exact hN)
  | 22, _, hN => (show W (phi p 2000 (k + 6) i_is_number [.tup [.int 1, .bl true]] μ) N X from by rw [q_number_22]; exact hN)
  | 23, _, hN => loc_number (ty_l h1) hN
  | 24, _, hN => (show W (phi p 2000 (k + 6) i_is_number [.tup [.int 32768]] μ) N X from by rw [q_number_24]; exact hN)
  | 25, _, hN => (show W (phi p 2000 (k + 6) i_is_number [.tup [.str "a"]] μ) N X from by rw [q_number_25]; exact hN)
  | 26, _, hN => (show W (phi p 2000 (k + 6) i_is_number [.tup [.non]] μ) N X from by rw [q_number_26]; exact hN)
  | 27, _, hN => loc_number (ty_d h2) hN
  | 28, _, hN => (show W (phi p 2000 (k + 6) i_is_number [.str "rank"] μ) N X from by rw [q_number_28]; exact hN)
  | 29, _, hN => (show W (phi p 2000 (k + 6) i_is_number [.str "ranks"] μ) N X from by rw [q_number_29]; exact hN)
  | 30, _, hN => (show W (phi p 2000 (k + 6) i_is_number [.str "size"] μ) N X from by rw [q_number_30]; exact hN)
  | i + 31, hi, _ => absurd hi (by omega)
theorem v_numbers {i : Nat} (hi : i < 31) (h1 : μ[l]? = some (.lst [.int 1])) (h2 : μ[d]? = some (.dic [])) (hN : N (.bl (in_numbers i)) μ) : W (phi p 2000 (k + 6) i_is_numbers [vAt l d i] μ) N X :=
  match i, hi, hN with
  | 0, _, hN => (show W (phi p 2000 (k + 6) i_is_numbers [.int 0] μ) N X from by rw [q_numbers_0]; exact hN)
  | 1, _, hN => (show W (phi p 2000 (k + 6) i_is_numbers [.int 1] μ) N X from by rw [q_numbers_1]; exact hN)
  | 2, _, hN => (show W (phi p 2000 (k + 6) i_is_numbers [.int (-1)] μ) N X from by rw [q_numbers_2]; exact hN)
  | 3, _, hN => (show W (phi p 2000 (k + 6) i_is_numbers [.bl true] μ) N X from by rw [q_numbers_3]; exact hN)
  | 4, _, hN => (show W (phi p 2000 (k + 6) i_is_numbers [.bl false] μ) N X from by rw [q_numbers_4]; exact hN)
  | 5, _, hN => (show W (phi p 2000 (k + 6) i_is_numbers [.non] μ) N X from by rw [q_numbers_5]; exact hN)
  | 6, _, hN => (show W (phi p 2000 (k + 6) i_is_numbers [.str ""] μ) N X from by rw [q_numbers_6]; exact hN)
  | 7, _, hN => (show W (phi p 2000 (k + 6) i_is_numbers [.str "a"] μ) N X from by rw [q_numbers_7]; exact hN)
  | 8, _, hN => (show W (phi p 2000 (k + 6) i_is_numbers [.str "b1"] μ) N X from by rw [q_numbers_8]; exact hN)
  | 9, _, hN => (show W (phi p 2000 (k + 6) i_is_numbers [.str "1b"] μ) N X from by rw [q_numbers_9]; exact hN)
  | 10, _, hN => (show W (phi p 2000 (k + 6) i_is_numbers [.str "for"] μ) N X from by rw [q_numbers_10]; exact hN)
  | 11, _, hN => (show W (phi p 2000 (k + 6) i_is_numbers [.str "machine"] μ) N X from by rw [q_numbers_11]; exact hN)
  | 12, _, hN => (show W (phi p 2000 (k + 6) i_is_numbers [.str "abcdefghijkl"] μ) N X from by rw [q_numbers_12]; exact hN)
  | 13, _, hN => (show W (phi p 2000 (k + 6) i_is_numbers [.str "abcdefghijklm"] μ) N X from by rw [q_numbers_13]; exact hN)
  | 14, _, hN => (show W (phi p 2000 (k + 6) i_is_numbers [.str "A"] μ) N X from by rw [q_numbers_14]; exact hN)
  | 15, _, hN => (show W (phi p 2000 (k + 6) i_is_numbers [.str "a_b"] μ) N X from by rw [q_numbers_15]; exact hN)
  | 16, _, hN => (show W (phi p 2000 (k + 6) i_is_numbers [.tup []] μ) N X from by rw [q_numbers_16]; exact hN)
  | 17, _, hN => (show W (phi p 2000 (k + 6) i_is_numbers [.tup [.int 1, .int 2]] μ) N X from by rw [q_numbers_17]; exact hN)
  | 18, _, hN => (show W (phi p 2000 (k + 6) i_is_numbers [.int 32767] μ) N X from by rw [q_numbers_18]; exact hN)
  | 19, _, hN => (show W (phi p 2000 (k + 6) i_is_numbers [.int 32768] μ) N X from by rw [q_numbers_19]; exact hN)
  | 20, _, hN => (show W (phi p 2000 (k + 6) i_is_numbers [.int (-32768)] μ) N X from by rw [q_numbers_20]; exact hN)
  | 21, _, hN => (show W (phi p 2000 (k + 6) i_is_numbers [.int (-32769)] μ) N X from by rw [q_numbers_21]; exact hN)
  | 22, _, hN => (show W (phi p 2000 (k + 6) i_is_numbers [.tup [.int 1, .bl true]] μ) N X from by rw [q_numbers_22]; exact hN)
  | 23, _, hN => loc_numbers (ty_l h1) hN
  | 24, _, hN => (show W (phi p 2000 (k + 6) i_is_numbers [.tup [.int 32768]] μ) N X from by rw [q_numbers_24]; exact hN)
  | 25, _, hN => (show W (phi p 2000 (k + 6) i_is_numbers [.tup [.str "a"]] μ) N X from by rw [q_numbers_25]; exact hN)
  | 26, _, hN => (show W (phi p 2000 (k + 6) i_is_numbers [.tup [.non]] μ) N X from by rw [q_numbers_26]; exact hN)
  | 27, _, hN => loc_numbers (ty_d h2) hN
  | 28, _, hN => (show W (phi p 2000 (k + 6) i_is_numbers [.str "rank"] μ) N X from by rw [q_numbers_28]; exact hN)
  | 29, _, hN => (show W (phi p 2000 (k + 6) i_is_numbers [.str "ranks"] μ) N X from by rw [q_numbers_29]; exact hN)
  | 30, _, hN => (show W (phi p 2000 (k + 6) i_is_numbers [.str "size"] μ) N X from by rw [q_numbers_30]; exact hN)
  | i + 31, hi, _ => absurd hi (by omega)
theorem v_word {i : Nat} (hi : i < 31) (h1 : μ[l]? = some (.lst [.int 1])) (h2 : μ[d]? = some (.dic [])) (hN : N (.bl (in_word i)) μ) : W (phi p 2000 (k + 6) i_is_word [vAt l d i] μ) N X :=
  match i, hi, hN with
  | 0, _, hN => (show W (phi p 2000 (k + 6) i_is_word [.int 0] μ) N X from by rw [q_word_0]; exact hN)
  | 1, _, hN => (show W (phi p 2000 (k + 6) i_is_word [.int 1] μ) N X from by rw [q_word_1]; exact hN)
  | 2, _, hN => (show W (phi p 2000 (k + 6) i_is_word [.int (-1)] μ) N X from by rw [q_word_2]; exact hN)
  | 3, _, hN => (show W (phi p 2000 (k + 6) i_is_word [.bl true] μ) N X from by rw [q_word_3]; exact hN)
  | 4, _, hN => (show W (phi p 2000 (k + 6) i_is_word [.bl false] μ) N X from by rw [q_word_4]; exact hN)
  | 5, _, hN => (show W (phi p 2000 (k + 6) i_is_word [.non] μ) N X from by rw [q_word_5]; exact hN)
  | 6, _, hN => (show W (phi p 2000 (k + 6) i_is_word [.str ""] μ) N X from by rw [q_word_6]; exact hN)
  | 7, _, hN => (show W (phi p 2000 (k + 6) i_is_word [.str "a"] μ) N X from by rw [q_word_7]; exact hN)
  | 8, _, hN => (show W (phi p 2000 (k + 6) i_is_word [.str "b1"] μ) N X from by rw [q_word_8]; exact hN)
  | 9, _, hN => (show W (phi p 2000 (k + 6) i_is_word [.str "1b"] μ) N X from by rw [q_word_9]; exact hN)
  | 10, _, hN => (show W (phi p 2000 (k + 6) i_is_word [.str "for"] μ) N X from by rw [q_word_10]; exact hN)
  | 11, _, hN => (show W (phi p 2000 (k + 6) i_is_word [.str "machine"] μ) N X from by rw [q_word_11]; exact hN)
  | 12, _, hN => (show W (phi p 2000 (k + 6) i_is_word [.str "abcdefghijkl"] μ) N X from by rw [q_word_12]; exact hN)
  | 13, _, hN => (show W (phi p 2000 (k + 6) i_is_word [.str "abcdefghijklm"] μ) N X from by rw [q_word_13]; exact hN)
  | 14, _, hN => (show W (phi p 2000 (k + 6) i_is_word [.str "A"] μ) N X from by rw [q_word_14]; exact hN)
  | 15, _, hN => (show W (phi p 2000 (k + 6) i_is_word [.str "a_b"] μ) N X from by rw [q_word_15]; exact hN)
  | 16, _, hN => (show W (phi p 2000 (k + 6) i_is_word [.tup []] μ) N X from by rw [q_word_16]; exact hN)
  | 17, _, hN => (show W (phi p 2000 (k + 6) i_is_word [.tup [.int 1, .int 2]] μ) N X from by rw [q_word_17]; exact hN)
  | 18, _, hN => (show W (phi p 2000 (k + 6) i_is_word [.int 32767] μ) N X from by rw [q_word_18]; exact hN)
  | 19, _, hN => (show W (phi p 2000 (k + 6) i_is_word [.int 32768] μ) N X from by rw [q_word_19]; exact hN)
  | 20, _, hN => (show W (phi p 2000 (k + 6) i_is_word [.int (-32768)] μ) N X from by rw [q_word_20]; exact hN)
  | 21, _, hN => (show W (phi p 2000 (k + 6) i_is_word [.int (-32769)] μ) N X from by rw [q_word_21]; exact hN)
  | 22, _, hN => (show W (phi p 2000 (k + 6) i_is_word [.tup [.int 1, .bl true]] μ) N X from by rw [q_word_22]; exact hN)
  | 23, _, hN => loc_word (ty_l h1) hN
  | 24, _, hN => (show W (phi p 2000 (k + 6) i_is_word [.tup [.int 32768]] μ) N X from by rw [q_word_24]; exact hN)
  | 25, _, hN => (show W (phi p 2000 (k + 6) i_is_word [.tup [.str "a"]] μ) N X from by rw [q_word_25]; exact hN)
  | 26, _, hN => (show W (phi p 2000 (k + 6) i_is_word [.tup [.non]] μ) N X from by rw [q_word_26]; exact hN)
  | 27, _, hN => loc_word (ty_d h2) hN
  | 28, _, hN => (show W (phi p 2000 (k + 6) i_is_word [.str "rank"] μ) N X from by rw [q_word_28]; exact hN)
  | 29, _, hN => (show W (phi p 2000 (k + 6) i_is_word [.str "ranks"] μ) N X from by rw [q_word_29]; exact hN)
  | 30, _, hN => (show W (phi p 2000 (k + 6) i_is_word [.str "size"] μ) N X from by rw [q_word_30]; exact hN)
  | i + 31, hi, _ => absurd hi (by omega)
end
end K00

namespace K00
open PySem PySem.Spec PyProof.Rows L2 Tk
/-- the numbers below n that P holds of -/
def fl (P : Nat → Bool) (n : Nat) : List D := ((List.range n).filter P).map fun i => .int ((i : Nat) : Int)
theorem fl_t {P : Nat → Bool} {n : Nat} (h : P n = true) : fl P (n + 1) = fl P n ++ [.int ((n : Nat) : Int)] := by
  unfold fl
  rw [List.range_succ, List.filter_append, List.map_append]
  simp [h]
theorem fl_f {P : Nat → Bool} {n : Nat} (h : P n = false) : fl P (n + 1) = fl P n := by
  unfold fl
  rw [List.range_succ, List.filter_append, List.map_append]
  simp [h]
theorem fl_len {P : Nat → Bool} {n : Nat} : (fl P n).length ≤ n := by
  unfold fl
  rw [List.length_map]
  exact Nat.le_trans (List.length_filter_le _ _) (by simp)
theorem v_at {l d i : Nat} (h : i < 31) : atI (vals l d) (i : Int) = some (vAt l d i) := by
  rw [atI_nn (by omega)]
  show (vals l d)[i]? = _
  unfold vAt
  rw [List.getD_eq_getElem?_getD, List.getElem?_eq_getElem (show i < (vals l d).length from h)]
  rfl
section
variable {μ : Mu} {k : Nat} {N : D → Mu → Prop} {X : XQ} {ns : List Int} {l d v a b c e : Nat}
abbrev δ3 (o3 o4 o5 o6 o7 o8 : Option D) (v a b c e : Nat) (o14 o15 : Option D) : Dl := [some (.loc 0), some (.loc 1), some (.loc 2), o3, o4, o5, o6, o7, o8, some (.loc v), some (.loc a), some (.loc b), some (.loc c), some (.loc e), o14, o15]
/-- the memory of the loop -/
structure M3 (l d v a b c e : Nat) (n1 n2 n3 n4 : Nat) (μ : Mu) : Prop where
  hl : μ[l]? = some (.lst [.int 1])
  hd : μ[d]? = some (.dic [])
  hv : μ[v]? = some (.lst (vals l d))
  ha : μ[a]? = some (.lst (fl in_whole n1))
  hb : μ[b]? = some (.lst (fl in_number n2))
  hc : μ[c]? = some (.lst (fl in_numbers n3))
  he : μ[e]? = some (.lst (fl in_word n4))
structure Ne (l d v a b c e : Nat) : Prop where
  ne : l ≠ a ∧ l ≠ b ∧ l ≠ c ∧ l ≠ e ∧ d ≠ a ∧ d ≠ b ∧ d ≠ c ∧ d ≠ e ∧ v ≠ a ∧ v ≠ b ∧ v ≠ c ∧ v ≠ e ∧ a ≠ b ∧ a ≠ c ∧ a ≠ e ∧ b ≠ c ∧ b ≠ e ∧ c ≠ e
theorem t_whole {K : KS} {i : Nat} {o4 o5 o6 o7 o8 o14 o15 : Option D} (hi : i < 31) (n : Ne l d v a b c e) (m : M3 l d v a b c e i i i i μ) (hN : ∀ μ', Kp [a, b, c, e] μ μ' → M3 l d v a b c e (i + 1) i i i μ' → WS (evSs (omAt p 2000 (k + 6)) b_law_6_1 (δ3 (some (.int i)) o4 o5 o6 o7 o8 v a b c e o14 o15) μ') K) :
    WS (evSs (omAt p 2000 (k + 6)) b_law_6_0 (δ3 (some (.int i)) o4 o5 o6 o7 o8 v a b c e o14 o15) μ) K := by
  obtain ⟨n1, n2, n3, n4, n5, n6, n7, n8, n9, n10, n11, n12, n13, n14, n15, n16, n17, n18⟩ := n.ne
  have hl := fl_len (P := in_whole) (n := i)
  simp_all! only [b_law_6_0, m.hv, v_at hi]
  refine v_whole hi m.hl m.hd ?_
  cases hw : in_whole i with
  | true =>
    have hs := m.ha
    simp_all! only [b_law_13_0, hs]
    refine ⟨by omega, hN _ (Kp.set (by simp)) ⟨?_, ?_, ?_, ?_, ?_, ?_, ?_⟩⟩
    · rw [at_ne (by omega)]; exact m.hl
    · rw [at_ne (by omega)]; exact m.hd
    · rw [at_ne (by omega)]; exact m.hv
    · rw [at_set hs, fl_t hw]
    · rw [at_ne (by omega)]; exact m.hb
    · rw [at_ne (by omega)]; exact m.hc
    · rw [at_ne (by omega)]; exact m.he
  | false =>
    simp_all! only []
    refine hN _ Kp.refl ⟨m.hl, m.hd, m.hv, by rw [fl_f hw]; exact m.ha, m.hb, m.hc, m.he⟩
theorem t_number {K : KS} {i : Nat} {o4 o5 o6 o7 o8 o14 o15 : Option D} (hi : i < 31) (n : Ne l d v a b c e) (m : M3 l d v a b c e (i + 1) i i i μ) (hN : ∀ μ', Kp [a, b, c, e] μ μ' → M3 l d v a b c e (i + 1) (i + 1) i i μ' → WS (evSs (omAt p 2000 (k + 6)) b_law_6_2 (δ3 (some (.int i)) o4 o5 o6 o7 o8 v a b c e o14 o15) μ') K) :
    WS (evSs (omAt p 2000 (k + 6)) b_law_6_1 (δ3 (some (.int i)) o4 o5 o6 o7 o8 v a b c e o14 o15) μ) K := by
  obtain ⟨n1, n2, n3, n4, n5, n6, n7, n8, n9, n10, n11, n12, n13, n14, n15, n16, n17, n18⟩ := n.ne
  have hl := fl_len (P := in_number) (n := i)
  simp_all! only [b_law_6_1, m.hv, v_at hi]
  refine v_number hi m.hl m.hd ?_
  cases hw : in_number i with
  | true =>
    have hs := m.hb
    simp_all! only [b_law_11_0, hs]
    refine ⟨by omega, hN _ (Kp.set (by simp)) ⟨?_, ?_, ?_, ?_, ?_, ?_, ?_⟩⟩
    · rw [at_ne (by omega)]; exact m.hl
    · rw [at_ne (by omega)]; exact m.hd
    · rw [at_ne (by omega)]; exact m.hv
    · rw [at_ne (by omega)]; exact m.ha
    · rw [at_set hs, fl_t hw]
    · rw [at_ne (by omega)]; exact m.hc
    · rw [at_ne (by omega)]; exact m.he
  | false =>
    simp_all! only []
    refine hN _ Kp.refl ⟨m.hl, m.hd, m.hv, m.ha, by rw [fl_f hw]; exact m.hb, m.hc, m.he⟩
theorem t_numbers {K : KS} {i : Nat} {o4 o5 o6 o7 o8 o14 o15 : Option D} (hi : i < 31) (n : Ne l d v a b c e) (m : M3 l d v a b c e (i + 1) (i + 1) i i μ) (hN : ∀ μ', Kp [a, b, c, e] μ μ' → M3 l d v a b c e (i + 1) (i + 1) (i + 1) i μ' → WS (evSs (omAt p 2000 (k + 6)) b_law_6_3 (δ3 (some (.int i)) o4 o5 o6 o7 o8 v a b c e o14 o15) μ') K) :
    WS (evSs (omAt p 2000 (k + 6)) b_law_6_2 (δ3 (some (.int i)) o4 o5 o6 o7 o8 v a b c e o14 o15) μ) K := by
  obtain ⟨n1, n2, n3, n4, n5, n6, n7, n8, n9, n10, n11, n12, n13, n14, n15, n16, n17, n18⟩ := n.ne
  have hl := fl_len (P := in_numbers) (n := i)
  simp_all! only [b_law_6_2, m.hv, v_at hi]
  refine v_numbers hi m.hl m.hd ?_
  cases hw : in_numbers i with
  | true =>
    have hs := m.hc
    simp_all! only [b_law_9_0, hs]
    refine ⟨by omega, hN _ (Kp.set (by simp)) ⟨?_, ?_, ?_, ?_, ?_, ?_, ?_⟩⟩
    · rw [at_ne (by omega)]; exact m.hl
    · rw [at_ne (by omega)]; exact m.hd
    · rw [at_ne (by omega)]; exact m.hv
    · rw [at_ne (by omega)]; exact m.ha
    · rw [at_ne (by omega)]; exact m.hb
    · rw [at_set hs, fl_t hw]
    · rw [at_ne (by omega)]; exact m.he
  | false =>
    simp_all! only []
    refine hN _ Kp.refl ⟨m.hl, m.hd, m.hv, m.ha, m.hb, by rw [fl_f hw]; exact m.hc, m.he⟩
theorem t_word {K : KS} {i : Nat} {o4 o5 o6 o7 o8 o14 o15 : Option D} (hi : i < 31) (n : Ne l d v a b c e) (m : M3 l d v a b c e (i + 1) (i + 1) (i + 1) i μ) (hN : ∀ μ', Kp [a, b, c, e] μ μ' → M3 l d v a b c e (i + 1) (i + 1) (i + 1) (i + 1) μ' → K.n (δ3 (some (.int i)) o4 o5 o6 o7 o8 v a b c e o14 o15) μ') :
    WS (evSs (omAt p 2000 (k + 6)) b_law_6_3 (δ3 (some (.int i)) o4 o5 o6 o7 o8 v a b c e o14 o15) μ) K := by
  obtain ⟨n1, n2, n3, n4, n5, n6, n7, n8, n9, n10, n11, n12, n13, n14, n15, n16, n17, n18⟩ := n.ne
  have hl := fl_len (P := in_word) (n := i)
  simp_all! only [b_law_6_3, m.hv, v_at hi]
  refine v_word hi m.hl m.hd ?_
  cases hw : in_word i with
  | true =>
    have hs := m.he
    simp_all! only [b_law_7_0, hs]
    refine ⟨by omega, hN _ (Kp.set (by simp)) ⟨?_, ?_, ?_, ?_, ?_, ?_, ?_⟩⟩
    · rw [at_ne (by omega)]; exact m.hl
    · rw [at_ne (by omega)]; exact m.hd
    · rw [at_ne (by omega)]; exact m.hv
    · rw [at_ne (by omega)]; exact m.ha
    · rw [at_ne (by omega)]; exact m.hb
    · rw [at_ne (by omega)]; exact m.hc
    · rw [at_set hs, fl_t hw]
  | false =>
    simp_all! only []
    refine hN _ Kp.refl ⟨m.hl, m.hd, m.hv, m.ha, m.hb, m.hc, by rw [fl_f hw]; exact m.he⟩
theorem w_values {K : KS} {o3 o4 o5 o6 o7 o8 o14 o15 : Option D} (hk : 9 ≤ k) (n : Ne l d v a b c e) (m : M3 l d v a b c e 0 0 0 0 μ)
    (hN : ∀ o3 μ', Kp [a, b, c, e] μ μ' → M3 l d v a b c e 31 31 31 31 μ' → WS (evSs (omAt p 2000 k) b_law_0_8 (δ3 o3 o4 o5 o6 o7 o8 v a b c e o14 o15) μ') K) :
    WS (evSs (omAt p 2000 k) b_law_0_7 (δ3 o3 o4 o5 o6 o7 o8 v a b c e o14 o15) μ) K := by
  obtain ⟨k, rfl⟩ : ∃ k', k = k' + 6 := ⟨k - 6, by omega⟩
  have hlen : (vals l d).length = 31 := rfl
  simp_all! only [b_law_0_7, m.hv, hlen]
  refine ⟨by decide, ?_⟩
  show WS (forN _ _ (Src.rng 0 31) 2000 0 _ _) _
  refine forN_rng (fun i δ μ' => ∃ o3, δ = δ3 o3 o4 o5 o6 o7 o8 v a b c e o14 o15 ∧ Kp [a, b, c, e] μ μ' ∧ M3 l d v a b c e i i i i μ') ⟨_, rfl, Kp.refl, m⟩ (show 31 < 2000 by decide) (fun i δ μ' hi hI => ?_) (fun δ μ' hI => ?_)
  · obtain ⟨o3, rfl, kp, m⟩ := hI
    have hi : i < 31 := hi
    refine ⟨_, rfl, ?_⟩
    have e0 : (0 : Int) + (i : Int) = (i : Int) := by omega
    rw [e0]
    refine t_whole hi n m fun μ1 k1 m1 => t_number hi n m1 fun μ2 k2 m2 => t_numbers hi n m2 fun μ3 k3 m3 => t_word hi n m3 fun μ4 k4 m4 => ?_
    simp_all! only [loopK]
    first | exact ⟨_, rfl, kp.trans (k1.trans (k2.trans (k3.trans k4))), m4⟩ | exact ⟨⟨_, rfl⟩, kp.trans (k1.trans (k2.trans (k3.trans k4))), m4⟩ | trace_state
  · obtain ⟨o3, rfl, kp, m⟩ := hI
    exact hN _ _ kp m
end
end K00

namespace K00
open PySem PySem.Spec PyProof.Rows L2 Tk
theorem f1 : fl in_whole 31 = [.int 0, .int 1, .int 2, .int 18, .int 19, .int 20, .int 21] := by kernel_rfl
theorem f2 : fl in_number 31 = [.int 0, .int 1, .int 2, .int 18, .int 20] := by kernel_rfl
theorem f3 : fl in_numbers 31 = [.int 16, .int 17] := by kernel_rfl
theorem f4 : fl in_word 31 = [.int 7, .int 8, .int 12, .int 29, .int 30] := by kernel_rfl
section
variable {μ : Mu} {k : Nat} {N : D → Mu → Prop} {X : XQ} {ns : List Int} {l d v a b c e : Nat}
theorem w_end {K : KS} {o3 o4 o5 o6 o7 o8 : Option D} (hk : 9 ≤ k) (hl : ns.length ≤ 63) (h : DSt 1 0 ns [] μ) (hN : ∀ μ', K.r (.bl true) μ') : WS (evSs (omAt p 2000 k) b_law_0_9 (δ3 o3 o4 o5 o6 o7 o8 v a b c e none none) μ) K := by
  obtain ⟨k, rfl⟩ : ∃ k', k = k' + 6 := ⟨k - 6, by omega⟩
  simp_all! only [b_law_0_9]
  refine w_dr (by omega) hl h (by decide) (by decide) fun x μ1 x0 x1 k1 h1 => ?_
  simp_all! only [b_law_0_10]
  refine w_dr (by omega) hl h1 (by decide) (by decide) fun y μ2 y0 y1 k2 h2 => ?_
  simp_all! only [b_law_0_11]
  generalize x - 25 = lo
  generalize lo + y = hi
  refine forN_rng (fun i δ μ' => ∃ o3, δ = δ3 o3 o4 o5 o6 o7 o8 v a b c e (some (.int lo)) (some (.int hi)) ∧ μ' = μ2) ⟨_, rfl, rfl⟩ (by decide) (fun i δ μ' hii hI => ?_) (fun δ μ' hI => ?_)
  · obtain ⟨o3, rfl, rfl⟩ := hI
    refine ⟨_, rfl, ?_⟩
    generalize (-30 : Int) + (i : Int) = t
    simp_all! only [b_law_1_0]
    refine w_is_within (by omega) rfl ?_
    have e1 : wiB (.int t) lo hi = (decide (lo ≤ t) && decide (t ≤ hi)) := rfl
    rw [e1]
    simp_all! only []
    by_cases g1 : lo ≤ t
    · rw [if_pos g1]
      simp_all! only [g1]
      exact ⟨_, rfl, rfl⟩
    · rw [if_neg g1, decide_eq_false g1, Bool.false_and]
      simp_all! only [loopK]
      first | exact ⟨_, rfl, rfl⟩ | exact ⟨_, rfl⟩
  · obtain ⟨o3, rfl, rfl⟩ := hI
    simp_all! only [b_law_0_12]
    refine w_is_within (by omega) rfl ?_
    simp_all! only [wiB]
    refine w_is_within (by omega) rfl ?_
    simp_all! only [wiB]
    exact hN _
theorem w_check {K : KS} {o3 o4 o5 o6 o7 o8 : Option D} (hk : 9 ≤ k) (m : M3 l d v a b c e 31 31 31 31 μ) (hN : ∀ μ', Kp [] μ μ' → WS (evSs (omAt p 2000 k) b_law_0_9 (δ3 o3 o4 o5 o6 o7 o8 v a b c e none none) μ') K) :
    WS (evSs (omAt p 2000 k) b_law_0_8 (δ3 o3 o4 o5 o6 o7 o8 v a b c e none none) μ) K := by
  have ha := m.ha
  have hb := m.hb
  have hc := m.hc
  have he := m.he
  rw [f1] at ha
  rw [f2] at hb
  rw [f3] at hc
  rw [f4] at he
  have la := at_lt ha
  have lb := at_lt hb
  have lc := at_lt hc
  have le := at_lt he
  generalize g1 : ([.int 0, .int 1, .int 2, .int 18, .int 19, .int 20, .int 21] : List D) = l1 at *
  generalize g2 : ([.int 0, .int 1, .int 2, .int 18, .int 20] : List D) = l2 at *
  generalize g3 : ([.int 16, .int 17] : List D) = l3 at *
  generalize g4 : ([.int 7, .int 8, .int 12, .int 29, .int 30] : List D) = l4 at *
  have q1 : eqD (μ ++ [.lst l1]) (.loc a) (.loc μ.length) = some true := eq_lists (ds := l1) (lst_l (by rw [List.getElem?_append_left la]; exact ha)) (lst_l (by simp)) (by rw [← g1]; rfl)
  have q2 : eqD (μ ++ [.lst l1, .lst l2]) (.loc b) (.loc (μ.length + 1)) = some true := eq_lists (ds := l2) (lst_l (by rw [List.getElem?_append_left lb]; exact hb)) (lst_l (by simp)) (by rw [← g2]; rfl)
  have q3 : eqD (μ ++ [.lst l1, .lst l2, .lst l3]) (.loc c) (.loc (μ.length + 2)) = some true := eq_lists (ds := l3) (lst_l (by rw [List.getElem?_append_left lc]; exact hc)) (lst_l (by simp)) (by rw [← g3]; rfl)
  have q4 : eqD (μ ++ [.lst l1, .lst l2, .lst l3, .lst l4]) (.loc e) (.loc (μ.length + 3)) = some true := eq_lists (ds := l4) (lst_l (by rw [List.getElem?_append_left le]; exact he)) (lst_l (by simp)) (by rw [← g4]; rfl)
  rw [← g1] at q1 q2 q3 q4
  rw [← g2] at q2 q3 q4
  rw [← g3] at q3 q4
  rw [← g4] at q4
  simp_all! only [b_law_0_8, q1, q2, q3, q4]
  exact hN _ Kp.app
theorem w_rest {K : KS} {o3 o4 o5 o6 o7 o8 : Option D} (hk : 9 ≤ k) (hl : ns.length ≤ 63) (h : DSt 1 0 ns [] μ) (hN : ∀ μ', K.r (.bl true) μ') : WS (evSs (omAt p 2000 k) b_law_0_4 (δ2 o3 o4 o5 o6 o7 o8) μ) K := by
  simp_all! only [b_law_0_4]
  simp_all! only [b_law_0_5]
  generalize hO1 : (MO.lst [D.int 0, D.int 1, D.int (-1), D.bl true, D.bl false, D.non, D.str "", D.str "a", D.str "b1", D.str "1b", D.str "for", D.str "machine", D.str "abcdefghijkl", D.str "abcdefghijklm", D.str "A", D.str "a_b", D.tup [], D.tup [D.int 1, D.int 2]]) = O1
  generalize hO2 : (MO.lst [D.int 32767, D.int 32768, D.int (-32768), D.int (-32769), D.tup [D.int 1, D.bl true], D.loc (List.length μ + 1), D.tup [D.int 32768], D.tup [D.str "a"], D.tup [D.non], D.loc (List.length μ + 2), D.str "rank", D.str "ranks", D.str "size"]) = O2
  show WS (evSs (omAt p 2000 k) b_law_0_6 [some (D.loc 0), some (D.loc 1), some (D.loc 2), o3, o4, o5, o6, o7, o8, some (D.loc (List.length μ + 4)), none, none, none, none, none, none] (μ ++ [O1, MO.lst [D.int 1], MO.dic [], O2, MO.lst (vals (μ.length + 1) (μ.length + 2))])) K
  generalize hV : MO.lst (vals (μ.length + 1) (μ.length + 2)) = OV
  simp_all! only [b_law_0_6]
  have h' : DSt 1 0 ns [] (μ ++ [O1, MO.lst [D.int 1], MO.dic [], O2, OV, MO.lst [], MO.lst [], MO.lst [], MO.lst []]) := h.keep (Kp.app (xs := [])) (by simp) (by simp)
  have m : M3 (μ.length + 1) (μ.length + 2) (μ.length + 4) (μ.length + 5) (μ.length + 6) (μ.length + 7) (μ.length + 8) 0 0 0 0 (μ ++ [O1, MO.lst [D.int 1], MO.dic [], O2, OV, MO.lst [], MO.lst [], MO.lst [], MO.lst []]) := by
    refine ⟨?_, ?_, ?_, ?_, ?_, ?_, ?_⟩
    · simp
    · simp
    · rw [hV]; simp
    · show _ = some (MO.lst []); simp
    · show _ = some (MO.lst []); simp
    · show _ = some (MO.lst []); simp
    · show _ = some (MO.lst []); simp
  have hz := at_lt h.scr
  obtain ⟨sa, sb, hst, _⟩ := h.st
  have hz2 := at_lt hst
  refine w_values hk ⟨by omega⟩ m fun o3 μ1 k1 m1 => ?_
  have h1 := h'.keep k1 (by simp) (by simp)
  refine w_check hk m1 fun μ2 k2 => ?_
  exact w_end hk hl (h1.keep k2 (by simp) (by simp)) hN
end
theorem law_ok (ns : List Int) (hl : ns.length ≤ 63) : ∃ μ, phi p 2000 40 i_law [.loc 0] [.fl (ns.map .int)] = .ok (.bl true) μ := by
  refine W.get ?_
  show W (phi p 2000 (39 + 1) i_law [.loc 0] [.fl (ns.map .int)]) _ _
  rw [f_law]
  simp_all! only [b_law, b_law_0_0, b_law_0_1]
  have h0 : DSt 1 0 ns [] [MO.fl (ns.map .int), MO.lst [D.int 0, D.int 0], MO.lst nmL] := ⟨rfl, 0, 0, rfl, by decide, by decide⟩
  refine w_first (by decide) hl h0 rfl fun o3 o4 μ1 h1 => ?_
  refine w_second (by decide) hl h1 fun o3 o4 o5 o6 o7 o8 μ2 h2 => ?_
  exact w_rest (by decide) hl h2 fun _ => rfl
end K00

namespace K00
open PySem PySem.Spec PyProof.Rows L2 Tk
abbrev R : PySem.W.OpenRow := PySem.W.OpenLaw.row PySem.Challenge.rw_ticksahead_k00_numbers_and_errors
abbrev fa : List He.Fa := p.fa ++ [.glo "law"]
abbrev fn : List He.DefD := p.T.map Dd.he
theorem run (w : World) : HandSHeadRun.RunEq R (PySem.W.view R.prog [29]) (hookM 4 fa fn p.X p.tf (exM p)) (obM 4 fa fn p.X p.tf (exM p)) 8000 ["LOW", "HIGH", "ROUND", "LETTERS", "FIGURES", "TAKEN", "wrapped", "is_whole", "is_within", "is_number", "is_numbers", "is_word", "sum_of", "TicksaheadError", "TooLarge", "InvalidText", "InvalidTree", "InvalidCode", "InvalidState", "InvalidRun", "InvalidPaper", "InvalidName", "_law_draw", "_law_wrapped", "_law_joined", "_law_raised"] w := by
  intro os
  kernel_rfl
end K00
open PySem PySem.W PySem.Calls PyProof.Rows
theorem PySem.Challenge.cw_ticksahead_k00_numbers_and_errors_holds : PySem.Challenge.rw_ticksahead_k00_numbers_and_errors.Holds := by
  w_on; o_law
  refine HandSHeadRun.head_any (r := OpenLaw.row PySem.Challenge.rw_ticksahead_k00_numbers_and_errors) (q := view (OpenLaw.row PySem.Challenge.rw_ticksahead_k00_numbers_and_errors).prog [29]) (H := Tk.hookM 4 K00.fa K00.fn K00.p.X K00.p.tf (Tk.exM K00.p)) (ob := Tk.obM 4 K00.fa K00.fn K00.p.X K00.p.tf (Tk.exM K00.p)) (M := 8000) (loose := ["LOW", "HIGH", "ROUND", "LETTERS", "FIGURES", "TAKEN", "wrapped", "is_whole", "is_within", "is_number", "is_numbers", "is_word", "sum_of", "TicksaheadError", "TooLarge", "InvalidText", "InvalidTree", "InvalidCode", "InvalidState", "InvalidRun", "InvalidPaper", "InvalidName", "_law_draw", "_law_wrapped", "_law_joined", "_law_raised"]) (d := HandSHeadRun.topDef (OpenLaw.row PySem.Challenge.rw_ticksahead_k00_numbers_and_errors).prog 29) (kwd := []) Tk.obM_eq
    (by kernel_rfl) (fun s => by kernel_rfl) K00.run (by kernel_rfl) (by kernel_rfl) (by kernel_rfl) (by rfl) (by first | assumption | decide +kernel) (by decide +kernel) ⟨rfl, rfl, rfl, rfl, rfl, by decide +kernel⟩ ?hw ?hc
  case hw => w_witness2
  case hc =>
    exact Tk.law_walk (l := PySem.Challenge.rw_ticksahead_k00_numbers_and_errors) (n := 63) (k := 40) (p := K00.p) (iL := K00.i_law) (fu := 2000) (m := 40) (dl := K00.d_law) (x := "script") (xn := "law") rfl (by decide) (by kernel_rfl) ⟨rfl, by decide, by decide⟩ (by kernel_rfl) rfl (by kernel_rfl) (by kernel_rfl) rfl rfl K00.p_ok K00.p_b K00.p_bind K00.p_okx K00.p_bx (by kernel_rfl) rfl K00.law_ok
