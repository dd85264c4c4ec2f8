import PyProof.Rows.All
import Wide.All
import OpenK.AllK
import Wide.FinOn
import HandS.ForMost
import HandS.ForExc
import HandS.Small
import HandS.TupAny
import HandS.StrMore
import HandS.Deep
import HandS.IsInst
import HandS.Style
import HandS.TupLe
import HandS.CallSlots
import HandS.HeadHook2
import PySem.Challenge.RW_storesagree_k70_journals
import KE.KStateDown
import Lean
import HandS.Ends
import HandS.Defaults
import HandS.Head0
import HandS.Head1
import HandS.Head2
import HandS.HeadEnd
import HandS.HeadHook1
set_option Elab.async false
set_option linter.all false
set_option maxRecDepth 100000
/-! ## Dl1 -/
set_option maxHeartbeats 4000000
/-! Values without addresses: tuples are data, lists, dicts and instances stand in a heap of one's own (a list of objects); a deterministic reading over these. -/
namespace DL
open PySem PySem.Spec PyProof.Rows L2
abbrev Fg := PySem.W.Frag

inductive D where
  | non | bl (b : Bool) | int (i : Int) | str (s : Str) | tup (ds : List D) | ref (n : Nat) | glo (x : Str) | fz (ds : List D)
inductive O where
  | lst (xs : List D) | dic (kvs : List (Key × D)) | ins (C : Str) (fs : List (Str × D))
abbrev G := List O
abbrev Ev := List (Option D)
inductive R (σ α : Type) where
  | ok (a : α) (s : σ) | exn (c : Str) (s : σ) | no
abbrev EM (α : Type) := Ev → G → R G α

/-- a list that is read, never written: locked, or an object of the module -/
def SqF (K : Fg) (H : Hp) (a : Addr) (xs : List V) : Prop :=
  (∃ o, H a = some (.frz o (.lst xs))) ∨
    ∃ (o : Obj) (its : Array Value) (n : Nat), K.lookup a = some o ∧ o.cls = .type "list" ∧ o.dict = none ∧ o.data = .seq its n ∧ its.size ≤ sizeLine ∧ Vals xs its.toList
theorem SqF.l {K : Fg} {H : Hp} {a : Addr} {xs : List V} (h : SqF K H a xs) : SqL K H a xs := by
  rcases h with ⟨o, h⟩ | h
  · exact .inl (.inr ⟨o, h⟩)
  · exact .inr h
def SqW (K : Fg) (H : Hp) : Bool → Addr → List V → Prop
  | true, a, xs => SqT K H a xs
  | false, a, xs => SqF K H a xs
mutual
def DV (K : Fg) (H : Hp) (α : List Addr) : D → V → Prop
  | .non, v => v = .non
  | .bl b, v => v = .bl b
  | .int i, v => v = .int i
  | .str s, v => v = .str s
  | .tup ds, v => ∃ a xs, v = .ref a ∧ SqT K H a xs ∧ DVs K H α ds xs
  | .ref n, v => ∃ a, v = .ref a ∧ α[n]? = some a
  | .glo x, v => v = .ref (He.ga K x)
  | .fz ds, v => ∃ a xs, v = .ref a ∧ SqF K H a xs ∧ DVs K H α ds xs
def DVs (K : Fg) (H : Hp) (α : List Addr) : List D → List V → Prop
  | [], vs => vs = []
  | d :: ds, vs => ∃ v r, vs = v :: r ∧ DV K H α d v ∧ DVs K H α ds r
end

section
variable {K : Fg} {H H' : Hp} {α α' : List Addr}
theorem DVs.length : ∀ {ds : List D} {vs : List V}, DVs K H α ds vs → ds.length = vs.length
  | [], vs, h => by have h : vs = [] := h; subst h; rfl
  | d :: ds, vs, h => by
    obtain ⟨v, r, rfl, _, h2⟩ := h
    simp [DVs.length h2]
theorem DVs.nil : DVs K H α [] [] := rfl
theorem DVs.cons {d v ds vs} (h : DV K H α d v) (t : DVs K H α ds vs) : DVs K H α (d :: ds) (v :: vs) := ⟨v, vs, rfl, h, t⟩
theorem DVs.get : ∀ {ds : List D} {vs : List V} {i : Nat} {d : D}, DVs K H α ds vs → ds[i]? = some d → ∃ v, vs[i]? = some v ∧ DV K H α d v
  | [], _, _, _, _, e => by simp at e
  | d :: ds, _, 0, x, h, e => by
    obtain ⟨v, r, rfl, h1, _⟩ := h
    simp at e; subst e
    exact ⟨v, rfl, h1⟩
  | d :: ds, _, i + 1, x, h, e => by
    obtain ⟨v, r, rfl, _, h2⟩ := h
    simp at e
    obtain ⟨w, q1, q2⟩ := DVs.get h2 e
    exact ⟨w, by simpa using q1, q2⟩
theorem DVs.get' : ∀ {ds : List D} {vs : List V} {i : Nat} {v : V}, DVs K H α ds vs → vs[i]? = some v → ∃ d, ds[i]? = some d ∧ DV K H α d v := by
  intro ds vs i v h e
  have hl := h.length
  have hi : i < vs.length := (List.getElem?_eq_some_iff.mp e).1
  have hd : ds[i]? = some ds[i] := by simp [hl ▸ hi]
  obtain ⟨w, q1, q2⟩ := h.get hd
  rw [e] at q1; cases q1
  exact ⟨_, hd, q2⟩
theorem DVs.append : ∀ {ds es : List D} {vs ws : List V}, DVs K H α ds vs → DVs K H α es ws → DVs K H α (ds ++ es) (vs ++ ws)
  | [], _, vs, _, h, h' => by have h : vs = [] := h; subst h; simpa using h'
  | d :: ds, _, _, _, h, h' => by
    obtain ⟨v, r, rfl, h1, h2⟩ := h
    exact ⟨v, _, rfl, h1, DVs.append h2 h'⟩
theorem DVs.take : ∀ {ds : List D} {vs : List V} (n : Nat), DVs K H α ds vs → DVs K H α (ds.take n) (vs.take n)
  | ds, vs, 0, h => by simp; exact DVs.nil
  | [], vs, n + 1, h => by have h : vs = [] := h; subst h; exact DVs.nil
  | d :: ds, _, n + 1, h => by
    obtain ⟨v, r, rfl, h1, h2⟩ := h
    exact ⟨v, _, rfl, h1, DVs.take n h2⟩
theorem DVs.drop : ∀ {ds : List D} {vs : List V} (n : Nat), DVs K H α ds vs → DVs K H α (ds.drop n) (vs.drop n)
  | ds, vs, 0, h => h
  | [], vs, n + 1, h => by have h : vs = [] := h; subst h; exact DVs.nil
  | d :: ds, _, n + 1, h => by
    obtain ⟨v, r, rfl, h1, h2⟩ := h
    exact DVs.drop n h2
theorem DVs.set {x : D} {y : V} (r : DV K H α x y) : ∀ {ds : List D} {vs : List V} (n : Nat), DVs K H α ds vs → DVs K H α (ds.set n x) (vs.set n y)
  | [], vs, n, h => by have h : vs = [] := h; subst h; exact DVs.nil
  | d :: ds, _, 0, h => by
    obtain ⟨v, r', rfl, h1, h2⟩ := h
    exact ⟨y, _, rfl, r, h2⟩
  | d :: ds, _, n + 1, h => by
    obtain ⟨v, r', rfl, h1, h2⟩ := h
    exact ⟨v, _, rfl, h1, DVs.set r n h2⟩
mutual
theorem DV.mono (ht : ∀ z b xs, SqW K H z b xs → SqW K H' z b xs) (ha : ∀ (n : Nat) (a : Addr), α[n]? = some a → α'[n]? = some a) : ∀ (d : D) {v : V}, DV K H α d v → DV K H' α' d v
  | .non, _, h => h
  | .bl _, _, h => h
  | .int _, _, h => h
  | .str _, _, h => h
  | .glo _, _, h => h
  | .ref n, _, ⟨a, e, h⟩ => ⟨a, e, ha _ _ h⟩
  | .tup ds, _, ⟨a, xs, e, h1, h2⟩ => ⟨a, xs, e, ht true _ _ h1, DVs.mono ht ha ds h2⟩
  | .fz ds, _, ⟨a, xs, e, h1, h2⟩ => ⟨a, xs, e, ht false _ _ h1, DVs.mono ht ha ds h2⟩
theorem DVs.mono (ht : ∀ z b xs, SqW K H z b xs → SqW K H' z b xs) (ha : ∀ (n : Nat) (a : Addr), α[n]? = some a → α'[n]? = some a) : ∀ (ds : List D) {vs : List V}, DVs K H α ds vs → DVs K H' α' ds vs
  | [], _, h => h
  | d :: ds, _, ⟨v, r, e, h1, h2⟩ => ⟨v, r, e, DV.mono ht ha d h1, DVs.mono ht ha ds h2⟩
end
end

/-- pairs with like keys -/
def KD (K : Fg) (H : Hp) (α : List Addr) {κ : Type} (kvs : List (κ × D)) (ws : List (κ × V)) : Prop := Paired (fun (p : κ × D) (q : κ × V) => p.1 = q.1 ∧ DV K H α p.2 q.2) kvs ws
theorem KD.mono {K : Fg} {H H' : Hp} {α α' : List Addr} {κ : Type} {kvs : List (κ × D)} {ws : List (κ × V)} (ht : ∀ z b xs, SqW K H z b xs → SqW K H' z b xs) (ha : ∀ (n : Nat) (a : Addr), α[n]? = some a → α'[n]? = some a) (h : KD K H α kvs ws) : KD K H' α' kvs ws :=
  Paired.mapP h fun _ _ q => ⟨q.1, DV.mono ht ha _ q.2⟩
/-- an object of one's own heap, as it stands at an address -/
def OV (K : Fg) (H : Hp) (α : List Addr) : O → Addr → Prop
  | .lst xs, a => ∃ vs, H a = some (.lst vs) ∧ DVs K H α xs vs
  | .dic kvs, a => ∃ ws, H a = some (.dK ws) ∧ KD K H α kvs ws
  | .ins c fs, a => ∃ dx ws, H a = some (.ins (He.ga K c) dx ws) ∧ KD K H α fs ws
/-- what never stands at a place of one's own heap -/
def NoT : HO → Prop
  | .lst _ => True
  | .dK _ => True
  | .ins _ _ _ => True
  | _ => False
structure Rl (K : Fg) (α : List Addr) (g : G) (H : Hp) : Prop where
  len : α.length = g.length
  nd : α.Nodup
  at_ : ∀ (n : Nat) o, g[n]? = some o → ∃ a, α[n]? = some a ∧ OV K H α o a
/-- what code leaves as it was: all but one's own objects; new ones stand where nothing stood -/
structure Fr (K : Fg) (α : List Addr) (H : Hp) (α' : List Addr) (H' : Hp) : Prop where
  pre : ∀ (n : Nat) (a : Addr), α[n]? = some a → α'[n]? = some a
  tup : ∀ z b xs, SqW K H z b xs → SqW K H' z b xs
  out : ∀ b o, H b = some o → b ∉ α → H' b = some o
  new : ∀ b, b ∈ α' → b ∈ α ∨ H b = none
theorem Fr.refl {K α H} : Fr K α H α H := ⟨fun _ _ h => h, fun _ _ _ h => h, fun _ _ h _ => h, fun _ h => .inl h⟩
theorem Fr.trans {K α H α1 H1 α2 H2} (a : Fr K α H α1 H1) (b : Fr K α1 H1 α2 H2) : Fr K α H α2 H2 := by
  refine ⟨fun n x h => b.pre n x (a.pre n x h), fun z c xs h => b.tup z c xs (a.tup z c xs h), fun c o h hc => ?_, fun c h => ?_⟩
  · refine b.out c o (a.out c o h hc) fun z => ?_
    rcases a.new c z with q | q
    · exact hc q
    · rw [h] at q; cases q
  · rcases b.new c h with q | q
    · exact a.new c q
    · by_cases hc : c ∈ α
      · exact .inl hc
      · cases e : H c with
        | none => exact .inr rfl
        | some o => rw [a.out c o e hc] at q; cases q
theorem Fr.dv {K α H α1 H1 d v} (a : Fr K α H α1 H1) (h : DV K H α d v) : DV K H1 α1 d v := DV.mono a.tup a.pre d h
theorem Fr.dvs {K α H α1 H1 d v} (a : Fr K α H α1 H1) (h : DVs K H α d v) : DVs K H1 α1 d v := DVs.mono a.tup a.pre d h
theorem OV.notT {K H α o a} (h : OV K H α o a) : ∃ u, H a = some u ∧ NoT u := by
  cases o with
  | lst xs => obtain ⟨_, e, _⟩ := h; exact ⟨_, e, trivial⟩
  | dic xs => obtain ⟨_, e, _⟩ := h; exact ⟨_, e, trivial⟩
  | ins c xs => obtain ⟨_, _, e, _⟩ := h; exact ⟨_, e, trivial⟩
theorem Rl.of_mem {K α g H a} (r : Rl K α g H) (h : a ∈ α) : ∃ u, H a = some u ∧ NoT u := by
  obtain ⟨n, hn, e⟩ := List.getElem_of_mem h
  have hg : n < g.length := by rw [← r.len]; exact hn
  obtain ⟨b, e1, e2⟩ := r.at_ n g[n] (by simp [hg])
  have : b = a := by rw [List.getElem?_eq_getElem hn] at e1; cases e1; exact e
  subst this
  exact e2.notT
theorem sqt_w {K : Fg} {H : Hp} {b : Addr} {xs : List V} {a : Addr} {o u : HO} (h : SqT K H b xs) (ha : H a = some u) (hu : NoT u) : SqT K (upd H a o) b xs := by
  rcases h with (h | ⟨ob, h⟩) | h
  · refine .inl (.inl ?_)
    rw [upd_ne]; exact h
    intro e; subst e; rw [h] at ha; cases ha; exact hu
  · refine .inl (.inr ⟨ob, ?_⟩)
    rw [upd_ne]; exact h
    intro e; subst e; rw [h] at ha; cases ha; exact hu
  · exact .inr h
theorem sqt_n {K : Fg} {H : Hp} {b : Addr} {xs : List V} {a : Addr} {o : HO} (h : SqT K H b xs) (ha : H a = none) : SqT K (upd H a o) b xs := by
  rcases h with (h | ⟨ob, h⟩) | h
  · exact .inl (.inl (by rw [upd_ne (ne_of_none h ha)]; exact h))
  · exact .inl (.inr ⟨ob, by rw [upd_ne (ne_of_none h ha)]; exact h⟩)
  · exact .inr h
theorem sqw_w {K : Fg} {H : Hp} {b : Addr} {xs : List V} {a : Addr} {o u : HO} (z : Bool) (h : SqW K H z b xs) (ha : H a = some u) (hu : NoT u) : SqW K (upd H a o) z b xs := by
  cases z with
  | true => exact sqt_w h ha hu
  | false =>
    rcases h with ⟨ob, h⟩ | h
    · refine .inl ⟨ob, ?_⟩
      rw [upd_ne]; exact h
      intro e; subst e; rw [h] at ha; cases ha; exact hu
    · exact .inr h
theorem sqw_n {K : Fg} {H : Hp} {b : Addr} {xs : List V} {a : Addr} {o : HO} (z : Bool) (h : SqW K H z b xs) (ha : H a = none) : SqW K (upd H a o) z b xs := by
  cases z with
  | true => exact sqt_n h ha
  | false =>
    rcases h with ⟨ob, h⟩ | h
    · exact .inl ⟨ob, by rw [upd_ne (ne_of_none h ha)]; exact h⟩
    · exact .inr h
/-- one's own object is changed in place -/
theorem Fr.write {K : Fg} {α : List Addr} {g : G} {H : Hp} {n : Nat} {a : Addr} {o : HO} (r : Rl K α g H) (hn : α[n]? = some a) : Fr K α H α (upd H a o) := by
  obtain ⟨u, hu, nu⟩ := r.of_mem (List.mem_of_getElem? hn)
  refine ⟨fun _ _ h => h, fun z b xs h => sqw_w z h hu nu, fun b o' h hb => ?_, fun _ h => .inl h⟩
  rw [upd_ne]; exact h
  intro e; subst e; exact hb (List.mem_of_getElem? hn)
theorem OV.mono {K H H' α α' o a} (f : Fr K α H α' H') (h : OV K H α o a) (e : H' a = H a) : OV K H' α' o a := by
  cases o with
  | lst xs => obtain ⟨vs, e1, h1⟩ := h; exact ⟨vs, e.trans e1, f.dvs h1⟩
  | dic xs => obtain ⟨vs, e1, h1⟩ := h; exact ⟨vs, e.trans e1, h1.mono f.tup f.pre⟩
  | ins c xs => obtain ⟨dx, vs, e1, h1⟩ := h; exact ⟨dx, vs, e.trans e1, h1.mono f.tup f.pre⟩
theorem Rl.write {K : Fg} {α : List Addr} {g : G} {H : Hp} {n : Nat} {a : Addr} {o : O} {ob : HO} (r : Rl K α g H) (hn : α[n]? = some a) (ho : OV K (upd H a ob) α o a) : Rl K α (g.set n o) (upd H a ob) := by
  have f := Fr.write (o := ob) r hn
  refine ⟨by rw [List.length_set]; exact r.len, r.nd, fun m o' h => ?_⟩
  by_cases e : n = m
  · subst e
    have hl : n < g.length := by rw [← r.len]; exact (List.getElem?_eq_some_iff.mp hn).1
    rw [List.getElem?_set_self hl] at h
    cases h
    exact ⟨a, hn, ho⟩
  · rw [List.getElem?_set_ne e] at h
    obtain ⟨b, h1, h2⟩ := r.at_ m o' h
    refine ⟨b, h1, h2.mono f (upd_ne ?_)⟩
    intro z; subst z
    exact e ((List.getElem_inj r.nd (h₀ := (List.getElem?_eq_some_iff.mp hn).1) (h₁ := (List.getElem?_eq_some_iff.mp h1).1)).mp ((List.getElem?_eq_some_iff.mp hn).2.trans (List.getElem?_eq_some_iff.mp h1).2.symm))
/-- a new object of one's own -/
theorem Fr.alloc {K α g H a o} (r : Rl K α g H) (ha : H a = none) : Fr K α H (α ++ [a]) (upd H a o) := by
  refine ⟨fun n b h => ?_, fun z b xs h => sqw_n z h ha, fun b o' h hb => ?_, fun b h => ?_⟩
  · rw [List.getElem?_append_left (List.getElem?_eq_some_iff.mp h).1]; exact h
  · rw [upd_ne (ne_of_none h ha)]; exact h
  · rcases List.mem_append.mp h with h | h
    · exact .inl h
    · have : b = a := by simpa using h
      subst this; exact .inr ha
theorem Rl.alloc {K α g H a o ob} (r : Rl K α g H) (ha : H a = none) (ho : OV K (upd H a ob) (α ++ [a]) o a) : Rl K (α ++ [a]) (g ++ [o]) (upd H a ob) := by
  have f := Fr.alloc (o := ob) r ha
  refine ⟨by simp [r.len], ?_, fun m o' h => ?_⟩
  · refine List.nodup_append.mpr ⟨r.nd, by simp, fun x hx y hy e => ?_⟩
    have : y = a := by simpa using hy
    subst this; subst e
    obtain ⟨u, hu, _⟩ := r.of_mem hx
    rw [ha] at hu; cases hu
  · by_cases hm : m < g.length
    · rw [List.getElem?_append_left hm] at h
      obtain ⟨b, h1, h2⟩ := r.at_ m o' h
      refine ⟨b, f.pre _ _ h1, h2.mono f ?_⟩
      obtain ⟨u, hu, _⟩ := h2.notT
      exact upd_ne (ne_of_none hu ha)
    · rw [List.getElem?_append_right (by omega)] at h
      have e : m - g.length = 0 := by
        have := (List.getElem?_eq_some_iff.mp h).1
        simp at this; omega
      rw [e] at h
      have h : some o = some o' := by simpa using h
      cases h
      refine ⟨a, ?_, ho⟩
      have : m = α.length := by rw [r.len]; omega
      subst this; simp
/-- a tuple is laid: nothing of one's own changes -/
theorem Fr.lay {K α g H a o} (r : Rl K α g H) (ha : H a = none) : Fr K α H α (upd H a o) :=
  ⟨fun n b h => h, fun z b xs h => sqw_n z h ha, fun b o' h hb => by rw [upd_ne (ne_of_none h ha)]; exact h, fun b h => .inl h⟩
theorem Rl.lay {K α g H a ob} (r : Rl K α g H) (ha : H a = none) : Rl K α g (upd H a ob) := by
  have f := Fr.lay (o := ob) r ha
  refine ⟨r.len, r.nd, fun m o' h => ?_⟩
  obtain ⟨b, h1, h2⟩ := r.at_ m o' h
  obtain ⟨u, hu, _⟩ := h2.notT
  exact ⟨b, h1, h2.mono f (upd_ne (ne_of_none hu ha))⟩

/-! ### slots -/
structure SV (K : Fg) (H : Hp) (α : List Addr) (ev : Ev) (σ : L2.St) : Prop where
  len : ev.length = σ.length
  at_ : ∀ (i : Nat) d, ev[i]? = some (some d) → ∃ v, σ[i]? = some (some v) ∧ DV K H α d v
theorem SV.mono {K H α ev σ H' α'} (h : SV K H α ev σ) (f : Fr K α H α' H') : SV K H' α' ev σ :=
  ⟨h.len, fun i d e => let ⟨v, e1, e2⟩ := h.at_ i d e; ⟨v, e1, f.dv e2⟩⟩
theorem SV.set {K H α ev σ d v} (h : SV K H α ev σ) (hd : DV K H α d v) (i : Nat) : SV K H α (ev.set i (some d)) (σ.set i (some v)) := by
  refine ⟨by simp [h.len], fun j e hj => ?_⟩
  by_cases q : i = j
  · subst q
    by_cases hl : i < ev.length
    · rw [List.getElem?_set_self hl] at hj
      cases hj
      exact ⟨v, by rw [List.getElem?_set_self (by rw [← h.len]; exact hl)], hd⟩
    · rw [List.getElem?_eq_none (by simpa using hl)] at hj; cases hj
  · rw [List.getElem?_set_ne q] at hj
    obtain ⟨w, e1, e2⟩ := h.at_ j e hj
    exact ⟨w, by rw [List.getElem?_set_ne q]; exact e1, e2⟩

/-! ### readings -/
def Post (K : Fg) (α : List Addr) (H : Hp) {β : Type} (r : R G β) (P : β → List Addr → Hp → Prop) (E : Str → List Addr → Hp → Prop) : Prop :=
  match r with
  | .ok b g' => ∀ α' H', Rl K α' g' H' → Fr K α H α' H' → P b α' H'
  | .exn c g' => ∀ α' H', Rl K α' g' H' → Fr K α H α' H' → E c α' H'
  | .no => False
theorem Post.fr {K α H β} {r : R G β} {P E α1 H1} (f : Fr K α H α1 H1) (h : Post K α H r P E) : Post K α1 H1 r P E := by
  cases r with
  | ok b g => exact fun α' H' a c => h α' H' a (f.trans c)
  | exn b g => exact fun α' H' a c => h α' H' a (f.trans c)
  | no => exact h
theorem Post.imp {K α H β} {r : R G β} {P E P' E'} (h : Post K α H r P E) (hP : ∀ b α' H', Fr K α H α' H' → P b α' H' → P' b α' H') (hE : ∀ b α' H', Fr K α H α' H' → E b α' H' → E' b α' H') : Post K α H r P' E' := by
  cases r with
  | ok b g => exact fun α' H' a c => hP _ _ _ c (h α' H' a c)
  | exn b g => exact fun α' H' a c => hE _ _ _ c (h α' H' a c)
  | no => exact h
/-- what an expression's reading wants -/
abbrev PD (K : Fg) (Q : VK) : D → List Addr → Hp → Prop := fun d α' H' => ∀ v, DV K H' α' d v → Q v H'
abbrev PDs (K : Fg) (Q : List V → Hp → Prop) : List D → List Addr → Hp → Prop := fun d α' H' => ∀ v, DVs K H' α' d v → Q v H'
abbrev PB (Q : Bool → Hp → Prop) : Bool → List Addr → Hp → Prop := fun d _ H' => Q d H'
abbrev XW (K : Fg) (W : WX) (σ : L2.St) : Str → List Addr → Hp → Prop := fun c _ H' => W (.ref (He.ga K c)) none σ H'
def TX (K : Fg) (W : WX) (m : EM D) : TE := fun σ H Q => ∃ α ev g, Rl K α g H ∧ SV K H α ev σ ∧ Post K α H (m ev g) (PD K Q) (XW K W σ)
def TXs (K : Fg) (W : WX) (m : EM (List D)) : TA := fun σ H Q => ∃ α ev g, Rl K α g H ∧ SV K H α ev σ ∧ Post K α H (m ev g) (PDs K Q) (XW K W σ)
def TB (K : Fg) (W : WX) (m : EM Bool) : TT := fun σ H Q => ∃ α ev g, Rl K α g H ∧ SV K H α ev σ ∧ Post K α H (m ev g) (PB Q) (XW K W σ)
theorem PE.imp {X e t t'} (h : PE X e t) (i : ∀ σ H Q, t' σ H Q → t σ H Q) : PE X e t' := ⟨fun pins s σ H Q I q => h.run pins s σ H Q I (i _ _ _ q)⟩
theorem PT.imp {X e t t'} (h : PT X e t) (i : ∀ σ H Q, t' σ H Q → t σ H Q) : PT X e t' := ⟨fun pins s σ H Q I q => h.run pins s σ H Q I (i _ _ _ q)⟩
theorem PA.imp {X e t t'} (h : PA X e t) (i : ∀ σ H Q, t' σ H Q → t σ H Q) : PA X e t' := ⟨fun pos pins s σ H Q I q => h.run pos pins s σ H Q I (i _ _ _ q)⟩
theorem PS.imp {X e t t'} (h : PS X e t) (i : ∀ D σ H, t' D σ H → t D σ H) : PS X e t' := ⟨fun pins s σ H D I q => h.run pins s σ H D I (i _ _ _ q)⟩
theorem PSs.imp {X e t t'} (h : PSs X e t) (i : ∀ D σ H, t' D σ H → t D σ H) : PSs X e t' := ⟨fun pins s σ H D I q => h.run pins s σ H D I (i _ _ _ q)⟩

/-! ### one behind the other -/
def bindE {α β : Type} (m : EM α) (f : α → EM β) : EM β := fun ev g => match m ev g with
  | .ok a g' => f a ev g'
  | .exn c g' => .exn c g'
  | .no => .no
def pureE {α : Type} (a : α) : EM α := fun _ g => .ok a g
theorem bindE_post {K α H ev g} {β γ : Type} {m : EM β} {f : β → EM γ} {P E} (h : Post K α H (bindE m f ev g) P E) :
    Post K α H (m ev g) (fun b α1 H1 => ∀ g1, m ev g = .ok b g1 → Post K α1 H1 (f b ev g1) P E) E := by
  unfold bindE at h
  cases e : m ev g with
  | ok b g1 =>
    rw [e] at h
    exact fun α' H' _ c g2 e2 => by cases e2; exact Post.fr c h
  | exn b g1 => rw [e] at h; exact h
  | no => rw [e] at h; exact h
end DL

/-! ## Dl2 -/
set_option maxHeartbeats 4000000
namespace DL
open PySem PySem.Spec PyProof.Rows L2

/-! ### what a reading that ended gives -/
section
variable {K : Fg} {α : List Addr} {g : G} {H : Hp} {Q : VK} {E : Str → List Addr → Hp → Prop}
theorem post_ok {β : Type} {b : β} {P : β → List Addr → Hp → Prop} (h : Post K α H (.ok b g) P E) (r : Rl K α g H) : P b α H := h α H r Fr.refl
theorem post_v {d : D} {v : V} (h : Post K α H (.ok d g) (PD K Q) E) (r : Rl K α g H) (hd : DV K H α d v) : Q v H := h α H r Fr.refl v hd
theorem ref_new {p : Addr} (r : Rl K α g H) : (α ++ [p])[g.length]? = some p := by rw [← r.len]; simp
theorem post_new {o : O} {p : Addr} {ho : HO} (h : Post K α H (.ok (.ref g.length) (g ++ [o])) (PD K Q) E) (r : Rl K α g H) (hp : H p = none) (ov : OV K (upd H p ho) (α ++ [p]) o p) : Q (.ref p) (upd H p ho) :=
  h _ _ (r.alloc hp ov) (Fr.alloc r hp) _ ⟨p, rfl, ref_new r⟩
theorem post_tup {ds : List D} {xs : List V} {p : Addr} (h : Post K α H (.ok (.tup ds) g) (PD K Q) E) (r : Rl K α g H) (hp : H p = none) (hd : DVs K H α ds xs) : Q (.ref p) (upd H p (.tup xs)) :=
  h _ _ (r.lay hp) (Fr.lay r hp) _ ⟨p, xs, rfl, SqT.of upd_same, (Fr.lay (o := .tup xs) r hp).dvs hd⟩
theorem post_set {β : Type} {b : β} {P : β → List Addr → Hp → Prop} {n : Nat} {a : Addr} {o : O} {ho : HO} (h : Post K α H (.ok b (g.set n o)) P E) (r : Rl K α g H) (hn : α[n]? = some a) (ov : OV K (upd H a ho) α o a) : P b α (upd H a ho) :=
  h _ _ (r.write hn ov) (Fr.write r hn)
end

/-! ### operators by values -/
abbrev Op2 := D → D → G → R G D
def rOf (K : Fg) (f : Op2) : R2 := fun x y H Q => ∃ α g d e, Rl K α g H ∧ DV K H α d x ∧ DV K H α e y ∧ Post K α H (f d e g) (PD K Q) (fun _ _ _ => False)
def ints2 (C : Int → Int → Bool) (f : Int → Int → D) : Op2 := fun x y g => match x, y with
  | .int i, .int j => if C i j then .ok (f i j) g else .no
  | _, _ => .no
theorem ints2_ok {C : Int → Int → Bool} {f : Int → Int → D} {i j : Int} {g : G} (h : C i j = true) : ints2 C f (.int i) (.int j) g = .ok (f i j) g := by simp [ints2, h]
section
variable {X : Cx}
theorem op_ints {F : Value → Value → Sem Value} {C : Int → Int → Bool} {C' : Int → Int → Prop} {gf : Int → Int → V} {f : Int → Int → D} (h : OpR X F (rI C' gf)) (hc : ∀ i j, C i j = true → C' i j) (hv : ∀ i j H α, DV X.K H α (f i j) (gf i j)) : OpR X F (rOf X.K (ints2 C f)) := by
  rintro pins s σ H x y v u Q I rx ry ⟨α, g, d, e, rl, dx, dy, hp⟩
  cases d <;> try exact hp.elim
  cases e <;> try exact hp.elim
  rename_i i j
  by_cases c : C i j = true
  · rw [ints2_ok c] at hp
    exact h pins s σ H x y v u Q I rx ry ⟨i, j, dx, dy, hc _ _ c, post_v hp rl (hv i j H α)⟩
  · simp only [ints2, c] at hp
    exact hp.elim
theorem rI_of {F : Value → Value → Sem Value} {gf : Int → Int → V} (h : OpR X F (rI0 gf)) : OpR X F (rI (fun _ _ => True) gf) := by
  rintro pins s σ H x y v u Q I rx ry ⟨i, j, e1, e2, _, q⟩
  exact h pins s σ H x y v u Q I rx ry ⟨i, j, e1, e2, q⟩

/-- + -/
def addD : Op2 := fun x y g => match x, y with
  | .int i, .int j => .ok (.int (i + j)) g
  | .tup a, .tup b => if a.length + b.length ≤ sizeLine then .ok (.tup (a ++ b)) g else .no
  | .str a, .str b => if a.length + b.length ≤ sizeLine then .ok (.str (a ++ b)) g else .no
  | .ref a, .ref b => (match g[a]?, g[b]? with
    | some (.lst xs), some (.lst ys) => if xs.length + ys.length ≤ sizeLine then .ok (.ref g.length) (g ++ [.lst (xs ++ ys)]) else .no
    | _, _ => .no)
  | _, _ => .no
theorem lst_at {K : Fg} {α : List Addr} {g : G} {H : Hp} {n : Nat} {xs : List D} {v : V} (r : Rl K α g H) (hd : DV K H α (.ref n) v) (h : g[n]? = some (.lst xs)) : ∃ a vs, v = .ref a ∧ α[n]? = some a ∧ H a = some (.lst vs) ∧ DVs K H α xs vs := by
  obtain ⟨a, e, ha⟩ := hd
  obtain ⟨b, hb, vs, h1, h2⟩ := r.at_ n _ h
  rw [ha] at hb; cases hb
  exact ⟨a, vs, e, ha, h1, h2⟩
theorem dic_at {K : Fg} {α : List Addr} {g : G} {H : Hp} {n : Nat} {kvs : List (Key × D)} {v : V} (r : Rl K α g H) (hd : DV K H α (.ref n) v) (h : g[n]? = some (.dic kvs)) : ∃ a ws, v = .ref a ∧ α[n]? = some a ∧ H a = some (.dK ws) ∧ KD K H α kvs ws := by
  obtain ⟨a, e, ha⟩ := hd
  obtain ⟨b, hb, vs, h1, h2⟩ := r.at_ n _ h
  rw [ha] at hb; cases hb
  exact ⟨a, vs, e, ha, h1, h2⟩
theorem ins_at {K : Fg} {α : List Addr} {g : G} {H : Hp} {n : Nat} {c : Str} {fs : List (Str × D)} {v : V} (r : Rl K α g H) (hd : DV K H α (.ref n) v) (h : g[n]? = some (.ins c fs)) : ∃ a dx ws, v = .ref a ∧ α[n]? = some a ∧ H a = some (.ins (He.ga K c) dx ws) ∧ KD K H α fs ws := by
  obtain ⟨a, e, ha⟩ := hd
  obtain ⟨b, hb, dx, vs, h1, h2⟩ := r.at_ n _ h
  rw [ha] at hb; cases hb
  exact ⟨a, dx, vs, e, ha, h1, h2⟩
theorem lst_new {K : Fg} {α : List Addr} {g : G} {H : Hp} {Q : VK} {E : Str → List Addr → Hp → Prop} {xs : List D} {vs : List V} (hp : Post K α H (.ok (.ref g.length) (g ++ [.lst xs])) (PD K Q) E) (rl : Rl K α g H) (h : DVs K H α xs vs) :
    ∀ p, H p = none → Q (.ref p) (upd H p (.lst vs)) := fun p np => post_new hp rl np ⟨vs, upd_same, (Fr.alloc (o := .lst vs) rl np).dvs h⟩
theorem op_addD : OpR X (binaryOp .Add) (rOf X.K addD) := by
  rintro pins s σ H x y v u Q I rx ry ⟨α, g, d, e, rl, dx, dy, hp⟩
  cases d <;> try exact hp.elim
  · cases e <;> try exact hp.elim
    exact op_add pins s σ H x y v u Q I rx ry ⟨_, _, dx, dy, post_v hp rl rfl⟩
  · cases e <;> try exact hp.elim
    rename_i a b
    by_cases c : a.length + b.length ≤ sizeLine
    · simp only [addD, c, if_true] at hp
      exact op_add_str pins s σ H x y v u Q I rx ry ⟨_, _, dx, dy, c, post_v hp rl rfl⟩
    · simp only [addD, c] at hp
      exact hp.elim
  · cases e <;> try exact hp.elim
    rename_i a b
    by_cases c : a.length + b.length ≤ sizeLine
    · simp only [addD, c, if_true] at hp
      obtain ⟨p, xs, e1, s1, d1⟩ := dx
      obtain ⟨q, ys, e2, s2, d2⟩ := dy
      refine op_catA pins s σ H x y v u Q I rx ry ⟨p, q, xs, ys, e1, e2, s1, s2, by rw [← d1.length, ← d2.length]; exact c, fun z => ?_, fun _ z => ?_, fun _ _ t nt => ?_⟩
      · subst z
        have : a = [] := List.length_eq_zero_iff.mp (by rw [d1.length]; rfl)
        subst this
        exact post_v hp rl ⟨q, ys, rfl, s2, d2⟩
      · subst z
        have : b = [] := List.length_eq_zero_iff.mp (by rw [d2.length]; rfl)
        subst this
        rw [List.append_nil] at hp
        exact post_v hp rl ⟨p, xs, rfl, s1, d1⟩
      · exact post_tup hp rl nt (d1.append d2)
    · simp only [addD, c] at hp
      exact hp.elim
  · cases e <;> try exact hp.elim
    rename_i a b
    simp only [addD] at hp
    split at hp
    · rename_i xs ys h1 h2
      split at hp
      · rename_i c
        obtain ⟨p, vs, e1, _, s1, d1⟩ := lst_at rl dx h1
        obtain ⟨q, ws, e2, _, s2, d2⟩ := lst_at rl dy h2
        exact op_cat pins s σ H x y v u Q I rx ry ⟨p, q, vs, ws, e1, e2, s1, s2, by rw [← d1.length, ← d2.length]; exact c, lst_new hp rl (d1.append d2)⟩
      · exact hp.elim
    · exact hp.elim
def subD : Op2 := ints2 (fun _ _ => true) fun i j => .int (i - j)
def CMulB (i j : Int) : Bool := (decide (-(2 ^ 64) < i) && decide (i < 2 ^ 64)) || (decide (-(2 ^ 64) < j) && decide (j < 2 ^ 64))
def CDivB (i j : Int) : Bool := decide (0 < j) && decide (j < 1073741824)
def CPowB (i j : Int) : Bool := decide (0 ≤ j) && (decide (j ≤ 1000000) && decide (i.natAbs < 2 ^ 64))
def mulD : Op2 := ints2 CMulB fun i j => .int (i * j)
def fdivD : Op2 := ints2 CDivB fun i j => .int (i / j)
def modD : Op2 := ints2 (fun _ j => decide (0 < j)) fun i j => .int (i % j)
def powD : Op2 := ints2 CPowB fun i j => .int (i ^ j.toNat)
theorem op_subD : OpR X (binaryOp .Sub) (rOf X.K subD) := op_ints (rI_of op_sub) (fun _ _ _ => trivial) fun _ _ _ _ => rfl
theorem op_mulD : OpR X (binaryOp .Mult) (rOf X.K mulD) := op_ints op_mul (fun i j h => by simpa [CMulB, CMul] using h) fun _ _ _ _ => rfl
theorem op_fdivD : OpR X (binaryOp .FloorDiv) (rOf X.K fdivD) := op_ints op_fdiv (fun i j h => by simpa [CDivB, CDiv] using h) fun _ _ _ _ => rfl
theorem op_modD : OpR X (binaryOp .Mod) (rOf X.K modD) := op_ints op_mod (fun i j h => by simpa using h) fun _ _ _ _ => rfl
theorem op_powD : OpR X (binaryOp .Pow) (rOf X.K powD) := op_ints op_pow (fun i j h => by simpa [CPowB, CPow] using h) fun _ _ _ _ => rfl
def ltD : Op2 := ints2 (fun _ _ => true) fun i j => .bl (decide (i < j))
def leD : Op2 := ints2 (fun _ _ => true) fun i j => .bl (decide (i ≤ j))
def gtD : Op2 := ints2 (fun _ _ => true) fun i j => .bl (decide (j < i))
def geD : Op2 := ints2 (fun _ _ => true) fun i j => .bl (decide (j ≤ i))
theorem op_ltD : OpR X (compareOp .Lt) (rOf X.K ltD) := op_ints (rI_of op_lt) (fun _ _ _ => trivial) fun _ _ _ _ => rfl
theorem op_leD : OpR X (compareOp .LtE) (rOf X.K leD) := op_ints (rI_of op_le) (fun _ _ _ => trivial) fun _ _ _ _ => rfl
theorem op_gtD : OpR X (compareOp .Gt) (rOf X.K gtD) := op_ints (rI_of op_gt) (fun _ _ _ => trivial) fun _ _ _ _ => rfl
theorem op_geD : OpR X (compareOp .GtE) (rOf X.K geD) := op_ints (rI_of op_ge) (fun _ _ _ => trivial) fun _ _ _ _ => rfl

/-! == by what the values are as data -/
mutual
def toP (g : G) : Nat → D → Option PyData
  | _, .non => some .none
  | _, .bl b => some (.bool b)
  | _, .int i => some (.int i)
  | _, .str s => some (.str s)
  | n, .tup ds => (toPs g n ds).map .tuple
  | 0, .ref _ => none
  | _ + 1, .ref a => none
  | _, .glo _ => none
  | _, .fz _ => none
def toPs (g : G) : Nat → List D → Option (List PyData)
  | _, [] => some []
  | n, d :: ds => match toP g n d, toPs g n ds with
    | some p, some ps => some (p :: ps)
    | _, _ => none
end
/-- lists too, whose items are data without lists -/
def toQ (g : G) : D → Option PyData
  | .ref a => match g[a]? with
    | some (.lst xs) => (toPs g 0 xs).map .list
    | _ => none
  | d => toP g 0 d
mutual
theorem toP_ok {K : Fg} {H : Hp} {α : List Addr} {g : G} {n : Nat} : ∀ (d : D) {v : V} {p : PyData}, toP g n d = some p → DV K H α d v → Dp K H v p
  | .non, v, p, e, h => by
    have h : v = .non := h
    subst h; cases n <;> simp [toP] at e <;> subst e <;> exact .non
  | .bl b, v, p, e, h => by
    have h : v = .bl b := h
    subst h; cases n <;> simp [toP] at e <;> subst e <;> exact .bl b
  | .int b, v, p, e, h => by
    have h : v = .int b := h
    subst h; cases n <;> simp [toP] at e <;> subst e <;> exact .int b
  | .str b, v, p, e, h => by
    have h : v = .str b := h
    subst h; cases n <;> simp [toP] at e <;> subst e <;> exact .str b
  | .tup ds, v, p, e, h => by
    obtain ⟨a, xs, rfl, h1, h2⟩ := h
    have e : (toPs g n ds).map .tuple = some p := by cases n <;> simpa [toP] using e
    cases q : toPs g n ds with
    | none => rw [q] at e; cases e
    | some ps => rw [q] at e; cases e; exact .tup h1 (toPs_ok ds q h2)
  | .ref a, v, p, e, h => by cases n <;> simp [toP] at e
  | .glo a, v, p, e, h => by cases n <;> simp [toP] at e
  | .fz a, v, p, e, h => by cases n <;> simp [toP] at e
theorem toPs_ok {K : Fg} {H : Hp} {α : List Addr} {g : G} {n : Nat} : ∀ (ds : List D) {vs : List V} {ps : List PyData}, toPs g n ds = some ps → DVs K H α ds vs → DpAll K H vs ps
  | [], vs, ps, e, h => by
    have h : vs = [] := h
    subst h; simp [toPs] at e; subst e; exact .nil
  | d :: ds, vs, ps, e, h => by
    obtain ⟨v, r, rfl, h1, h2⟩ := h
    simp only [toPs] at e
    split at e
    · rename_i p ps' e1 e2
      cases e
      exact .cons (toP_ok d e1 h1) (toPs_ok ds e2 h2)
    · cases e
end
theorem toQ_ok {K : Fg} {H : Hp} {α : List Addr} {g : G} (rl : Rl K α g H) {d : D} {v : V} {p : PyData} (e : toQ g d = some p) (h : DV K H α d v) : Dp K H v p := by
  cases d with
  | ref a =>
    simp only [toQ] at e
    split at e
    · rename_i xs hx
      obtain ⟨b, vs, rfl, _, h1, h2⟩ := lst_at rl h hx
      cases q : toPs g 0 xs with
      | none => rw [q] at e; cases e
      | some ps => rw [q] at e; cases e; exact .lst (SqL.of h1) (toPs_ok xs q h2)
    · cases e
  | _ => exact toP_ok _ e h
def eqB (x y : D) (g : G) : Option Bool := match toQ g x, toQ g y with
  | some p, some q => if SeqAt.shaped p && SeqAt.shaped q then some (PyData.eqv p q) else none
  | _, _ => none
def eqD : Op2 := fun x y g => match eqB x y g with
  | some b => .ok (.bl b) g
  | none => .no
def neD : Op2 := fun x y g => match eqB x y g with
  | some b => .ok (.bl (!b)) g
  | none => .no
theorem eqB_ok {K : Fg} {H : Hp} {α : List Addr} {g : G} (rl : Rl K α g H) {d e : D} {x y : V} {b : Bool} (h : eqB d e g = some b) (dx : DV K H α d x) (dy : DV K H α e y) :
    ∃ p q, Dp K H x p ∧ Dp K H y q ∧ SeqAt.shaped p = true ∧ SeqAt.shaped q = true ∧ PyData.eqv p q = b := by
  simp only [eqB] at h
  split at h
  · rename_i p q e1 e2
    split at h
    · rename_i c
      cases h
      obtain ⟨c1, c2⟩ := Bool.and_eq_true_iff.mp c
      exact ⟨p, q, toQ_ok rl e1 dx, toQ_ok rl e2 dy, c1, c2, rfl⟩
    · cases h
  · cases h
theorem op_eqE (hu : X.A.units + 64 < cLine) : OpR X (compareOp .Eq) (rOf X.K eqD) := by
  rintro pins s σ H x y v u Q I rx ry ⟨α, g, d, e, rl, dx, dy, hp⟩
  simp only [eqD] at hp
  split at hp
  · rename_i b hb
    obtain ⟨p, q, h1, h2, h3, h4, h5⟩ := eqB_ok rl hb dx dy
    exact op_eqD hu pins s σ H x y v u Q I rx ry ⟨p, q, h1, h2, h3, h4, by rw [h5]; exact post_v hp rl rfl⟩
  · exact hp.elim
theorem op_neE (hu : X.A.units + 64 < cLine) : OpR X (compareOp .NotEq) (rOf X.K neD) := by
  rintro pins s σ H x y v u Q I rx ry ⟨α, g, d, e, rl, dx, dy, hp⟩
  simp only [neD] at hp
  split at hp
  · rename_i b hb
    obtain ⟨p, q, h1, h2, h3, h4, h5⟩ := eqB_ok rl hb dx dy
    exact op_neD hu pins s σ H x y v u Q I rx ry ⟨p, q, h1, h2, h3, h4, by rw [h5]; exact post_v hp rl rfl⟩
  · exact hp.elim
/-! is None -/
def isNon : D → Bool
  | .non => true
  | _ => false
def isD : Op2 := fun x y g => match y with
  | .non => .ok (.bl (isNon x)) g
  | .bl b => (match x with | .bl a => .ok (.bl (a == b)) g | _ => .no)
  | _ => .no
def notD : Op2 := fun x y g => match y with
  | .non => .ok (.bl (!isNon x)) g
  | .bl b => (match x with | .bl a => .ok (.bl (!(a == b))) g | _ => .no)
  | _ => .no
theorem isNon_ok {K : Fg} {H : Hp} {α : List Addr} {d : D} {v : V} (h : DV K H α d v) : decide (v = .non) = isNon d := by
  cases d with
  | non => have h : v = .non := h; subst h; rfl
  | bl b => have h : v = .bl b := h; subst h; rfl
  | int b => have h : v = .int b := h; subst h; rfl
  | str b => have h : v = .str b := h; subst h; rfl
  | tup ds => obtain ⟨a, xs, rfl, _⟩ := h; rfl
  | ref n => obtain ⟨a, rfl, _⟩ := h; rfl
  | glo x => have h : v = .ref (He.ga K x) := h; subst h; rfl
  | fz ds => obtain ⟨a, xs, rfl, _⟩ := h; rfl
theorem op_isE : OpR X (compareOp .Is) (rOf X.K isD) := by
  rintro pins s σ H x y v u Q I rx ry ⟨α, g, d, e, rl, dx, dy, hp⟩
  cases e <;> try exact hp.elim
  · have dy : y = .non := dy
    exact op_isN pins s σ H x y v u Q I rx ry ⟨dy, by rw [isNon_ok dx]; exact post_v hp rl rfl⟩
  · cases d <;> try exact hp.elim
    rename_i b a
    refine op_isBl pins s σ H x y v u Q I rx ry ⟨_, _, dx, dy, post_v hp rl ?_⟩
    cases a <;> cases b <;> rfl
theorem op_notE : OpR X (compareOp .IsNot) (rOf X.K notD) := by
  rintro pins s σ H x y v u Q I rx ry ⟨α, g, d, e, rl, dx, dy, hp⟩
  cases e <;> try exact hp.elim
  · have dy : y = .non := dy
    exact op_notN pins s σ H x y v u Q I rx ry ⟨dy, by rw [isNon_ok dx]; exact post_v hp rl rfl⟩
  · cases d <;> try exact hp.elim
    rename_i b a
    refine op_notBl pins s σ H x y v u Q I rx ry ⟨_, _, dx, dy, post_v hp rl ?_⟩
    cases a <;> cases b <;> rfl
end
end DL

/-! ## Dl3 -/
set_option maxHeartbeats 4000000
namespace DL
open PySem PySem.Spec PyProof.Rows L2

/-! ### expressions -/
def cE (d : D) : EM D := fun _ g => .ok d g
def varE (i : Nat) : EM D := fun ev g => match ev[i]? with
  | some (some d) => .ok d g
  | _ => .no
def opE (f : Op2) (ma mb : EM D) : EM D := fun ev g => match ma ev g with
  | .ok x g1 => (match mb ev g1 with
    | .ok y g2 => f x y g2
    | .exn c g2 => .exn c g2
    | .no => .no)
  | .exn c g1 => .exn c g1
  | .no => .no
/-- the bool of a test's value -/
def boolE (m : EM D) : EM Bool := fun ev g => match m ev g with
  | .ok (.bl b) g1 => .ok b g1
  | .ok _ _ => .no
  | .exn c g1 => .exn c g1
  | .no => .no
def truD (d : D) (g : G) : Option Bool := match d with
  | .non => some false
  | .bl b => some b
  | .int i => some (i != 0)
  | .str y => if y.length ≤ sizeLine then some ((y.length : Int) != 0) else none
  | .tup ds => some (!ds.isEmpty)
  | .ref n => (match g[n]? with
    | some (.lst xs) => some (!xs.isEmpty)
    | some (.dic kvs) => some (!kvs.isEmpty)
    | _ => none)
  | .glo _ => none
  | .fz _ => none
def truE (m : EM D) : EM Bool := fun ev g => match m ev g with
  | .ok d g1 => (match truD d g1 with
    | some b => .ok b g1
    | none => .no)
  | .exn c g1 => .exn c g1
  | .no => .no
def notB (t : EM Bool) : EM Bool := fun ev g => match t ev g with
  | .ok b g1 => .ok (!b) g1
  | .exn c g1 => .exn c g1
  | .no => .no
def andB (t u : EM Bool) : EM Bool := fun ev g => match t ev g with
  | .ok true g1 => u ev g1
  | .ok false g1 => .ok false g1
  | .exn c g1 => .exn c g1
  | .no => .no
def orB (t u : EM Bool) : EM Bool := fun ev g => match t ev g with
  | .ok true g1 => .ok true g1
  | .ok false g1 => u ev g1
  | .exn c g1 => .exn c g1
  | .no => .no
def ifE {β : Type} (t : EM Bool) (a b : EM β) : EM β := fun ev g => match t ev g with
  | .ok true g1 => a ev g1
  | .ok false g1 => b ev g1
  | .exn c g1 => .exn c g1
  | .no => .no
/-- and, or, not as values: of bools -/
def andV (ma mb : EM D) : EM D := ifE (boolE ma) mb (cE (.bl false))
def orV (ma mb : EM D) : EM D := ifE (boolE ma) (cE (.bl true)) mb
def notV (ma : EM D) : EM D := ifE (boolE ma) (cE (.bl false)) (cE (.bl true))
/-- a op b op' c -/
def chE (f f' : Op2) (ma mb mc : EM D) : EM D := fun ev g => match ma ev g with
  | .ok x g1 => (match mb ev g1 with
    | .ok y g2 => (match f x y g2 with
      | .ok (.bl true) g3 => (match mc ev g3 with
        | .ok z g4 => f' y z g4
        | .exn c g4 => .exn c g4
        | .no => .no)
      | .ok (.bl false) g3 => .ok (.bl false) g3
      | .ok _ _ => .no
      | .exn c g3 => .exn c g3
      | .no => .no)
    | .exn c g2 => .exn c g2
    | .no => .no)
  | .exn c g1 => .exn c g1
  | .no => .no
def nilE : EM (List D) := fun _ g => .ok [] g
def consE (m : EM D) (ms : EM (List D)) : EM (List D) := fun ev g => match m ev g with
  | .ok d g1 => (match ms ev g1 with
    | .ok ds g2 => .ok (d :: ds) g2
    | .exn c g2 => .exn c g2
    | .no => .no)
  | .exn c g1 => .exn c g1
  | .no => .no
def tupE (ms : EM (List D)) : EM D := fun ev g => match ms ev g with
  | .ok ds g1 => if ds.length ≤ sizeLine then .ok (.tup ds) g1 else .no
  | .exn c g1 => .exn c g1
  | .no => .no
def lstE (ms : EM (List D)) : EM D := fun ev g => match ms ev g with
  | .ok ds g1 => if ds.length ≤ sizeLine then .ok (.ref g1.length) (g1 ++ [.lst ds]) else .no
  | .exn c g1 => .exn c g1
  | .no => .no
/-- f(..): by values -/
def apE (f : List D → G → R G D) (ms : EM (List D)) : EM D := fun ev g => match ms ev g with
  | .ok ds g1 => f ds g1
  | .exn c g1 => .exn c g1
  | .no => .no

section
variable {X : Cx} {W : WX} {a b c e : Expr} {es rest : List Expr} {pos : Pos} {ma mb mc m : EM D} {ms : EM (List D)} {t u : EM Bool}
theorem x_const {v : V} {d : D} (h : PE X e (tC v)) (hd : ∀ H α, DV X.K H α d v) : PE X e (TX X.K W (cE d)) := PE.imp h fun σ H Q ⟨α, ev, g, rl, sv, hp⟩ => post_v hp rl (hd _ _)
theorem x_int {i : Int} {j : Nat} : PE X (.Constant (.int i) j pos) (TX X.K W (cE (.int i))) := x_const pe_int fun _ _ => rfl
theorem x_bl {i : Bool} {j : Nat} : PE X (.Constant (.bool i) j pos) (TX X.K W (cE (.bl i))) := x_const pe_bl fun _ _ => rfl
theorem x_non {j : Nat} : PE X (.Constant .none j pos) (TX X.K W (cE .non)) := x_const pe_non fun _ _ => rfl
theorem x_str {i : Str} {j : Nat} : PE X (.Constant (.str i) j pos) (TX X.K W (cE (.str i))) := x_const pe_str fun _ _ => rfl
theorem x_var (i : Nat) (h : PE X e (tVar i)) : PE X e (TX X.K W (varE i)) := by
  refine PE.imp h ?_
  rintro σ H Q ⟨α, ev, g, rl, sv, hp⟩
  simp only [varE] at hp
  split at hp
  · rename_i d hd
    obtain ⟨v, e1, e2⟩ := sv.at_ i d hd
    exact ⟨v, e1, post_v hp rl e2⟩
  · exact hp.elim
theorem op_run {f : Op2} {σ : L2.St} {H : Hp} {Q : VK} (h : TX X.K W (opE f ma mb) σ H Q) : tOp (rOf X.K f) (TX X.K W ma) (TX X.K W mb) σ H Q ∨ True := .inr trivial
/-- the operator's own raise is none: f gives ok or nothing -/
def Calm (f : Op2) : Prop := ∀ x y g c g', f x y g ≠ .exn c g'
theorem x_tOp {f : Op2} (hf : Calm f) {σ : L2.St} {H : Hp} {Q : VK} (h : TX X.K W (opE f ma mb) σ H Q) : tOp (rOf X.K f) (TX X.K W ma) (TX X.K W mb) σ H Q := by
  obtain ⟨α, ev, g, rl, sv, hp⟩ := h
  refine ⟨α, ev, g, rl, sv, ?_⟩
  simp only [opE] at hp
  cases e1 : ma ev g with
  | no => rw [e1] at hp; exact hp
  | exn c g1 => rw [e1] at hp; exact hp
  | ok x g1 =>
    rw [e1] at hp
    intro α1 H1 r1 f1 v dv
    refine ⟨α1, ev, g1, r1, sv.mono f1, ?_⟩
    dsimp only at hp
    have hp := Post.fr f1 hp
    cases e2 : mb ev g1 with
    | no => rw [e2] at hp; exact hp
    | exn c g2 => rw [e2] at hp; exact hp
    | ok y g2 =>
      rw [e2] at hp
      dsimp only at hp
      intro α2 H2 r2 f2 w dw
      refine ⟨α2, g2, x, y, r2, f2.dv dv, dw, ?_⟩
      have hp := Post.fr f2 hp
      cases e3 : f x y g2 with
      | no => rw [e3] at hp; exact hp
      | exn c g3 => exact absurd e3 (hf _ _ _ _ _)
      | ok z g3 => rw [e3] at hp; exact hp
theorem x_op {op : Operator} {f : Op2} (ho : OpR X (binaryOp op) (rOf X.K f)) (hf : Calm f) (ha : PE X a (TX X.K W ma)) (hb : PE X b (TX X.K W mb)) : PE X (.BinOp a op b pos) (TX X.K W (opE f ma mb)) :=
  PE.imp (pe_op ho ha hb) fun _ _ _ h => x_tOp hf h
theorem x_cmp {op : CmpOp} {f : Op2} (ho : OpR X (compareOp op) (rOf X.K f)) (hf : Calm f) (ha : PE X a (TX X.K W ma)) (hb : PE X b (TX X.K W mb)) (hm : behindInMarks op b = false) : PE X (.Compare a [op] [b] pos) (TX X.K W (opE f ma mb)) :=
  PE.imp (pe_cmpR ho ha hb hm) fun _ _ _ h => x_tOp hf h
/-- a value's reading as a test's -/
theorem tTest_of {σ : L2.St} {H : Hp} {Q : Bool → Hp → Prop} (h : TB X.K W (boolE m) σ H Q) : tTest (TX X.K W m) σ H Q := by
  obtain ⟨α, ev, g, rl, sv, hp⟩ := h
  refine ⟨α, ev, g, rl, sv, ?_⟩
  simp only [boolE] at hp
  cases e1 : m ev g with
  | no => rw [e1] at hp; exact hp
  | exn c g1 => rw [e1] at hp; exact hp
  | ok x g1 =>
    rw [e1] at hp
    cases x <;> try exact hp.elim
    exact fun α' H' r f v dv => ⟨_, dv, hp α' H' r f⟩
theorem t_cmp {op : CmpOp} {f : Op2} (ho : OpR X (compareOp op) (rOf X.K f)) (hf : Calm f) (ha : PE X a (TX X.K W ma)) (hb : PE X b (TX X.K W mb)) (hm : behindInMarks op b = false) : PT X (.Compare a [op] [b] pos) (TB X.K W (boolE (opE f ma mb))) :=
  PT.imp (pt_cmpR ho ha hb hm) fun σ H Q h => by
    have q := tTest_of h
    exact x_tOp (Q := fun x H' => ∃ k, x = .bl k ∧ Q k H') hf q
theorem x_tChain {f f' : Op2} (hf : Calm f) (hf' : Calm f') {σ : L2.St} {H : Hp} {Q : VK} (h : TX X.K W (chE f f' ma mb mc) σ H Q) : tChain (rOf X.K f) (rOf X.K f') (TX X.K W ma) (TX X.K W mb) (TX X.K W mc) σ H Q := by
  obtain ⟨α, ev, g, rl, sv, hp⟩ := h
  refine ⟨α, ev, g, rl, sv, ?_⟩
  simp only [chE] at hp
  cases e1 : ma ev g with
  | no => rw [e1] at hp; exact hp
  | exn c g1 => rw [e1] at hp; exact hp
  | ok x g1 =>
    rw [e1] at hp
    intro α1 H1 r1 f1 v dv
    refine ⟨α1, ev, g1, r1, sv.mono f1, ?_⟩
    dsimp only at hp
    have hp := Post.fr f1 hp
    cases e2 : mb ev g1 with
    | no => rw [e2] at hp; exact hp
    | exn c g2 => rw [e2] at hp; exact hp
    | ok y g2 =>
      rw [e2] at hp
      dsimp only at hp
      intro α2 H2 r2 f2 w dw
      refine ⟨α2, g2, x, y, r2, f2.dv dv, dw, ?_⟩
      have hp := Post.fr f2 hp
      cases e3 : f x y g2 with
      | no => rw [e3] at hp; exact hp
      | exn c g3 => exact absurd e3 (hf _ _ _ _ _)
      | ok z g3 =>
        rw [e3] at hp
        cases z <;> try exact hp.elim
        rename_i k
        intro α3 H3 r3 f3 z dz
        refine ⟨k, dz, ?_⟩
        cases k with
        | false =>
          have q : Q (.bl false) H3 := hp α3 H3 r3 f3 _ rfl
          simpa using q
        | true =>
          rw [if_pos rfl]
          dsimp only at hp
          have hp := Post.fr f3 hp
          refine ⟨α3, ev, g3, r3, ((sv.mono f1).mono f2).mono f3, ?_⟩
          cases e4 : mc ev g3 with
          | no => rw [e4] at hp; exact hp
          | exn c g4 => rw [e4] at hp; exact hp
          | ok z' g4 =>
            rw [e4] at hp
            dsimp only at hp
            intro α4 H4 r4 f4 z4 dz4
            refine ⟨α4, g4, y, z', r4, f4.dv (f3.dv dw), dz4, ?_⟩
            have hp := Post.fr f4 hp
            cases e5 : f' y z' g4 with
            | no => rw [e5] at hp; exact hp
            | exn c g5 => exact absurd e5 (hf' _ _ _ _ _)
            | ok z5 g5 => rw [e5] at hp; exact hp
theorem x_chain {op op' : CmpOp} {f f' : Op2} (ho : OpR X (compareOp op) (rOf X.K f)) (hf : Calm f) (ho' : OpR X (compareOp op') (rOf X.K f')) (hf' : Calm f') (ha : PE X a (TX X.K W ma)) (hb : PE X b (TX X.K W mb)) (hc : PE X c (TX X.K W mc))
    (hm : lastMarks [op, op'] [b, c] = false := by with_unfolding_all rfl) : PE X (.Compare a [op, op'] [b, c] pos) (TX X.K W (chE f f' ma mb mc)) := PE.imp (pe_chain ho ho' ha hb hc hm) fun _ _ _ h => x_tChain hf hf' h
theorem t_chain {op op' : CmpOp} {f f' : Op2} (ho : OpR X (compareOp op) (rOf X.K f)) (hf : Calm f) (ho' : OpR X (compareOp op') (rOf X.K f')) (hf' : Calm f') (ha : PE X a (TX X.K W ma)) (hb : PE X b (TX X.K W mb)) (hc : PE X c (TX X.K W mc))
    (hm : lastMarks [op, op'] [b, c] = false := by with_unfolding_all rfl) : PT X (.Compare a [op, op'] [b, c] pos) (TB X.K W (boolE (chE f f' ma mb mc))) :=
  PT.imp (pt_chain ho ho' ha hb hc hm) fun σ H Q h => x_tChain (Q := fun x H' => ∃ k, x = .bl k ∧ Q k H') hf hf' (tTest_of h)
theorem truD_ok {K : Fg} {α : List Addr} {g : G} {H : Hp} {d : D} {v : V} {k : Bool} (rl : Rl K α g H) (h : DV K H α d v) (e : truD d g = some k) : TruV K v H k := by
  cases d with
  | non => have h : v = .non := h; subst h; exact (Option.some.inj e).symm
  | bl b => have h : v = .bl b := h; subst h; exact (Option.some.inj e).symm
  | int b => have h : v = .int b := h; subst h; exact (Option.some.inj e).symm
  | str b =>
    have h : v = .str b := h
    subst h
    simp only [truD] at e
    split at e
    · rename_i c
      exact ⟨c, (Option.some.inj e).symm⟩
    · cases e
  | tup ds =>
    obtain ⟨a, xs, rfl, h1, h2⟩ := h
    have e : k = !ds.isEmpty := (Option.some.inj e).symm
    refine .inr (.inl ⟨xs, h1, ?_⟩)
    rw [e]
    cases ds <;> cases xs <;> first | rfl | (have := h2.length; simp at this)
  | ref n =>
    simp only [truD] at e
    split at e
    · rename_i xs hx
      obtain ⟨a, vs, rfl, _, h1, h2⟩ := lst_at rl h hx
      have e : k = !xs.isEmpty := (Option.some.inj e).symm
      refine .inl ⟨vs, SqL.of h1, ?_⟩
      rw [e]
      cases xs <;> cases vs <;> first | rfl | (have := h2.length; simp at this)
    · rename_i xs hx
      obtain ⟨a, vs, rfl, _, h1, h2⟩ := dic_at rl h hx
      have e : k = !xs.isEmpty := (Option.some.inj e).symm
      refine .inr (.inr ⟨vs, h1, ?_⟩)
      rw [e]
      cases h2 <;> rfl
    · cases e
  | glo x => cases e
  | fz x => cases e
/-- any expression whose test is its value's truth -/
theorem t_tru (ha : PE X a (TX X.K W ma)) (he : ∀ whole, isTrue a X.env whole = (do let v ← whole; standAt a.pos; holding [v] (truthy v)) := by intro _; rfl) : PT X a (TB X.K W (truE ma)) := by
  refine PT.imp (pt_truth ha he) ?_
  rintro σ H Q ⟨α, ev, g, rl, sv, hp⟩
  refine ⟨α, ev, g, rl, sv, ?_⟩
  simp only [truE] at hp
  cases e1 : ma ev g with
  | no => rw [e1] at hp; exact hp
  | exn c g1 => rw [e1] at hp; exact hp
  | ok x g1 =>
    rw [e1] at hp
    dsimp only at hp
    split at hp
    · rename_i k hk
      exact fun α' H' r f v dv => ⟨k, truD_ok r dv hk, hp α' H' r f⟩
    · exact hp.elim
theorem t_not (ha : PT X a (TB X.K W t)) : PT X (.UnaryOp .Not a pos) (TB X.K W (notB t)) := by
  refine PT.imp (pt_not ha) ?_
  rintro σ H Q ⟨α, ev, g, rl, sv, hp⟩
  refine ⟨α, ev, g, rl, sv, ?_⟩
  simp only [notB] at hp
  cases e1 : t ev g <;> (rw [e1] at hp; exact hp)
theorem PW.imp {X e t t'} (h : PW X e t) (i : ∀ σ H Q, t' σ H Q → t σ H Q) : PW X e t' := ⟨fun w pins s σ H Q I q => h.run w pins s σ H Q I (i _ _ _ q)⟩
theorem w_and (ha : PT X a (TB X.K W t)) (hb : PW X (.BoolOp .And (b :: rest) pos) (TB X.K W u)) : PW X (.BoolOp .And (a :: b :: rest) pos) (TB X.K W (andB t u)) := by
  refine PW.imp (pw_and ha hb) ?_
  rintro σ H Q ⟨α, ev, g, rl, sv, hp⟩
  refine ⟨α, ev, g, rl, sv, ?_⟩
  simp only [andB] at hp
  cases e1 : t ev g with
  | no => rw [e1] at hp; exact hp
  | exn c g1 => rw [e1] at hp; exact hp
  | ok k g1 =>
    rw [e1] at hp
    intro α' H' r f
    cases k with
    | true => dsimp only [PB]; rw [if_pos rfl]; exact ⟨α', ev, g1, r, sv.mono f, Post.fr f hp⟩
    | false =>
      have q : Q false H' := hp α' H' r f
      simpa [PB] using q
theorem w_or (ha : PT X a (TB X.K W t)) (hb : PW X (.BoolOp .Or (b :: rest) pos) (TB X.K W u)) : PW X (.BoolOp .Or (a :: b :: rest) pos) (TB X.K W (orB t u)) := by
  refine PW.imp (pw_or ha hb) ?_
  rintro σ H Q ⟨α, ev, g, rl, sv, hp⟩
  refine ⟨α, ev, g, rl, sv, ?_⟩
  simp only [orB] at hp
  cases e1 : t ev g with
  | no => rw [e1] at hp; exact hp
  | exn c g1 => rw [e1] at hp; exact hp
  | ok k g1 =>
    rw [e1] at hp
    intro α' H' r f
    cases k with
    | true => dsimp only [PB]; rw [if_pos rfl]; exact hp α' H' r f
    | false =>
      have q : TB X.K W u σ H' Q := ⟨α', ev, g1, r, sv.mono f, Post.fr f hp⟩
      simpa [PB] using q
theorem if_run {p q : EM D} {σ : L2.St} {H : Hp} {Q : VK} (h : TX X.K W (ifE t p q) σ H Q) : tIf (TB X.K W t) (TX X.K W p) (TX X.K W q) σ H Q := by
  obtain ⟨α, ev, g, rl, sv, hp⟩ := h
  refine ⟨α, ev, g, rl, sv, ?_⟩
  simp only [ifE] at hp
  cases e1 : t ev g with
  | no => rw [e1] at hp; exact hp
  | exn c g1 => rw [e1] at hp; exact hp
  | ok k g1 =>
    rw [e1] at hp
    intro α' H' r f
    cases k with
    | true => dsimp only [PB]; rw [if_pos rfl]; exact ⟨α', ev, g1, r, sv.mono f, Post.fr f hp⟩
    | false =>
      have z : TX X.K W q σ H' Q := ⟨α', ev, g1, r, sv.mono f, Post.fr f hp⟩
      simpa [PB] using z
theorem x_ifExp (hc : PT X c (TB X.K W t)) (ha : PE X a (TX X.K W ma)) (hb : PE X b (TX X.K W mb)) : PE X (.IfExp c a b pos) (TX X.K W (ifE t ma mb)) := PE.imp (pe_ifExp hc ha hb) fun _ _ _ h => if_run h
theorem x_one {op : BoolOp} (h : PE X a (TX X.K W ma)) : PE X (.BoolOp op [a] pos) (TX X.K W ma) := pe_one h
theorem tTest_if {p q : EM D} {σ : L2.St} {H : Hp} {Q : VK} (h : TX X.K W (ifE (boolE m) p q) σ H Q) : TX X.K W m σ H fun x H1 => ∃ c, x = .bl c ∧ if c = true then TX X.K W p σ H1 Q else TX X.K W q σ H1 Q := by
  have h1 := if_run h
  exact tTest_of h1
theorem x_and (ha : PE X a (TX X.K W ma)) (hb : PE X (.BoolOp .And (b :: rest) pos) (TX X.K W mb)) : PE X (.BoolOp .And (a :: b :: rest) pos) (TX X.K W (andV ma mb)) := by
  refine PE.imp (pe_and ha hb) fun σ H Q h => ?_
  have q := tTest_if h
  obtain ⟨α, ev, g, rl, sv, hp⟩ := q
  refine ⟨α, ev, g, rl, sv, Post.imp hp (fun d α' H' f h v dv => ?_) fun _ _ _ _ z => z⟩
  obtain ⟨c, ec, z⟩ := h v dv
  refine ⟨c, ec, ?_⟩
  cases c with
  | true => simpa using z
  | false =>
    rw [if_neg Bool.false_ne_true] at z ⊢
    obtain ⟨α, ev, g, rl, sv, hp⟩ := z
    exact post_v hp rl rfl
theorem x_or (ha : PE X a (TX X.K W ma)) (hb : PE X (.BoolOp .Or (b :: rest) pos) (TX X.K W mb)) : PE X (.BoolOp .Or (a :: b :: rest) pos) (TX X.K W (orV ma mb)) := by
  refine PE.imp (pe_or ha hb) fun σ H Q h => ?_
  have q := tTest_if h
  obtain ⟨α, ev, g, rl, sv, hp⟩ := q
  refine ⟨α, ev, g, rl, sv, Post.imp hp (fun d α' H' f h v dv => ?_) fun _ _ _ _ z => z⟩
  obtain ⟨c, ec, z⟩ := h v dv
  refine ⟨c, ec, ?_⟩
  cases c with
  | false => simpa using z
  | true =>
    rw [if_pos rfl] at z ⊢
    obtain ⟨α, ev, g, rl, sv, hp⟩ := z
    exact post_v hp rl rfl
theorem x_not (ha : PE X a (TX X.K W ma)) : PE X (.UnaryOp .Not a pos) (TX X.K W (notV ma)) := by
  refine PE.imp (pe_not ha) fun σ H Q h => ?_
  have q := tTest_if h
  obtain ⟨α, ev, g, rl, sv, hp⟩ := q
  refine ⟨α, ev, g, rl, sv, Post.imp hp (fun d α' H' f h v dv => ?_) fun _ _ _ _ z => z⟩
  obtain ⟨c, ec, z⟩ := h v dv
  refine ⟨c, ec, ?_⟩
  cases c with
  | false =>
    rw [if_neg Bool.false_ne_true] at z
    obtain ⟨α, ev, g, rl, sv, hp⟩ := z
    exact post_v hp rl rfl
  | true =>
    rw [if_pos rfl] at z
    obtain ⟨α, ev, g, rl, sv, hp⟩ := z
    exact post_v hp rl rfl
/-! lists of arguments, displays -/
theorem a_nil : PA X [] (TXs X.K W nilE) := PA.imp pa_nil fun σ H Q ⟨α, ev, g, rl, sv, hp⟩ => post_ok hp rl [] rfl
theorem a_cons (ha : PE X e (TX X.K W m)) (hr : PA X es (TXs X.K W ms)) (hs : starEach (e :: es) X.env = (false, eval e X.env) :: starEach es X.env := by rfl) : PA X (e :: es) (TXs X.K W (consE m ms)) := by
  refine PA.imp (pa_cons ha hr hs) ?_
  rintro σ H Q ⟨α, ev, g, rl, sv, hp⟩
  refine ⟨α, ev, g, rl, sv, ?_⟩
  simp only [consE] at hp
  cases e1 : m ev g with
  | no => rw [e1] at hp; exact hp
  | exn c g1 => rw [e1] at hp; exact hp
  | ok x g1 =>
    rw [e1] at hp
    intro α1 H1 r1 f1 v dv
    refine ⟨α1, ev, g1, r1, sv.mono f1, ?_⟩
    dsimp only at hp
    have hp := Post.fr f1 hp
    cases e2 : ms ev g1 with
    | no => rw [e2] at hp; exact hp
    | exn c g2 => rw [e2] at hp; exact hp
    | ok ys g2 =>
      rw [e2] at hp
      exact fun α2 H2 r2 f2 w dw => hp α2 H2 r2 f2 _ ⟨v, w, rfl, f2.dv dv, dw⟩
theorem ap_run {f : List D → G → R G D} (hf : ∀ ds g c g', f ds g ≠ .exn c g') {σ : L2.St} {H : Hp} {Q : VK} (h : TX X.K W (apE f ms) σ H Q) :
    TXs X.K W ms σ H fun vs H1 => ∃ α g ds, Rl X.K α g H1 ∧ DVs X.K H1 α ds vs ∧ Post X.K α H1 (f ds g) (PD X.K Q) (fun _ _ _ => False) := by
  obtain ⟨α, ev, g, rl, sv, hp⟩ := h
  refine ⟨α, ev, g, rl, sv, ?_⟩
  simp only [apE] at hp
  cases e1 : ms ev g with
  | no => rw [e1] at hp; exact hp
  | exn c g1 => rw [e1] at hp; exact hp
  | ok ds g1 =>
    rw [e1] at hp
    intro α1 H1 r1 f1 v dv
    refine ⟨α1, g1, ds, r1, dv, ?_⟩
    dsimp only at hp
    have hp := Post.fr f1 hp
    cases e2 : f ds g1 with
    | no => rw [e2] at hp; exact hp
    | exn c g2 => exact absurd e2 (hf _ _ _ _)
    | ok y g2 => rw [e2] at hp; exact hp
theorem x_tup {k : Nat} (h : PA X es (TXs X.K W ms)) : PE X (.Tuple es k pos) (TX X.K W (tupE ms)) := by
  refine PE.imp (pe_tup h) ?_
  rintro σ H Q ⟨α, ev, g, rl, sv, hp⟩
  refine ⟨α, ev, g, rl, sv, ?_⟩
  simp only [tupE] at hp
  cases e1 : ms ev g with
  | no => rw [e1] at hp; exact hp
  | exn c g1 => rw [e1] at hp; exact hp
  | ok ds g1 =>
    rw [e1] at hp
    intro α1 H1 r1 f1 v dv
    dsimp only at hp
    split at hp
    · rename_i c
      exact ⟨by rw [← dv.length]; exact c, fun p np => post_tup (Post.fr f1 hp) r1 np dv⟩
    · exact hp.elim
theorem x_lst (h : PA X es (TXs X.K W ms)) : PE X (.List es pos) (TX X.K W (lstE ms)) := by
  refine PE.imp (pe_lst h) ?_
  rintro σ H Q ⟨α, ev, g, rl, sv, hp⟩
  refine ⟨α, ev, g, rl, sv, ?_⟩
  simp only [lstE] at hp
  cases e1 : ms ev g with
  | no => rw [e1] at hp; exact hp
  | exn c g1 => rw [e1] at hp; exact hp
  | ok ds g1 =>
    rw [e1] at hp
    intro α1 H1 r1 f1 v dv
    dsimp only at hp
    split at hp
    · rename_i c
      exact ⟨by rw [← dv.length]; exact c, lst_new (Post.fr f1 hp) r1 dv⟩
    · exact hp.elim
end
end DL

/-! ## Dl4 -/
set_option maxHeartbeats 4000000
namespace DL
open PySem PySem.Spec PyProof.Rows L2

/-! ### subscripts, slices -/
def valK {κ β : Type} [DecidableEq κ] (kvs : List (κ × β)) (k : κ) : Option β := (kvs.find? fun kv => decide (kv.1 = k)).map (·.2)
def keyD : D → Option Key
  | .int i => some (.inl i)
  | .str s => some (.inr s)
  | _ => none
def orNo (o : Option D) (g : G) : R G D := match o with
  | some d => .ok d g
  | none => .no
def ixD : Op2 := fun x y g => match x, y with
  | .tup ds, .int i => orNo (atI ds i) g
  | .str z, .int i => if z.length ≤ sizeLine then orNo ((atI z.cps.toList i).map fun c => .str ⟨#[c]⟩) g else .no
  | .ref n, y => (match g[n]? with
    | some (.lst xs) => (match y with
      | .int i => orNo (atI xs i) g
      | _ => .no)
    | some (.dic kvs) => (match keyD y with
      | some k => orNo (valK kvs k) g
      | none => .no)
    | _ => .no)
  | .fz ds, .int i => orNo (atI ds i) g
  | _, _ => .no
theorem calm_orNo {o : Option D} {g g' : G} {c : Str} : orNo o g ≠ .exn c g' := by cases o <;> intro h <;> cases h
theorem calm_ixD : Calm ixD := by
  intro x y g c g' h
  unfold ixD at h
  split at h <;> try exact calm_orNo h
  · split at h
    · exact calm_orNo h
    · cases h
  · split at h
    · split at h
      · exact calm_orNo h
      · cases h
    · split at h
      · exact calm_orNo h
      · cases h
    · cases h
  · cases h
theorem calm_ints2 {C f} : Calm (ints2 C f) := by
  intro x y g c g' h
  unfold ints2 at h
  split at h
  · split at h <;> cases h
  · cases h
theorem calm_addD : Calm addD := by
  intro x y g c g' h
  unfold addD at h
  split at h
  · cases h
  · split at h <;> cases h
  · split at h <;> cases h
  · split at h
    · split at h <;> cases h
    · cases h
  · cases h
theorem calm_eqD : Calm eqD := by
  intro x y g c g' h
  unfold eqD at h
  split at h <;> cases h
theorem calm_neD : Calm neD := by
  intro x y g c g' h
  unfold neD at h
  split at h <;> cases h
theorem calm_isD : Calm isD := by
  intro x y g c g' h
  unfold isD at h
  split at h
  · cases h
  · split at h <;> cases h
  · cases h
theorem calm_notD : Calm notD := by
  intro x y g c g' h
  unfold notD at h
  split at h
  · cases h
  · split at h <;> cases h
  · cases h
theorem atI_D {K : Fg} {H : Hp} {α : List Addr} {ds : List D} {xs : List V} {i : Int} {d : D} (h : DVs K H α ds xs) (e : atI ds i = some d) : ∃ v, atI xs i = some v ∧ DV K H α d v := by
  unfold atI at e ⊢
  rw [← h.length]
  cases q : ixN ds.length i with
  | none => rw [q] at e; cases e
  | some j =>
    rw [q] at e
    obtain ⟨v, e1, e2⟩ := h.get (show ds[j]? = some d from e)
    exact ⟨v, e1, e2⟩
theorem valK_ok {K : Fg} {H : Hp} {α : List Addr} {κ : Type} [DecidableEq κ] {k : κ} : ∀ {kvs : List (κ × D)} {ws : List (κ × V)}, KD K H α kvs ws → (∀ d, valK kvs k = some d → ∃ v, valV ws k = some v ∧ DV K H α d v) ∧ (valK kvs k = none → valV ws k = none)
  | _, _, .nil => ⟨fun d e => by simp [valK] at e, fun _ => rfl⟩
  | (a, d) :: r, (b, v) :: r', .cons ⟨h1, h2⟩ t => by
    have h1 : a = b := h1
    subst h1
    obtain ⟨i1, i2⟩ := valK_ok (k := k) t
    by_cases c : a = k
    · subst c
      exact ⟨fun e q => by simp [valK, List.find?_cons] at q; subst q; exact ⟨v, by simp [valV, List.find?_cons], h2⟩, fun q => by simp [valK, List.find?_cons] at q⟩
    · refine ⟨fun e q => ?_, fun q => ?_⟩
      · rw [valV_neg (p := (a, v)) c]; exact i1 e (by simpa [valK, List.find?_cons, c] using q)
      · rw [valV_neg (p := (a, v)) c]; exact i2 (by simpa [valK, List.find?_cons, c] using q)
theorem keyD_ok {K : Fg} {H : Hp} {α : List Addr} {d : D} {v : V} {k : Key} (e : keyD d = some k) (h : DV K H α d v) : v = kV k := by
  cases d <;> simp [keyD] at e
  · subst e; exact h
  · subst e; exact h
section
variable {X : Cx}
theorem ix_dict (hu : X.A.units + 1 < cLine) : IxR X (fun x y H Q => ∃ a v, x = .ref a ∧ DGet H a y (some v) ∧ Q v H) := by
  intro value slice pins s σ H x y v u Q I rx ry h hs
  obtain ⟨a, w, rfl, g, q⟩ := h
  cases rx
  exact tail_any (dict_typeIs I g) PySem.F.slot_dict_getitem.lookup (d_getItem hu I g ry fun w' s3 I3 rw' => ⟨w, H, I3, rw', q⟩) hs
theorem ix_all (hu : X.A.units + 1 < cLine) : IxR X (rOf X.K ixD) := by
  intro value slice pins s σ H x y v u Q I rx ry h hs
  obtain ⟨α, g, d, e, rl, dx, dy, hp⟩ := h
  have fin : ∀ {o : Option D} {d' : D} {w : V}, Post X.K α H (orNo o g) (PD X.K Q) (fun _ _ _ => False) → o = some d' → DV X.K H α d' w → Q w H := by
    intro o d' w hp e hd
    subst e
    exact post_v hp rl hd
  have some_of : ∀ {o : Option D}, Post X.K α H (orNo o g) (PD X.K Q) (fun _ _ _ => False) → ∃ d', o = some d' := by
    intro o hp
    cases o with
    | none => exact hp.elim
    | some d => exact ⟨d, rfl⟩
  cases d <;> try exact hp.elim
  · cases e <;> try exact hp.elim
    rename_i z i
    simp only [ixD] at hp
    split at hp
    · rename_i hz
      obtain ⟨d', e'⟩ := some_of hp
      cases q : atI z.cps.toList i with
      | none => rw [q] at e'; cases e'
      | some c =>
        rw [q] at e'
        have e' : D.str ⟨#[c]⟩ = d' := Option.some.inj e'
        subst e'
        exact ix_str value slice pins s σ H x y v u Q I rx ry ⟨z, i, c, dx, dy, hz, q, fin (d' := .str ⟨#[c]⟩) hp (by rw [q]; rfl) rfl⟩ hs
    · exact hp.elim
  · cases e <;> try exact hp.elim
    rename_i ds i
    simp only [ixD] at hp
    obtain ⟨d', e'⟩ := some_of hp
    obtain ⟨a, xs, e1, s1, d1⟩ := dx
    obtain ⟨w, ew, dw⟩ := atI_D d1 e'
    exact ix_tup value slice pins s σ H x y v u Q I rx ry ⟨a, xs, i, w, e1, dy, s1, ew, fin hp e' dw⟩ hs
  · rename_i n
    simp only [ixD] at hp
    split at hp
    · rename_i xs hx
      cases e <;> try exact hp.elim
      rename_i i
      obtain ⟨d', e'⟩ := some_of hp
      obtain ⟨a, vs, e1, _, h1, d1⟩ := lst_at rl dx hx
      obtain ⟨w, ew, dw⟩ := atI_D d1 e'
      exact ix_list value slice pins s σ H x y v u Q I rx ry ⟨a, vs, i, w, e1, dy, SqL.of h1, ew, fin hp e' dw⟩ hs
    · rename_i kvs hx
      split at hp
      · rename_i k hk
        obtain ⟨d', e'⟩ := some_of hp
        obtain ⟨a, ws, e1, _, h1, d1⟩ := dic_at rl dx hx
        obtain ⟨w, ew, dw⟩ := (valK_ok (k := k) d1).1 d' e'
        have ey := keyD_ok hk dy
        refine ix_dict hu value slice pins s σ H x y v u Q I rx ry ⟨a, w, e1, ?_, fin hp e' dw⟩ hs
        rw [ey, ← ew]
        exact DGet.k h1
      · exact hp.elim
    · exact hp.elim
  · cases e <;> try exact hp.elim
    rename_i ds i
    simp only [ixD] at hp
    obtain ⟨d', e'⟩ := some_of hp
    obtain ⟨a, xs, e1, s1, d1⟩ := dx
    obtain ⟨w, ew, dw⟩ := atI_D d1 e'
    exact ix_list value slice pins s σ H x y v u Q I rx ry ⟨a, xs, i, w, e1, dy, s1.l, ew, fin hp e' dw⟩ hs
end
/-- a slice's end -/
def optE (m : EM D) : EM (Option Int) := fun ev g => match m ev g with
  | .ok (.int i) g1 => .ok (some i) g1
  | .ok _ _ => .no
  | .exn c g1 => .exn c g1
  | .no => .no
def noneE : EM (Option Int) := fun _ g => .ok none g
def cutD {β : Type} (xs : List β) (lo hi : Option Int) : List β := (xs.drop (HT.sIx xs.length 0 lo)).take (HT.sIx xs.length xs.length hi - HT.sIx xs.length 0 lo)
def slD (d : D) (lo hi : Option Int) (g : G) : R G D := match d with
  | .tup ds => .ok (.tup (cutD ds lo hi)) g
  | .ref n => (match g[n]? with
    | some (.lst xs) => .ok (.ref g.length) (g ++ [.lst (cutD xs lo hi)])
    | _ => .no)
  | _ => .no
def slE (m : EM D) (ml mh : EM (Option Int)) : EM D := fun ev g => match m ev g with
  | .ok d g1 => (match ml ev g1 with
    | .ok lo g2 => (match mh ev g2 with
      | .ok hi g3 => slD d lo hi g3
      | .exn c g3 => .exn c g3
      | .no => .no)
    | .exn c g2 => .exn c g2
    | .no => .no)
  | .exn c g1 => .exn c g1
  | .no => .no
def TOp (K : Fg) (W : WX) (m : EM (Option Int)) : TO := fun σ H Q => ∃ α ev g, Rl K α g H ∧ SV K H α ev σ ∧ Post K α H (m ev g) (fun o _ H' => Q o H') (XW K W σ)
section
variable {X : Cx} {W : WX} {a b e : Expr} {pos p2 : Pos} {ma mb m : EM D} {ml mh : EM (Option Int)} {lo hi : Option Expr}
theorem x_ix (hu : X.A.units + 1 < cLine) (ha : PE X a (TX X.K W ma)) (hb : PE X b (TX X.K W mb)) (hs : PlainIx b := by intro _ _; rfl) : PE X (.Subscript a b pos) (TX X.K W (opE ixD ma mb)) :=
  PE.imp (pe_ix (ix_all hu) ha hb hs) fun _ _ _ h => x_tOp calm_ixD h
theorem PO.imp {X : Cx} {e : Option Expr} {t t' : TO} (h : PO X e t) (i : ∀ σ H Q, t' σ H Q → t σ H Q) : PO X e t' := ⟨fun pins s σ H Q I q => h.run pins s σ H Q I (i _ _ _ q)⟩
theorem o_none : PO X none (TOp X.K W noneE) := PO.imp po_none fun σ H Q ⟨α, ev, g, rl, sv, hp⟩ => post_ok hp rl
theorem o_some (h : PE X e (TX X.K W m)) : PO X (some e) (TOp X.K W (optE m)) := by
  refine PO.imp (po_some h) ?_
  rintro σ H Q ⟨α, ev, g, rl, sv, hp⟩
  refine ⟨α, ev, g, rl, sv, ?_⟩
  simp only [optE] at hp
  cases e1 : m ev g with
  | no => rw [e1] at hp; exact hp
  | exn c g1 => rw [e1] at hp; exact hp
  | ok d g1 =>
    rw [e1] at hp
    cases d <;> try exact hp.elim
    exact fun α' H' r f v dv => ⟨_, dv, hp α' H' r f⟩
def rSlAll (K : Fg) : V → Option Int → Option Int → Hp → VK → Prop := fun x lo hi H Q => ∃ α g d, Rl K α g H ∧ DV K H α d x ∧ Post K α H (slD d lo hi g) (PD K Q) (fun _ _ _ => False)
theorem cutD_V {K : Fg} {H : Hp} {α : List Addr} {ds : List D} {xs : List V} {lo hi : Option Int} (h : DVs K H α ds xs) : DVs K H α (cutD ds lo hi) (cutV xs lo hi) := by
  unfold cutD cutV
  rw [← h.length]
  exact (h.drop _).take _
theorem sl_all : SlR X (rSlAll X.K) := by
  intro pins s σ H x v vl vu lo hi sl Q I rx hs pl pu h
  obtain ⟨α, g, d, rl, dx, hp⟩ := h
  cases d <;> try exact hp.elim
  · rename_i ds
    obtain ⟨p, xs, e1, s1, d1⟩ := dx
    refine sl_tupA pins s σ H x v vl vu lo hi sl Q I rx hs pl pu ⟨p, xs, e1, s1, fun z => ?_, fun _ t nt => post_tup hp rl nt (cutD_V d1)⟩
    refine post_v hp rl ⟨p, xs, rfl, s1, ?_⟩
    have q : cutV xs lo hi = xs := by
      unfold cutV
      rw [z.1, z.2]; simp
    have := cutD_V (lo := lo) (hi := hi) d1
    rw [q] at this
    exact this
  · rename_i n
    simp only [slD] at hp
    split at hp
    · rename_i xs hx
      obtain ⟨a, vs, e1, _, h1, d1⟩ := lst_at rl dx hx
      exact sl_list pins s σ H x v vl vu lo hi sl Q I rx hs pl pu ⟨a, vs, e1, SqL.of h1, lst_new hp rl (cutD_V d1)⟩
    · exact hp.elim
theorem calm_slD {d : D} {lo hi : Option Int} {g g' : G} {c : Str} : slD d lo hi g ≠ .exn c g' := by
  intro h
  unfold slD at h
  split at h
  · cases h
  · split at h <;> cases h
  · cases h
theorem x_slice (he : PE X e (TX X.K W m)) (hl : PO X lo (TOp X.K W ml)) (hu : PO X hi (TOp X.K W mh)) : PE X (.Subscript e (.Slice lo hi none p2) pos) (TX X.K W (slE m ml mh)) := by
  refine PE.imp (pe_slice sl_all he hl hu) ?_
  rintro σ H Q ⟨α, ev, g, rl, sv, hp⟩
  refine ⟨α, ev, g, rl, sv, ?_⟩
  simp only [slE] at hp
  cases e1 : m ev g with
  | no => rw [e1] at hp; exact hp
  | exn c g1 => rw [e1] at hp; exact hp
  | ok x g1 =>
    rw [e1] at hp
    intro α1 H1 r1 f1 v dv
    refine ⟨α1, ev, g1, r1, sv.mono f1, ?_⟩
    dsimp only at hp
    have hp := Post.fr f1 hp
    cases e2 : ml ev g1 with
    | no => rw [e2] at hp; exact hp
    | exn c g2 => rw [e2] at hp; exact hp
    | ok y g2 =>
      rw [e2] at hp
      dsimp only at hp
      intro α2 H2 r2 f2
      refine ⟨α2, ev, g2, r2, (sv.mono f1).mono f2, ?_⟩
      have hp := Post.fr f2 hp
      cases e3 : mh ev g2 with
      | no => rw [e3] at hp; exact hp
      | exn c g3 => rw [e3] at hp; exact hp
      | ok z g3 =>
        rw [e3] at hp
        dsimp only at hp
        intro α3 H3 r3 f3
        refine ⟨α3, g3, x, r3, f3.dv (f2.dv dv), ?_⟩
        have hp := Post.fr f3 hp
        cases e4 : slD x y z g3 with
        | no => rw [e4] at hp; exact hp
        | exn c g4 => exact absurd e4 calm_slD
        | ok z' g4 => rw [e4] at hp; exact hp
end

/-! ### attributes -/
def getF (cs : List Str) (f : Str) (d : D) (g : G) : Option D := match d with
  | .ref n => (match g[n]? with
    | some (.ins c fs) => if cs.contains c then fs.lookup f else none
    | _ => none)
  | _ => none
def fldE (cs : List Str) (f : Str) (m : EM D) : EM D := fun ev g => match m ev g with
  | .ok d g1 => orNo (getF cs f d g1) g1
  | .exn c g1 => .exn c g1
  | .no => .no
theorem lookup_KD {K : Fg} {H : Hp} {α : List Addr} {f : Str} : ∀ {fs : List (Str × D)} {ws : List (Str × V)}, KD K H α fs ws → (∀ d, fs.lookup f = some d → ∃ v, ws.lookup f = some v ∧ DV K H α d v) ∧ (fs.lookup f = none → ws.lookup f = none)
  | _, _, .nil => ⟨fun d e => by simp at e, fun _ => rfl⟩
  | (a, d) :: r, (b, v) :: r', .cons ⟨h1, h2⟩ t => by
    have h1 : a = b := h1
    subst h1
    obtain ⟨i1, i2⟩ := lookup_KD (f := f) t
    cases c : f == a with
    | true => exact ⟨fun e q => by simp only [List.lookup_cons, c] at q ⊢; cases q; exact ⟨v, rfl, h2⟩, fun q => by simp only [List.lookup_cons, c] at q; cases q⟩
    | false => exact ⟨fun e q => by simp only [List.lookup_cons, c] at q ⊢; exact i1 e q, fun q => by simp only [List.lookup_cons, c] at q ⊢; exact i2 q⟩
/-- what of the text is said of classes cs and an attribute -/
def FldOk (K : Fg) (cs : List Str) (f : Str) : Prop := ∀ c ∈ cs, Cls K (He.ga K c) ∧ NoAttr K (He.ga K c) f
section
variable {X : Cx} {W : WX} {e : Expr} {pos : Pos} {m : EM D} {cs : List Str} {f : Str}
theorem getF_ok {K : Fg} {α : List Addr} {g : G} {H : Hp} {d d' : D} {v : V} (rl : Rl K α g H) (dv : DV K H α d v) (h : getF cs f d g = some d') : ∃ c n a dx ws w fs, d = .ref n ∧ v = .ref a ∧ c ∈ cs ∧ g[n]? = some (.ins c fs) ∧ α[n]? = some a ∧ H a = some (.ins (He.ga K c) dx ws) ∧ KD K H α fs ws ∧ ws.lookup f = some w ∧ DV K H α d' w := by
  cases d <;> simp only [getF] at h <;> try cases h
  rename_i n
  split at h
  · rename_i c fs hx
    split at h
    · rename_i hc
      obtain ⟨a, dx, ws, e1, e2, e3, e4⟩ := ins_at rl dv hx
      obtain ⟨w, e5, e6⟩ := (lookup_KD (f := f) e4).1 d' h
      exact ⟨c, n, a, dx, ws, w, fs, rfl, e1, by simpa using hc, hx, e2, e3, e4, e5, e6⟩
    · cases h
  · cases h
theorem x_fld (hc : FldOk X.K cs f) (he : PE X e (TX X.K W m)) (hb : attributeBase e f X.env (eval e X.env) = eval e X.env := by rfl) : PE X (.Attribute e f pos) (TX X.K W (fldE cs f m)) := by
  refine PE.imp (pe_fld he hb) ?_
  rintro σ H Q ⟨α, ev, g, rl, sv, hp⟩
  refine ⟨α, ev, g, rl, sv, ?_⟩
  simp only [fldE] at hp
  cases e1 : m ev g with
  | no => rw [e1] at hp; exact hp
  | exn c g1 => rw [e1] at hp; exact hp
  | ok d g1 =>
    rw [e1] at hp
    intro α1 H1 r1 f1 v dv
    dsimp only at hp
    have hp1 := Post.fr f1 hp
    clear hp
    generalize q : getF cs f d g1 = o at hp1
    cases o with
    | none => exact hp1.elim
    | some d' =>
      obtain ⟨c, n, a, dx, ws, w, fs, e1, e2, hcc, _, _, h3, _, h5, h6⟩ := getF_ok r1 dv q
      exact ⟨a, _, dx, ws, w, e2, h3, (hc c hcc).1, (hc c hcc).2, h5, post_v hp1 r1 h6⟩
end

/-! ### calls -/
/-- what a def promises by a function on data and one's own heap -/
def spF (K : Fg) (n : Nat) (F : List D → G → R G D) : Sp := fun vs H Q E => vs.length = n ∧ ∃ α g ds, Rl K α g H ∧ DVs K H α ds vs ∧ Post K α H (F ds g) (PD K Q) (fun c _ H' => E (.ref (He.ga K c)) none H')
section
variable {X : Cx} {W : WX} {e o : Expr} {es : List Expr} {pos p apos : Pos} {m : EM D} {ms : EM (List D)} {F : List D → G → R G D} {k n : Nat} {f : Addr} {fd : FuncData} {ps : List Str} {x : Str}
theorem call_imp {σ : L2.St} {H : Hp} {Q : VK} (hn : ∀ ds g, ds.length ≠ n → F ds g = .no) (h : TX X.K W (apE F ms) σ H Q) : tCallS (spF X.K n F) (WE W) (TXs X.K W ms) σ H Q := by
  obtain ⟨α, ev, g, rl, sv, hp⟩ := h
  refine ⟨α, ev, g, rl, sv, ?_⟩
  simp only [apE] at hp
  cases e1 : ms ev g with
  | no => rw [e1] at hp; exact hp
  | exn c g1 => rw [e1] at hp; exact hp
  | ok ds g1 =>
    rw [e1] at hp
    intro α1 H1 r1 f1 v dv
    dsimp only at hp
    refine ⟨?_, α1, g1, ds, r1, dv, Post.fr f1 hp⟩
    rw [← dv.length]
    by_cases q : ds.length = n
    · exact q
    · rw [hn ds g1 q] at hp; exact hp.elim
theorem x_call (tk : Takes X W) (G1 : FnOk X.prog X.w X.K X.mg X.base (L2.CX X.prog X.w) k f fd ps (spF X.K n F)) (hn : ∀ ds g, ds.length ≠ n → F ds g = .no) (hr : Room k X.A) (hg : Gl X x) (hm : X.mg x = some (.ref f)) (hk : PySem.W.keepIn X.K (.ref f) = true) (hb : Binds X.K fd ps [])
    (ha : PA X (e :: es) (TXs X.K W ms)) (hdb : (x == ("__debug__" : Str)) = false := by decide) (he : starEach (e :: es) X.env = (false, eval e X.env) :: starEach es X.env := by rfl) (hpl : (backTo pos (starEach es X.env)).any (·.1) = false := by rfl) :
    PE X (.Call (.Name x p) (e :: es) [] pos) (TX X.K W (apE F ms)) :=
  PE.imp (pe_callS G1 hr hg hm hk hb (fun σ => passAt tk σ) ha hdb he hpl) fun _ _ _ h => call_imp hn h
end
end DL

/-! ## Dl5 -/
set_option maxHeartbeats 4000000
namespace DL
open PySem PySem.Spec PyProof.Rows L2

theorem PE.choose {X : Cx} {e : Expr} {t : TE} (h : ∀ σ H Q, t σ H Q → ∃ t', PE X e t' ∧ t' σ H Q) : PE X e t := ⟨fun pins s σ H Q I q => let ⟨_, p, q'⟩ := h σ H Q q; p.run pins s σ H Q I q'⟩

/-! ### methods -/
abbrev HF := List D → G → R G D
def methE (tab : List (Str × HF)) (m : Str) (mo : EM D) (ms : EM (List D)) : EM D := fun ev g => match mo ev g with
  | .ok (.ref n) g1 => (match g1[n]? with
    | some (.ins c fs) => (match fs.lookup m, tab.lookup c with
      | none, some F => (match ms ev g1 with
        | .ok ds g2 => F (.ref n :: ds) g2
        | .exn c g2 => .exn c g2
        | .no => .no)
      | _, _ => .no)
    | _ => .no)
  | .ok _ _ => .no
  | .exn c g1 => .exn c g1
  | .no => .no
/-- the method m of the class named c is read by F -/
def MOk (X : Cx) (m c : Str) (F : HF) : Prop := ∃ (k n : Nat) (f : Addr) (fd : FuncData) (ps : List Str), FnOk X.prog X.w X.K X.mg X.base (L2.CX X.prog X.w) k f fd ps (spF X.K n F) ∧ Room k X.A ∧ Cls X.K (He.ga X.K c) ∧ Meth X.K (He.ga X.K c) m f ∧ Binds X.K fd ps [] ∧ ∀ ds g, ds.length ≠ n → F ds g = .no
section
variable {X : Cx} {W : WX} {e o : Expr} {es : List Expr} {pos p apos : Pos} {mo : EM D} {ms : EM (List D)} {F : HF} {k n : Nat} {f C : Addr} {fd : FuncData} {ps : List Str} {x m : Str} {ta : TE} {t : TA} {sp : Sp} {tab : List (Str × HF)}
def tMethW (W : WX) (C : Addr) (m : Str) (sp : Sp) (ta : TE) (t : TA) : TE := fun σ H Q => ta σ H fun x H1 => ∃ a dx fs, x = .ref a ∧ H1 a = some (.ins C dx fs) ∧ fs.lookup m = none ∧ t σ H1 fun vs H2 => sp (x :: vs) H2 Q (WE W σ)
theorem pe_methW {pl : Sem Bool} (tk : Takes X W) (he : PE X o ta) (c : Cls X.K C) (hm : Meth X.K C m f) (F : FnOk X.prog X.w X.K X.mg X.base (L2.CX X.prog X.w) k f fd ps sp) (hr : Room k X.A) (hb : Binds X.K fd ps []) (ha : PA X (e :: es) t)
    (hst : starEach (e :: es) X.env = (false, eval e X.env) :: starEach es X.env := by rfl) (hpl : (backTo pos (starEach es X.env)).any (·.1) = false := by rfl)
    (ht : eval (.Call (.Attribute o m apos) (e :: es) [] pos) X.env = (do
      let ov ← eval o X.env
      standAt apos.atName
      let (f, first) ← holding [ov] (getMethod ov m pl)
      callWith pos f first (backTo pos (starEach (e :: es) X.env)) (backToKw pos (keywordEach [] X.env))) := by rfl) :
    PE X (.Call (.Attribute o m apos) (e :: es) [] pos) (tMethW W C m sp ta t) := by
  refine ⟨fun pins s σ H Q I h => ?_⟩
  refine PySem.W.methodCall_KW (pl := pl) (thn (he.run pins s σ H _ I h) fun u s1 ⟨x, H1, I1, rx, a, dx, fs, ex, ea, l, q⟩ => ?_) ht
  subst ex
  obtain rfl : u = Value.ref a := rx
  refine getmeth_ok I1 ea c hm l ?_
  refine PySem.W.callWith_K (first := [.ref a]) (h₀ := X.base) I.ok.mod.kin hm.kp (thn (ha.run pos pins s1 σ H1 _ I1 q) fun us s2 ⟨vs, H2, I2, r, q2⟩ => ⟨I2.kIn, ?_⟩) hst hpl
  exact run_fnS (us := .ref a :: us) (vs := .ref a :: vs) (E := WE W) F hr hb (passAt tk σ) I2 (.cons rfl r) q2
theorem pe_meth0W {pl : Sem Bool} (tk : Takes X W) (he : PE X o ta) (c : Cls X.K C) (hm : Meth X.K C m f) (F : FnOk X.prog X.w X.K X.mg X.base (L2.CX X.prog X.w) k f fd ps sp) (hr : Room k X.A) (hb : Binds X.K fd ps [])
    (ht : eval (.Call (.Attribute o m apos) [] [] pos) X.env = (do
      let ov ← eval o X.env
      standAt apos.atName
      let (f, first) ← holding [ov] (getMethod ov m pl)
      callWith pos f first (backTo pos (starEach [] X.env)) (backToKw pos (keywordEach [] X.env))) := by rfl) :
    PE X (.Call (.Attribute o m apos) [] [] pos) (tMethW W C m sp ta tNil) := by
  refine ⟨fun pins s σ H Q I h => ?_⟩
  refine PySem.W.methodCall_KW (pl := pl) (thn (he.run pins s σ H _ I h) fun u s1 ⟨x, H1, I1, rx, a, dx, fs, ex, ea, l, q⟩ => ?_) ht
  subst ex
  obtain rfl : u = Value.ref a := rx
  refine getmeth_ok I1 ea c hm l ?_
  exact PySem.W.callWith_K0 (first := [.ref a]) I1.kIn hm.kp (run_fnS (us := [.ref a]) (vs := [.ref a]) (E := WE W) F hr hb (passAt tk σ) I1 (.cons rfl .nil) q)
theorem meth_imp {ts : TA} {σ : L2.St} {H : Hp} {Q : VK} (hts : ∀ σ H Q, TXs X.K W ms σ H Q → ts σ H Q) (hT : ∀ c F, tab.lookup c = some F → MOk X m c F) (h : TX X.K W (methE tab m mo ms) σ H Q) :
    ∃ (k n : Nat) (f : Addr) (fd : FuncData) (ps : List Str) (c : Str) (F : HF), FnOk X.prog X.w X.K X.mg X.base (L2.CX X.prog X.w) k f fd ps (spF X.K n F) ∧ Room k X.A ∧ Cls X.K (He.ga X.K c) ∧ Meth X.K (He.ga X.K c) m f ∧ Binds X.K fd ps [] ∧
      tMethW W (He.ga X.K c) m (spF X.K n F) (TX X.K W mo) ts σ H Q ∨ TX X.K W mo σ H (fun _ _ => False) := by
  obtain ⟨α, ev, g, rl, sv, hp⟩ := h
  simp only [methE] at hp
  cases e1 : mo ev g with
  | no => rw [e1] at hp; exact hp.elim
  | exn c g1 => rw [e1] at hp; exact ⟨0, 0, 0, default, [], default, fun _ _ => .no, .inr ⟨α, ev, g, rl, sv, by rw [e1]; exact hp⟩⟩
  | ok d g1 =>
    rw [e1] at hp
    cases d <;> try exact hp.elim
    rename_i nn
    dsimp only at hp
    split at hp
    · rename_i c fs hx
      split at hp
      · rename_i F hl hF
        obtain ⟨k, n, f, fd, ps, G1, hr, hc, hm, hb, hno⟩ := hT c F hF
        refine ⟨k, n, f, fd, ps, c, F, .inl ⟨G1, hr, hc, hm, hb, α, ev, g, rl, sv, ?_⟩⟩
        rw [e1]
        intro α1 H1 r1 f1 v dv
        obtain ⟨a, dx, ws, rfl, h2, h3, h4⟩ := ins_at r1 dv hx
        refine ⟨a, dx, ws, rfl, h3, (lookup_KD (f := m) h4).2 hl, hts _ _ _ ⟨α1, ev, g1, r1, sv.mono f1, ?_⟩⟩
        have hp1 := Post.fr f1 hp
        cases e2 : ms ev g1 with
        | no => rw [e2] at hp1; exact hp1
        | exn c g2 => rw [e2] at hp1; exact hp1
        | ok ds g2 =>
          rw [e2] at hp1
          intro α2 H2 r2 f2 w dw
          have dvs : DVs X.K H2 α2 (D.ref nn :: ds) (V.ref a :: w) := ⟨_, _, rfl, f2.dv dv, dw⟩
          have hp2 := Post.fr f2 hp1
          refine ⟨?_, α2, g2, _, r2, dvs, hp2⟩
          rw [← dvs.length]
          by_cases q : (D.ref nn :: ds).length = n
          · exact q
          · have hp2 : Post X.K α2 H2 (F (D.ref nn :: ds) g2) (PD X.K Q) (XW X.K W σ) := hp2
            rw [hno _ g2 q] at hp2; exact hp2.elim
      · exact hp.elim
    · exact hp.elim
theorem x_meth {pl : Sem Bool} (tk : Takes X W) (he : PE X o (TX X.K W mo)) (hT : ∀ c F, tab.lookup c = some F → MOk X m c F) (ha : PA X (e :: es) (TXs X.K W ms))
    (hst : starEach (e :: es) X.env = (false, eval e X.env) :: starEach es X.env := by rfl) (hpl : (backTo pos (starEach es X.env)).any (·.1) = false := by rfl)
    (ht : eval (.Call (.Attribute o m apos) (e :: es) [] pos) X.env = (do
      let ov ← eval o X.env
      standAt apos.atName
      let (f, first) ← holding [ov] (getMethod ov m pl)
      callWith pos f first (backTo pos (starEach (e :: es) X.env)) (backToKw pos (keywordEach [] X.env))) := by rfl) :
    PE X (.Call (.Attribute o m apos) (e :: es) [] pos) (TX X.K W (methE tab m mo ms)) := by
  refine PE.choose fun σ H Q h => ?_
  obtain ⟨k, n, f, fd, ps, c, F, ⟨G1, hr, hc, hm, hb, q⟩ | q⟩ := meth_imp (ts := TXs X.K W ms) (fun _ _ _ z => z) hT h
  · exact ⟨_, pe_methW (pl := pl) tk he hc hm G1 hr hb ha hst hpl ht, q⟩
  · refine ⟨fun σ H Q => TX X.K W mo σ H fun _ _ => False, ⟨fun pins s σ H Q I h => ?_⟩, q⟩
    exact PySem.W.methodCall_KW (pl := pl) (thn (he.run pins s σ H _ I h) fun u s1 ⟨x, H1, I1, rx, z⟩ => z.elim) ht
theorem x_meth0 {pl : Sem Bool} (tk : Takes X W) (he : PE X o (TX X.K W mo)) (hT : ∀ c F, tab.lookup c = some F → MOk X m c F)
    (ht : eval (.Call (.Attribute o m apos) [] [] pos) X.env = (do
      let ov ← eval o X.env
      standAt apos.atName
      let (f, first) ← holding [ov] (getMethod ov m pl)
      callWith pos f first (backTo pos (starEach [] X.env)) (backToKw pos (keywordEach [] X.env))) := by rfl) :
    PE X (.Call (.Attribute o m apos) [] [] pos) (TX X.K W (methE tab m mo nilE)) := by
  refine PE.choose fun σ H Q h => ?_
  obtain ⟨k, n, f, fd, ps, c, F, ⟨G1, hr, hc, hm, hb, q⟩ | q⟩ := meth_imp (ts := tNil) (fun σ H Q ⟨α, ev, g, rl, sv, hp⟩ => post_ok hp rl [] rfl) hT h
  · exact ⟨_, pe_meth0W (pl := pl) tk he hc hm G1 hr hb ht, q⟩
  · refine ⟨fun σ H Q => TX X.K W mo σ H fun _ _ => False, ⟨fun pins s σ H Q I h => ?_⟩, q⟩
    exact PySem.W.methodCall_KW (pl := pl) (thn (he.run pins s σ H _ I h) fun u s1 ⟨x, H1, I1, rx, z⟩ => z.elim) ht
end

/-! ### a new instance -/
def makF (c : Str) (F : HF) : HF := fun ds g => match F (.ref g.length :: ds) (g ++ [.ins c []]) with
  | .ok .non g2 => .ok (.ref g.length) g2
  | _ => .no
section
variable {X : Cx} {W : WX} {e : Expr} {es : List Expr} {pos p : Pos} {ms : EM (List D)} {F : HF} {k n : Nat} {f : Addr} {fd : FuncData} {ps : List Str} {c : Str}
theorem mak_ok {σ : L2.St} {H : Hp} {Q : VK} {vs : List V} (hno : ∀ ds g, ds.length ≠ n → F ds g = .no) (h : ∃ α g ds, Rl X.K α g H ∧ DVs X.K H α ds vs ∧ Post X.K α H (makF c F ds g) (PD X.K Q) (fun _ _ _ => False)) :
    ∀ x dx, H x = none → H dx = none → dx ≠ x → spF X.K n F (.ref x :: (vs ++ [])) (upd (upd H dx (.own x)) x (.ins (He.ga X.K c) dx [])) (fun v H2 => v = .non ∧ Q (.ref x) H2) E0 := by
  obtain ⟨α, g, ds, rl, dv, hp⟩ := h
  intro x dx hx hdx ne
  have hx' : upd H dx (.own x) x = none := by rw [upd_ne (Ne.symm ne)]; exact hx
  have r1 : Rl X.K α g (upd H dx (.own x)) := rl.lay hdx
  have f1 : Fr X.K α H α (upd H dx (.own x)) := Fr.lay rl hdx
  have r2 : Rl X.K (α ++ [x]) (g ++ [.ins c []]) (upd (upd H dx (.own x)) x (.ins (He.ga X.K c) dx [])) := r1.alloc hx' ⟨dx, [], upd_same, .nil⟩
  have f2 : Fr X.K α H (α ++ [x]) (upd (upd H dx (.own x)) x (.ins (He.ga X.K c) dx [])) := f1.trans (Fr.alloc r1 hx')
  have hv : DVs X.K _ (α ++ [x]) (D.ref g.length :: ds) (V.ref x :: vs) := ⟨_, _, rfl, ⟨x, rfl, ref_new rl⟩, f2.dvs dv⟩
  rw [List.append_nil]
  simp only [makF] at hp
  refine ⟨?_, _, _, _, r2, hv, ?_⟩
  · rw [← hv.length]
    by_cases q : (D.ref g.length :: ds).length = n
    · exact q
    · rw [hno _ _ q] at hp; exact hp.elim
  · cases q : F (D.ref g.length :: ds) (g ++ [.ins c []]) with
    | no => rw [q] at hp; exact hp.elim
    | exn c g2 => rw [q] at hp; exact hp.elim
    | ok d g2 =>
      rw [q] at hp
      cases d <;> try exact hp.elim
      intro α3 H3 r3 f3 v dv3
      have e : v = .non := dv3
      subst e
      exact ⟨rfl, hp α3 H3 r3 (f2.trans f3) _ ⟨x, rfl, f3.pre _ _ (ref_new rl)⟩⟩
theorem calm_makF {ds : List D} {g g' : G} {c' : Str} : makF c F ds g ≠ .exn c' g' := by
  intro h
  unfold makF at h
  split at h <;> cases h
theorem x_make (M : Mk X.K (He.ga X.K c) f) (G1 : FnOk X.prog X.w X.K X.mg X.base (L2.CX X.prog X.w) k f fd ps (spF X.K n F)) (hno : ∀ ds g, ds.length ≠ n → F ds g = .no) (hr : Room (k + 1) X.A) (hg : Gl X c) (hm : X.mg c = some (.ref (He.ga X.K c))) (hb : Binds X.K fd ps [])
    (ha : PA X (e :: es) (TXs X.K W ms)) (hdb : (c == ("__debug__" : Str)) = false := by decide) (he : starEach (e :: es) X.env = (false, eval e X.env) :: starEach es X.env := by rfl) (hpl : (backTo pos (starEach es X.env)).any (·.1) = false := by rfl) :
    PE X (.Call (.Name c p) (e :: es) [] pos) (TX X.K W (apE (makF c F) ms)) :=
  PE.imp (pe_make M G1 hr hg hm hb .nil passL ha hdb he hpl) fun σ H Q h => by
    obtain ⟨α, ev, g, rl, sv, hp⟩ := ap_run (fun _ _ _ _ => calm_makF) h
    exact ⟨α, ev, g, rl, sv, Post.imp hp (fun ds α' H' _ z vs dvs => mak_ok (σ := σ) hno (z vs dvs)) fun _ _ _ _ z => z⟩
theorem x_make0 (M : Mk X.K (He.ga X.K c) f) (G1 : FnOk X.prog X.w X.K X.mg X.base (L2.CX X.prog X.w) k f fd ps (spF X.K n F)) (hno : ∀ ds g, ds.length ≠ n → F ds g = .no) (hr : Room (k + 1) X.A) (hg : Gl X c) (hm : X.mg c = some (.ref (He.ga X.K c))) (hb : Binds X.K fd ps [])
    (hdb : (c == ("__debug__" : Str)) = false := by decide) : PE X (.Call (.Name c p) [] [] pos) (TX X.K W (apE (makF c F) nilE)) :=
  PE.imp (pe_make0 M G1 hr hg hm hb .nil passL hdb) fun σ H Q h => by
    obtain ⟨α, ev, g, rl, sv, hp⟩ := h
    exact mak_ok (σ := σ) hno ⟨α, g, [], rl, rfl, by
      have hp : Post X.K α H (makF c F [] g) (PD X.K Q) (XW X.K W σ) := hp
      cases q : makF c F [] g with
      | no => rw [q] at hp; exact hp
      | exn c g2 => exact absurd q calm_makF
      | ok d g2 => rw [q] at hp; exact hp⟩
end

/-! ### defs that see no object: their own heap is thrown away -/
mutual
def noRef : D → Bool
  | .ref _ => false
  | .fz _ => false
  | .tup ds => noRefs ds
  | _ => true
def noRefs : List D → Bool
  | [] => true
  | d :: ds => noRef d && noRefs ds
end
def pureF (F : HF) : HF := fun ds g => if noRefs ds then (match F ds [] with
    | .ok d _ => if noRef d then .ok d g else .no
    | .exn c _ => .exn c g
    | .no => .no) else .no
mutual
theorem noRef_dv {K : Fg} {H : Hp} {α β : List Addr} : ∀ (d : D) {v : V}, noRef d = true → DV K H α d v → DV K H β d v
  | .non, _, _, h => h
  | .bl _, _, _, h => h
  | .int _, _, _, h => h
  | .str _, _, _, h => h
  | .glo _, _, _, h => h
  | .fz _, _, e, h => by simp [noRef] at e
  | .ref n, _, e, h => by simp [noRef] at e
  | .tup ds, _, e, ⟨a, xs, e1, h1, h2⟩ => ⟨a, xs, e1, h1, noRefs_dv ds (by simpa [noRef] using e) h2⟩
theorem noRefs_dv {K : Fg} {H : Hp} {α β : List Addr} : ∀ (ds : List D) {vs : List V}, noRefs ds = true → DVs K H α ds vs → DVs K H β ds vs
  | [], _, _, h => h
  | d :: ds, _, e, ⟨v, r, e1, h1, h2⟩ => by
    simp only [noRefs, Bool.and_eq_true] at e
    exact ⟨v, r, e1, noRef_dv d e.1 h1, noRefs_dv ds e.2 h2⟩
end
theorem Rl.nil {K : Fg} {H : Hp} : Rl K [] [] H := ⟨rfl, List.nodup_nil, fun n o h => by simp at h⟩
theorem spF_pure {K : Fg} {n : Nat} {F : HF} {vs : List V} {H : Hp} {Q : VK} {E : XK} (h : spF K n (pureF F) vs H Q E) : spF K n F vs H Q E := by
  obtain ⟨hl, α, g, ds, rl, dv, hp⟩ := h
  simp only [pureF] at hp
  split at hp
  · rename_i hn
    refine ⟨hl, [], [], ds, Rl.nil, noRefs_dv ds hn dv, ?_⟩
    have keep : ∀ {α2 : List Addr} {H2 : Hp}, Fr K [] H α2 H2 → Rl K α g H2 ∧ Fr K α H α H2 := fun {α2 H2} f => by
      have f' : Fr K α H α H2 := ⟨fun _ _ z => z, f.tup, fun b o z _ => f.out b o z (by simp), fun b z => .inl z⟩
      refine ⟨⟨rl.len, rl.nd, fun m o q => ?_⟩, f'⟩
      obtain ⟨a, e1, e2⟩ := rl.at_ m o q
      obtain ⟨u, hu, _⟩ := e2.notT
      exact ⟨a, e1, e2.mono f' (by rw [hu]; exact f.out _ _ hu (by simp))⟩
    cases q : F ds [] with
    | no => rw [q] at hp; exact hp
    | exn c gx =>
      rw [q] at hp
      intro α2 H2 r2 f2
      obtain ⟨k1, k2⟩ := keep f2
      exact hp α H2 k1 k2
    | ok d gx =>
      rw [q] at hp
      dsimp only at hp
      split at hp
      · rename_i hd
        intro α2 H2 r2 f2 v dv2
        obtain ⟨k1, k2⟩ := keep f2
        exact hp α H2 k1 k2 v (noRef_dv d hd dv2)
      · exact hp.elim
  · exact hp.elim
theorem FnOk.pureF {P : Program} {w : World} {K : Fg} {mg : Str → Option Value} {base : Heap} {CX : CXT} {k : Nat} {f : Addr} {fd : FuncData} {ps : List Str} {n : Nat} {F : HF} (G1 : FnOk P w K mg base CX k f fd ps (spF K n F)) : FnOk P w K mg base CX k f fd ps (spF K n (pureF F)) :=
  G1.imp fun _ _ _ _ h => spF_pure h
end DL

/-! ## Dl6 -/
set_option maxHeartbeats 4000000
namespace DL
open PySem PySem.Spec PyProof.Rows L2

/-! ### built-in functions -/
def rFs (K : Fg) (f : HF) : List V → Hp → VK → Prop := fun vs H Q => ∃ α g ds, Rl K α g H ∧ DVs K H α ds vs ∧ Post K α H (f ds g) (PD K Q) (fun _ _ _ => False)
def CalmF (f : HF) : Prop := ∀ ds g c g', f ds g ≠ .exn c g'
def oneV {K : Fg} {H : Hp} {α : List Addr} {d : D} {vs : List V} (h : DVs K H α [d] vs) : ∃ v, vs = [v] ∧ DV K H α d v := by
  obtain ⟨v, r, e, h1, h2⟩ := h
  have h2 : r = [] := h2
  subst h2
  exact ⟨v, e, h1⟩
def twoV {K : Fg} {H : Hp} {α : List Addr} {d d2 : D} {vs : List V} (h : DVs K H α [d, d2] vs) : ∃ v w, vs = [v, w] ∧ DV K H α d v ∧ DV K H α d2 w := by
  obtain ⟨v, r, e, h1, h2⟩ := h
  obtain ⟨w, rfl, h3⟩ := oneV h2
  exact ⟨v, w, e, h1, h3⟩
section
variable {X : Cx} {W : WX} {e o : Expr} {es : List Expr} {x : Str} {p pos apos : Pos} {ms : EM (List D)} {m mo : EM D} {id T : String} {f : HF}
theorem x_callB (hc : CallR X (.builtin id) (rFs X.K f)) (hf : CalmF f) (hg : Gl X x) (hm : X.mg x = none) (hv : bootBuiltins x = some (.builtin id)) (ha : PA X (e :: es) (TXs X.K W ms)) (hn : x ≠ "__name__" := by decide) (hdb : (x == ("__debug__" : Str)) = false := by decide)
    (he : starEach (e :: es) X.env = (false, eval e X.env) :: starEach es X.env := by rfl) (hpl : (backTo pos (starEach es X.env)).any (·.1) = false := by rfl) : PE X (.Call (.Name x p) (e :: es) [] pos) (TX X.K W (apE f ms)) :=
  PE.imp (pe_callB hc hg hm hv ha hn hdb he hpl) fun _ _ _ h => ap_run hf h
theorem x_callTy (hc : CallR X (.type T) (rFs X.K f)) (hf : CalmF f) (hg : Gl X x) (hm : X.mg x = none) (hv : bootBuiltins x = some (.type T)) (ha : PA X (e :: es) (TXs X.K W ms)) (hn : x ≠ "__name__" := by decide) (hdb : (x == ("__debug__" : Str)) = false := by decide)
    (he : starEach (e :: es) X.env = (false, eval e X.env) :: starEach es X.env := by rfl) (hpl : (backTo pos (starEach es X.env)).any (·.1) = false := by rfl) : PE X (.Call (.Name x p) (e :: es) [] pos) (TX X.K W (apE f ms)) :=
  PE.imp (pe_callTy hc hg hm hv ha hn hdb he hpl) fun _ _ _ h => ap_run hf h
def lenF : HF := fun ds g => match ds with
  | [.str y] => if y.length ≤ sizeLine then .ok (.int y.length) g else .no
  | [.tup xs] => .ok (.int xs.length) g
  | [.ref n] => (match g[n]? with
    | some (.lst xs) => .ok (.int xs.length) g
    | some (.dic kvs) => .ok (.int kvs.length) g
    | _ => .no)
  | [.fz xs] => .ok (.int xs.length) g
  | _ => .no
theorem calm_lenF : CalmF lenF := by
  intro ds g c g' h
  unfold lenF at h
  split at h
  · split at h <;> cases h
  · cases h
  · split at h <;> cases h
  · cases h
  · cases h
theorem cr_len : CallR X (.builtin "len") (rFs X.K lenF) := by
  intro pins s σ H xs us Q I r h
  obtain ⟨α, g, ds, rl, dv, hp⟩ := h
  unfold lenF at hp
  split at hp
  · obtain ⟨v, rfl, d1⟩ := oneV dv; clear dv; have dv := d1
    split at hp
    · rename_i c
      exact call_len pins s σ H _ us Q I r ⟨v, _, rfl, by rw [show v = .str _ from dv]; exact ⟨c, rfl⟩, post_v hp rl rfl⟩
    · exact hp.elim
  · obtain ⟨v, rfl, a, vs, rfl, h1, h2⟩ := oneV dv
    exact call_len pins s σ H _ us Q I r ⟨_, _, rfl, .inr ⟨vs, h1, rfl⟩, by rw [← h2.length]; exact post_v hp rl rfl⟩
  · obtain ⟨v, rfl, d1⟩ := oneV dv; clear dv; have dv := d1
    split at hp
    · rename_i xs hx
      obtain ⟨a, vs, rfl, _, h1, h2⟩ := lst_at rl dv hx
      exact call_len pins s σ H _ us Q I r ⟨_, _, rfl, .inl ⟨vs, SqL.of h1, rfl⟩, by rw [← h2.length]; exact post_v hp rl rfl⟩
    · rename_i xs hx
      obtain ⟨a, vs, rfl, _, h1, h2⟩ := dic_at rl dv hx
      exact call_lenD pins s σ H _ us Q I r ⟨a, vs, rfl, h1, by rw [← Paired.length h2]; exact post_v hp rl rfl⟩
    · exact hp.elim
  · obtain ⟨v, rfl, a, vs, rfl, h1, h2⟩ := oneV dv
    exact call_len pins s σ H _ us Q I r ⟨_, _, rfl, .inl ⟨vs, h1.l, rfl⟩, by rw [← h2.length]; exact post_v hp rl rfl⟩
  · exact hp.elim
def absF : HF := fun ds g => match ds with
  | [.int i] => .ok (.int (if i < 0 then -i else i)) g
  | _ => .no
theorem calm_absF : CalmF absF := by intro ds g c g' h; unfold absF at h; split at h <;> cases h
theorem cr_abs : CallR X (.builtin "abs") (rFs X.K absF) := by
  intro pins s σ H xs us Q I r h
  obtain ⟨α, g, ds, rl, dv, hp⟩ := h
  unfold absF at hp
  split at hp
  · obtain ⟨v, rfl, d1⟩ := oneV dv; clear dv; have dv := d1
    exact call_abs pins s σ H _ us Q I r ⟨_, by rw [show v = .int _ from dv], post_v hp rl rfl⟩
  · exact hp.elim
def maxF : HF := fun ds g => match ds with
  | [.int i, .int j] => .ok (.int (if j > i then j else i)) g
  | _ => .no
theorem calm_maxF : CalmF maxF := by intro ds g c g' h; unfold maxF at h; split at h <;> cases h
theorem cr_max2 (hc : X.calm = true) : CallR X (.builtin "max") (rFs X.K maxF) := by
  intro pins s σ H xs us Q I r h
  obtain ⟨α, g, ds, rl, dv, hp⟩ := h
  unfold maxF at hp
  split at hp
  · obtain ⟨v, w, rfl, d1, d2⟩ := twoV dv
    exact call_max2 hc pins s σ H _ us Q I r ⟨_, _, by rw [show v = .int _ from d1, show w = .int _ from d2], post_v hp rl rfl⟩
  · exact hp.elim
def minF : HF := fun ds g => match ds with
  | [.int i, .int j] => .ok (.int (if j < i then j else i)) g
  | _ => .no
theorem calm_minF : CalmF minF := by intro ds g c g' h; unfold minF at h; split at h <;> cases h
theorem cr_min2 (hc : X.calm = true) : CallR X (.builtin "min") (rFs X.K minF) := by
  intro pins s σ H xs us Q I r h
  obtain ⟨α, g, ds, rl, dv, hp⟩ := h
  unfold minF at hp
  split at hp
  · obtain ⟨v, w, rfl, d1, d2⟩ := twoV dv
    exact call_min2 hc pins s σ H _ us Q I r ⟨_, _, by rw [show v = .int _ from d1, show w = .int _ from d2], post_v hp rl rfl⟩
  · exact hp.elim
def intF : HF := fun ds g => match ds with
  | [.int i] => .ok (.int i) g
  | [.bl b] => .ok (.int (if b then 1 else 0)) g
  | _ => .no
theorem calm_intF : CalmF intF := by intro ds g c g' h; unfold intF at h; split at h <;> cases h
theorem cr_int : CallR X (.type "int") (rFs X.K intF) := by
  intro pins s σ H xs us Q I r h
  obtain ⟨α, g, ds, rl, dv, hp⟩ := h
  unfold intF at hp
  split at hp
  · obtain ⟨v, rfl, d1⟩ := oneV dv; clear dv; have dv := d1
    exact call_int1 pins s σ H _ us Q I r (.inl ⟨_, by rw [show v = .int _ from dv], post_v hp rl rfl⟩)
  · obtain ⟨v, rfl, d1⟩ := oneV dv; clear dv; have dv := d1
    exact call_int1 pins s σ H _ us Q I r (.inr ⟨_, by rw [show v = .bl _ from dv], post_v hp rl rfl⟩)
  · exact hp.elim
def tupF : HF := fun ds g => match ds with
  | [.tup xs] => .ok (.tup xs) g
  | [.ref n] => (match g[n]? with
    | some (.lst xs) => .ok (.tup xs) g
    | _ => .no)
  | _ => .no
theorem calm_tupF : CalmF tupF := by
  intro ds g c g' h; unfold tupF at h
  split at h
  · cases h
  · split at h <;> cases h
  · cases h
theorem cr_tup : CallR X (.type "tuple") (rFs X.K tupF) := by
  intro pins s σ H xs us Q I r h
  obtain ⟨α, g, ds, rl, dv, hp⟩ := h
  unfold tupF at hp
  split at hp
  · obtain ⟨v, rfl, d1⟩ := oneV dv; clear dv; have dv := d1
    obtain ⟨a, vs, rfl, h1, h2⟩ := id dv
    exact call_tuple_of pins s σ H _ us Q I r ⟨a, vs, rfl, .inr ⟨h1, post_v hp rl dv⟩⟩
  · obtain ⟨v, rfl, d1⟩ := oneV dv; clear dv; have dv := d1
    split at hp
    · rename_i xs hx
      obtain ⟨a, vs, rfl, _, h1, h2⟩ := lst_at rl dv hx
      exact call_tuple_of pins s σ H _ us Q I r ⟨a, vs, rfl, .inl ⟨SqL.of h1, fun l nl => post_tup hp rl nl h2⟩⟩
    · exact hp.elim
  · exact hp.elim
def lisF : HF := fun ds g => match ds with
  | [.tup xs] => .ok (.ref g.length) (g ++ [.lst xs])
  | [.ref n] => (match g[n]? with
    | some (.lst xs) => .ok (.ref g.length) (g ++ [.lst xs])
    | _ => .no)
  | _ => .no
theorem calm_lisF : CalmF lisF := by
  intro ds g c g' h; unfold lisF at h
  split at h
  · cases h
  · split at h <;> cases h
  · cases h
theorem cr_lis : CallR X (.type "list") (rFs X.K lisF) := by
  intro pins s σ H xs us Q I r h
  obtain ⟨α, g, ds, rl, dv, hp⟩ := h
  unfold lisF at hp
  split at hp
  · obtain ⟨v, rfl, a, vs, rfl, h1, h2⟩ := oneV dv
    exact call_list_of pins s σ H _ us Q I r ⟨a, vs, rfl, .inr h1, lst_new hp rl h2⟩
  · obtain ⟨v, rfl, d1⟩ := oneV dv; clear dv; have dv := d1
    split at hp
    · rename_i xs hx
      obtain ⟨a, vs, rfl, _, h1, h2⟩ := lst_at rl dv hx
      exact call_list_of pins s σ H _ us Q I r ⟨a, vs, rfl, .inl (SqL.of h1), lst_new hp rl h2⟩
    · exact hp.elim
  · exact hp.elim
def blsD : List D → Option (List Bool)
  | [] => some []
  | .bl b :: r => (blsD r).map (b :: ·)
  | _ :: _ => none
theorem blsD_ok {K : Fg} {H : Hp} {α : List Addr} : ∀ {ds : List D} {vs : List V} {bs : List Bool}, blsD ds = some bs → DVs K H α ds vs → vs = bs.map V.bl
  | [], vs, bs, e, h => by
    cases e
    exact h
  | d :: ds, vs, bs, e, h => by
    obtain ⟨v, r, rfl, h1, h2⟩ := h
    cases d <;> simp only [blsD] at e <;> try cases e
    rename_i b
    cases q : blsD ds with
    | none => rw [q] at e; cases e
    | some bs' =>
      rw [q] at e
      cases e
      rw [blsD_ok q h2]
      have h1 : v = .bl b := h1
      rw [h1]; rfl
def allF : HF := fun ds g => match ds with
  | [.ref n] => (match g[n]? with
    | some (.lst xs) => (match blsD xs with
      | some bs => .ok (.bl (bs.all (fun b => b))) g
      | none => .no)
    | _ => .no)
  | _ => .no
theorem calm_allF : CalmF allF := by
  intro ds g c g' h; unfold allF at h
  split at h
  · split at h
    · split at h <;> cases h
    · cases h
  · cases h
theorem cr_allF (hc : X.calm = true) : CallR X (.builtin "all") (rFs X.K allF) := by
  intro pins s σ H xs us Q I r h
  obtain ⟨α, g, ds, rl, dv, hp⟩ := h
  unfold allF at hp
  split at hp
  · obtain ⟨v, rfl, d1⟩ := oneV dv; clear dv; have dv := d1
    split at hp
    · rename_i xs hx
      split at hp
      · rename_i bs hb
        obtain ⟨a, vs, rfl, _, h1, h2⟩ := lst_at rl dv hx
        have := blsD_ok hb h2
        subst this
        exact cr_all hc pins s σ H _ us Q I r ⟨a, bs, rfl, SqL.of h1, post_v hp rl rfl⟩
      · exact hp.elim
    · exact hp.elim
  · exact hp.elim
def anyF : HF := fun ds g => match ds with
  | [.ref n] => (match g[n]? with
    | some (.lst xs) => (match blsD xs with
      | some bs => .ok (.bl (bs.any (fun b => b))) g
      | none => .no)
    | _ => .no)
  | _ => .no
theorem calm_anyF : CalmF anyF := by
  intro ds g c g' h; unfold anyF at h
  split at h
  · split at h
    · split at h <;> cases h
    · cases h
  · cases h
theorem cr_anyF (hc : X.calm = true) : CallR X (.builtin "any") (rFs X.K anyF) := by
  intro pins s σ H xs us Q I r h
  obtain ⟨α, g, ds, rl, dv, hp⟩ := h
  unfold anyF at hp
  split at hp
  · obtain ⟨v, rfl, d1⟩ := oneV dv; clear dv; have dv := d1
    split at hp
    · rename_i xs hx
      split at hp
      · rename_i bs hb
        obtain ⟨a, vs, rfl, _, h1, h2⟩ := lst_at rl dv hx
        have := blsD_ok hb h2
        subst this
        exact cr_any hc pins s σ H _ us Q I r ⟨a, bs, rfl, SqL.of h1, post_v hp rl rfl⟩
      · exact hp.elim
    · exact hp.elim
  · exact hp.elim

/-! isinstance of a built-in type -/
def tyD (d : D) (g : G) : Option String := match d with
  | .non => some "NoneType"
  | .bl _ => some "bool"
  | .int _ => some "int"
  | .str _ => some "str"
  | .tup _ => some "tuple"
  | .ref n => (match g[n]? with
    | some (.lst _) => some "list"
    | some (.dic _) => some "dict"
    | _ => none)
  | .glo _ => none
  | .fz _ => none
def isiE (T : String) (m : EM D) : EM D := fun ev g => match m ev g with
  | .ok d g1 => (match tyD d g1 with
    | some t => (match kitB t T with
      | some b => .ok (.bl b) g1
      | none => .no)
    | none => .no)
  | .exn c g1 => .exn c g1
  | .no => .no
theorem tyD_ok {K : Fg} {α : List Addr} {g : G} {H : Hp} {d : D} {v : V} {t : String} (rl : Rl K α g H) (h : DV K H α d v) (e : tyD d g = some t) : TyX K H v (.type t) := by
  cases d with
  | non => have h : v = .non := h; subst h; cases e; exact .base .non
  | bl b => have h : v = .bl b := h; subst h; cases e; exact .base (.bl b)
  | int b => have h : v = .int b := h; subst h; cases e; exact .base (.int b)
  | str b => have h : v = .str b := h; subst h; cases e; exact .base (.str b)
  | tup ds =>
    obtain ⟨a, xs, rfl, h1, h2⟩ := h
    cases e
    rcases h1 with (h1 | ⟨ob, h1⟩) | ⟨ob, its, n, h1, h2, _⟩
    · exact .base (.tup h1)
    · exact .fTuple h1
    · exact .kTuple h1 h2
  | ref n =>
    simp only [tyD] at e
    split at e
    · rename_i xs hx
      obtain ⟨a, vs, rfl, _, h1, h2⟩ := lst_at rl h hx
      cases e; exact .base (.lst h1)
    · rename_i xs hx
      obtain ⟨a, vs, rfl, _, h1, h2⟩ := dic_at rl h hx
      cases e; exact .base (.dK h1)
    · cases e
  | glo x => cases e
  | fz x => cases e
theorem x_isi {y : Str} {p2 : Pos} (hg : Gl X "isinstance") (hm : X.mg "isinstance" = none) (hgy : Gl X y) (hmy : X.mg y = none) (hvy : bootBuiltins y = some (.type T)) (ha : PE X e (TX X.K W m))
    (hn : y ≠ "__name__" := by decide) (hdb : (y == ("__debug__" : Str)) = false := by decide)
    (hs2 : starEach [.Name y p2] X.env = (false, eval (.Name y p2) X.env) :: starEach [] X.env := by rfl)
    (he : starEach (e :: [.Name y p2]) X.env = (false, eval e X.env) :: starEach [.Name y p2] X.env := by rfl) (hpl : (backTo pos (starEach [.Name y p2] X.env)).any (·.1) = false := by rfl) :
    PE X (.Call (.Name "isinstance" p) [e, .Name y p2] [] pos) (TX X.K W (isiE T m)) := by
  refine PE.imp (pe_callB call_isi hg hm (by decide +kernel) (pa_cons ha (pa_cons (pe_bltn (v := .ty T) hgy hmy hvy rfl hn hdb) pa_nil hs2) he) (by decide) (by decide) he hpl) ?_
  rintro σ H Q ⟨α, ev, g, rl, sv, hp⟩
  refine ⟨α, ev, g, rl, sv, ?_⟩
  simp only [isiE] at hp
  cases e1 : m ev g with
  | no => rw [e1] at hp; exact hp
  | exn c g1 => rw [e1] at hp; exact hp
  | ok d g1 =>
    rw [e1] at hp
    intro α1 H1 r1 f1 v dv
    dsimp only at hp
    have hp1 := Post.fr f1 hp
    clear hp
    split at hp1
    · rename_i t ht
      split at hp1
      · rename_i b hb
        exact ⟨v, .ty T, .type t, .type T, b, rfl, .ty T, tyD_ok r1 dv ht, kit_ty hb, post_v hp1 r1 rfl⟩
      · exact hp1.elim
    · exact hp1.elim

/-! ### methods of built-in types -/
def apdE (mo m : EM D) : EM D := fun ev g => match mo ev g with
  | .ok (.ref n) g1 => (match g1[n]? with
    | some (.lst _) => (match m ev g1 with
      | .ok d g2 => (match g2[n]? with
        | some (.lst ys) => if ys.length < sizeLine then .ok .non (g2.set n (.lst (ys ++ [d]))) else .no
        | _ => .no)
      | .exn c g2 => .exn c g2
      | .no => .no)
    | _ => .no)
  | .ok _ _ => .no
  | .exn c g1 => .exn c g1
  | .no => .no
theorem x_append (ho : PE X o (TX X.K W mo)) (ha : PE X e (TX X.K W m))
    (hbase : attributeBase o "append" X.env (eval o X.env) = eval o X.env := by rfl)
    (hfew : ((backTo pos (starEach (e :: []) X.env)).all (fun x => !x.1) && (backToKw pos (keywordEach [] X.env)).all (fun x => x.1.isSome)
      && decide ((e :: ([] : List Expr)).length + ([] : List Keyword).length + (if ([] : List Keyword).isEmpty then 0 else 1) < 30)) = true := by rfl)
    (hline : (apos.endLine == pos.line) = true := by rfl) (hs : starEach (e :: []) X.env = (false, eval e X.env) :: starEach [] X.env := by rfl) (hplain : (backTo pos (starEach [] X.env)).any (·.1) = false := by rfl) :
    PE X (.Call (.Attribute o "append" apos) [e] [] pos) (TX X.K W (apdE mo m)) := by
  refine PE.imp (pe_bm PySem.F.plainAttrs_list PySem.F.slot_list_append PySem.F.type_list_append mt_append ho (pa_cons ha pa_nil hs) hbase hfew hline hs hplain) ?_
  rintro σ H Q ⟨α, ev, g, rl, sv, hp⟩
  refine ⟨α, ev, g, rl, sv, ?_⟩
  simp only [apdE] at hp
  cases e1 : mo ev g with
  | no => rw [e1] at hp; exact hp
  | exn c g1 => rw [e1] at hp; exact hp
  | ok d g1 =>
    rw [e1] at hp
    cases d <;> try exact hp.elim
    rename_i n
    intro α1 H1 r1 f1 v dv
    dsimp only at hp
    have hp1 := Post.fr f1 hp
    clear hp
    split at hp1
    · rename_i xs hx
      obtain ⟨a, vs, rfl, ha1, h1, h2⟩ := lst_at r1 dv hx
      refine ⟨.inl ⟨rfl, vs, SqL.of h1⟩, α1, ev, g1, r1, sv.mono f1, ?_⟩
      cases e2 : m ev g1 with
      | no => rw [e2] at hp1; exact hp1
      | exn c g2 => rw [e2] at hp1; exact hp1
      | ok d2 g2 =>
        rw [e2] at hp1
        intro α2 H2 r2 f2 w dw
        dsimp only at hp1
        have hp2 := Post.fr f2 hp1
        clear hp1
        split at hp2
        · rename_i ys hy
          split at hp2
          · rename_i hl
            obtain ⟨a2, vs2, e3, ha2, h3, h4⟩ := lst_at r2 (f2.dv dv) hy
            cases e3
            have hw : OV X.K (upd H2 a (.lst (vs2 ++ [w]))) α2 (.lst (ys ++ [d2])) a := ⟨_, upd_same, (Fr.write (o := .lst (vs2 ++ [w])) r2 ha2).dvs (h4.append (DVs.cons dw DVs.nil))⟩
            exact ⟨a, vs2, w, rfl, rfl, h3, by rw [← h4.length]; exact hl, post_set hp2 r2 ha2 hw .non rfl⟩
          · exact hp2.elim
        · exact hp2.elim
    · exact hp1.elim
/-- a.index(b) of texts, b stands there -/
def sixF : HF := fun ds g => match ds with
  | [.str a, .str b] => (match Txt.index0 a b with
    | some k => .ok (.int (k : Nat)) g
    | none => .no)
  | _ => .no
def smE (f : HF) (mo m : EM D) : EM D := fun ev g => match mo ev g with
  | .ok (.str a) g1 => (match m ev g1 with
    | .ok d g2 => f [.str a, d] g2
    | .exn c g2 => .exn c g2
    | .no => .no)
  | .ok _ _ => .no
  | .exn c g1 => .exn c g1
  | .no => .no
theorem x_sindex (hc : X.calm = true) (tk : Takes X W) (ho : PE X o (TX X.K W mo)) (ha : PE X e (TX X.K W m))
    (hbase : attributeBase o "index" X.env (eval o X.env) = eval o X.env := by rfl)
    (hfew : ((backTo pos (starEach (e :: []) X.env)).all (fun x => !x.1) && (backToKw pos (keywordEach [] X.env)).all (fun x => x.1.isSome)
      && decide ((e :: ([] : List Expr)).length + ([] : List Keyword).length + (if ([] : List Keyword).isEmpty then 0 else 1) < 30)) = true := by rfl)
    (hline : (apos.endLine == pos.line) = true := by rfl) (hs : starEach (e :: []) X.env = (false, eval e X.env) :: starEach [] X.env := by rfl) (hplain : (backTo pos (starEach [] X.env)).any (·.1) = false := by rfl) :
    PE X (.Call (.Attribute o "index" apos) [e] [] pos) (TX X.K W (smE sixF mo m)) := by
  refine PE.imp (pe_bmS PySem.F.plainAttrs_str PySem.F.slot_str_index PySem.F.type_str_index (mt_indexX hc tk) ho (pa_cons ha pa_nil hs) hbase hfew hline hs hplain) ?_
  rintro σ H Q ⟨α, ev, g, rl, sv, hp⟩
  refine ⟨α, ev, g, rl, sv, ?_⟩
  simp only [smE] at hp
  cases e1 : mo ev g with
  | no => rw [e1] at hp; exact hp
  | exn c g1 => rw [e1] at hp; exact hp
  | ok d g1 =>
    rw [e1] at hp
    cases d <;> try exact hp.elim
    rename_i z
    intro α1 H1 r1 f1 v dv
    have dv : v = .str z := dv
    subst dv
    dsimp only at hp
    have hp1 := Post.fr f1 hp
    clear hp
    refine ⟨rfl, α1, ev, g1, r1, sv.mono f1, ?_⟩
    cases e2 : m ev g1 with
    | no => rw [e2] at hp1; exact hp1
    | exn c g2 => rw [e2] at hp1; exact hp1
    | ok d2 g2 =>
      rw [e2] at hp1
      cases d2 <;> try exact hp1.elim
      rename_i y
      intro α2 H2 r2 f2 w dw
      have dw : w = .str y := dw
      subst dw
      have hp2 := Post.fr f2 hp1
      simp only [sixF] at hp2
      refine ⟨z, y, rfl, rfl, fun k hk => ?_, fun hk => ?_⟩
      · rw [hk] at hp2; exact post_v hp2 r2 rfl
      · rw [hk] at hp2; exact hp2.elim
/-- sep.join(list of texts) -/
def strsD : List D → Option (List Str)
  | [] => some []
  | .str z :: r => (strsD r).map (z :: ·)
  | _ :: _ => none
theorem strsD_ok {K : Fg} {H : Hp} {α : List Addr} : ∀ {ds : List D} {vs : List V} {bs : List Str}, strsD ds = some bs → DVs K H α ds vs → vs = bs.map V.str
  | [], vs, bs, e, h => by
    cases e
    exact h
  | d :: ds, vs, bs, e, h => by
    obtain ⟨v, r, rfl, h1, h2⟩ := h
    cases d <;> simp only [strsD] at e <;> try cases e
    rename_i b
    cases q : strsD ds with
    | none => rw [q] at e; cases e
    | some bs' =>
      rw [q] at e
      cases e
      rw [strsD_ok q h2]
      have h1 : v = .str b := h1
      rw [h1]; rfl
def joinF : HF := fun ds g => match ds with
  | [.str a, .ref n] => (match g[n]? with
    | some (.lst xs) => (match strsD xs with
      | some ys => if (ys.map (·.length)).sum + ys.length * a.length ≤ 16777216 then .ok (.str (Txt.join a ys)) g else .no
      | none => .no)
    | _ => .no)
  | _ => .no
theorem x_join (ho : PE X o (TX X.K W mo)) (ha : PE X e (TX X.K W m)) (hs : starEach [e] X.env = [(false, eval e X.env)] := by rfl) (hbase : attributeBase o "join" X.env (eval o X.env) = eval o X.env := by rfl) (hline : (apos.endLine == pos.line) = true := by rfl) :
    PE X (.Call (.Attribute o "join" apos) [e] [] pos) (TX X.K W (smE joinF mo m)) := by
  refine PE.imp (pe_join ho ha hs hbase hline) ?_
  rintro σ H Q ⟨α, ev, g, rl, sv, hp⟩
  refine ⟨α, ev, g, rl, sv, ?_⟩
  simp only [smE] at hp
  cases e1 : mo ev g with
  | no => rw [e1] at hp; exact hp
  | exn c g1 => rw [e1] at hp; exact hp
  | ok d g1 =>
    rw [e1] at hp
    cases d <;> try exact hp.elim
    rename_i z
    intro α1 H1 r1 f1 v dv
    have dv : v = .str z := dv
    subst dv
    dsimp only at hp
    have hp1 := Post.fr f1 hp
    clear hp
    refine ⟨⟨z, rfl⟩, α1, ev, g1, r1, sv.mono f1, ?_⟩
    cases e2 : m ev g1 with
    | no => rw [e2] at hp1; exact hp1
    | exn c g2 => rw [e2] at hp1; exact hp1
    | ok d2 g2 =>
      rw [e2] at hp1
      cases d2 <;> try exact hp1.elim
      rename_i n
      intro α2 H2 r2 f2 w dw
      have hp2 := Post.fr f2 hp1
      simp only [joinF] at hp2
      split at hp2
      · rename_i xs hx
        split at hp2
        · rename_i ys hy
          split at hp2
          · rename_i hl
            obtain ⟨a, vs, rfl, _, h1, h2⟩ := lst_at r2 dw hx
            have := strsD_ok hy h2
            subst this
            exact ⟨z, a, ys, rfl, rfl, .inl (SqL.of h1), hl, post_v hp2 r2 rfl⟩
          · exact hp2.elim
        · exact hp2.elim
      · exact hp2.elim
end
end DL

/-! ## Dl7 -/
set_option maxHeartbeats 4000000
namespace DL
open PySem PySem.Spec PyProof.Rows L2

/-! ### statements -/
inductive Fl where
  | nx | brk | ct | ret (d : D)
abbrev SM := Ev → G → R (Ev × G) Fl
def PostS (K : Fg) (α : List Addr) (H : Hp) (r : R (Ev × G) Fl) (P : Fl → Ev → List Addr → Hp → Prop) (E : Str → Ev → List Addr → Hp → Prop) : Prop :=
  match r with
  | .ok b s => ∀ α' H', Rl K α' s.2 H' → Fr K α H α' H' → P b s.1 α' H'
  | .exn c s => ∀ α' H', Rl K α' s.2 H' → Fr K α H α' H' → E c s.1 α' H'
  | .no => False
theorem PostS.fr {K α H} {r : R (Ev × G) Fl} {P E α1 H1} (f : Fr K α H α1 H1) (h : PostS K α H r P E) : PostS K α1 H1 r P E := by
  cases r with
  | ok b g => exact fun α' H' a c => h α' H' a (f.trans c)
  | exn b g => exact fun α' H' a c => h α' H' a (f.trans c)
  | no => exact h
def flP (K : Fg) (D : Ends) : Fl → Ev → List Addr → Hp → Prop := fun fl ev' α' H' => ∀ σ', SV K H' α' ev' σ' → match fl with
  | .nx => D.nx σ' H'
  | .brk => D.bk σ' H'
  | .ct => D.ct σ' H'
  | .ret d => ∀ v, DV K H' α' d v → D.rt v H'
def flE (K : Fg) (W : WX) : Str → Ev → List Addr → Hp → Prop := fun c ev' α' H' => ∀ σ', SV K H' α' ev' σ' → W (.ref (He.ga K c)) none σ' H'
def TSt (K : Fg) (W : WX) (m : SM) : TS := fun D σ H => ∃ α ev g, Rl K α g H ∧ SV K H α ev σ ∧ PostS K α H (m ev g) (flP K D) (flE K W)
/-- an expression's reading within a statement -/
def withE {β : Type} (m : EM β) (f : β → SM) : SM := fun ev g => match m ev g with
  | .ok d g1 => f d ev g1
  | .exn c g1 => .exn c (ev, g1)
  | .no => .no
def retS (m : EM D) : SM := withE m fun d ev g => .ok (.ret d) (ev, g)
def retNS : SM := fun ev g => .ok (.ret .non) (ev, g)
def exprS (m : EM D) : SM := withE m fun _ ev g => .ok .nx (ev, g)
def nxS : SM := fun ev g => .ok .nx (ev, g)
def brkS : SM := fun ev g => .ok .brk (ev, g)
def ctS : SM := fun ev g => .ok .ct (ev, g)
def seqS (m m' : SM) : SM := fun ev g => match m ev g with
  | .ok .nx s => m' s.1 s.2
  | r => r
def ifS (t : EM Bool) (a b : SM) : SM := withE t fun k => if k then a else b
/-- targets -/
abbrev TM := D → Ev → G → Option (Ev × G)
def nameT (i : Nat) : TM := fun d ev g => some (ev.set i (some d), g)
def TGt (K : Fg) (m : TM) : TG := fun v σ H Q => ∃ α ev g d, Rl K α g H ∧ SV K H α ev σ ∧ DV K H α d v ∧ match m d ev g with
  | some s => ∀ α' H' σ', Rl K α' s.2 H' → Fr K α H α' H' → SV K H' α' s.1 σ' → Q σ' H'
  | none => False
abbrev TMs := List D → Ev → G → Option (Ev × G)
def TGts (K : Fg) (m : TMs) : TGs := fun vs σ H Q => ∃ α ev g ds, Rl K α g H ∧ SV K H α ev σ ∧ DVs K H α ds vs ∧ match m ds ev g with
  | some s => ∀ α' H' σ', Rl K α' s.2 H' → Fr K α H α' H' → SV K H' α' s.1 σ' → Q σ' H'
  | none => False
def nilT : TMs := fun ds ev g => match ds with
  | [] => some (ev, g)
  | _ => none
def consT (m : TM) (ms : TMs) : TMs := fun ds ev g => match ds with
  | d :: r => (match m d ev g with
    | some s => ms r s.1 s.2
    | none => none)
  | [] => none
def tupT (n : Nat) (ms : TMs) : TM := fun d ev g => match d with
  | .tup ds => if ds.length = n then ms ds ev g else none
  | _ => none
def orNoS (o : Option (Ev × G)) : R (Ev × G) Fl := match o with
  | some s => .ok .nx s
  | none => .no
def asgS (m : EM D) (t : TM) : SM := withE m fun d ev g => orNoS (t d ev g)
/-- o.f = -/
def putFD (f : Str) (v : D) : List (Str × D) → List (Str × D)
  | [] => [(f, v)]
  | (g, x) :: r => if g = f then (g, v) :: r else (g, x) :: putFD f v r
def fldT (cs : List Str) (f : Str) (i : Nat) : TM := fun d ev g => match ev[i]? with
  | some (some (.ref n)) => (match g[n]? with
    | some (.ins c fs) => if cs.contains c && decide (fs.length < 1000) then some (ev, g.set n (.ins c (putFD f d fs))) else none
    | _ => none)
  | _ => none
section
variable {X : Cx} {W : WX} {e e2 o : Expr} {es : List Expr} {pos p apos : Pos} {m mb : EM D} {t : EM Bool} {a b : SM} {st : Stmt} {sts els : List Stmt}
theorem PG.imp {tg : Expr} {t t' : TG} (h : PG X tg t) (i : ∀ v σ H Q, t' v σ H Q → t v σ H Q) : PG X tg t' := ⟨fun pins s σ H v u Q I r q => h.run pins s σ H v u Q I r (i _ _ _ _ q)⟩
theorem PGs.imp {tg : List Expr} {t t' : TGs} (h : PGs X tg t) (i : ∀ v σ H Q, t' v σ H Q → t v σ H Q) : PGs X tg t' := ⟨fun pins s σ H v u Q I r q => h.run pins s σ H v u Q I r (i _ _ _ _ q)⟩
/-- the expression's reading in front of what follows -/
theorem withE_run {β : Type} {mm : EM β} {f : β → SM} {K : Fg} {D : Ends} {α ev g σ H} (rl : Rl K α g H) (sv : SV K H α ev σ) (hp : PostS K α H (withE mm f ev g) (flP K D) (flE K W)) :
    Post K α H (mm ev g) (fun d α' H' => ∃ g1, Rl K α' g1 H' ∧ SV K H' α' ev σ ∧ PostS K α' H' (f d ev g1) (flP K D) (flE K W)) (XW K W σ) := by
  simp only [withE] at hp
  cases e1 : mm ev g with
  | no => rw [e1] at hp; exact hp
  | exn c g1 => rw [e1] at hp; exact fun α' H' r f => hp α' H' r f σ (sv.mono f)
  | ok d g1 => rw [e1] at hp; exact fun α' H' r f => ⟨g1, r, sv.mono f, PostS.fr f hp⟩
theorem posts_ok {K : Fg} {α : List Addr} {H : Hp} {b : Fl} {ev : Ev} {g : G} {P : Fl → Ev → List Addr → Hp → Prop} {E : Str → Ev → List Addr → Hp → Prop} (h : PostS K α H (.ok b (ev, g)) P E) (r : Rl K α g H) : P b ev α H := h α H r Fr.refl
theorem s_ret (he : PE X e (TX X.K W m)) : PS X (.Return (some e) pos) (TSt X.K W (retS m)) := by
  refine PS.imp (ps_ret he) ?_
  rintro D σ H ⟨α, ev, g, rl, sv, hp⟩
  refine ⟨α, ev, g, rl, sv, Post.imp (withE_run rl sv hp) (fun d α' H' _ h v dv => ?_) fun _ _ _ _ z => z⟩
  obtain ⟨g1, r1, s1, q⟩ := h
  exact posts_ok q r1 σ s1 v dv
theorem s_retN : PS X (.Return none pos) (TSt X.K W retNS) := PS.imp ps_retN fun D σ H ⟨α, ev, g, rl, sv, hp⟩ => posts_ok hp rl σ sv .non rfl
theorem s_expr (he : PE X e (TX X.K W m)) (hs : swapsWith e none pos.line X.env = pure false := by rfl) : PS X (.Expr e pos) (TSt X.K W (exprS m)) := by
  refine PS.imp (ps_expr he hs) ?_
  rintro D σ H ⟨α, ev, g, rl, sv, hp⟩
  refine ⟨α, ev, g, rl, sv, Post.imp (withE_run rl sv hp) (fun d α' H' _ h v dv => ?_) fun _ _ _ _ z => z⟩
  obtain ⟨g1, r1, s1, q⟩ := h
  exact posts_ok q r1 σ s1
theorem s_pass : PS X (.Pass pos) (TSt X.K W nxS) := PS.imp ps_pass fun D σ H ⟨α, ev, g, rl, sv, hp⟩ => posts_ok hp rl σ sv
theorem s_break : PS X (.Break pos) (TSt X.K W brkS) := PS.imp ps_break fun D σ H ⟨α, ev, g, rl, sv, hp⟩ => posts_ok hp rl σ sv
theorem s_continue : PS X (.Continue pos) (TSt X.K W ctS) := PS.imp ps_continue fun D σ H ⟨α, ev, g, rl, sv, hp⟩ => posts_ok hp rl σ sv
theorem ss_nil : PSs X [] (TSt X.K W nxS) := PSs.imp pss_nil fun D σ H ⟨α, ev, g, rl, sv, hp⟩ => posts_ok hp rl σ sv
theorem ss_cons (h1 : PS X st (TSt X.K W a)) (h2 : PSs X sts (TSt X.K W b)) : PSs X (st :: sts) (TSt X.K W (seqS a b)) := by
  refine PSs.imp (pss_cons h1 h2) ?_
  rintro D σ H ⟨α, ev, g, rl, sv, hp⟩
  refine ⟨α, ev, g, rl, sv, ?_⟩
  simp only [seqS] at hp
  cases e1 : a ev g with
  | no => rw [e1] at hp; exact hp
  | exn c g1 => rw [e1] at hp; exact hp
  | ok fl s =>
    rw [e1] at hp
    cases fl with
    | nx => exact fun α' H' r f σ' sv' => ⟨α', s.1, s.2, r, sv', PostS.fr f hp⟩
    | brk => exact hp
    | ct => exact hp
    | ret d => exact hp
theorem ss_one (h1 : PS X st (TSt X.K W a)) : PSs X [st] (TSt X.K W a) := pss_one h1
theorem s_if (hc : PT X e (TB X.K W t)) (ha : PSs X sts (TSt X.K W a)) (hb : PSs X els (TSt X.K W b)) : PS X (.If e sts els pos) (TSt X.K W (ifS t a b)) := by
  refine PS.imp (ps_if hc ha hb) ?_
  rintro D σ H ⟨α, ev, g, rl, sv, hp⟩
  refine ⟨α, ev, g, rl, sv, Post.imp (withE_run rl sv hp) (fun k α' H' _ h => ?_) fun _ _ _ _ z => z⟩
  obtain ⟨g1, r1, s1, q⟩ := h
  cases k with
  | true => dsimp only [PB]; rw [if_pos rfl]; exact ⟨α', ev, g1, r1, s1, q⟩
  | false => dsimp only [PB]; rw [if_neg Bool.false_ne_true]; exact ⟨α', ev, g1, r1, s1, q⟩
/-! targets -/
theorem g_name {i : Nat} {x : Str} (h : PG X (.Name x pos) (gName i)) : PG X (.Name x pos) (TGt X.K (nameT i)) := by
  refine PG.imp h ?_
  rintro v σ H Q ⟨α, ev, g, d, rl, sv, dv, hp⟩
  exact hp α H _ rl Fr.refl (sv.set dv i)
theorem gs_nil : PGs X [] (TGts X.K nilT) := by
  refine PGs.imp pgs_nil ?_
  rintro v σ H Q ⟨α, ev, g, ds, rl, sv, dv, hp⟩
  cases ds with
  | nil => exact ⟨dv, hp α H σ rl Fr.refl sv⟩
  | cons _ _ => exact hp.elim
theorem gs_cons {mt : TM} {ms : TMs} (h1 : PG X e (TGt X.K mt)) (h2 : PGs X es (TGts X.K ms)) (hs : (assignEach (e :: es) X.env).map (·.2) = assign e X.env :: (assignEach es X.env).map (·.2) := by rfl) : PGs X (e :: es) (TGts X.K (consT mt ms)) := by
  refine PGs.imp (pgs_cons h1 h2 hs) ?_
  rintro v σ H Q ⟨α, ev, g, ds, rl, sv, dv, hp⟩
  cases ds with
  | nil => exact hp.elim
  | cons d r =>
    obtain ⟨w, r', rfl, d1, d2⟩ := dv
    refine ⟨w, r', rfl, α, ev, g, d, rl, sv, d1, ?_⟩
    simp only [consT] at hp
    cases e1 : mt d ev g with
    | none => rw [e1] at hp; exact hp
    | some s =>
      rw [e1] at hp
      intro α1 H1 σ1 r1 f1 s1
      refine ⟨α1, s.1, s.2, r, r1, s1, f1.dvs d2, ?_⟩
      dsimp only at hp
      cases e2 : ms r s.1 s.2 with
      | none => rw [e2] at hp; exact hp
      | some s' => rw [e2] at hp; exact fun α2 H2 σ2 r2 f2 s2 => hp α2 H2 σ2 r2 (f1.trans f2) s2
theorem g_tup {k n : Nat} {ms : TMs} (hc : X.calm = true) (h : PGs X es (TGts X.K ms)) (hn : (assignEach es X.env).length = n := by rfl) (hst : (assignEach es X.env).findIdx? (·.1) = none := by rfl) : PG X (.Tuple es k pos) (TGt X.K (tupT n ms)) := by
  refine PG.imp (pg_tup hc h hn hst) ?_
  rintro v σ H Q ⟨α, ev, g, d, rl, sv, dv, hp⟩
  cases d <;> try exact hp.elim
  rename_i ds
  obtain ⟨q, xs, rfl, h1, h2⟩ := dv
  simp only [tupT] at hp
  split at hp
  · rename_i s hs
    split at hs
    · rename_i hl
      exact ⟨q, xs, rfl, h1, by rw [← h2.length]; exact hl, α, ev, g, ds, rl, sv, h2, by rw [hs]; exact hp⟩
    · cases hs
  · exact hp.elim
theorem asg_run {K : Fg} {mt : TM} {D : Ends} {σ : L2.St} {H : Hp} (h : TSt K W (asgS m mt) D σ H) : tAsg (TX K W m) (TGt K mt) D σ H := by
  obtain ⟨α, ev, g, rl, sv, hp⟩ := h
  refine ⟨α, ev, g, rl, sv, Post.imp (withE_run rl sv hp) (fun d α' H' _ h v dv => ?_) fun _ _ _ _ z => z⟩
  obtain ⟨g1, r1, s1, q⟩ := h
  refine ⟨α', ev, g1, d, r1, s1, dv, ?_⟩
  cases e1 : mt d ev g1 with
  | none => rw [e1] at q; exact q
  | some s => rw [e1] at q; exact fun α2 H2 σ2 r2 f2 s2 => q α2 H2 r2 f2 σ2 s2
/-- target = value -/
theorem s_asg {tg : Expr} {mt : TM} (he : PE X e (TX X.K W m)) (hg : PG X tg (TGt X.K mt)) (hs : swapsWithSole [tg] e pos.line X.env = pure false := by rfl) (hw : swappedStores [tg] e X.env = pure none := by rfl)
    (h1 : (assignEach [tg] X.env).map (·.2) = [assign tg X.env] := by rfl) : PS X (.Assign [tg] e pos) (TSt X.K W (asgS m mt)) := PS.imp (ps_asg he hg hs hw h1) fun _ _ _ h => asg_run h
theorem s_set {i : Nat} {x : Str} {pos' : Pos} (hN : X.N.Nodup) (hi : X.N[i]? = some x) (hx : Loc X.env.scope x) (he : PE X e (TX X.K W m)) (hs : swapsWith e (some (.Name x pos')) pos.line X.env = pure false := by rfl) (hf : X.fn x = true ∨ X.env.scope.names.lookup x = some .local := by first | exact .inl rfl | exact .inr rfl | assumption) :
    PS X (.Assign [.Name x pos'] e pos) (TSt X.K W (asgS m (nameT i))) := by
  refine PS.imp (ps_set hN hi hx he hs hf) fun D σ H h => ?_
  obtain ⟨α, ev, g, rl, sv, hp⟩ := asg_run h
  refine ⟨α, ev, g, rl, sv, Post.imp hp (fun d α' H' _ h v dv => ?_) fun _ _ _ _ z => z⟩
  obtain ⟨α2, ev2, g2, d2, r2, s2, dv2, q⟩ := h v dv
  exact q α2 H' _ r2 Fr.refl (s2.set dv2 i)
theorem KD.put {K : Fg} {H : Hp} {α : List Addr} {f : Str} {d : D} {v : V} (hd : DV K H α d v) : ∀ {fs : List (Str × D)} {ws : List (Str × V)}, KD K H α fs ws → KD K H α (putFD f d fs) (putF f v ws)
  | _, _, .nil => .cons ⟨rfl, hd⟩ .nil
  | (a, x) :: r, (b, y) :: r', .cons ⟨h1, h2⟩ t => by
    have h1 : a = b := h1
    subst h1
    unfold putFD putF
    by_cases c : a = f
    · rw [if_pos c, if_pos c]; exact .cons ⟨rfl, hd⟩ t
    · rw [if_neg c, if_neg c]; exact .cons ⟨rfl, h2⟩ (KD.put hd t)
/-- name.f = , the name in slot i -/
theorem g_fld {i : Nat} {cs : List Str} {f : Str} (hc : FldOk X.K cs f) (ho : PE X o (tVar i)) : PG X (.Attribute o f pos) (TGt X.K (fldT cs f i)) := by
  refine ⟨fun pins s σ H v u Q I r h => ?_⟩
  obtain ⟨α, ev, g, d, rl, sv, dv, hp⟩ := h
  simp only [fldT] at hp
  split at hp
  · rename_i s2 hs
    split at hs
    · rename_i n hn
      obtain ⟨w, e1, e2⟩ := sv.at_ i _ hn
      split at hs
      · rename_i c fs hx
        split at hs
        · rename_i hcc
          cases hs
          obtain ⟨a, dx, ws, rfl, ha, h3, h4⟩ := ins_at rl e2 hx
          simp only [Bool.and_eq_true, decide_eq_true_eq] at hcc
          have hm : c ∈ cs := by simpa using hcc.1
          rw [PySem.assign_Attribute]
          refine wpAny_bind (wpAny_holding (thn (ho.run pins s σ H (fun x H1 => x = .ref a ∧ H1 = H) I ⟨_, e1, rfl, rfl⟩) fun ov s1 ⟨x, H1, I1, rx, ex, eH⟩ => ?_))
          subst ex
          subst eH
          obtain rfl : ov = Value.ref a := rx
          refine wpAny_bind (wpAny_standAt (wpAny_bind (wpAny_holding (setattr_ok I1 h3 (hc c hm).1 (hc c hm).2 (by rw [← Paired.length h4]; exact hcc.2) r fun s3 I3 => ?_))))
          refine wpAny_release ⟨σ, _, I3, ?_⟩
          have hw : OV X.K (upd H1 a (.ins (He.ga X.K c) dx (putF f v ws))) α (.ins c (putFD f d fs)) a := ⟨dx, _, upd_same, (KD.put dv h4).mono (Fr.write rl ha).tup (Fr.write (o := .ins (He.ga X.K c) dx (putF f v ws)) rl ha).pre⟩
          exact hp α _ σ (rl.write ha hw) (Fr.write rl ha) (sv.mono (Fr.write rl ha))
        · cases hs
      · cases hs
    · cases hs
  · exact hp.elim
end
end DL

/-! ## Dl8 -/
set_option maxHeartbeats 4000000
namespace DL
open PySem PySem.Spec PyProof.Rows L2

/-! ### a, b = x, y -/
def withEs (m : EM (List D)) (f : List D → SM) : SM := withE m f
def par2S (i j : Nat) (ms : EM (List D)) : SM := withE ms fun ds ev g => match ds with
  | [x, y] => .ok .nx ((ev.set i (some x)).set j (some y), g)
  | _ => .no
def par3S (i j l : Nat) (ms : EM (List D)) : SM := withE ms fun ds ev g => match ds with
  | [x, y, z] => .ok .nx (((ev.set i (some x)).set j (some y)).set l (some z), g)
  | _ => .no
/-! op= at a name, at an attribute, at a subscript -/
def augS (i : Nat) (f : Op2) (m : EM D) : SM := asgS (opE f (varE i) m) (nameT i)
def upAt (x y : D) (d : D) (g : G) : Option G := match x with
  | .ref n => (match g[n]? with
    | some (.lst xs) => (match y with
      | .int k => (match ixN xs.length k with
        | some j => some (g.set n (.lst (xs.set j d)))
        | none => none)
      | _ => none)
    | some (.dic kvs) => (match keyD y with
      | some k => if kvs.length < sizeLine then some (g.set n (.dic (if (kvs.any fun kv => decide (kv.1 = k)) = true then kvs.map (fun kv => if kv.1 = k then (kv.1, d) else kv) else kvs ++ [(k, d)]))) else none
      | none => none)
    | _ => none)
  | _ => none
/-- o[k] = e -/
def subS (mv mo mk : EM D) : SM := withE mv fun d => withE mo fun x => withE mk fun y ev g => match upAt x y d g with
  | some g' => .ok .nx (ev, g')
  | none => .no
section
variable {X : Cx} {W : WX} {e e2 o i : Expr} {es : List Expr} {pos p apos tpos : Pos} {m mv mo mk mb : EM D} {ms : EM (List D)} {t : EM Bool} {a b : SM} {st : Stmt} {sts els : List Stmt}
theorem s_par2 {i j : Nat} {x y : Str} {a b : Expr} {px py pt : Pos} {kt k2 pt2} (hc : X.calm = true) (hN : X.N.Nodup) (hi : X.N[i]? = some x) (hj : X.N[j]? = some y) (hij : i ≠ j)
    (hx : X.env.scope.names.lookup x = some .local) (hy : X.env.scope.names.lookup y = some .local) (ha : PA X [a, b] (TXs X.K W ms))
    (hw : swappedStores [.Tuple [.Name x px, .Name y py] kt pt] (.Tuple [a, b] k2 pt2) X.env = pure (some [x, y]))
    (hs : swapsWithSole [.Tuple [.Name x px, .Name y py] kt pt] (.Tuple [a, b] k2 pt2) pos.line X.env = pure false := by rfl) :
    PS X (.Assign [.Tuple [.Name x px, .Name y py] kt pt] (.Tuple [a, b] k2 pt2) pos) (TSt X.K W (par2S i j ms)) := by
  refine PS.imp (ps_par hc hN hi hj hij hx hy ha hw hs) ?_
  rintro D σ H ⟨α, ev, g, rl, sv, hp⟩
  refine ⟨α, ev, g, rl, sv, Post.imp (withE_run rl sv hp) (fun ds α' H' _ h vs dvs => ?_) fun _ _ _ _ z => z⟩
  obtain ⟨g1, r1, s1, q⟩ := h
  split at q
  · obtain ⟨v, w, rfl, d1, d2⟩ := twoV dvs
    exact ⟨v, w, rfl, posts_ok q r1 _ ((s1.set d1 i).set d2 j)⟩
  · exact q.elim
theorem s_par3 {i j l : Nat} {x y z : Str} {a b c : Expr} {px py pz pt : Pos} {kt k2 pt2} (hc : X.calm = true) (hN : X.N.Nodup) (hi : X.N[i]? = some x) (hj : X.N[j]? = some y) (hl : X.N[l]? = some z) (hij : i ≠ j) (hil : i ≠ l) (hjl : j ≠ l)
    (hx : X.env.scope.names.lookup x = some .local) (hy : X.env.scope.names.lookup y = some .local) (hz : X.env.scope.names.lookup z = some .local) (ha : PA X [a, b, c] (TXs X.K W ms))
    (hw : swappedStores [.Tuple [.Name x px, .Name y py, .Name z pz] kt pt] (.Tuple [a, b, c] k2 pt2) X.env = pure (some [x, y, z]))
    (hs : swapsWithSole [.Tuple [.Name x px, .Name y py, .Name z pz] kt pt] (.Tuple [a, b, c] k2 pt2) pos.line X.env = pure false := by rfl) :
    PS X (.Assign [.Tuple [.Name x px, .Name y py, .Name z pz] kt pt] (.Tuple [a, b, c] k2 pt2) pos) (TSt X.K W (par3S i j l ms)) := by
  refine PS.imp (ps_par3 hc hN hi hj hl hij hil hjl hx hy hz ha hw hs) ?_
  rintro D σ H ⟨α, ev, g, rl, sv, hp⟩
  refine ⟨α, ev, g, rl, sv, Post.imp (withE_run rl sv hp) (fun ds α' H' _ h vs dvs => ?_) fun _ _ _ _ z => z⟩
  obtain ⟨g1, r1, s1, q⟩ := h
  split at q
  · obtain ⟨v, r, rfl, d1, d2⟩ := dvs
    obtain ⟨w, u, rfl, d2, d3⟩ := twoV d2
    exact ⟨v, w, u, rfl, posts_ok q r1 _ (((s1.set d1 i).set d2 j).set d3 l)⟩
  · exact q.elim
/-- a value's operation of an augmented assignment -/
def PIpOf (X : Cx) (op : Operator) (f : Op2) : Prop := OpR X (inplaceOp op) (rOf X.K f)
theorem iop_intsD {op : Operator} {C : Int → Int → Bool} {C' : Int → Int → Prop} {gf : Int → Int → V} {f : Int → Int → D} (h : OpR X (inplaceOp op) (rI C' gf)) (hc : ∀ i j, C i j = true → C' i j) (hv : ∀ i j H α, DV X.K H α (f i j) (gf i j)) : OpR X (inplaceOp op) (rOf X.K (ints2 C f)) := op_ints h hc hv
def addI : Op2 := ints2 (fun _ _ => true) fun i j => .int (i + j)
theorem iop_addI : OpR X (inplaceOp .Add) (rOf X.K addI) := op_ints (rI_of iop_add) (fun _ _ _ => trivial) fun _ _ _ _ => rfl
theorem iop_subI : OpR X (inplaceOp .Sub) (rOf X.K subD) := op_ints (rI_of iop_sub) (fun _ _ _ => trivial) fun _ _ _ _ => rfl
theorem s_aug {i : Nat} {x : Str} {op : Operator} {f : Op2} {pos' : Pos} (hf : Calm f) (hN : X.N.Nodup) (hi : X.N[i]? = some x) (hx : Loc X.env.scope x) (he : PE X e (TX X.K W m)) (ho : OpR X (inplaceOp op) (rOf X.K f)) (hl : X.fn x = true ∨ X.env.scope.names.lookup x = some .local := by first | exact .inl rfl | exact .inr rfl | assumption) :
    PS X (.AugAssign (.Name x pos') op e pos) (TSt X.K W (augS i f m)) := by
  refine PS.imp (ps_aug (ti := rOf X.K f) hN hi hx he ho hl) ?_
  rintro D σ H h
  obtain ⟨α, ev, g, rl, sv, hp⟩ := asg_run h
  simp only [opE, varE] at hp
  cases e1 : ev[i]? with
  | none => rw [e1] at hp; exact hp.elim
  | some od =>
    rw [e1] at hp
    cases od with
    | none => exact hp.elim
    | some d =>
      dsimp only at hp
      obtain ⟨v, e2, e3⟩ := sv.at_ i d e1
      refine ⟨v, e2, α, ev, g, rl, sv, ?_⟩
      cases e4 : m ev g with
      | no => rw [e4] at hp; exact hp
      | exn c g2 => rw [e4] at hp; exact hp
      | ok y g2 =>
        rw [e4] at hp
        dsimp only at hp
        intro α1 H1 r1 f1 w dw
        refine ⟨α1, g2, d, y, r1, f1.dv e3, dw, ?_⟩
        have hp1 := Post.fr f1 hp
        cases e5 : f d y g2 with
        | no => rw [e5] at hp1; exact hp1
        | exn c g3 => exact absurd e5 (hf _ _ _ _ _)
        | ok z g3 =>
          rw [e5] at hp1
          intro α2 H2 r2 f2 u du
          obtain ⟨α3, ev3, g4, d3, r3, s3, dv3, q⟩ := hp1 α2 H2 r2 f2 u du
          exact q α3 H2 _ r3 Fr.refl (s3.set dv3 i)
theorem KD.putK {K : Fg} {H : Hp} {α : List Addr} {k : Key} {d : D} {v : V} (hd : DV K H α d v) {fs : List (Key × D)} {ws : List (Key × V)} (h : KD K H α fs ws) :
    KD K H α (if (fs.any fun kv => decide (kv.1 = k)) = true then fs.map (fun kv => if kv.1 = k then (kv.1, d) else kv) else fs ++ [(k, d)]) (L2.putK ws k v) := by
  have ha : (fs.any fun kv => decide (kv.1 = k)) = (ws.any fun kv => decide (kv.1 = k)) := by
    induction h with
    | nil => rfl
    | cons q _ ih => rw [List.any_cons, List.any_cons, ih, q.1]
  unfold L2.putK
  rw [ha]
  split <;> rename_i cc
  · clear ha cc
    induction h with
    | nil => exact .nil
    | @cons p q l1 l2 h1 _ ih =>
      obtain ⟨h1, h2⟩ := h1
      refine .cons ?_ ih
      dsimp only
      by_cases c : p.1 = k
      · rw [if_pos c, if_pos (h1 ▸ c)]; exact ⟨h1, hd⟩
      · rw [if_neg c, if_neg (fun z => c (h1 ▸ z))]; exact ⟨h1, h2⟩
  · exact Paired.snoc h ⟨rfl, hd⟩
/-- o[k] = v, by values: lists and dicts -/
def rUp (K : Fg) : TSet := fun o i v H Q => ∃ α g x y d g', Rl K α g H ∧ DV K H α x o ∧ DV K H α y i ∧ DV K H α d v ∧ upAt x y d g = some g' ∧ ∀ α' H', Rl K α' g' H' → Fr K α H α' H' → Q H'
theorem set_up (hu : X.A.units + 1 < cLine) : PSet X (rUp X.K) := by
  intro pins s σ H o i v ov iv u Q I ro ri rv h
  obtain ⟨α, g, x, y, d, g', rl, dx, dy, dd, hup, hq⟩ := h
  cases x <;> simp only [upAt] at hup <;> try cases hup
  rename_i n
  split at hup
  · rename_i xs hx
    obtain ⟨a, vs, rfl, ha, h1, h2⟩ := lst_at rl dx hx
    split at hup <;> try (cases hup; done)
    rename_i k
    split at hup
    · rename_i j hj
      cases hup
      refine set_list pins s σ H _ _ v ov iv u Q I ro ri rv ⟨a, vs, k, j, rfl, dy, h1, by rw [← h2.length]; exact hj, ?_⟩
      have hw : OV X.K (upd H a (.lst (vs.set j v))) α (.lst (xs.set j d)) a := ⟨_, upd_same, (Fr.write (o := .lst (vs.set j v)) rl ha).dvs (h2.set dd j)⟩
      exact hq α _ (rl.write ha hw) (Fr.write rl ha)
    · cases hup
  · rename_i kvs hx
    obtain ⟨a, ws, rfl, ha, h1, h2⟩ := dic_at rl dx hx
    split at hup
    · rename_i k hk
      split at hup
      · rename_i hl
        cases hup
        have ey := keyD_ok hk dy
        subst ey
        refine set_dict hu pins s σ H _ _ v ov iv u Q I ro ri rv ⟨a, _, rfl, DPut.k h1 (by rw [← Paired.length h2]; exact hl), ?_⟩
        have hw : OV X.K (upd H a (.dK (L2.putK ws k v))) α (.dic _) a := ⟨_, upd_same, (KD.putK dd h2).mono (Fr.write rl ha).tup (Fr.write (o := .dK (L2.putK ws k v)) rl ha).pre⟩
        exact hq α _ (rl.write ha hw) (Fr.write rl ha)
      · cases hup
    · cases hup
  · cases hup
theorem s_sub {pos' : Pos} (hu : X.A.units + 1 < cLine) (hv : PE X e (TX X.K W mv)) (ho : PE X o (TX X.K W mo)) (hk : PE X i (TX X.K W mk))
    (ha : ∀ v, assign (.Subscript o i pos') X.env v = (do
      let ov ← holding [v] (eval o X.env)
      let iv ← holding [v, ov] (eval i X.env)
      standAt pos'
      holding [v, ov, iv] (setItem ov iv v)
      release [v, ov, iv] []) := by intro _; rfl)
    (hs : swapsWithSole [.Subscript o i pos'] e pos.line X.env = pure false := by rfl) (hw : swappedStores [.Subscript o i pos'] e X.env = pure none := by rfl)
    (h1 : (assignEach [.Subscript o i pos'] X.env).map (·.2) = [assign (.Subscript o i pos') X.env] := by rfl) : PS X (.Assign [.Subscript o i pos'] e pos) (TSt X.K W (subS mv mo mk)) := by
  refine PS.imp (ps_asg hv (pg_sub ho hk (set_up hu) ha) hs hw h1) ?_
  rintro D σ H ⟨α, ev, g, rl, sv, hp⟩
  refine ⟨α, ev, g, rl, sv, Post.imp (withE_run rl sv hp) (fun d α1 H1 f1 h v dv => ?_) fun _ _ _ _ z => z⟩
  obtain ⟨g1, r1, s1, q⟩ := h
  refine ⟨α1, ev, g1, r1, s1, Post.imp (withE_run r1 s1 q) (fun x α2 H2 f2 h w dw => ?_) fun _ _ _ _ z => z⟩
  obtain ⟨g2, r2, s2, q⟩ := h
  refine ⟨α2, ev, g2, r2, s2, Post.imp (withE_run r2 s2 q) (fun y α3 H3 f3 h u du => ?_) fun _ _ _ _ z => z⟩
  obtain ⟨g3, r3, s3, q⟩ := h
  split at q
  · rename_i g' hg'
    exact ⟨α3, g3, x, y, d, g', r3, f3.dv dw, du, f3.dv (f2.dv dv), hg', fun α4 H4 r4 f4 => q α4 H4 r4 f4 σ (s3.mono f4)⟩
  · exact q.elim
def ixDic : Op2 := fun x y g => match x with
  | .ref n => (match g[n]? with
    | some (.dic kvs) => (match keyD y with
      | some k => orNo (valK kvs k) g
      | none => .no)
    | _ => .no)
  | _ => .no
theorem get_dic (hu : X.A.units + 1 < cLine) : PGet X (rOf X.K ixDic) := by
  intro pins s σ H x y v u Q I rx ry h
  obtain ⟨α, g, d, e, rl, dx, dy, hp⟩ := h
  cases d <;> try exact hp.elim
  simp only [ixDic] at hp
  split at hp
  · rename_i kvs hx
    split at hp
    · rename_i k hk
      cases q : valK kvs k with
      | none => rw [q] at hp; exact hp.elim
      | some d' =>
        rw [q] at hp
        obtain ⟨a, ws, rfl, _, h1, d1⟩ := dic_at rl dx hx
        obtain ⟨w, ew, dw⟩ := (valK_ok (k := k) d1).1 d' q
        have ey := keyD_ok hk dy
        subst ey
        cases rx
        exact d_getItem hu I (by rw [← ew]; exact DGet.k h1) ry fun w' s3 I3 rw' => ⟨w, H, I3, rw', post_v hp rl dw⟩
    · exact hp.elim
  · exact hp.elim
def subAugS (f : Op2) (mo mk mv : EM D) : SM := withE mo fun x => withE mk fun y => withE (fun _ g => ixDic x y g) fun z => withE mv fun w => withE (fun _ g => f z w g) fun d ev g => match upAt x y d g with
  | some g' => .ok .nx (ev, g')
  | none => .no
theorem calm_ixDic : Calm ixDic := by
  intro x y g c g' h
  unfold ixDic at h
  split at h
  · split at h
    · split at h
      · exact calm_orNo h
      · cases h
    · cases h
  · cases h
theorem Post.calm {K : Fg} {α : List Addr} {H : Hp} {β : Type} {r : R G β} {P : β → List Addr → Hp → Prop} {E E' : Str → List Addr → Hp → Prop} (h : Post K α H r P E) (hn : ∀ c g', r ≠ .exn c g') : Post K α H r P E' := by
  cases r with
  | ok b g => exact h
  | exn c g => exact absurd rfl (hn c g)
  | no => exact h
theorem s_subAug {op : Operator} {f : Op2} (hf : Calm f) (hu : X.A.units + 1 < cLine) (hop : OpR X (inplaceOp op) (rOf X.K f)) (ho : PE X o (TX X.K W mo)) (hk : PE X i (TX X.K W mk)) (hv : PE X e (TX X.K W mv))
    (ha : ∀ ov iv new, augStore i ov iv new = (do holding [new, ov, iv] (setItem ov iv new); release [new, ov, iv] []; pure .next) := by intros; rfl) : PS X (.AugAssign (.Subscript o i tpos) op e pos) (TSt X.K W (subAugS f mo mk mv)) := by
  refine PS.imp (ps_augS (tip := rOf X.K f) ho hk (get_dic hu) hv hop (set_up hu) ha) ?_
  rintro D σ H ⟨α, ev, g, rl, sv, hp⟩
  refine ⟨α, ev, g, rl, sv, Post.imp (withE_run rl sv hp) (fun x α1 H1 f1 h v dv => ?_) fun _ _ _ _ z => z⟩
  obtain ⟨g1, r1, s1, q⟩ := h
  refine ⟨α1, ev, g1, r1, s1, Post.imp (withE_run r1 s1 q) (fun y α2 H2 f2 h w dw => ?_) fun _ _ _ _ z => z⟩
  obtain ⟨g2, r2, s2, q⟩ := h
  refine ⟨α2, g2, x, y, r2, f2.dv dv, dw, Post.calm (Post.imp (withE_run r2 s2 q) (fun z α3 H3 f3 h u du => ?_) fun _ _ _ _ z => z) fun _ _ => calm_ixDic _ _ _ _ _⟩
  obtain ⟨g3, r3, s3, q⟩ := h
  refine ⟨α3, ev, g3, r3, s3, Post.imp (withE_run r3 s3 q) (fun w2 α4 H4 f4 h u2 du2 => ?_) fun _ _ _ _ z => z⟩
  obtain ⟨g4, r4, s4, q⟩ := h
  refine ⟨α4, g4, z, w2, r4, f4.dv du, du2, Post.calm (Post.imp (withE_run r4 s4 q) (fun d α5 H5 f5 h u3 du3 => ?_) fun _ _ _ _ z => z) fun _ _ => hf _ _ _ _ _⟩
  obtain ⟨g5, r5, s5, q⟩ := h
  split at q
  · rename_i g' hg'
    exact ⟨α5, g5, x, y, d, g', r5, f5.dv (f4.dv (f3.dv (f2.dv dv))), f5.dv (f4.dv (f3.dv dw)), du3, hg', fun α6 H6 r6 f6 => q α6 H6 r6 f6 σ (s5.mono f6)⟩
  · exact q.elim
end
end DL

/-! ## Dl9 -/
set_option maxHeartbeats 4000000
namespace DL
open PySem PySem.Spec PyProof.Rows L2

/-! ### while -/
def whileL (t : EM Bool) (b : SM) : Nat → SM
  | 0 => fun _ _ => .no
  | k + 1 => fun ev g => match t ev g with
    | .ok true g1 => (match b ev g1 with
      | .ok .nx s => whileL t b k s.1 s.2
      | .ok .ct s => whileL t b k s.1 s.2
      | .ok .brk s => .ok .nx s
      | .ok (.ret d) s => .ok (.ret d) s
      | .exn c s => .exn c s
      | .no => .no)
    | .ok false g1 => .ok .nx (ev, g1)
    | .exn c g1 => .exn c (ev, g1)
    | .no => .no
/-- more turns than any loop here takes -/
def manyW : Nat := 1073741824
def whileS (t : EM Bool) (b : SM) : SM := whileL t b manyW
section
variable {X : Cx} {W : WX} {e iter tg : Expr} {pos : Pos} {t : EM Bool} {b : SM} {sts : List Stmt}
theorem s_while (hp : PassesOwn (model X.prog X.w) X.A X.env X.xe) (hc : PT X e (TB X.K W t)) (hb : PSs X sts (TSt X.K W b)) : PS X (.While e sts [] pos) (TSt X.K W (whileS t b)) := by
  refine PS.imp (ps_while hp hc hb) ?_
  rintro D σ H ⟨α, ev, g, rl, sv, hp⟩
  refine ⟨fun m σ H => ∃ α ev g, Rl X.K α g H ∧ SV X.K H α ev σ ∧ PostS X.K α H (whileL t b m ev g) (flP X.K D) (flE X.K W), ⟨manyW, α, ev, g, rl, sv, hp⟩, ?_⟩
  rintro m σ H ⟨α, ev, g, rl, sv, hp⟩
  refine ⟨α, ev, g, rl, sv, ?_⟩
  cases m with
  | zero => exact hp.elim
  | succ k =>
    simp only [whileL] at hp
    cases e1 : t ev g with
    | no => rw [e1] at hp; exact hp
    | exn c g1 => rw [e1] at hp; exact fun α' H' r f => hp α' H' r f σ (sv.mono f)
    | ok kk g1 =>
      rw [e1] at hp
      intro α1 H1 r1 f1
      have hp1 := PostS.fr f1 hp
      clear hp
      cases kk with
      | false => dsimp only [PB]; rw [if_neg Bool.false_ne_true]; exact posts_ok hp1 r1 σ (sv.mono f1)
      | true =>
        dsimp only [PB]
        rw [if_pos rfl]
        refine ⟨fun σ' H' => ∃ m, m < k + 1 ∧ ∃ α ev g, Rl X.K α g H' ∧ SV X.K H' α ev σ' ∧ PostS X.K α H' (whileL t b m ev g) (flP X.K D) (flE X.K W), fun σ' H' h => h, α1, ev, g1, r1, sv.mono f1, ?_⟩
        dsimp only at hp1
        cases e2 : b ev g1 with
        | no => rw [e2] at hp1; exact hp1
        | exn c s => rw [e2] at hp1; exact hp1
        | ok fl s =>
          rw [e2] at hp1
          cases fl with
          | nx => exact fun α2 H2 r2 f2 σ2 s2 => ⟨k, Nat.lt_succ_self k, α2, s.1, s.2, r2, s2, PostS.fr f2 hp1⟩
          | ct => exact fun α2 H2 r2 f2 σ2 s2 => ⟨k, Nat.lt_succ_self k, α2, s.1, s.2, r2, s2, PostS.fr f2 hp1⟩
          | brk => exact hp1
          | ret d => exact hp1
end

/-! ### what a for walks -/
inductive Src where
  | tup (ds : List D) | lst (n : Nat) | str (z : Str) | rng (lo : Int) (n : Nat)
def Src.at_ (s : Src) (i : Nat) (g : G) : Option (Option D) := match s with
  | .tup ds => some ds[i]?
  | .lst n => (match g[n]? with
    | some (.lst xs) => some xs[i]?
    | _ => none)
  | .str z => some ((z.cps[i]?).map fun c => .str ⟨#[c]⟩)
  | .rng lo n => some (if i < n then some (.int (lo + i)) else none)
def Src.len (s : Src) (g : G) : Nat := match s with
  | .tup ds => ds.length
  | .lst n => (match g[n]? with
    | some (.lst xs) => xs.length
    | _ => 0)
  | .str z => z.cps.size
  | .rng _ n => n
def seqE (m : EM D) : EM Src := fun ev g => match m ev g with
  | .ok (.tup ds) g1 => .ok (.tup ds) g1
  | .ok (.str z) g1 => .ok (.str z) g1
  | .ok (.ref n) g1 => (match g1[n]? with
    | some (.lst _) => .ok (.lst n) g1
    | _ => .no)
  | .ok _ _ => .no
  | .exn c g1 => .exn c g1
  | .no => .no
def small62 (j : Int) : Bool := decide (-(2 ^ 62) ≤ j) && decide (j < 2 ^ 62)
def rngE1 (ms : EM (List D)) : EM Src := fun ev g => match ms ev g with
  | .ok [.int j] g1 => if small62 j then .ok (.rng 0 j.toNat) g1 else .no
  | .ok _ _ => .no
  | .exn c g1 => .exn c g1
  | .no => .no
def rngE2 (ms : EM (List D)) : EM Src := fun ev g => match ms ev g with
  | .ok [.int i, .int j] g1 => if small62 i && small62 j then .ok (.rng i (j - i).toNat) g1 else .no
  | .ok _ _ => .no
  | .exn c g1 => .exn c g1
  | .no => .no
def SrcIs (K : Fg) (α : List Addr) (H : Hp) (s : Src) (J : It) : Prop := match s with
  | .tup ds => ∃ a xs, SqT K H a xs ∧ DVs K H α ds xs ∧ J = Itt K a
  | .lst n => ∃ a, α[n]? = some a ∧ J = Itl K a
  | .str z => J = Its z
  | .rng lo n => J = Itr lo n
theorem SrcIs.mono {K : Fg} {α α' : List Addr} {H H' : Hp} {s : Src} {J : It} (f : Fr K α H α' H') (h : SrcIs K α H s J) : SrcIs K α' H' s J := by
  cases s with
  | tup ds => obtain ⟨a, xs, h1, h2, h3⟩ := h; exact ⟨a, xs, f.tup true _ _ h1, f.dvs h2, h3⟩
  | lst n => obtain ⟨a, h1, h2⟩ := h; exact ⟨a, f.pre _ _ h1, h2⟩
  | str z => exact h
  | rng lo n => exact h
def TIx (K : Fg) (W : WX) (m : EM Src) : TI := fun σ H Rr => ∃ α ev g, Rl K α g H ∧ SV K H α ev σ ∧ Post K α H (m ev g) (fun s α' H' => ∀ J, SrcIs K α' H' s J → Rr J H') (XW K W σ)
section
variable {X : Cx} {W : WX} {e iter tg a c : Expr} {pos p : Pos} {m : EM D} {ms : EM (List D)} {src : EM Src} {t : EM Bool} {b : SM} {sts : List Stmt}
theorem PI.imp {tg iter : Expr} {t t' : TI} (h : PI X tg iter t) (i : ∀ σ H Q, t' σ H Q → t σ H Q) : PI X tg iter t' := ⟨fun pins s σ H Q I q => h.run pins s σ H Q I (i _ _ _ q)⟩
def iSeq (K : Fg) (te : TE) : TI := fun σ H Rr => te σ H fun x H1 => (∃ a xs, x = .ref a ∧ SqL K H1 a xs ∧ Rr (Itl K a) H1) ∨ (∃ a xs, x = .ref a ∧ SqT K H1 a xs ∧ Rr (Itt K a) H1) ∨ ∃ z, x = .str z ∧ Rr (Its z) H1
theorem PI.or_run {te : TE} (he : PE X e te) : PI X tg e (iSeq X.K te) := by
  refine ⟨fun pins s σ H Rr I h => ?_⟩
  refine thn (he.run pins s σ H _ I h) fun v s1 ⟨x, H1, I1, r1, q⟩ => ?_
  rcases q with ⟨a, xs, rfl, hq, q⟩ | ⟨a, xs, rfl, hq, q⟩ | ⟨z, rfl, q⟩
  · cases r1
    obtain ⟨its, rv, p, hz⟩ := I1.list hq
    refine wpAny_pyIter_list p.isList ?_
    refine ⟨s1.heap.objs.size, [s1.heap.objs.size], _, _, H1, rfl, I1.kept (t' := s1.toks) fun b o e => Heap.get?_push_of_some _ e, turn_list a _, ⟨_, Heap.get?_push_size _ rfl, rfl, rfl⟩, fun b hb => ?_, q⟩
    have e : b = s1.heap.objs.size := by simpa using hb
    subst e
    exact I1.fpOk (Nat.le_refl _) (I1.hok.fresh (Nat.le_refl _))
  · cases r1
    obtain ⟨its, rv, p, hz⟩ := I1.tuple hq
    refine wpAny_pyIter_tuple (show s1.heap.IsTuple a its.toArray from p) ?_
    refine ⟨s1.heap.objs.size, [s1.heap.objs.size], _, _, H1, rfl, I1.kept (t' := s1.toks) fun b o e => Heap.get?_push_of_some _ e, turn_tuple a _, ⟨_, Heap.get?_push_size _ rfl, rfl, rfl⟩, fun b hb => ?_, q⟩
    have e : b = s1.heap.objs.size := by simpa using hb
    subst e
    exact I1.fpOk (Nat.le_refl _) (I1.hok.fresh (Nat.le_refl _))
  · obtain ⟨t, rfl⟩ := r1
    cases ha : z.cps.all (· < 128)
    · exact wpAny_pyIter_wide ha (pi_one (tk := s1.toks) I1 _ (turn_str _ z t "str_iterator" (.inr rfl)) ⟨_, Heap.get?_push_size _ rfl, rfl, rfl⟩ q)
    · exact wpAny_pyIter_ascii ha (pi_one (tk := s1.toks) I1 _ (turn_str _ z t "str_ascii_iterator" (.inl rfl)) ⟨_, Heap.get?_push_size _ rfl, rfl, rfl⟩ q)
theorem i_seq (he : PE X e (TX X.K W m)) : PI X tg e (TIx X.K W (seqE m)) := by
  refine PI.imp (PI.or_run he) ?_
  rintro σ H Rr ⟨α, ev, g, rl, sv, hp⟩
  refine ⟨α, ev, g, rl, sv, ?_⟩
  simp only [seqE] at hp
  cases e1 : m ev g with
  | no => rw [e1] at hp; exact hp
  | exn c g1 => rw [e1] at hp; exact hp
  | ok d g1 =>
    rw [e1] at hp
    cases d <;> try exact hp.elim
    · exact fun α1 H1 r1 f1 v dv => .inr (.inr ⟨_, dv, hp α1 H1 r1 f1 _ rfl⟩)
    · intro α1 H1 r1 f1 v dv
      obtain ⟨a, xs, rfl, h1, h2⟩ := dv
      exact .inr (.inl ⟨a, xs, rfl, h1, hp α1 H1 r1 f1 _ ⟨a, xs, h1, h2, rfl⟩⟩)
    · intro α1 H1 r1 f1 v dv
      dsimp only at hp
      split at hp
      · rename_i xs hx
        obtain ⟨a, vs, rfl, ha, h1, h2⟩ := lst_at r1 dv hx
        exact .inl ⟨a, vs, rfl, SqL.of h1, hp α1 H1 r1 f1 _ ⟨a, ha, rfl⟩⟩
      · exact hp.elim
theorem small62_ok {j : Int} (h : small62 j = true) : -(2 ^ 62) ≤ j ∧ j < 2 ^ 62 := by
  unfold small62 at h
  simp only [Bool.and_eq_true, decide_eq_true_eq] at h
  exact h
theorem i_range1 (hg : Gl X "range") (hm : X.mg "range" = none) (ha : PA X [a] (TXs X.K W ms)) (hs : starEach [a] X.env = [(false, eval a X.env)] := by rfl) : PI X tg (.Call (.Name "range" p) [a] [] pos) (TIx X.K W (rngE1 ms)) := by
  refine PI.imp (pi_range1 hg hm ha hs) ?_
  rintro σ H Rr ⟨α, ev, g, rl, sv, hp⟩
  refine ⟨α, ev, g, rl, sv, ?_⟩
  simp only [rngE1] at hp
  cases e1 : ms ev g with
  | no => rw [e1] at hp; exact hp
  | exn c g1 => rw [e1] at hp; exact hp
  | ok ds g1 =>
    rw [e1] at hp
    intro α1 H1 r1 f1 vs dvs
    split at hp
    · rename_i h1
      cases h1
      split at hp
      · rename_i e3
        obtain ⟨v, rfl, d1⟩ := oneV dvs
        obtain ⟨q1, q2⟩ := small62_ok e3
        exact ⟨_, by rw [show v = .int _ from d1], q1, q2, hp α1 H1 r1 f1 _ rfl⟩
      · exact hp.elim
    · exact hp.elim
    · rename_i h1; cases h1
    · exact hp.elim
theorem i_range2 (hg : Gl X "range") (hm : X.mg "range" = none) (ha : PA X [a, c] (TXs X.K W ms)) (hs : starEach [a, c] X.env = [(false, eval a X.env), (false, eval c X.env)] := by rfl) (hs2 : starEach [c] X.env = [(false, eval c X.env)] := by rfl) :
    PI X tg (.Call (.Name "range" p) [a, c] [] pos) (TIx X.K W (rngE2 ms)) := by
  refine PI.imp (pi_range2 hg hm ha hs hs2) ?_
  rintro σ H Rr ⟨α, ev, g, rl, sv, hp⟩
  refine ⟨α, ev, g, rl, sv, ?_⟩
  simp only [rngE2] at hp
  cases e1 : ms ev g with
  | no => rw [e1] at hp; exact hp
  | exn c g1 => rw [e1] at hp; exact hp
  | ok ds g1 =>
    rw [e1] at hp
    intro α1 H1 r1 f1 vs dvs
    split at hp
    · rename_i h1
      cases h1
      split at hp
      · rename_i e3
        obtain ⟨v, w, rfl, d1, d2⟩ := twoV dvs
        simp only [Bool.and_eq_true] at e3
        obtain ⟨q1, q2⟩ := small62_ok e3.1
        obtain ⟨q3, q4⟩ := small62_ok e3.2
        exact ⟨_, _, by rw [show v = .int _ from d1, show w = .int _ from d2], ⟨q1, q2, q3, q4⟩, hp α1 H1 r1 f1 _ rfl⟩
      · exact hp.elim
    · exact hp.elim
    · rename_i h1; cases h1
    · exact hp.elim

/-! ### for -/
def forL (s : Src) (step : D → SM) : Nat → Nat → SM
  | 0, _ => fun _ _ => .no
  | k + 1, i => fun ev g => match s.at_ i g with
    | none => .no
    | some none => .ok .nx (ev, g)
    | some (some d) => (match step d ev g with
      | .ok .nx z => forL s step k (i + 1) z.1 z.2
      | .ok .ct z => forL s step k (i + 1) z.1 z.2
      | .ok .brk z => .ok .nx z
      | .ok (.ret r) z => .ok (.ret r) z
      | .exn c z => .exn c z
      | .no => .no)
def stepS (tg : TM) (b : SM) : D → SM := fun d ev g => match tg d ev g with
  | some z => b z.1 z.2
  | none => .no
def forS (src : EM Src) (tg : TM) (b : SM) : SM := withE src fun s ev g => forL s (stepS tg b) (s.len g + 1) 0 ev g
theorem src_go {K : Fg} {α : List Addr} {g : G} {H : Hp} {s : Src} {J : It} {i : Nat} {d : D} (rl : Rl K α g H) (hs : SrcIs K α H s J) (h : s.at_ i g = some (some d)) : J.go i H ∧ ∀ x H', J.yld i H x H' → H' = H ∧ DV K H α d x := by
  cases s with
  | tup ds =>
    obtain ⟨a, xs, h1, h2, rfl⟩ := hs
    have h : ds[i]? = some d := Option.some.inj h
    obtain ⟨v, e1, e2⟩ := h2.get h
    exact ⟨⟨xs, v, h1, e1⟩, fun x H' ⟨q, z⟩ => ⟨q, by
      have := z xs h1
      rw [e1] at this; cases this; exact e2⟩⟩
  | lst n =>
    obtain ⟨a, ha, rfl⟩ := hs
    simp only [Src.at_] at h
    split at h
    · rename_i xs hx
      have h : xs[i]? = some d := Option.some.inj h
      obtain ⟨b, hb, vs, h1, h2⟩ := rl.at_ n _ hx
      rw [ha] at hb; cases hb
      obtain ⟨v, e1, e2⟩ := h2.get h
      exact ⟨⟨vs, v, SqL.of h1, e1⟩, fun x H' ⟨q, z⟩ => ⟨q, by
        have := z vs (SqL.of h1)
        rw [e1] at this; cases this; exact e2⟩⟩
    · cases h
  | str z =>
    have hs : J = Its z := hs
    subst hs
    have h : (z.cps[i]?).map (fun c => D.str ⟨#[c]⟩) = some d := Option.some.inj h
    cases q : z.cps[i]? with
    | none => rw [q] at h; cases h
    | some c =>
      rw [q] at h
      cases h
      refine ⟨(Array.getElem?_eq_some_iff.mp q).1, fun x H' ⟨e, c', e1, e2⟩ => ⟨e, ?_⟩⟩
      rw [q] at e1; cases e1
      exact e2
  | rng lo n =>
    have hs : J = Itr lo n := hs
    subst hs
    have h : (if i < n then some (D.int (lo + i)) else none) = some d := Option.some.inj h
    split at h
    · rename_i hl
      cases h
      exact ⟨hl, fun x H' ⟨e, e2⟩ => ⟨e, e2⟩⟩
    · cases h
theorem src_stop {K : Fg} {α : List Addr} {g : G} {H : Hp} {s : Src} {J : It} {i : Nat} (rl : Rl K α g H) (hs : SrcIs K α H s J) (h : s.at_ i g = some none) : J.stop i H := by
  cases s with
  | tup ds =>
    obtain ⟨a, xs, h1, h2, rfl⟩ := hs
    have h : ds[i]? = none := Option.some.inj h
    exact ⟨xs, h1, by rw [← h2.length]; exact List.getElem?_eq_none_iff.mp h⟩
  | lst n =>
    obtain ⟨a, ha, rfl⟩ := hs
    simp only [Src.at_] at h
    split at h
    · rename_i xs hx
      have h : xs[i]? = none := Option.some.inj h
      obtain ⟨b, hb, vs, h1, h2⟩ := rl.at_ n _ hx
      rw [ha] at hb; cases hb
      exact ⟨vs, SqL.of h1, by rw [← h2.length]; exact List.getElem?_eq_none_iff.mp h⟩
    · cases h
  | str z =>
    have hs : J = Its z := hs
    subst hs
    have h : (z.cps[i]?).map (fun c => D.str ⟨#[c]⟩) = none := Option.some.inj h
    have h : z.cps[i]? = none := by simpa using h
    exact Array.getElem?_eq_none_iff.mp h
  | rng lo n =>
    have hs : J = Itr lo n := hs
    subst hs
    have h : (if i < n then some (D.int (lo + i)) else none) = none := Option.some.inj h
    split at h
    · cases h
    · rename_i hl
      exact Nat.le_of_not_lt hl
theorem s_for {mt : TM} (hp : PassesOwn (model X.prog X.w) X.A X.env X.xe) (hc : X.calm = true) (hi : PI X tg iter (TIx X.K W src)) (hg : PG X tg (TGt X.K mt)) (hb : PSs X sts (TSt X.K W b))
    (hs : ∀ x, foldedSetIterable iter X.env x = pure x := by intro _; rfl) : PS X (.For tg iter sts [] pos) (TSt X.K W (forS src mt b)) := by
  refine PS.imp (ps_for hp hc hi hg hb hs) ?_
  rintro D σ H ⟨α, ev, g, rl, sv, hp⟩
  refine ⟨α, ev, g, rl, sv, Post.imp (withE_run rl sv hp) (fun s α1 H1 f1 h J hJ => ?_) fun _ _ _ _ z => z⟩
  obtain ⟨g1, r1, s1, q⟩ := h
  refine ⟨fun i m σ H => ∃ α ev g, Rl X.K α g H ∧ SV X.K H α ev σ ∧ SrcIs X.K α H s J ∧ PostS X.K α H (forL s (stepS mt b) m i ev g) (flP X.K D) (flE X.K W), ⟨_, α1, ev, g1, r1, s1, hJ, q⟩, ?_⟩
  rintro i m σ H ⟨α, ev, g, rl, sv, sj, hp⟩
  cases m with
  | zero => exact hp.elim
  | succ k =>
    simp only [forL] at hp
    cases e1 : s.at_ i g with
    | none => rw [e1] at hp; exact hp.elim
    | some o =>
      rw [e1] at hp
      cases o with
      | none => exact .inl ⟨src_stop rl sj e1, posts_ok hp rl σ sv⟩
      | some d =>
        obtain ⟨go, yl⟩ := src_go rl sj e1
        refine .inr ⟨go, fun σ' H' => ∃ m, m < k + 1 ∧ ∃ α ev g, Rl X.K α g H' ∧ SV X.K H' α ev σ' ∧ SrcIs X.K α H' s J ∧ PostS X.K α H' (forL s (stepS mt b) m (i + 1) ev g) (flP X.K D) (flE X.K W), fun σ' H' h => h, fun x H' hy => ?_⟩
        obtain ⟨rfl, dx⟩ := yl x H' hy
        refine ⟨α, ev, g, d, rl, sv, dx, ?_⟩
        dsimp only [stepS] at hp
        cases e2 : mt d ev g with
        | none => rw [e2] at hp; exact hp
        | some z =>
          rw [e2] at hp
          intro α2 H2 σ2 r2 f2 s2
          refine ⟨α2, z.1, z.2, r2, s2, ?_⟩
          dsimp only at hp
          have hp1 := PostS.fr f2 hp
          clear hp
          cases e3 : b z.1 z.2 with
          | no => rw [e3] at hp1; exact hp1
          | exn c s => rw [e3] at hp1; exact hp1
          | ok fl st =>
            rw [e3] at hp1
            cases fl with
            | nx => exact fun α3 H3 r3 f3 σ3 s3 => ⟨k, Nat.lt_succ_self k, α3, st.1, st.2, r3, s3, sj.mono (f2.trans f3), PostS.fr f3 hp1⟩
            | ct => exact fun α3 H3 r3 f3 σ3 s3 => ⟨k, Nat.lt_succ_self k, α3, st.1, st.2, r3, s3, sj.mono (f2.trans f3), PostS.fr f3 hp1⟩
            | brk => exact hp1
            | ret r => exact hp1
end

/-! ### try, raise, defs -/
section
variable {X : Cx} {W : WX} {x : Str} {cv : Value} {np pos pos' p pos2 : Pos} {mb ms : SM} {body suite : List Stmt} {b₀ : Stmt}
def tryS (yes no : List Str) (mb ms : SM) : SM := fun ev g => match mb ev g with
  | .exn c s => if yes.contains c then (match ms s.1 s.2 with
      | .exn _ _ => .no
      | r => r) else if no.contains c then .exn c s else .no
  | r => r
def W0 : WX := fun _ _ _ _ => False
theorem s_try {yes no : List Str} (hs : X.stack = X.env :: X.outer) (hf : X.env.frame = some X.env.locals) (hc : Names X x cv) (tk : Takes X W)
    (hy : ∀ c ∈ yes, PySem.W.exmOne X.K (.ref (He.ga X.K c)) cv = some true) (hn : ∀ c ∈ no, PySem.W.exmOne X.K (.ref (He.ga X.K c)) cv = some false)
    (hb : ∀ (W : WX) (pn : List (Addr × Obj)) (xe : Value → Shared → Prop), Takes (X.tr pn xe) W → PassesOwn (model X.prog X.w) X.A X.env xe → PSs (X.tr pn xe) body (TSt X.K W mb))
    (hsu : ∀ (a : Addr) (oe : Obj) (cls : Value) (d : Option Addr) (pn : List (Addr × Obj)), Zc cls d oe → (∃ vs, oe.data = .fields vs) → PSs (X.suite a ((a, oe) :: pn)) (b₀ :: suite) (TSt X.K W0 ms)) :
    PS X (.Try body [.ExceptHandler (some (.Name x np)) none (b₀ :: suite) pos'] [] [] pos) (TSt X.K W (tryS yes no mb ms)) := by
  refine PS.imp (ps_try_only (tb := fun W => TSt X.K W mb) (ts := fun _ _ _ => TSt X.K W0 ms) hs hf hc tk hb hsu) ?_
  rintro D σ H ⟨α, ev, g, rl, sv, hp⟩
  refine ⟨α, ev, g, rl, sv, ?_⟩
  simp only [tryS] at hp
  cases e1 : mb ev g with
  | no => rw [e1] at hp; exact hp
  | ok fl s => rw [e1] at hp; exact hp
  | exn c s =>
    rw [e1] at hp
    dsimp only at hp
    intro α1 H1 r1 f1 σ1 s1
    split at hp
    · rename_i hcy
      refine ⟨true, hy c (by simpa using hcy), fun _ a _ => ⟨α1, s.1, s.2, r1, s1, ?_⟩, fun q => Bool.noConfusion q⟩
      have q := PostS.fr f1 hp
      revert q
      cases ms s.1 s.2 with
      | ok fl st => exact fun q => q
      | exn c2 st => exact fun q => q.elim
      | no => exact fun q => q
    · split at hp
      · rename_i hcn
        exact ⟨false, hn c (by simpa using hcn), (fun q => Bool.noConfusion q), fun _ => hp α1 H1 r1 f1 σ1 s1⟩
      · exact hp.elim
def raiS (c : Str) : SM := fun ev g => .exn c (ev, g)
theorem pmk_own0 {C : Addr} {bmB : List Value} {B newId initId : String} (F : ExcBaseFacts B newId initId bmB) (q : PySem.W.excIn X.K C bmB newId = true) (gC : X.mg x = some (.ref C)) (kC : PySem.W.keepIn X.K (.ref C) = true) (r : Raises X (.ref C)) (hg : Gl X x)
    (hdb : (x == ("__debug__" : Str)) = false := by decide) : PMk X (.Call (.Name x p) [] [] pos) (fun _ H Q => Q (.ref C) none H) := by
  intro pins s σ H Q I h
  refine wpAny_Call_Name_kw (ld_glob I hg gC ?_ hdb)
  refine PySem.W.callWith_K0 I.kIn kC ?_
  show wpAny _ _ (call (.ref C) []) _ _ _
  obtain ⟨bm, N, nm, qn, bs, hdct, sn, sub, ab, col, dd, k0, k1, k2, k3, k5, mN, hC, hN, hni, T⟩ := exc_obj I.kIn q
  refine wpAny_call_exc_subT F T hC hN hni (fun h' e hm => ?_) (by show 0 ≤ sizeLine; exact Nat.zero_le _)
  exact mk_of I hm r h (I.hok.gone hm.new)
/-- what the text says of an own exception class -/
def ExOk (K : Fg) (mg : Str → Option Value) (x : Str) : Prop := mg x = some (.ref (He.ga K x)) ∧ PySem.W.excIn K (He.ga K x) He.veBase "ValueError.__new__" = true ∧ PySem.W.keepIn K (.ref (He.ga K x)) = true ∧ PySem.W.subIn K (.ref (He.ga K x)) (.type "BaseException") = some true ∧ PySem.W.typeIn K (.ref (He.ga K x)) = some (.type "type")
theorem s_raise (hc : X.calm = true) (tk : Takes X W) (T : ExOk X.K X.mg x) (hg : Gl X x) (hdb : (x == ("__debug__" : Str)) = false := by decide) : PS X (.Raise (some (.Call (.Name x p) [] [] pos)) none pos2) (TSt X.K W (raiS x)) := by
  refine PS.imp (ps_raise hc tk (pmk_own0 PySem.F.excBase_ValueError T.2.1 T.1 T.2.2.1 (raises_own T.2.2.2.1 T.2.2.2.2) hg hdb)) ?_
  rintro D σ H ⟨α, ev, g, rl, sv, hp⟩
  exact hp α H rl Fr.refl σ sv
end

/-- a def's body as a function of its arguments and one's own heap -/
def defF (n np : Nat) (m : SM) : HF := fun ds g => if ds.length = np then (match m (ds.map some ++ List.replicate (n - ds.length) none) g with
    | .ok (.ret d) s => .ok d s.2
    | .ok .nx s => .ok .non s.2
    | .ok _ _ => .no
    | .exn c s => .exn c s.2
    | .no => .no) else .no
theorem defF_no {n np : Nat} {m : SM} (ds : List D) (g : G) (h : ds.length ≠ np) : defF n np m ds g = .no := by simp [defF, h]
theorem pureF_no {F : HF} {np : Nat} (hF : ∀ ds g, ds.length ≠ np → F ds g = .no) (ds : List D) (g : G) (h : ds.length ≠ np) : pureF F ds g = .no := by
  unfold pureF
  rw [hF ds [] h]
  split <;> rfl
theorem start_sv {K : Fg} {H : Hp} {α : List Addr} {N : List Str} {ds : List D} {vs : List V} (h : DVs K H α ds vs) : SV K H α (ds.map some ++ List.replicate (N.length - ds.length) none) (L2.start N vs) := by
  unfold L2.start
  have hl := h.length
  refine ⟨by simp [hl], fun i d e => ?_⟩
  by_cases q : i < ds.length
  · rw [List.getElem?_append_left (by simpa using q), List.getElem?_map] at e
    cases e1 : ds[i]? with
    | none => rw [e1] at e; cases e
    | some d' =>
      rw [e1] at e
      cases e
      obtain ⟨v, e2, e3⟩ := h.get e1
      refine ⟨v, ?_, e3⟩
      rw [List.getElem?_append_left (by simpa using hl ▸ q), List.getElem?_map, e2]
      rfl
  · rw [List.getElem?_append_right (by simpa using Nat.le_of_not_lt q), List.getElem?_replicate] at e
    split at e <;> cases e
/-- a def of the text: what callers lean on -/
def COk (P : Program) (w : World) (K : Fg) (mg : Str → Option Value) (base : Heap) (k n : Nat) (at_ : Str × Option Str) (F : HF) : Prop :=
  ∃ fd ps, FnOk P w K mg base (L2.CX P w) k (He.fAd K at_) fd ps (spF K n F) ∧ Binds K fd ps [] ∧ PySem.W.keepIn K (.ref (He.fAd K at_)) = true ∧ ∀ ds g, ds.length ≠ n → F ds g = .no
section
variable {P : Program} {w : World} {K : Fg} {mg : Str → Option Value} {base : Heap} {x qual : Str} {params : Arguments} {body : List Stmt} {scope : Scope} {f : Addr} {fd : FuncData} {N ps : List Str} {k n : Nat} {m : SM} {at_ : Str × Option Str} {F : HF}
theorem def_fn (F : FunD K x qual params body scope [] [] (He.fAd K at_) fd) (S : FnScope N ps scope)
    (hbody : ∀ (cdv : Value) (A : Around) (outer : List Env) (s : Shared) (H : Hp) (E : XK), Room k (A.deeper (envOfC qual scope s.heap.objs.size (He.fAd K at_) cdv)) →
      Takes (cxOf (L2.CX P w) P w K mg base N qual scope (He.fAd K at_) cdv A outer s H E) (fun cls d _ H => E cls d H) → PassesOwn (model P w) (A.deeper (envOfC qual scope s.heap.objs.size (He.fAd K at_) cdv)) (envOfC qual scope s.heap.objs.size (He.fAd K at_) cdv) (cxOf (L2.CX P w) P w K mg base N qual scope (He.fAd K at_) cdv A outer s H E).xe →
      PSs (cxOf (L2.CX P w) P w K mg base N qual scope (He.fAd K at_) cdv A outer s H E) body (TSt K (fun cls d _ H => E cls d H) m)) : FnOk P w K mg base (L2.CX P w) (k + 1) (He.fAd K at_) fd ps (spF K ps.length (defF N.length ps.length m)) := by
  refine F.ok S (fun vs H Q E h => h.1) (fun cdv A outer s H vs Q E hr h => ?_)
  refine ⟨TSt K (fun cls d _ H => E cls d H) m, hbody cdv A outer s H E hr (takes_of rfl rfl rfl rfl) (passes_of rfl), ?_⟩
  obtain ⟨hl, α, g, ds, rl, dv, hp⟩ := h
  have hds : ds.length = ps.length := by rw [dv.length]; exact hl
  simp only [defF, if_pos hds] at hp
  refine ⟨α, _, g, rl, start_sv dv, ?_⟩
  cases e : m (ds.map some ++ List.replicate (N.length - ds.length) none) g with
  | no => rw [e] at hp; exact hp
  | exn c s => rw [e] at hp; exact fun α' H' r fr σ' sv => hp α' H' r fr
  | ok fl s =>
    rw [e] at hp
    cases fl with
    | nx => exact fun α' H' r fr σ' sv => hp α' H' r fr .non rfl
    | ret d => exact fun α' H' r fr σ' sv => hp α' H' r fr
    | brk => exact hp.elim
    | ct => exact hp.elim
theorem def_mk (F : FunD K x qual params body scope [] [] (He.fAd K at_) fd) (hb : Binds K fd ps []) (S : FnScope N ps scope)
    (hbody : ∀ (cdv : Value) (A : Around) (outer : List Env) (s : Shared) (H : Hp) (E : XK), Room k (A.deeper (envOfC qual scope s.heap.objs.size (He.fAd K at_) cdv)) →
      Takes (cxOf (L2.CX P w) P w K mg base N qual scope (He.fAd K at_) cdv A outer s H E) (fun cls d _ H => E cls d H) → PassesOwn (model P w) (A.deeper (envOfC qual scope s.heap.objs.size (He.fAd K at_) cdv)) (envOfC qual scope s.heap.objs.size (He.fAd K at_) cdv) (cxOf (L2.CX P w) P w K mg base N qual scope (He.fAd K at_) cdv A outer s H E).xe →
      PSs (cxOf (L2.CX P w) P w K mg base N qual scope (He.fAd K at_) cdv A outer s H E) body (TSt K (fun cls d _ H => E cls d H) m)) : COk P w K mg base (k + 1) ps.length at_ (defF N.length ps.length m) :=
  ⟨fd, ps, def_fn F S hbody, hb, F.kp, defF_no⟩
theorem COk.pure (h : COk P w K mg base k n at_ F) : COk P w K mg base k n at_ (pureF F) := by
  obtain ⟨fd, ps, G1, hb, hk, hno⟩ := h
  exact ⟨fd, ps, DL.FnOk.pureF G1, hb, hk, pureF_no hno⟩
theorem COk.mono {j : Nat} (h : COk P w K mg base j n at_ F) (hj : j ≤ k) : COk P w K mg base k n at_ F := by
  obtain ⟨fd, ps, G1, hb, hk, hno⟩ := h
  exact ⟨fd, ps, G1.mono hj, hb, hk, hno⟩
end
section
variable {X : Cx} {W : WX} {e o : Expr} {es : List Expr} {pos p apos : Pos} {mo : EM D} {ms : EM (List D)} {F : HF} {k n : Nat} {x m c : Str}
theorem x_fn (tk : Takes X W) (G1 : COk X.prog X.w X.K X.mg X.base k n (x, none) F) (hr : Room k X.A) (hg : Gl X x) (hm : X.mg x = some (.ref (He.ga X.K x)))
    (ha : PA X (e :: es) (TXs X.K W ms)) (hdb : (x == ("__debug__" : Str)) = false := by decide) (he : starEach (e :: es) X.env = (false, eval e X.env) :: starEach es X.env := by rfl) (hpl : (backTo pos (starEach es X.env)).any (·.1) = false := by rfl) :
    PE X (.Call (.Name x p) (e :: es) [] pos) (TX X.K W (apE F ms)) := by
  obtain ⟨fd, ps, G1, hb, hk, hno⟩ := G1
  exact x_call tk G1 hno hr hg hm hk hb ha hdb he hpl
theorem mok_of (G1 : COk X.prog X.w X.K X.mg X.base k n (c, some m) F) (hr : Room k X.A) (hc : Cls X.K (He.ga X.K c)) (hm : Meth X.K (He.ga X.K c) m (He.ma X.K (He.ga X.K c) m)) : MOk X m c F := by
  obtain ⟨fd, ps, G1, hb, hk, hno⟩ := G1
  exact ⟨k, n, _, fd, ps, G1, hr, hc, hm, hb, hno⟩
theorem x_mk (M : Mk X.K (He.ga X.K c) (He.ma X.K (He.ga X.K c) "__init__")) (G1 : COk X.prog X.w X.K X.mg X.base k n (c, some "__init__") F) (hr : Room (k + 1) X.A) (hg : Gl X c) (hm : X.mg c = some (.ref (He.ga X.K c)))
    (ha : PA X (e :: es) (TXs X.K W ms)) (hdb : (c == ("__debug__" : Str)) = false := by decide) (he : starEach (e :: es) X.env = (false, eval e X.env) :: starEach es X.env := by rfl) (hpl : (backTo pos (starEach es X.env)).any (·.1) = false := by rfl) :
    PE X (.Call (.Name c p) (e :: es) [] pos) (TX X.K W (apE (makF c F) ms)) := by
  obtain ⟨fd, ps, G1, hb, hk, hno⟩ := G1
  exact x_make M G1 hno hr hg hm hb ha hdb he hpl
theorem x_mk0 (M : Mk X.K (He.ga X.K c) (He.ma X.K (He.ga X.K c) "__init__")) (G1 : COk X.prog X.w X.K X.mg X.base k n (c, some "__init__") F) (hr : Room (k + 1) X.A) (hg : Gl X c) (hm : X.mg c = some (.ref (He.ga X.K c)))
    (hdb : (c == ("__debug__" : Str)) = false := by decide) : PE X (.Call (.Name c p) [] [] pos) (TX X.K W (apE (makF c F) nilE)) := by
  obtain ⟨fd, ps, G1, hb, hk, hno⟩ := G1
  exact x_make0 M G1 hno hr hg hm hb hdb
end
end DL

/-! ## Dl10 -/
set_option maxHeartbeats 4000000
namespace DL
open PySem PySem.Spec PyProof.Rows L2

/-! ### list comprehensions -/
/-- one target of a comprehension: its reading, what it does to slots -/
def GC (K : Fg) (vs : List Nat) (g : TG) (tm : D → Ev → Option Ev) : Prop := ∀ (v : V) (σ : L2.St) (H : Hp) (Q : L2.St → Hp → Prop) (α : List Addr) (ev : Ev) (d : D) (ev' : Ev), DV K H α d v → SV K H α ev (wipe σ vs) → tm d ev = some ev' →
  (∀ σ', SV K H α ev' σ' → wipe σ' vs = wipe σ vs → Q σ' H) → g v (wipe σ vs) H Q
theorem gc_name {K : Fg} {i : Nat} : GC K [i] (gName i) (fun d ev => some (ev.set i (some d))) := by
  intro v σ H Q α ev d ev' dv sv e h
  cases e
  refine h _ (sv.set dv i) ?_
  show ((σ.set i none).set i (some v)).set i none = σ.set i none
  rw [List.set_set, List.set_set]
def pair2 (i j : Nat) : D → Ev → Option Ev := fun d ev => match d with
  | .tup [x, y] => some ((ev.set i (some x)).set j (some y))
  | _ => none
theorem gc_pair {K : Fg} {i j : Nat} (hij : i ≠ j) : GC K [i, j] (gTup K 2 (gCons (gName i) (gCons (gName j) gNil))) (pair2 i j) := by
  intro v σ H Q α ev d ev' dv sv e h
  unfold pair2 at e
  split at e
  · cases e
    rename_i x y
    obtain ⟨a, xs, rfl, h1, h2⟩ := dv
    obtain ⟨w, u, rfl, d1, d2⟩ := twoV h2
    refine ⟨a, _, rfl, h1, rfl, w, [u], rfl, u, [], rfl, rfl, h _ ((sv.set d1 i).set d2 j) ?_⟩
    show (((((σ.set j none).set i none).set i (some w)).set j (some u)).set j none).set i none = (σ.set j none).set i none
    rw [List.set_set, List.set_set, List.set_comm _ _ hij, List.set_set, List.set_set]
  · cases e
def lcL (s : Src) (tm : D → Ev → Option Ev) (tt : EM Bool) (te : EM D) (dn : Nat) : Nat → Nat → Ev → G → R G Unit
  | 0, _ => fun _ _ => .no
  | k + 1, i => fun ev g => match s.at_ i g with
    | none => .no
    | some none => .ok () g
    | some (some d) => (match tm d ev with
      | none => .no
      | some ev' => (match tt ev' g with
        | .ok true g1 => (match te ev' g1 with
          | .ok y g2 => (match g2[dn]? with
            | some (.lst acc) => if acc.length < sizeLine then lcL s tm tt te dn k (i + 1) ev (g2.set dn (.lst (acc ++ [y]))) else .no
            | _ => .no)
          | _ => .no)
        | .ok false g1 => lcL s tm tt te dn k (i + 1) ev g1
        | _ => .no))
def wipeE (ev : Ev) : List Nat → Ev
  | [] => ev
  | v :: vs => (wipeE ev vs).set v none
def lcE (src : EM Src) (vs : List Nat) (tm : D → Ev → Option Ev) (tt : EM Bool) (te : EM D) : EM D := fun ev g => match src ev g with
  | .ok s g1 => (match lcL s tm tt te g1.length (s.len g1 + 1) 0 (wipeE ev vs) (g1 ++ [.lst []]) with
    | .ok _ g2 => .ok (.ref g1.length) g2
    | _ => .no)
  | .exn c g1 => .exn c g1
  | .no => .no
theorem wipe_sv {K : Fg} {H : Hp} {α : List Addr} {ev : Ev} {σ : L2.St} (h : SV K H α ev σ) : ∀ vs : List Nat, SV K H α (wipeE ev vs) (wipe σ vs)
  | [] => h
  | v :: vs => by
    have ih := wipe_sv h vs
    refine ⟨by simp [wipeE, wipe, ih.len], fun i d e => ?_⟩
    unfold wipeE at e
    by_cases q : v = i
    · subst q
      by_cases hl : v < (wipeE ev vs).length
      · rw [List.getElem?_set_self hl] at e; cases e
      · rw [List.getElem?_eq_none (by simpa using hl)] at e; cases e
    · rw [List.getElem?_set_ne q] at e
      obtain ⟨w, e1, e2⟩ := ih.at_ i d e
      refine ⟨w, ?_, e2⟩
      unfold wipe
      rw [List.getElem?_set_ne q]; exact e1
section
variable {X : Cx} {W : WX} {elt tg iter : Expr} {ifs : List Expr} {scope : Scope} {own : List (Str × Nat)} {pos : Pos} {src : EM Src} {g : TG} {tm : D → Ev → Option Ev} {tt : EM Bool} {te : EM D}
def yesE : EM Bool := fun _ g => .ok true g
theorem PTs.imp {X : Cx} {e : List Expr} {t t' : TT} (h : PTs X e t) (i : ∀ σ H Q, t' σ H Q → t σ H Q) : PTs X e t' := ⟨fun pins s σ H Q I q => h.run pins s σ H Q I (i _ _ _ q)⟩
theorem f_nil : PTs X [] (TB X.K W yesE) := PTs.imp pts_nil fun σ H Q ⟨α, ev, g, rl, sv, hp⟩ => post_ok hp rl
theorem f_one {c : Expr} {t : EM Bool} (h : PT X c (TB X.K W t)) : PTs X [c] (TB X.K W t) := pts_one h
theorem lc_run {σ : L2.St} {H : Hp} {Q : VK} (hg : GC X.K (own.map (·.2)) g tm) (h : TX X.K W (lcE src (own.map (·.2)) tm tt te) σ H Q) : tLc (TIx X.K W src) g (TB X.K W0 tt) (TX X.K W0 te) (own.map (·.2)) σ H Q := by
  obtain ⟨α, ev, gg, rl, sv, hp⟩ := h
  refine ⟨α, ev, gg, rl, sv, ?_⟩
  simp only [lcE] at hp
  cases e1 : src ev gg with
  | no => rw [e1] at hp; exact hp
  | exn c g1 => rw [e1] at hp; exact hp
  | ok s g1 =>
    rw [e1] at hp
    intro α1 H1 r1 f1 J hJ D nD
    have hp1 := Post.fr f1 hp
    clear hp
    dsimp only at hp1
    have f2 : Fr X.K α1 H1 (α1 ++ [D]) (upd H1 D (.lst [])) := Fr.alloc r1 nD
    have r2 : Rl X.K (α1 ++ [D]) (g1 ++ [.lst []]) (upd H1 D (.lst [])) := r1.alloc nD ⟨[], upd_same, rfl⟩
    have hp2 := Post.fr f2 hp1
    have sw := wipe_sv (sv.mono (f1.trans f2)) (own.map (·.2))
    refine ⟨fun i m H => ∃ α g, Rl X.K α g H ∧ SV X.K H α (wipeE ev (own.map (·.2))) (wipe σ (own.map (·.2))) ∧ SrcIs X.K α H s J ∧ α[g1.length]? = some D ∧
      Post X.K α H (match lcL s tm tt te g1.length m i (wipeE ev (own.map (·.2))) g with | .ok _ g2 => .ok (.ref g1.length) g2 | _ => .no) (PD X.K Q) (fun _ _ _ => False), ⟨s.len g1 + 1, α1 ++ [D], _, r2, sw, hJ.mono f2, ref_new r1, ?_⟩, ?_⟩
    · revert hp2
      cases lcL s tm tt te g1.length (s.len g1 + 1) 0 (wipeE ev (own.map (·.2))) (g1 ++ [O.lst []]) with
      | ok u g2 => exact fun q => q
      | exn c g2 => exact fun q => q
      | no => exact fun q => q
    clear hp1 hp2
    rintro i m H ⟨α, g2, rl, sv, sj, aD, hp⟩
    cases m with
    | zero => exact hp.elim
    | succ k =>
      simp only [lcL] at hp
      cases e2 : s.at_ i g2 with
      | none => rw [e2] at hp; exact hp.elim
      | some o =>
        rw [e2] at hp
        cases o with
        | none => exact .inl ⟨src_stop rl sj e2, post_v hp rl ⟨D, rfl, aD⟩⟩
        | some d =>
          obtain ⟨go, yl⟩ := src_go rl sj e2
          refine .inr ⟨go, fun H' => ∃ m, m < k + 1 ∧ ∃ α g, Rl X.K α g H' ∧ SV X.K H' α (wipeE ev (own.map (·.2))) (wipe σ (own.map (·.2))) ∧ SrcIs X.K α H' s J ∧ α[g1.length]? = some D ∧
            Post X.K α H' (match lcL s tm tt te g1.length m (i + 1) (wipeE ev (own.map (·.2))) g with | .ok _ g2 => .ok (.ref g1.length) g2 | _ => .no) (PD X.K Q) (fun _ _ _ => False), fun H' h => h, fun x H' hy => ?_⟩
          obtain ⟨rfl, dx⟩ := yl x H' hy
          dsimp only at hp
          cases e3 : tm d (wipeE ev (own.map (·.2))) with
          | none => rw [e3] at hp; exact hp.elim
          | some ev' =>
            rw [e3] at hp
            refine hg x σ H' _ α _ d ev' dx sv e3 fun σ' sv' hw => ⟨hw, α, ev', g2, rl, sv', ?_⟩
            dsimp only at hp
            cases e4 : tt ev' g2 with
            | no => rw [e4] at hp; exact hp
            | exn c g3 => rw [e4] at hp; exact hp.elim
            | ok b g3 =>
              rw [e4] at hp
              intro α3 H3 r3 f3
              have hp1 := Post.fr f3 hp
              clear hp
              cases b with
              | false =>
                dsimp only [PB]
                rw [if_neg Bool.false_ne_true]
                exact ⟨k, Nat.lt_succ_self k, α3, g3, r3, sv.mono f3, sj.mono f3, f3.pre _ _ aD, hp1⟩
              | true =>
                dsimp only [PB]
                rw [if_pos rfl]
                refine ⟨α3, ev', g3, r3, sv'.mono f3, ?_⟩
                dsimp only at hp1
                cases e5 : te ev' g3 with
                | no => rw [e5] at hp1; exact hp1
                | exn c g4 => rw [e5] at hp1; exact hp1.elim
                | ok y g4 =>
                  rw [e5] at hp1
                  intro α4 H4 r4 f4 w dw
                  have hp2 := Post.fr f4 hp1
                  clear hp1
                  dsimp only at hp2
                  have f34 := f3.trans f4
                  have aD4 := f34.pre _ _ aD
                  revert hp2
                  cases e6 : g4[g1.length]? with
                  | none => exact fun q => q.elim
                  | some o =>
                    cases o with
                    | dic kvs => exact fun q => q.elim
                    | ins c fs => exact fun q => q.elim
                    | lst acc =>
                      dsimp only
                      by_cases hl : acc.length < sizeLine
                      · rw [if_pos hl]
                        intro hp2
                        obtain ⟨D', hD', vs, h1, h2⟩ := r4.at_ _ _ e6
                        rw [aD4] at hD'; cases hD'
                        have fw : Fr X.K α4 H4 α4 (upd H4 D (.lst (vs ++ [w]))) := Fr.write r4 aD4
                        have ov : OV X.K (upd H4 D (.lst (vs ++ [w]))) α4 (.lst (acc ++ [y])) D := ⟨_, upd_same, fw.dvs (h2.append (DVs.cons dw DVs.nil))⟩
                        exact ⟨vs, h1, by rw [← h2.length]; exact hl, k, Nat.lt_succ_self k, α4, _, r4.write aD4 ov, sv.mono (f34.trans fw), sj.mono (f34.trans fw), aD4, Post.fr fw hp2⟩
                      · rw [if_neg hl]; exact fun q => q.elim
theorem x_lc (hc : X.calm = true) (hN : X.N.Nodup) (hi : PI X tg iter (TIx X.K W src)) (ok : BlkOk X.N X.env.scope scope own) (hgc : GC X.K (own.map (·.2)) g tm)
    (hg : ∀ (s : Shared) (H : Hp) (C : Addr) (cl : List (Str × Addr)) (fp : List Addr), PG (X.blk s H scope (compEnvC scope cl C X.env) fp) tg g)
    (ht : ∀ (s : Shared) (H : Hp) (C : Addr) (cl : List (Str × Addr)) (fp : List Addr), PTs (X.blk s H scope (compEnvC scope cl C X.env) fp) ifs (TB X.K W0 tt))
    (he : ∀ (s : Shared) (H : Hp) (C : Addr) (cl : List (Str × Addr)) (fp : List Addr), PE (X.blk s H scope (compEnvC scope cl C X.env) fp) elt (TX X.K W0 te)) (hs : ∀ x, foldedSetIterable iter X.env x = pure x := by intro _; rfl) :
    PE X (.ListComp elt [⟨tg, iter, ifs, 0⟩] scope pos) (TX X.K W (lcE src (own.map (·.2)) tm tt te)) := PE.imp (pe_lc hc hN hi ok hg ht he hs) fun _ _ _ h => lc_run hgc h
theorem s_lc {i : Nat} {y : Str} {py spos : Pos} (hc : X.calm = true) (hN : X.N.Nodup) (hy : X.N[i]? = some y) (hyl : X.env.scope.names.lookup y = some .local)
    (hsw : swapsWith (.ListComp elt [⟨tg, iter, ifs, 0⟩] scope pos) (some (.Name y py)) spos.line X.env = pure true) (hi : PI X tg iter (TIx X.K W src)) (ok : BlkOk X.N X.env.scope scope own) (hgc : GC X.K (own.map (·.2)) g tm)
    (hg : ∀ (s : Shared) (H : Hp) (C : Addr) (cl : List (Str × Addr)) (fp : List Addr), PG (X.blk s H scope (compEnvC scope cl C X.env) fp) tg g)
    (ht : ∀ (s : Shared) (H : Hp) (C : Addr) (cl : List (Str × Addr)) (fp : List Addr), PTs (X.blk s H scope (compEnvC scope cl C X.env) fp) ifs (TB X.K W0 tt))
    (he : ∀ (s : Shared) (H : Hp) (C : Addr) (cl : List (Str × Addr)) (fp : List Addr), PE (X.blk s H scope (compEnvC scope cl C X.env) fp) elt (TX X.K W0 te)) (hs : ∀ x, foldedSetIterable iter X.env x = pure x := by intro _; rfl) :
    PS X (.Assign [.Name y py] (.ListComp elt [⟨tg, iter, ifs, 0⟩] scope pos) spos) (TSt X.K W (asgS (lcE src (own.map (·.2)) tm tt te) (nameT i))) := by
  refine PS.imp (ps_setLc hc hN hy hyl hsw hi ok hg ht he hs) fun D σ H h => ?_
  refine lc_run (W := W) hgc ?_
  obtain ⟨α, ev, g, rl, sv, hp⟩ := asg_run h
  refine ⟨α, ev, g, rl, sv, Post.imp hp (fun d α' H' _ h v dv => ?_) fun _ _ _ _ z => z⟩
  obtain ⟨α2, ev2, g2, d2, r2, s2, dv2, q⟩ := h v dv
  exact q α2 H' _ r2 Fr.refl (s2.set dv2 i)
end
end DL

/-! ## Dl11 -/
set_option maxHeartbeats 4000000
namespace DL
open PySem PySem.Spec PyProof.Rows L2
def negE (m : EM D) : EM D := fun ev g => match m ev g with
  | .ok (.int i) g1 => .ok (.int (-i)) g1
  | .ok _ _ => .no
  | .exn c g1 => .exn c g1
  | .no => .no
def putKD (kvs : List (Key × D)) (k : Key) (d : D) : List (Key × D) := if (kvs.any fun kv => decide (kv.1 = k)) = true then kvs.map (fun kv => if kv.1 = k then (kv.1, d) else kv) else kvs ++ [(k, d)]
def mergeD (kvs more : List (Key × D)) : List (Key × D) := more.foldl (fun acc kv => putKD acc kv.1 kv.2) kvs
def nilP : EM (List (Key × D)) := fun _ g => .ok [] g
def consP (mk mv : EM D) (mr : EM (List (Key × D))) : EM (List (Key × D)) := fun ev g => match mk ev g with
  | .ok k g1 => (match mv ev g1 with
    | .ok d g2 => (match mr ev g2 with
      | .ok r g3 => (match keyD k with
        | some kk => .ok ((kk, d) :: r) g3
        | none => .no)
      | .exn c g3 => .exn c g3
      | .no => .no)
    | .exn c g2 => .exn c g2
    | .no => .no)
  | .exn c g1 => .exn c g1
  | .no => .no
def dispE (mp : EM (List (Key × D))) : EM D := fun ev g => match mp ev (g ++ [.dic []]) with
  | .ok kvs g2 => (match g2[g.length]? with
    | some (.dic []) => if kvs.length ≤ 15 then .ok (.ref g.length) (g2.set g.length (.dic (mergeD [] kvs))) else .no
    | _ => .no)
  | .exn c g2 => .exn c g2
  | .no => .no
section
variable {X : Cx} {W : WX} {e o : Expr} {pos p : Pos} {m mk mv : EM D} {mr : EM (List (Key × D))} {x : Str} {ks : List (Option Expr)} {vs : List Expr}
theorem x_neg (he : PE X e (TX X.K W m)) : PE X (.UnaryOp .USub e pos) (TX X.K W (negE m)) := by
  refine PE.imp (pe_un un_neg he) ?_
  rintro σ H Q ⟨α, ev, g, rl, sv, hp⟩
  refine ⟨α, ev, g, rl, sv, ?_⟩
  simp only [negE] at hp
  cases e1 : m ev g with
  | no => rw [e1] at hp; exact hp
  | exn c g1 => rw [e1] at hp; exact hp
  | ok d g1 =>
    rw [e1] at hp
    cases d <;> try exact hp.elim
    exact fun α1 H1 r1 f1 v dv => ⟨_, dv, hp α1 H1 r1 f1 _ rfl⟩
theorem x_gstr {z : Str} (hg : Gl X x) (h : ∃ t, X.mg x = some (.str z t)) (hd : (x == ("__debug__" : Str)) = false := by decide) : PE X (.Name x pos) (TX X.K W (cE (.str z))) := by
  obtain ⟨t, ht⟩ := h
  exact x_const (v := .str z) (pe_glob hg ht ⟨t, rfl⟩ hd) fun _ _ => rfl
theorem x_gint {z : Int} (hg : Gl X x) (h : ∃ t, X.mg x = some (.int z t)) (hd : (x == ("__debug__" : Str)) = false := by decide) : PE X (.Name x pos) (TX X.K W (cE (.int z))) := by
  obtain ⟨t, ht⟩ := h
  exact x_const (v := .int z) (pe_glob hg ht ⟨t, rfl⟩ hd) fun _ _ => rfl
theorem mergeD_ok {K : Fg} {H : Hp} {α : List Addr} : ∀ {more : List (Key × D)} {mo : List (Key × V)} {kvs : List (Key × D)} {ws : List (Key × V)}, KD K H α more mo → KD K H α kvs ws → KD K H α (mergeD kvs more) (mergeK ws mo)
  | _, _, _, _, .nil, h => h
  | (a, d) :: r, (b, v) :: r', _, _, .cons ⟨h1, h2⟩ t, h => by
    have h1 : a = b := h1
    subst h1
    show KD K H α (mergeD (putKD _ a d) r) (mergeK (L2.putK _ a v) r')
    exact mergeD_ok t (KD.putK h2 h)
def pairsM : List (EM D × EM D) → EM (List (Key × D))
  | [] => nilP
  | p :: r => consP p.1 p.2 (pairsM r)
theorem tPairs_run {K : Fg} : ∀ (l : List (EM D × EM D)) (σ : L2.St) (H : Hp) (Q : List (V × V) → Hp → Prop), (∃ α ev g, Rl K α g H ∧ SV K H α ev σ ∧ Post K α H (pairsM l ev g) (fun kvs α' H' => ∀ ws : List (Key × V), KD K H' α' kvs ws → Q (ws.map fun kv => (kV kv.1, kv.2)) H') (XW K W σ)) →
    tPairs (l.map fun p => (TX K W p.1, TX K W p.2)) σ H Q
  | [], σ, H, Q, ⟨α, ev, g, rl, sv, hp⟩ => hp α H rl Fr.refl [] .nil
  | (a, b) :: r, σ, H, Q, ⟨α, ev, g, rl, sv, hp⟩ => by
    refine ⟨α, ev, g, rl, sv, ?_⟩
    simp only [pairsM, consP] at hp
    show Post K α H (a ev g) _ _
    cases e1 : a ev g with
    | no => rw [e1] at hp; exact hp
    | exn c g1 => rw [e1] at hp; exact hp
    | ok k g1 =>
      rw [e1] at hp
      intro α1 H1 r1 f1 v dv
      refine ⟨α1, ev, g1, r1, sv.mono f1, ?_⟩
      have hp1 := Post.fr f1 hp
      clear hp
      dsimp only at hp1
      show Post K α1 H1 (b ev g1) _ _
      cases e2 : b ev g1 with
      | no => rw [e2] at hp1; exact hp1
      | exn c g2 => rw [e2] at hp1; exact hp1
      | ok d g2 =>
        rw [e2] at hp1
        intro α2 H2 r2 f2 w dw
        have hp2 := Post.fr f2 hp1
        clear hp1
        dsimp only at hp2
        refine tPairs_run r σ H2 _ ⟨α2, ev, g2, r2, (sv.mono f1).mono f2, ?_⟩
        cases e3 : pairsM r ev g2 with
        | no => rw [e3] at hp2; exact hp2
        | exn c g3 => rw [e3] at hp2; exact hp2
        | ok kvs g3 =>
          rw [e3] at hp2
          dsimp only at hp2
          intro α3 H3 r3 f3 ws hw
          split at hp2
          · rename_i kk hk
            have ek := keyD_ok hk (f3.dv (f2.dv dv))
            subst ek
            exact hp2 α3 H3 r3 f3 ((kk, w) :: ws) (.cons ⟨rfl, f3.dv dw⟩ hw)
          · exact hp2.elim
theorem x_disp {l : List (EM D × EM D)} (h : PPs X pos ks vs (l.map fun p => (TX X.K W p.1, TX X.K W p.2))) (hall : ks.all (·.isSome) = true) (hl : ks.length = vs.length) (h0 : ks ≠ []) (h15 : ks.length ≤ 15) : PE X (.Dict ks vs pos) (TX X.K W (dispE (pairsM l))) := by
  refine PE.imp (pe_disp h hall hl h0 h15) ?_
  rintro σ H Q ⟨α, ev, g, rl, sv, hp⟩ p np
  simp only [dispE] at hp
  have r2 : Rl X.K (α ++ [p]) (g ++ [.dic []]) (upd H p (.dK [])) := rl.alloc np ⟨[], upd_same, .nil⟩
  have f2 : Fr X.K α H (α ++ [p]) (upd H p (.dK [])) := Fr.alloc rl np
  refine tPairs_run l σ _ _ ⟨α ++ [p], ev, g ++ [.dic []], r2, sv.mono f2, ?_⟩
  have hp1 := Post.fr f2 hp
  clear hp
  cases e1 : pairsM l ev (g ++ [.dic []]) with
  | no => rw [e1] at hp1; exact hp1
  | exn c g1 => rw [e1] at hp1; exact hp1
  | ok kvs g1 =>
    rw [e1] at hp1
    intro α1 H1 r1 f1 ws hw
    dsimp only at hp1
    have hp2 := Post.fr f1 hp1
    clear hp1
    have ap := f1.pre _ _ (ref_new rl)
    split at hp2
    · rename_i hx
      split at hp2
      · rename_i hl
        obtain ⟨a, ha, w0, h1, h2⟩ := r1.at_ _ _ hx
        rw [ap] at ha; cases ha
        cases h2
        refine ⟨h1, ws, rfl, by rw [← Paired.length hw]; exact hl, ?_⟩
        have fw : Fr X.K α1 H1 α1 (upd H1 p (.dK (mergeK [] ws))) := Fr.write r1 ap
        have ov : OV X.K (upd H1 p (.dK (mergeK [] ws))) α1 (.dic (mergeD [] kvs)) p := ⟨_, upd_same, (mergeD_ok hw .nil).mono fw.tup fw.pre⟩
        exact post_set hp2 r1 ap ov _ ⟨p, rfl, ap⟩
      · exact hp2.elim
    · exact hp2.elim
end
end DL

/-! ## Dl12 -/
set_option maxHeartbeats 4000000
namespace DL
open PySem PySem.Spec PyProof.Rows L2
def dnewE : EM D := fun _ g => .ok (.ref g.length) (g ++ [.dic []])
def noE : EM D := fun _ _ => .no
def noS : SM := fun _ _ => .no
section
variable {X : Cx} {W : WX} {e : Expr} {st : Stmt} {pos : Pos} {m : Str}
theorem x_dnew : PE X (.Dict [] [] pos) (TX X.K W dnewE) := PE.imp pe_dnewK fun σ H Q ⟨α, ev, g, rl, sv, hp⟩ p np => post_new hp rl np ⟨[], upd_same, .nil⟩
theorem x_never : PE X e (TX X.K W noE) := ⟨fun pins s σ H Q I h => by
  obtain ⟨α, ev, g, rl, sv, hp⟩ := h
  exact hp.elim⟩
theorem s_never : PS X st (TSt X.K W noS) := ⟨fun pins s σ H Q I h => by
  obtain ⟨α, ev, g, rl, sv, hp⟩ := h
  exact hp.elim⟩
def Tabs (X : Cx) (m : Str) : List (Str × HF) → Prop
  | [] => True
  | p :: r => MOk X m p.1 p.2 ∧ Tabs X m r
theorem tabs_nil : Tabs X m [] := trivial
theorem tabs_cons {c : Str} {F : HF} {r : List (Str × HF)} (h : MOk X m c F) (t : Tabs X m r) : Tabs X m ((c, F) :: r) := ⟨h, t⟩
theorem tab_ok : ∀ {l : List (Str × HF)}, Tabs X m l → ∀ c F, l.lookup c = some F → MOk X m c F
  | [], _, c, F, h => by cases h
  | (a, f) :: r, ⟨h1, h2⟩, c, F, h => by
    cases e : c == a with
    | true =>
      simp only [List.lookup_cons, e] at h
      cases h
      have : c = a := by simpa using e
      subst this
      exact h1
    | false =>
      simp only [List.lookup_cons, e] at h
      exact tab_ok h2 c F h
end
theorem fld_nil {K : Fg} {f : Str} : FldOk K [] f := fun c h => by cases h
theorem fld_cons {K : Fg} {f c : Str} {cs : List Str} (h1 : Cls K (He.ga K c)) (h2 : NoAttr K (He.ga K c) f) (h : FldOk K cs f) : FldOk K (c :: cs) f := fun d hd => by
  rcases List.mem_cons.mp hd with e | hd
  · subst e; exact ⟨h1, h2⟩
  · exact h d hd
theorem exm_nil {K : Fg} {cv : Value} {b : Bool} : ∀ c ∈ ([] : List Str), PySem.W.exmOne K (.ref (He.ga K c)) cv = some b := fun c h => by cases h
theorem exm_cons {K : Fg} {cv : Value} {b : Bool} {c : Str} {cs : List Str} (h1 : PySem.W.exmOne K (.ref (He.ga K c)) cv = some b) (h : ∀ c ∈ cs, PySem.W.exmOne K (.ref (He.ga K c)) cv = some b) : ∀ d ∈ c :: cs, PySem.W.exmOne K (.ref (He.ga K d)) cv = some b := fun d hd => by
  rcases List.mem_cons.mp hd with e | hd
  · subst e; exact h1
  · exact h d hd
theorem COk.never {P : Program} {w : World} {K : Fg} {mg : Str → Option Value} {base : Heap} {x qual : Str} {params : Arguments} {body : List Stmt} {scope : Scope} {fd : FuncData} {ps : List Str} {k : Nat} {at_ : Str × Option Str}
    (F : FunD K x qual params body scope [] [] (He.fAd K at_) fd) (hb : Binds K fd ps []) : COk P w K mg base k ps.length at_ (fun _ _ => .no) :=
  ⟨fd, ps, ⟨fun vs H Q E h => h.1, fun A outer s H args us vs Q E hr e0 hbt hv h => by
    obtain ⟨_, α, g, ds, _, _, hp⟩ := h
    exact hp.elim⟩, hb, F.kp, fun _ _ _ => rfl⟩
end DL

/-! ## K70A -/
set_option maxHeartbeats 4000000
namespace K70
open PySem PySem.Spec PyProof.Rows L2 DL
def top (i : Nat) : Stmt := PySem.Challenge.pw_storesagree_k70_journals.main.body.getD i (.Pass ⟨0, 0, 0, 0⟩)
def S_SIGNS : Str := "abcdefghijklmnopqrstuvwxyz0123456789 ()',:|.+-*=<"
def Y_BadRow : List Str := ["BadRow"]
def Z_BadRow : List Str := []
abbrev s_code_number : Stmt := top 4
abbrev N_code_number : List Str := ["n", "left", "found"]
abbrev s_read_number : Stmt := top 5
abbrev N_read_number : List Str := ["line", "at", "found", "unit", "sign"]
abbrev s_read_many : Stmt := top 6
abbrev N_read_many : List Str := ["line", "at", "many"]
abbrev s_code_line : Stmt := top 7
abbrev N_code_line : List Str := ["line"]
abbrev s_read_line : Stmt := top 8
abbrev N_read_line : List Str := ["line", "at", "many"]
abbrev s_check_of : Stmt := top 10
abbrev N_check_of : List Str := ["line", "c", "sign"]
abbrev s_frame : Stmt := top 11
abbrev N_frame : List Str := ["line"]
abbrev s_frame_at : Stmt := top 12
abbrev N_frame_at : List Str := ["signs", "at", "many", "begin", "end"]
abbrev s_frames_in : Stmt := top 13
abbrev N_frames_in : List Str := ["signs", "found", "at", "told"]
abbrev s_code_ascii : Stmt := top 16
abbrev N_code_ascii : List Str := ["text", "sign"]
abbrev s_read_ascii : Stmt := top 17
abbrev N_read_ascii : List Str := ["line", "at", "signs", "sign"]
abbrev s_Journalu_initu : Stmt := inClass (top 19) 0
abbrev N_Journalu_initu : List Str := ["self", "disk"]
abbrev s_Journal_term : Stmt := inClass (top 19) 1
abbrev N_Journal_term : List Str := ["self"]
abbrev s_Journal_vote : Stmt := inClass (top 19) 2
abbrev N_Journal_vote : List Str := ["self"]
abbrev s_Journal_base : Stmt := inClass (top 19) 3
abbrev N_Journal_base : List Str := ["self"]
abbrev s_Journal_last : Stmt := inClass (top 19) 4
abbrev N_Journal_last : List Str := ["self"]
abbrev s_Journal_term_at : Stmt := inClass (top 19) 5
abbrev N_Journal_term_at : List Str := ["self", "index", "first"]
abbrev s_Journal_entries_from : Stmt := inClass (top 19) 6
abbrev N_Journal_entries_from : List Str := ["self", "index"]
abbrev s_Disk_append : Stmt := inClass (top 22) 4
abbrev N_Disk_append : List Str := ["self", "line"]
abbrev s_Journal_do : Stmt := inClass (top 19) 13
abbrev N_Journal_do : List Str := ["self", "line", "kind", "at", "number", "base", "term"]
abbrev s_Journal_write : Stmt := inClass (top 19) 7
abbrev N_Journal_write : List Str := ["self", "line"]
abbrev s_Journal_set_term : Stmt := inClass (top 19) 8
abbrev N_Journal_set_term : List Str := ["self", "term", "vote"]
abbrev s_Journal_add : Stmt := inClass (top 19) 9
abbrev N_Journal_add : List Str := ["self", "term", "line"]
abbrev s_Journal_cut : Stmt := inClass (top 19) 10
abbrev N_Journal_cut : List Str := ["self", "index"]
abbrev s_Journal_rebase : Stmt := inClass (top 19) 11
abbrev N_Journal_rebase : List Str := ["self", "index", "line"]
abbrev s_Journal_take_base : Stmt := inClass (top 19) 12
abbrev N_Journal_take_base : List Str := ["self", "index", "term", "line"]
abbrev s_Disk_keep_log : Stmt := inClass (top 22) 5
abbrev N_Disk_keep_log : List Str := ["self", "many"]
abbrev s_Disk_log : Stmt := inClass (top 22) 8
abbrev N_Disk_log : List Str := ["self"]
abbrev s_open_journal : Stmt := top 20
abbrev N_open_journal : List Str := ["disk", "found", "lines", "end", "line"]
abbrev s_Disku_initu : Stmt := inClass (top 22) 0
abbrev N_Disku_initu : List Str := ["self"]
abbrev s_Disk_write : Stmt := inClass (top 22) 1
abbrev N_Disk_write : List Str := ["self", "page", "line"]
abbrev s_Disk_free : Stmt := inClass (top 22) 3
abbrev N_Disk_free : List Str := ["self", "pages", "page"]
abbrev s_Disk_set_root : Stmt := inClass (top 22) 6
abbrev N_Disk_set_root : List Str := ["self", "slot", "line"]
abbrev s_Disk_deeds : Stmt := inClass (top 22) 10
abbrev N_Disk_deeds : List Str := ["self"]
abbrev s_Disk_do : Stmt := inClass (top 22) 11
abbrev N_Disk_do : List Str := ["self", "deed"]
abbrev s_fallen : Stmt := top 23
abbrev N_fallen : List Str := ["deeds", "many", "signs", "disk", "deed"]
abbrev s__law_draws : Stmt := top 25
abbrev N__law_draws : List Str := ["script", "many", "draws", "mixed", "k", "cell", "rest", "turn"]
abbrev s__law_next : Stmt := top 26
abbrev N__law_next : List Str := ["w", "many"]
abbrev s__law_pick : Stmt := top 27
abbrev N__law_pick : List Str := ["w", "rows"]
abbrev s__law_same : Stmt := top 29
abbrev N__law_same : List Str := ["seen", "due", "k"]
abbrev s__law_do : Stmt := top 30
abbrev N__law_do : List Str := ["j", "deed", "term", "vote", "base", "entries", "own"]
abbrev s__law_tell : Stmt := top 31
abbrev N__law_tell : List Str := ["journal", "deed"]
abbrev s__law_is : Stmt := top 32
abbrev N__law_is : List Str := ["journal", "j", "term", "vote", "base", "entries", "last", "index", "due"]
abbrev s__law_deed : Stmt := top 33
abbrev N__law_deed : List Str := ["w", "j", "base", "entries", "index", "line", "kind", "k"]
abbrev s_law : Stmt := top 34
abbrev N_law : List Str := ["script", "w", "turn", "disk", "journal", "j", "past", "step", "deed", "told", "deeds", "time", "many", "signs", "whole", "risen"]
structure Tx (K : Fg) (mg : Str → Option Value) : Prop where
  d_code_number : ∃ fd, FunD K "code_number" "code_number" (defArgs s_code_number) (defBody s_code_number) (defScope s_code_number) [] [] (He.fAd K ("code_number", none)) fd
  g_code_number : mg "code_number" = some (.ref (He.ga K "code_number"))
  d_read_number : ∃ fd, FunD K "read_number" "read_number" (defArgs s_read_number) (defBody s_read_number) (defScope s_read_number) [] [] (He.fAd K ("read_number", none)) fd
  g_read_number : mg "read_number" = some (.ref (He.ga K "read_number"))
  d_read_many : ∃ fd, FunD K "read_many" "read_many" (defArgs s_read_many) (defBody s_read_many) (defScope s_read_many) [] [] (He.fAd K ("read_many", none)) fd
  g_read_many : mg "read_many" = some (.ref (He.ga K "read_many"))
  d_code_line : ∃ fd, FunD K "code_line" "code_line" (defArgs s_code_line) (defBody s_code_line) (defScope s_code_line) [] [] (He.fAd K ("code_line", none)) fd
  g_code_line : mg "code_line" = some (.ref (He.ga K "code_line"))
  d_read_line : ∃ fd, FunD K "read_line" "read_line" (defArgs s_read_line) (defBody s_read_line) (defScope s_read_line) [] [] (He.fAd K ("read_line", none)) fd
  g_read_line : mg "read_line" = some (.ref (He.ga K "read_line"))
  d_check_of : ∃ fd, FunD K "check_of" "check_of" (defArgs s_check_of) (defBody s_check_of) (defScope s_check_of) [] [] (He.fAd K ("check_of", none)) fd
  g_check_of : mg "check_of" = some (.ref (He.ga K "check_of"))
  d_frame : ∃ fd, FunD K "frame" "frame" (defArgs s_frame) (defBody s_frame) (defScope s_frame) [] [] (He.fAd K ("frame", none)) fd
  g_frame : mg "frame" = some (.ref (He.ga K "frame"))
  d_frame_at : ∃ fd, FunD K "frame_at" "frame_at" (defArgs s_frame_at) (defBody s_frame_at) (defScope s_frame_at) [] [] (He.fAd K ("frame_at", none)) fd
  g_frame_at : mg "frame_at" = some (.ref (He.ga K "frame_at"))
  d_frames_in : ∃ fd, FunD K "frames_in" "frames_in" (defArgs s_frames_in) (defBody s_frames_in) (defScope s_frames_in) [] [] (He.fAd K ("frames_in", none)) fd
  g_frames_in : mg "frames_in" = some (.ref (He.ga K "frames_in"))
  d_code_ascii : ∃ fd, FunD K "code_ascii" "code_ascii" (defArgs s_code_ascii) (defBody s_code_ascii) (defScope s_code_ascii) [] [] (He.fAd K ("code_ascii", none)) fd
  g_code_ascii : mg "code_ascii" = some (.ref (He.ga K "code_ascii"))
  d_read_ascii : ∃ fd, FunD K "read_ascii" "read_ascii" (defArgs s_read_ascii) (defBody s_read_ascii) (defScope s_read_ascii) [] [] (He.fAd K ("read_ascii", none)) fd
  g_read_ascii : mg "read_ascii" = some (.ref (He.ga K "read_ascii"))
  d_Journalu_initu : ∃ fd, FunD K "__init__" "Journal.__init__" (defArgs s_Journalu_initu) (defBody s_Journalu_initu) (defScope s_Journalu_initu) [] [] (He.fAd K ("Journal", some "__init__")) fd
  d_Journal_term : ∃ fd, FunD K "term" "Journal.term" (defArgs s_Journal_term) (defBody s_Journal_term) (defScope s_Journal_term) [] [] (He.fAd K ("Journal", some "term")) fd
  d_Journal_vote : ∃ fd, FunD K "vote" "Journal.vote" (defArgs s_Journal_vote) (defBody s_Journal_vote) (defScope s_Journal_vote) [] [] (He.fAd K ("Journal", some "vote")) fd
  d_Journal_base : ∃ fd, FunD K "base" "Journal.base" (defArgs s_Journal_base) (defBody s_Journal_base) (defScope s_Journal_base) [] [] (He.fAd K ("Journal", some "base")) fd
  d_Journal_last : ∃ fd, FunD K "last" "Journal.last" (defArgs s_Journal_last) (defBody s_Journal_last) (defScope s_Journal_last) [] [] (He.fAd K ("Journal", some "last")) fd
  d_Journal_term_at : ∃ fd, FunD K "term_at" "Journal.term_at" (defArgs s_Journal_term_at) (defBody s_Journal_term_at) (defScope s_Journal_term_at) [] [] (He.fAd K ("Journal", some "term_at")) fd
  d_Journal_entries_from : ∃ fd, FunD K "entries_from" "Journal.entries_from" (defArgs s_Journal_entries_from) (defBody s_Journal_entries_from) (defScope s_Journal_entries_from) [] [] (He.fAd K ("Journal", some "entries_from")) fd
  d_Disk_append : ∃ fd, FunD K "append" "Disk.append" (defArgs s_Disk_append) (defBody s_Disk_append) (defScope s_Disk_append) [] [] (He.fAd K ("Disk", some "append")) fd
  d_Journal_do : ∃ fd, FunD K "do" "Journal.do" (defArgs s_Journal_do) (defBody s_Journal_do) (defScope s_Journal_do) [] [] (He.fAd K ("Journal", some "do")) fd
  d_Journal_write : ∃ fd, FunD K "write" "Journal.write" (defArgs s_Journal_write) (defBody s_Journal_write) (defScope s_Journal_write) [] [] (He.fAd K ("Journal", some "write")) fd
  d_Journal_set_term : ∃ fd, FunD K "set_term" "Journal.set_term" (defArgs s_Journal_set_term) (defBody s_Journal_set_term) (defScope s_Journal_set_term) [] [] (He.fAd K ("Journal", some "set_term")) fd
  d_Journal_add : ∃ fd, FunD K "add" "Journal.add" (defArgs s_Journal_add) (defBody s_Journal_add) (defScope s_Journal_add) [] [] (He.fAd K ("Journal", some "add")) fd
  d_Journal_cut : ∃ fd, FunD K "cut" "Journal.cut" (defArgs s_Journal_cut) (defBody s_Journal_cut) (defScope s_Journal_cut) [] [] (He.fAd K ("Journal", some "cut")) fd
  d_Journal_rebase : ∃ fd, FunD K "rebase" "Journal.rebase" (defArgs s_Journal_rebase) (defBody s_Journal_rebase) (defScope s_Journal_rebase) [] [] (He.fAd K ("Journal", some "rebase")) fd
  d_Journal_take_base : ∃ fd, FunD K "take_base" "Journal.take_base" (defArgs s_Journal_take_base) (defBody s_Journal_take_base) (defScope s_Journal_take_base) [] [] (He.fAd K ("Journal", some "take_base")) fd
  d_Disk_keep_log : ∃ fd, FunD K "keep_log" "Disk.keep_log" (defArgs s_Disk_keep_log) (defBody s_Disk_keep_log) (defScope s_Disk_keep_log) [] [] (He.fAd K ("Disk", some "keep_log")) fd
  d_Disk_log : ∃ fd, FunD K "log" "Disk.log" (defArgs s_Disk_log) (defBody s_Disk_log) (defScope s_Disk_log) [] [] (He.fAd K ("Disk", some "log")) fd
  d_open_journal : ∃ fd, FunD K "open_journal" "open_journal" (defArgs s_open_journal) (defBody s_open_journal) (defScope s_open_journal) [] [] (He.fAd K ("open_journal", none)) fd
  g_open_journal : mg "open_journal" = some (.ref (He.ga K "open_journal"))
  d_Disku_initu : ∃ fd, FunD K "__init__" "Disk.__init__" (defArgs s_Disku_initu) (defBody s_Disku_initu) (defScope s_Disku_initu) [] [] (He.fAd K ("Disk", some "__init__")) fd
  d_Disk_write : ∃ fd, FunD K "write" "Disk.write" (defArgs s_Disk_write) (defBody s_Disk_write) (defScope s_Disk_write) [] [] (He.fAd K ("Disk", some "write")) fd
  d_Disk_free : ∃ fd, FunD K "free" "Disk.free" (defArgs s_Disk_free) (defBody s_Disk_free) (defScope s_Disk_free) [] [] (He.fAd K ("Disk", some "free")) fd
  d_Disk_set_root : ∃ fd, FunD K "set_root" "Disk.set_root" (defArgs s_Disk_set_root) (defBody s_Disk_set_root) (defScope s_Disk_set_root) [] [] (He.fAd K ("Disk", some "set_root")) fd
  d_Disk_deeds : ∃ fd, FunD K "deeds" "Disk.deeds" (defArgs s_Disk_deeds) (defBody s_Disk_deeds) (defScope s_Disk_deeds) [] [] (He.fAd K ("Disk", some "deeds")) fd
  d_Disk_do : ∃ fd, FunD K "do" "Disk.do" (defArgs s_Disk_do) (defBody s_Disk_do) (defScope s_Disk_do) [] [] (He.fAd K ("Disk", some "do")) fd
  d_fallen : ∃ fd, FunD K "fallen" "fallen" (defArgs s_fallen) (defBody s_fallen) (defScope s_fallen) [] [] (He.fAd K ("fallen", none)) fd
  g_fallen : mg "fallen" = some (.ref (He.ga K "fallen"))
  d__law_draws : ∃ fd, FunD K "_law_draws" "_law_draws" (defArgs s__law_draws) (defBody s__law_draws) (defScope s__law_draws) [] [] (He.fAd K ("_law_draws", none)) fd
  g__law_draws : mg "_law_draws" = some (.ref (He.ga K "_law_draws"))
  d__law_next : ∃ fd, FunD K "_law_next" "_law_next" (defArgs s__law_next) (defBody s__law_next) (defScope s__law_next) [] [] (He.fAd K ("_law_next", none)) fd
  g__law_next : mg "_law_next" = some (.ref (He.ga K "_law_next"))
  d__law_pick : ∃ fd, FunD K "_law_pick" "_law_pick" (defArgs s__law_pick) (defBody s__law_pick) (defScope s__law_pick) [] [] (He.fAd K ("_law_pick", none)) fd
  g__law_pick : mg "_law_pick" = some (.ref (He.ga K "_law_pick"))
  d__law_same : ∃ fd, FunD K "_law_same" "_law_same" (defArgs s__law_same) (defBody s__law_same) (defScope s__law_same) [] [] (He.fAd K ("_law_same", none)) fd
  g__law_same : mg "_law_same" = some (.ref (He.ga K "_law_same"))
  d__law_do : ∃ fd, FunD K "_law_do" "_law_do" (defArgs s__law_do) (defBody s__law_do) (defScope s__law_do) [] [] (He.fAd K ("_law_do", none)) fd
  g__law_do : mg "_law_do" = some (.ref (He.ga K "_law_do"))
  d__law_tell : ∃ fd, FunD K "_law_tell" "_law_tell" (defArgs s__law_tell) (defBody s__law_tell) (defScope s__law_tell) [] [] (He.fAd K ("_law_tell", none)) fd
  g__law_tell : mg "_law_tell" = some (.ref (He.ga K "_law_tell"))
  d__law_is : ∃ fd, FunD K "_law_is" "_law_is" (defArgs s__law_is) (defBody s__law_is) (defScope s__law_is) [] [] (He.fAd K ("_law_is", none)) fd
  g__law_is : mg "_law_is" = some (.ref (He.ga K "_law_is"))
  d__law_deed : ∃ fd, FunD K "_law_deed" "_law_deed" (defArgs s__law_deed) (defBody s__law_deed) (defScope s__law_deed) [] [] (He.fAd K ("_law_deed", none)) fd
  g__law_deed : mg "_law_deed" = some (.ref (He.ga K "_law_deed"))
  d_law : ∃ fd, FunD K "law" "law" (defArgs s_law) (defBody s_law) (defScope s_law) [] [] (He.fAd K ("law", none)) fd
  g_law : mg "law" = some (.ref (He.ga K "law"))
  b_abs : mg "abs" = none
  b_all : mg "all" = none
  b_bool : mg "bool" = none
  b_int : mg "int" = none
  b_isinstance : mg "isinstance" = none
  b_len : mg "len" = none
  b_max : mg "max" = none
  b_range : mg "range" = none
  b_str : mg "str" = none
  b_tuple : mg "tuple" = none
  c_SIGNS : ∃ t, mg "SIGNS" = some (.str S_SIGNS t)
  cl_Disk : Cls K (He.ga K "Disk")
  k_Disk : Mk K (He.ga K "Disk") (He.ma K (He.ga K "Disk") "__init__")
  g_Disk : mg "Disk" = some (.ref (He.ga K "Disk"))
  cl_Journal : Cls K (He.ga K "Journal")
  k_Journal : Mk K (He.ga K "Journal") (He.ma K (He.ga K "Journal") "__init__")
  g_Journal : mg "Journal" = some (.ref (He.ga K "Journal"))
  f_disk : FldOk K ["Journal"] "disk"
  f_done : FldOk K ["Disk"] "done"
  f_entries : FldOk K ["Journal"] "entries"
  f_lines : FldOk K ["Disk"] "lines"
  f_logged : FldOk K ["Disk"] "logged"
  f_own_base : FldOk K ["Journal"] "own_base"
  f_own_term : FldOk K ["Journal"] "own_term"
  f_own_vote : FldOk K ["Journal"] "own_vote"
  f_roots : FldOk K ["Disk"] "roots"
  m_Disk_append : Meth K (He.ga K "Disk") "append" (He.ma K (He.ga K "Disk") "append")
  m_Disk_deeds : Meth K (He.ga K "Disk") "deeds" (He.ma K (He.ga K "Disk") "deeds")
  m_Disk_do : Meth K (He.ga K "Disk") "do" (He.ma K (He.ga K "Disk") "do")
  m_Disk_free : Meth K (He.ga K "Disk") "free" (He.ma K (He.ga K "Disk") "free")
  m_Disk_keep_log : Meth K (He.ga K "Disk") "keep_log" (He.ma K (He.ga K "Disk") "keep_log")
  m_Disk_log : Meth K (He.ga K "Disk") "log" (He.ma K (He.ga K "Disk") "log")
  m_Disk_set_root : Meth K (He.ga K "Disk") "set_root" (He.ma K (He.ga K "Disk") "set_root")
  m_Disk_write : Meth K (He.ga K "Disk") "write" (He.ma K (He.ga K "Disk") "write")
  m_Journal_add : Meth K (He.ga K "Journal") "add" (He.ma K (He.ga K "Journal") "add")
  m_Journal_base : Meth K (He.ga K "Journal") "base" (He.ma K (He.ga K "Journal") "base")
  m_Journal_cut : Meth K (He.ga K "Journal") "cut" (He.ma K (He.ga K "Journal") "cut")
  m_Journal_do : Meth K (He.ga K "Journal") "do" (He.ma K (He.ga K "Journal") "do")
  m_Journal_entries_from : Meth K (He.ga K "Journal") "entries_from" (He.ma K (He.ga K "Journal") "entries_from")
  m_Journal_last : Meth K (He.ga K "Journal") "last" (He.ma K (He.ga K "Journal") "last")
  m_Journal_rebase : Meth K (He.ga K "Journal") "rebase" (He.ma K (He.ga K "Journal") "rebase")
  m_Journal_set_term : Meth K (He.ga K "Journal") "set_term" (He.ma K (He.ga K "Journal") "set_term")
  m_Journal_take_base : Meth K (He.ga K "Journal") "take_base" (He.ma K (He.ga K "Journal") "take_base")
  m_Journal_term : Meth K (He.ga K "Journal") "term" (He.ma K (He.ga K "Journal") "term")
  m_Journal_term_at : Meth K (He.ga K "Journal") "term_at" (He.ma K (He.ga K "Journal") "term_at")
  m_Journal_vote : Meth K (He.ga K "Journal") "vote" (He.ma K (He.ga K "Journal") "vote")
  m_Journal_write : Meth K (He.ga K "Journal") "write" (He.ma K (He.ga K "Journal") "write")
  e_BadRow : ExOk K mg "BadRow"
  y_BadRow : ∀ c ∈ Y_BadRow, PySem.W.exmOne K (.ref (He.ga K c)) (.ref (He.ga K "BadRow")) = some true
  z_BadRow : ∀ c ∈ Z_BadRow, PySem.W.exmOne K (.ref (He.ga K c)) (.ref (He.ga K "BadRow")) = some false
section
variable {P : Program} {w : World} {K : Fg} {mg : Str → Option Value} {base : Heap}
theorem sc_code_number : FnScope N_code_number ["n"] (defScope s_code_number) := ⟨rfl, rfl, rfl, by decide +kernel, rfl, by decide +kernel, by decide +kernel⟩
def m_code_number : SM :=
  seqS (par2S 1 2 (consE (ifE (boolE (opE geD (varE 0) (cE (.int 0)))) (opE mulD (cE (.int 2)) (varE 0)) (opE subD (opE mulD (negE (cE (.int 2))) (varE 0)) (cE (.int 1)))) (consE (lstE (nilE)) (nilE))))
  (seqS (whileS (boolE (opE geD (varE 1) (cE (.int 128)))) (seqS (exprS (apdE (varE 2) (opE addD (opE modD (varE 1) (cE (.int 128))) (cE (.int 128)))))
  (asgS (opE fdivD (varE 1) (cE (.int 128))) (nameT 1))))
  (retS (apE tupF (consE (opE addD (varE 2) (lstE (consE (varE 1) (nilE)))) (nilE)))))
def F_code_number : HF := pureF (defF 3 1 m_code_number)
theorem ok_code_number (T : Tx K mg) : COk P w K mg base 1 1 ("code_number", none) F_code_number := by
  obtain ⟨fd, F⟩ := T.d_code_number
  have h := def_mk (P := P) (w := w) (mg := mg) (base := base) (k := 0) (at_ := ("code_number", none)) (m := m_code_number) F (F.bindsN (ps := ["n"]) fun _ _ _ _ _ _ us hl => match us, hl with | [_], _ => rfl) sc_code_number (fun cdv A outer s H E hr tk pa => by
    exact (ss_cons (s_par2 (i := 1) (j := 2) rfl sc_code_number.nd rfl rfl (by decide) rfl rfl (a_cons (x_ifExp (t_cmp op_geD calm_ints2 (x_var 0 (pv 0)) x_int (nomark _)) (x_op op_mulD calm_ints2 x_int (x_var 0 (pv 0))) (x_op op_subD calm_ints2 (x_op op_mulD calm_ints2 (x_neg x_int) (x_var 0 (pv 0))) x_int)) (a_cons (x_lst a_nil) a_nil)) rfl)
  (ss_cons (s_while pa (t_cmp op_geD calm_ints2 (x_var 1 (pv 1)) x_int (nomark _)) (ss_cons (s_expr (x_append (x_var 2 (pv 2)) (x_op op_addD calm_addD (x_op op_modD calm_ints2 (x_var 1 (pv 1)) x_int) x_int)))
  (ss_one (s_set (i := 1) sc_code_number.nd rfl (Or.inl rfl) (x_op op_fdivD calm_ints2 (x_var 1 (pv 1)) x_int)))))
  (ss_one (s_ret (x_callTy cr_tup calm_tupF rfl T.b_tuple (by decide +kernel) (a_cons (x_op op_addD calm_addD (x_var 2 (pv 2)) (x_lst (a_cons (x_var 1 (pv 1)) a_nil))) a_nil)))))))
  exact COk.pure h
theorem sc_read_number : FnScope N_read_number ["line", "at"] (defScope s_read_number) := ⟨rfl, rfl, rfl, by decide +kernel, rfl, by decide +kernel, by decide +kernel⟩
def m_read_number : SM :=
  seqS (asgS (tupE (consE (cE (.int 0)) (consE (cE (.int 1)) (nilE)))) (tupT 2 (consT (nameT 2) (consT (nameT 3) (nilT)))))
  (whileS (truE (cE (.bl true))) (seqS (ifS (boolE (opE geD (varE 1) (apE lenF (consE (varE 0) (nilE))))) (raiS "BadRow") (nxS))
  (seqS (par2S 4 1 (consE (opE ixD (varE 0) (varE 1)) (consE (opE addD (varE 1) (cE (.int 1))) (nilE))))
  (seqS (par2S 2 3 (consE (opE addD (varE 2) (opE mulD (opE modD (varE 4) (cE (.int 128))) (varE 3))) (consE (opE mulD (varE 3) (cE (.int 128))) (nilE))))
  (ifS (boolE (opE ltD (varE 4) (cE (.int 128)))) (seqS (ifS (andB (boolE (opE eqD (varE 4) (cE (.int 0)))) (boolE (opE gtD (varE 3) (cE (.int 128))))) (raiS "BadRow") (nxS))
  (retS (tupE (consE (ifE (boolE (opE eqD (opE modD (varE 2) (cE (.int 2))) (cE (.int 0)))) (opE fdivD (varE 2) (cE (.int 2))) (opE subD (negE (opE fdivD (varE 2) (cE (.int 2)))) (cE (.int 1)))) (consE (varE 1) (nilE)))))) (nxS))))))
def F_read_number : HF := pureF (defF 5 2 m_read_number)
theorem ok_read_number (T : Tx K mg) : COk P w K mg base 1 2 ("read_number", none) F_read_number := by
  obtain ⟨fd, F⟩ := T.d_read_number
  have h := def_mk (P := P) (w := w) (mg := mg) (base := base) (k := 0) (at_ := ("read_number", none)) (m := m_read_number) F (F.bindsN (ps := ["line", "at"]) fun _ _ _ _ _ _ us hl => match us, hl with | [_, _], _ => rfl) sc_read_number (fun cdv A outer s H E hr tk pa => by
    exact (ss_cons (s_asg (x_tup (a_cons x_int (a_cons x_int a_nil))) (g_tup (n := 2) rfl (gs_cons (g_name (pg_name (i := 2) sc_read_number.nd rfl (Or.inl rfl))) (gs_cons (g_name (pg_name (i := 3) sc_read_number.nd rfl (Or.inl rfl))) gs_nil))))
  (ss_one (s_while pa (t_tru x_bl) (ss_cons (s_if (t_cmp op_geD calm_ints2 (x_var 1 (pv 1)) (x_callB cr_len calm_lenF rfl T.b_len (by decide +kernel) (a_cons (x_var 0 (pv 0)) a_nil)) (nomark _)) (ss_one (s_raise rfl tk T.e_BadRow rfl)) ss_nil)
  (ss_cons (s_par2 (i := 4) (j := 1) rfl sc_read_number.nd rfl rfl (by decide) rfl rfl (a_cons (x_ix (hu_of hr) (x_var 0 (pv 0)) (x_var 1 (pv 1))) (a_cons (x_op op_addD calm_addD (x_var 1 (pv 1)) x_int) a_nil)) rfl)
  (ss_cons (s_par2 (i := 2) (j := 3) rfl sc_read_number.nd rfl rfl (by decide) rfl rfl (a_cons (x_op op_addD calm_addD (x_var 2 (pv 2)) (x_op op_mulD calm_ints2 (x_op op_modD calm_ints2 (x_var 4 (pv 4)) x_int) (x_var 3 (pv 3)))) (a_cons (x_op op_mulD calm_ints2 (x_var 3 (pv 3)) x_int) a_nil)) rfl)
  (ss_one (s_if (t_cmp op_ltD calm_ints2 (x_var 4 (pv 4)) x_int (nomark _)) (ss_cons (s_if (PW.pt (w_and (t_cmp (op_eqE hr.units) calm_eqD (x_var 4 (pv 4)) x_int (nomark _)) (pw_and1 (t_cmp op_gtD calm_ints2 (x_var 3 (pv 3)) x_int (nomark _))))) (ss_one (s_raise rfl tk T.e_BadRow rfl)) ss_nil)
  (ss_one (s_ret (x_tup (a_cons (x_ifExp (t_cmp (op_eqE hr.units) calm_eqD (x_op op_modD calm_ints2 (x_var 2 (pv 2)) x_int) x_int (nomark _)) (x_op op_fdivD calm_ints2 (x_var 2 (pv 2)) x_int) (x_op op_subD calm_ints2 (x_neg (x_op op_fdivD calm_ints2 (x_var 2 (pv 2)) x_int)) x_int)) (a_cons (x_var 1 (pv 1)) a_nil)))))) ss_nil)))))))))
  exact COk.pure h
theorem sc_read_many : FnScope N_read_many ["line", "at"] (defScope s_read_many) := ⟨rfl, rfl, rfl, by decide +kernel, rfl, by decide +kernel, by decide +kernel⟩
def m_read_many : SM :=
  seqS (asgS (apE F_read_number (consE (varE 0) (consE (varE 1) (nilE)))) (tupT 2 (consT (nameT 2) (consT (nameT 1) (nilT)))))
  (seqS (ifS (notB (boolE (chE leD leD (cE (.int 0)) (varE 2) (opE subD (apE lenF (consE (varE 0) (nilE))) (varE 1))))) (raiS "BadRow") (nxS))
  (retS (tupE (consE (varE 2) (consE (varE 1) (nilE))))))
def F_read_many : HF := pureF (defF 3 2 m_read_many)
theorem ok_read_many (T : Tx K mg) : COk P w K mg base 2 2 ("read_many", none) F_read_many := by
  obtain ⟨fd, F⟩ := T.d_read_many
  have h := def_mk (P := P) (w := w) (mg := mg) (base := base) (k := 1) (at_ := ("read_many", none)) (m := m_read_many) F (F.bindsN (ps := ["line", "at"]) fun _ _ _ _ _ _ us hl => match us, hl with | [_, _], _ => rfl) sc_read_many (fun cdv A outer s H E hr tk pa => by
    exact (ss_cons (s_asg (x_fn tk (ok_read_number T) (hr.mono (by decide)) rfl T.g_read_number (a_cons (x_var 0 (pv 0)) (a_cons (x_var 1 (pv 1)) a_nil))) (g_tup (n := 2) rfl (gs_cons (g_name (pg_name (i := 2) sc_read_many.nd rfl (Or.inl rfl))) (gs_cons (g_name (pg_name (i := 1) sc_read_many.nd rfl (Or.inl rfl))) gs_nil))))
  (ss_cons (s_if (t_not (t_chain op_leD calm_ints2 op_leD calm_ints2 x_int (x_var 2 (pv 2)) (x_op op_subD calm_ints2 (x_callB cr_len calm_lenF rfl T.b_len (by decide +kernel) (a_cons (x_var 0 (pv 0)) a_nil)) (x_var 1 (pv 1))))) (ss_one (s_raise rfl tk T.e_BadRow rfl)) ss_nil)
  (ss_one (s_ret (x_tup (a_cons (x_var 2 (pv 2)) (a_cons (x_var 1 (pv 1)) a_nil))))))))
  exact COk.pure h
theorem sc_code_line : FnScope N_code_line ["line"] (defScope s_code_line) := ⟨rfl, rfl, rfl, by decide +kernel, rfl, by decide +kernel, by decide +kernel⟩
def m_code_line : SM :=
  retS (opE addD (apE F_code_number (consE (apE lenF (consE (varE 0) (nilE))) (nilE))) (varE 0))
def F_code_line : HF := pureF (defF 1 1 m_code_line)
theorem ok_code_line (T : Tx K mg) : COk P w K mg base 2 1 ("code_line", none) F_code_line := by
  obtain ⟨fd, F⟩ := T.d_code_line
  have h := def_mk (P := P) (w := w) (mg := mg) (base := base) (k := 1) (at_ := ("code_line", none)) (m := m_code_line) F (F.bindsN (ps := ["line"]) fun _ _ _ _ _ _ us hl => match us, hl with | [_], _ => rfl) sc_code_line (fun cdv A outer s H E hr tk pa => by
    exact (ss_one (s_ret (x_op op_addD calm_addD (x_fn tk (ok_code_number T) (hr.mono (by decide)) rfl T.g_code_number (a_cons (x_callB cr_len calm_lenF rfl T.b_len (by decide +kernel) (a_cons (x_var 0 (pv 0)) a_nil)) a_nil)) (x_var 0 (pv 0))))))
  exact COk.pure h
theorem sc_read_line : FnScope N_read_line ["line", "at"] (defScope s_read_line) := ⟨rfl, rfl, rfl, by decide +kernel, rfl, by decide +kernel, by decide +kernel⟩
def m_read_line : SM :=
  seqS (asgS (apE F_read_many (consE (varE 0) (consE (varE 1) (nilE)))) (tupT 2 (consT (nameT 2) (consT (nameT 1) (nilT)))))
  (retS (tupE (consE (slE (varE 0) (optE (varE 1)) (optE (opE addD (varE 1) (varE 2)))) (consE (opE addD (varE 1) (varE 2)) (nilE)))))
def F_read_line : HF := pureF (defF 3 2 m_read_line)
theorem ok_read_line (T : Tx K mg) : COk P w K mg base 3 2 ("read_line", none) F_read_line := by
  obtain ⟨fd, F⟩ := T.d_read_line
  have h := def_mk (P := P) (w := w) (mg := mg) (base := base) (k := 2) (at_ := ("read_line", none)) (m := m_read_line) F (F.bindsN (ps := ["line", "at"]) fun _ _ _ _ _ _ us hl => match us, hl with | [_, _], _ => rfl) sc_read_line (fun cdv A outer s H E hr tk pa => by
    exact (ss_cons (s_asg (x_fn tk (ok_read_many T) (hr.mono (by decide)) rfl T.g_read_many (a_cons (x_var 0 (pv 0)) (a_cons (x_var 1 (pv 1)) a_nil))) (g_tup (n := 2) rfl (gs_cons (g_name (pg_name (i := 2) sc_read_line.nd rfl (Or.inl rfl))) (gs_cons (g_name (pg_name (i := 1) sc_read_line.nd rfl (Or.inl rfl))) gs_nil))))
  (ss_one (s_ret (x_tup (a_cons (x_slice (x_var 0 (pv 0)) (o_some (x_var 1 (pv 1))) (o_some (x_op op_addD calm_addD (x_var 1 (pv 1)) (x_var 2 (pv 2))))) (a_cons (x_op op_addD calm_addD (x_var 1 (pv 1)) (x_var 2 (pv 2))) a_nil)))))))
  exact COk.pure h
theorem sc_check_of : FnScope N_check_of ["line"] (defScope s_check_of) := ⟨rfl, rfl, rfl, by decide +kernel, rfl, by decide +kernel, by decide +kernel⟩
def m_check_of : SM :=
  seqS (asgS (cE (.int 7)) (nameT 1))
  (seqS (forS (seqE (varE 0)) (nameT 2) (asgS (opE modD (opE addD (opE addD (opE mulD (cE (.int 257)) (varE 1)) (varE 2)) (cE (.int 1))) (cE (.int 4294967291))) (nameT 1)))
  (retS (tupE (consE (opE fdivD (varE 1) (cE (.int 16777216))) (consE (opE modD (opE fdivD (varE 1) (cE (.int 65536))) (cE (.int 256))) (consE (opE modD (opE fdivD (varE 1) (cE (.int 256))) (cE (.int 256))) (consE (opE modD (varE 1) (cE (.int 256))) (nilE))))))))
def F_check_of : HF := pureF (defF 3 1 m_check_of)
theorem ok_check_of (T : Tx K mg) : COk P w K mg base 1 1 ("check_of", none) F_check_of := by
  obtain ⟨fd, F⟩ := T.d_check_of
  have h := def_mk (P := P) (w := w) (mg := mg) (base := base) (k := 0) (at_ := ("check_of", none)) (m := m_check_of) F (F.bindsN (ps := ["line"]) fun _ _ _ _ _ _ us hl => match us, hl with | [_], _ => rfl) sc_check_of (fun cdv A outer s H E hr tk pa => by
    exact (ss_cons (s_set (i := 1) sc_check_of.nd rfl (Or.inl rfl) x_int)
  (ss_cons (s_for pa rfl (i_seq (x_var 0 (pv 0))) (g_name (pg_name (i := 2) sc_check_of.nd rfl (Or.inl rfl))) (ss_one (s_set (i := 1) sc_check_of.nd rfl (Or.inl rfl) (x_op op_modD calm_ints2 (x_op op_addD calm_addD (x_op op_addD calm_addD (x_op op_mulD calm_ints2 x_int (x_var 1 (pv 1))) (x_var 2 (pv 2))) x_int) x_int))))
  (ss_one (s_ret (x_tup (a_cons (x_op op_fdivD calm_ints2 (x_var 1 (pv 1)) x_int) (a_cons (x_op op_modD calm_ints2 (x_op op_fdivD calm_ints2 (x_var 1 (pv 1)) x_int) x_int) (a_cons (x_op op_modD calm_ints2 (x_op op_fdivD calm_ints2 (x_var 1 (pv 1)) x_int) x_int) (a_cons (x_op op_modD calm_ints2 (x_var 1 (pv 1)) x_int) a_nil))))))))))
  exact COk.pure h
theorem sc_frame : FnScope N_frame ["line"] (defScope s_frame) := ⟨rfl, rfl, rfl, by decide +kernel, rfl, by decide +kernel, by decide +kernel⟩
def m_frame : SM :=
  retS (opE addD (opE addD (apE F_code_number (consE (apE lenF (consE (varE 0) (nilE))) (nilE))) (varE 0)) (apE F_check_of (consE (varE 0) (nilE))))
def F_frame : HF := pureF (defF 1 1 m_frame)
theorem ok_frame (T : Tx K mg) : COk P w K mg base 2 1 ("frame", none) F_frame := by
  obtain ⟨fd, F⟩ := T.d_frame
  have h := def_mk (P := P) (w := w) (mg := mg) (base := base) (k := 1) (at_ := ("frame", none)) (m := m_frame) F (F.bindsN (ps := ["line"]) fun _ _ _ _ _ _ us hl => match us, hl with | [_], _ => rfl) sc_frame (fun cdv A outer s H E hr tk pa => by
    exact (ss_one (s_ret (x_op op_addD calm_addD (x_op op_addD calm_addD (x_fn tk (ok_code_number T) (hr.mono (by decide)) rfl T.g_code_number (a_cons (x_callB cr_len calm_lenF rfl T.b_len (by decide +kernel) (a_cons (x_var 0 (pv 0)) a_nil)) a_nil)) (x_var 0 (pv 0))) (x_fn tk (ok_check_of T) (hr.mono (by decide)) rfl T.g_check_of (a_cons (x_var 0 (pv 0)) a_nil))))))
  exact COk.pure h
theorem sc_frame_at : FnScope N_frame_at ["signs", "at"] (defScope s_frame_at) := ⟨rfl, rfl, rfl, by decide +kernel, rfl, by decide +kernel, by decide +kernel⟩
def m_frame_at : SM :=
  seqS (tryS Y_BadRow Z_BadRow (asgS (apE F_read_number (consE (varE 0) (consE (varE 1) (nilE)))) (tupT 2 (consT (nameT 2) (consT (nameT 3) (nilT))))) (retS (cE (.non))))
  (seqS (asgS (opE addD (opE addD (varE 3) (varE 2)) (cE (.int 4))) (nameT 4))
  (seqS (ifS (orB (boolE (opE ltD (varE 2) (cE (.int 0)))) (orB (boolE (opE gtD (varE 4) (apE lenF (consE (varE 0) (nilE))))) (boolE (opE neD (apE F_check_of (consE (slE (varE 0) (optE (varE 3)) (optE (opE subD (varE 4) (cE (.int 4))))) (nilE))) (slE (varE 0) (optE (opE subD (varE 4) (cE (.int 4)))) (optE (varE 4))))))) (retS (cE (.non))) (nxS))
  (retS (tupE (consE (slE (varE 0) (optE (varE 3)) (optE (opE subD (varE 4) (cE (.int 4))))) (consE (varE 4) (nilE)))))))
def F_frame_at : HF := pureF (defF 5 2 m_frame_at)
theorem ok_frame_at (T : Tx K mg) : COk P w K mg base 2 2 ("frame_at", none) F_frame_at := by
  obtain ⟨fd, F⟩ := T.d_frame_at
  have h := def_mk (P := P) (w := w) (mg := mg) (base := base) (k := 1) (at_ := ("frame_at", none)) (m := m_frame_at) F (F.bindsN (ps := ["signs", "at"]) fun _ _ _ _ _ _ us hl => match us, hl with | [_, _], _ => rfl) sc_frame_at (fun cdv A outer s H E hr tk pa => by
    exact (ss_cons (s_try (yes := Y_BadRow) (no := Z_BadRow) rfl rfl ⟨rfl, by decide, Or.inl T.e_BadRow.1⟩ tk T.y_BadRow T.z_BadRow (fun W pn xe tk' pa' => (ss_one (s_asg (x_fn tk' (ok_read_number T) (hr.mono (by decide)) rfl T.g_read_number (a_cons (x_var 0 (pv 0)) (a_cons (x_var 1 (pv 1)) a_nil))) (g_tup (n := 2) rfl (gs_cons (g_name (pg_name (i := 2) sc_frame_at.nd rfl (Or.inl rfl))) (gs_cons (g_name (pg_name (i := 3) sc_frame_at.nd rfl (Or.inl rfl))) gs_nil)))))) (fun a oe cls d pn hz hf => (ss_one (s_ret x_non))))
  (ss_cons (s_set (i := 4) sc_frame_at.nd rfl (Or.inl rfl) (x_op op_addD calm_addD (x_op op_addD calm_addD (x_var 3 (pv 3)) (x_var 2 (pv 2))) x_int))
  (ss_cons (s_if (PW.pt (w_or (t_cmp op_ltD calm_ints2 (x_var 2 (pv 2)) x_int (nomark _)) (w_or (t_cmp op_gtD calm_ints2 (x_var 4 (pv 4)) (x_callB cr_len calm_lenF rfl T.b_len (by decide +kernel) (a_cons (x_var 0 (pv 0)) a_nil)) (nomark _)) (pw_or1 (t_cmp (op_neE hr.units) calm_neD (x_fn tk (ok_check_of T) (hr.mono (by decide)) rfl T.g_check_of (a_cons (x_slice (x_var 0 (pv 0)) (o_some (x_var 3 (pv 3))) (o_some (x_op op_subD calm_ints2 (x_var 4 (pv 4)) x_int))) a_nil)) (x_slice (x_var 0 (pv 0)) (o_some (x_op op_subD calm_ints2 (x_var 4 (pv 4)) x_int)) (o_some (x_var 4 (pv 4)))) (nomark _)))))) (ss_one (s_ret x_non)) ss_nil)
  (ss_one (s_ret (x_tup (a_cons (x_slice (x_var 0 (pv 0)) (o_some (x_var 3 (pv 3))) (o_some (x_op op_subD calm_ints2 (x_var 4 (pv 4)) x_int))) (a_cons (x_var 4 (pv 4)) a_nil)))))))))
  exact COk.pure h
theorem sc_frames_in : FnScope N_frames_in ["signs"] (defScope s_frames_in) := ⟨rfl, rfl, rfl, by decide +kernel, rfl, by decide +kernel, by decide +kernel⟩
def m_frames_in : SM :=
  seqS (par2S 1 2 (consE (lstE (nilE)) (consE (cE (.int 0)) (nilE))))
  (seqS (asgS (apE F_frame_at (consE (varE 0) (consE (varE 2) (nilE)))) (nameT 3))
  (seqS (whileS (boolE (opE notD (varE 3) (cE (.non)))) (seqS (exprS (apdE (varE 1) (opE ixD (varE 3) (cE (.int 0)))))
  (seqS (asgS (opE ixD (varE 3) (cE (.int 1))) (nameT 2))
  (asgS (apE F_frame_at (consE (varE 0) (consE (varE 2) (nilE)))) (nameT 3)))))
  (retS (tupE (consE (apE tupF (consE (varE 1) (nilE))) (consE (varE 2) (nilE)))))))
def F_frames_in : HF := pureF (defF 4 1 m_frames_in)
theorem ok_frames_in (T : Tx K mg) : COk P w K mg base 3 1 ("frames_in", none) F_frames_in := by
  obtain ⟨fd, F⟩ := T.d_frames_in
  have h := def_mk (P := P) (w := w) (mg := mg) (base := base) (k := 2) (at_ := ("frames_in", none)) (m := m_frames_in) F (F.bindsN (ps := ["signs"]) fun _ _ _ _ _ _ us hl => match us, hl with | [_], _ => rfl) sc_frames_in (fun cdv A outer s H E hr tk pa => by
    exact (ss_cons (s_par2 (i := 1) (j := 2) rfl sc_frames_in.nd rfl rfl (by decide) rfl rfl (a_cons (x_lst a_nil) (a_cons x_int a_nil)) rfl)
  (ss_cons (s_set (i := 3) sc_frames_in.nd rfl (Or.inl rfl) (x_fn tk (ok_frame_at T) (hr.mono (by decide)) rfl T.g_frame_at (a_cons (x_var 0 (pv 0)) (a_cons (x_var 2 (pv 2)) a_nil))))
  (ss_cons (s_while pa (t_cmp op_notE calm_notD (x_var 3 (pv 3)) x_non (nomark _)) (ss_cons (s_expr (x_append (x_var 1 (pv 1)) (x_ix (hu_of hr) (x_var 3 (pv 3)) x_int)))
  (ss_cons (s_set (i := 2) sc_frames_in.nd rfl (Or.inl rfl) (x_ix (hu_of hr) (x_var 3 (pv 3)) x_int))
  (ss_one (s_set (i := 3) sc_frames_in.nd rfl (Or.inl rfl) (x_fn tk (ok_frame_at T) (hr.mono (by decide)) rfl T.g_frame_at (a_cons (x_var 0 (pv 0)) (a_cons (x_var 2 (pv 2)) a_nil))))))))
  (ss_one (s_ret (x_tup (a_cons (x_callTy cr_tup calm_tupF rfl T.b_tuple (by decide +kernel) (a_cons (x_var 1 (pv 1)) a_nil)) (a_cons (x_var 2 (pv 2)) a_nil)))))))))
  exact COk.pure h
theorem sc_code_ascii : FnScope N_code_ascii ["text"] (defScope s_code_ascii) := ⟨rfl, rfl, rfl, by decide +kernel, rfl, by decide +kernel, by decide +kernel⟩
def m_code_ascii : SM :=
  retS (apE F_code_line (consE (apE tupF (consE (lcE (seqE (varE 0)) [1] (fun d ev => some (ev.set 1 (some d))) (yesE) (smE sixF (cE (.str S_SIGNS)) (varE 1))) (nilE))) (nilE)))
def F_code_ascii : HF := pureF (defF 2 1 m_code_ascii)
theorem ok_code_ascii (T : Tx K mg) : COk P w K mg base 3 1 ("code_ascii", none) F_code_ascii := by
  obtain ⟨fd, F⟩ := T.d_code_ascii
  have h := def_mk (P := P) (w := w) (mg := mg) (base := base) (k := 2) (at_ := ("code_ascii", none)) (m := m_code_ascii) F (F.bindsN (ps := ["text"]) fun _ _ _ _ _ _ us hl => match us, hl with | [_], _ => rfl) sc_code_ascii (fun cdv A outer s H E hr tk pa => by
    exact (ss_one (s_ret (x_fn tk (ok_code_line T) (hr.mono (by decide)) rfl T.g_code_line (a_cons (x_callTy cr_tup calm_tupF rfl T.b_tuple (by decide +kernel) (a_cons (x_lc (own := [("sign", 1)]) (g := gName 1) (tm := (fun d ev => some (ev.set 1 (some d)))) rfl sc_code_ascii.nd (i_seq (x_var 0 (pv 0))) (blkOk_by (own := [("sign", 1)]) (N := N_code_ascii) (sc := defScope s_code_ascii) (by decide +kernel)) gc_name (fun _ _ _ _ _ => (pg_name (i := 1) sc_code_ascii.nd rfl (Or.inl rfl))) (fun _ _ _ _ _ => f_nil) (fun _ _ _ _ _ => (x_sindex rfl takes0 (x_gstr rfl T.c_SIGNS) (x_var 1 (pv 1))))) a_nil)) a_nil)))))
  exact COk.pure h
theorem sc_read_ascii : FnScope N_read_ascii ["line", "at"] (defScope s_read_ascii) := ⟨rfl, rfl, rfl, by decide +kernel, rfl, by decide +kernel, by decide +kernel⟩
def m_read_ascii : SM :=
  seqS (asgS (apE F_read_line (consE (varE 0) (consE (varE 1) (nilE)))) (tupT 2 (consT (nameT 2) (consT (nameT 1) (nilT)))))
  (seqS (ifS (notB (truE (apE allF (consE (lcE (seqE (varE 2)) [3] (fun d ev => some (ev.set 3 (some d))) (yesE) (opE ltD (varE 3) (apE lenF (consE (cE (.str S_SIGNS)) (nilE))))) (nilE))))) (raiS "BadRow") (nxS))
  (retS (tupE (consE (smE joinF (cE (.str "")) (lcE (seqE (varE 2)) [3] (fun d ev => some (ev.set 3 (some d))) (yesE) (opE ixD (cE (.str S_SIGNS)) (varE 3)))) (consE (varE 1) (nilE))))))
def F_read_ascii : HF := pureF (defF 4 2 m_read_ascii)
theorem ok_read_ascii (T : Tx K mg) : COk P w K mg base 4 2 ("read_ascii", none) F_read_ascii := by
  obtain ⟨fd, F⟩ := T.d_read_ascii
  have h := def_mk (P := P) (w := w) (mg := mg) (base := base) (k := 3) (at_ := ("read_ascii", none)) (m := m_read_ascii) F (F.bindsN (ps := ["line", "at"]) fun _ _ _ _ _ _ us hl => match us, hl with | [_, _], _ => rfl) sc_read_ascii (fun cdv A outer s H E hr tk pa => by
    exact (ss_cons (s_asg (x_fn tk (ok_read_line T) (hr.mono (by decide)) rfl T.g_read_line (a_cons (x_var 0 (pv 0)) (a_cons (x_var 1 (pv 1)) a_nil))) (g_tup (n := 2) rfl (gs_cons (g_name (pg_name (i := 2) sc_read_ascii.nd rfl (Or.inl rfl))) (gs_cons (g_name (pg_name (i := 1) sc_read_ascii.nd rfl (Or.inl rfl))) gs_nil))))
  (ss_cons (s_if (t_not (t_tru (x_callB (cr_allF rfl) calm_allF rfl T.b_all (by decide +kernel) (a_cons (x_lc (own := [("sign", 3)]) (g := gName 3) (tm := (fun d ev => some (ev.set 3 (some d)))) rfl sc_read_ascii.nd (i_seq (x_var 2 (pv 2))) (blkOk_by (own := [("sign", 3)]) (N := N_read_ascii) (sc := defScope s_read_ascii) (by decide +kernel)) gc_name (fun _ _ _ _ _ => (pg_name (i := 3) sc_read_ascii.nd rfl (Or.inl rfl))) (fun _ _ _ _ _ => f_nil) (fun _ _ _ _ _ => (x_cmp op_ltD calm_ints2 (x_var 3 (pv 3)) (x_callB cr_len calm_lenF rfl T.b_len (by decide +kernel) (a_cons (x_gstr rfl T.c_SIGNS) a_nil)) (nomark _)))) a_nil)))) (ss_one (s_raise rfl tk T.e_BadRow rfl)) ss_nil)
  (ss_one (s_ret (x_tup (a_cons (x_join x_str (x_lc (own := [("sign", 3)]) (g := gName 3) (tm := (fun d ev => some (ev.set 3 (some d)))) rfl sc_read_ascii.nd (i_seq (x_var 2 (pv 2))) (blkOk_by (own := [("sign", 3)]) (N := N_read_ascii) (sc := defScope s_read_ascii) (by decide +kernel)) gc_name (fun _ _ _ _ _ => (pg_name (i := 3) sc_read_ascii.nd rfl (Or.inl rfl))) (fun _ _ _ _ _ => f_nil) (fun _ _ _ _ _ => (x_ix (hu_of hr) (x_gstr rfl T.c_SIGNS) (x_var 3 (pv 3)))))) (a_cons (x_var 1 (pv 1)) a_nil))))))))
  exact COk.pure h
theorem sc_Journalu_initu : FnScope N_Journalu_initu ["self", "disk"] (defScope s_Journalu_initu) := ⟨rfl, rfl, rfl, by decide +kernel, rfl, by decide +kernel, by decide +kernel⟩
def m_Journalu_initu : SM :=
  seqS (asgS (varE 1) (fldT ["Journal"] "disk" 0))
  (seqS (asgS (cE (.int 0)) (fldT ["Journal"] "own_term" 0))
  (seqS (asgS (cE (.str "")) (fldT ["Journal"] "own_vote" 0))
  (seqS (asgS (tupE (consE (cE (.int 0)) (consE (cE (.int 0)) (consE (tupE (nilE)) (nilE))))) (fldT ["Journal"] "own_base" 0))
  (asgS (lstE (nilE)) (fldT ["Journal"] "entries" 0)))))
def F_Journalu_initu : HF := defF 2 2 m_Journalu_initu
theorem ok_Journalu_initu (T : Tx K mg) : COk P w K mg base 1 2 ("Journal", some "__init__") F_Journalu_initu := by
  obtain ⟨fd, F⟩ := T.d_Journalu_initu
  have h := def_mk (P := P) (w := w) (mg := mg) (base := base) (k := 0) (at_ := ("Journal", some "__init__")) (m := m_Journalu_initu) F (F.bindsN (ps := ["self", "disk"]) fun _ _ _ _ _ _ us hl => match us, hl with | [_, _], _ => rfl) sc_Journalu_initu (fun cdv A outer s H E hr tk pa => by
    exact (ss_cons (s_asg (x_var 1 (pv 1)) (g_fld T.f_disk (pv 0)))
  (ss_cons (s_asg x_int (g_fld T.f_own_term (pv 0)))
  (ss_cons (s_asg x_str (g_fld T.f_own_vote (pv 0)))
  (ss_cons (s_asg (x_tup (a_cons x_int (a_cons x_int (a_cons (x_tup a_nil) a_nil)))) (g_fld T.f_own_base (pv 0)))
  (ss_one (s_asg (x_lst a_nil) (g_fld T.f_entries (pv 0)))))))))
  exact h
theorem sc_Journal_term : FnScope N_Journal_term ["self"] (defScope s_Journal_term) := ⟨rfl, rfl, rfl, by decide +kernel, rfl, by decide +kernel, by decide +kernel⟩
def m_Journal_term : SM :=
  retS (fldE ["Journal"] "own_term" (varE 0))
def F_Journal_term : HF := defF 1 1 m_Journal_term
theorem ok_Journal_term (T : Tx K mg) : COk P w K mg base 1 1 ("Journal", some "term") F_Journal_term := by
  obtain ⟨fd, F⟩ := T.d_Journal_term
  have h := def_mk (P := P) (w := w) (mg := mg) (base := base) (k := 0) (at_ := ("Journal", some "term")) (m := m_Journal_term) F (F.bindsN (ps := ["self"]) fun _ _ _ _ _ _ us hl => match us, hl with | [_], _ => rfl) sc_Journal_term (fun cdv A outer s H E hr tk pa => by
    exact (ss_one (s_ret (x_fld T.f_own_term (x_var 0 (pv 0))))))
  exact h
theorem sc_Journal_vote : FnScope N_Journal_vote ["self"] (defScope s_Journal_vote) := ⟨rfl, rfl, rfl, by decide +kernel, rfl, by decide +kernel, by decide +kernel⟩
def m_Journal_vote : SM :=
  retS (fldE ["Journal"] "own_vote" (varE 0))
def F_Journal_vote : HF := defF 1 1 m_Journal_vote
theorem ok_Journal_vote (T : Tx K mg) : COk P w K mg base 1 1 ("Journal", some "vote") F_Journal_vote := by
  obtain ⟨fd, F⟩ := T.d_Journal_vote
  have h := def_mk (P := P) (w := w) (mg := mg) (base := base) (k := 0) (at_ := ("Journal", some "vote")) (m := m_Journal_vote) F (F.bindsN (ps := ["self"]) fun _ _ _ _ _ _ us hl => match us, hl with | [_], _ => rfl) sc_Journal_vote (fun cdv A outer s H E hr tk pa => by
    exact (ss_one (s_ret (x_fld T.f_own_vote (x_var 0 (pv 0))))))
  exact h
theorem sc_Journal_base : FnScope N_Journal_base ["self"] (defScope s_Journal_base) := ⟨rfl, rfl, rfl, by decide +kernel, rfl, by decide +kernel, by decide +kernel⟩
def m_Journal_base : SM :=
  retS (fldE ["Journal"] "own_base" (varE 0))
def F_Journal_base : HF := defF 1 1 m_Journal_base
theorem ok_Journal_base (T : Tx K mg) : COk P w K mg base 1 1 ("Journal", some "base") F_Journal_base := by
  obtain ⟨fd, F⟩ := T.d_Journal_base
  have h := def_mk (P := P) (w := w) (mg := mg) (base := base) (k := 0) (at_ := ("Journal", some "base")) (m := m_Journal_base) F (F.bindsN (ps := ["self"]) fun _ _ _ _ _ _ us hl => match us, hl with | [_], _ => rfl) sc_Journal_base (fun cdv A outer s H E hr tk pa => by
    exact (ss_one (s_ret (x_fld T.f_own_base (x_var 0 (pv 0))))))
  exact h
theorem sc_Journal_last : FnScope N_Journal_last ["self"] (defScope s_Journal_last) := ⟨rfl, rfl, rfl, by decide +kernel, rfl, by decide +kernel, by decide +kernel⟩
def m_Journal_last : SM :=
  retS (opE addD (opE ixD (fldE ["Journal"] "own_base" (varE 0)) (cE (.int 0))) (apE lenF (consE (fldE ["Journal"] "entries" (varE 0)) (nilE))))
def F_Journal_last : HF := defF 1 1 m_Journal_last
theorem ok_Journal_last (T : Tx K mg) : COk P w K mg base 1 1 ("Journal", some "last") F_Journal_last := by
  obtain ⟨fd, F⟩ := T.d_Journal_last
  have h := def_mk (P := P) (w := w) (mg := mg) (base := base) (k := 0) (at_ := ("Journal", some "last")) (m := m_Journal_last) F (F.bindsN (ps := ["self"]) fun _ _ _ _ _ _ us hl => match us, hl with | [_], _ => rfl) sc_Journal_last (fun cdv A outer s H E hr tk pa => by
    exact (ss_one (s_ret (x_op op_addD calm_addD (x_ix (hu_of hr) (x_fld T.f_own_base (x_var 0 (pv 0))) x_int) (x_callB cr_len calm_lenF rfl T.b_len (by decide +kernel) (a_cons (x_fld T.f_entries (x_var 0 (pv 0))) a_nil))))))
  exact h
theorem sc_Journal_term_at : FnScope N_Journal_term_at ["self", "index"] (defScope s_Journal_term_at) := ⟨rfl, rfl, rfl, by decide +kernel, rfl, by decide +kernel, by decide +kernel⟩
def m_Journal_term_at : SM :=
  seqS (asgS (opE ixD (fldE ["Journal"] "own_base" (varE 0)) (cE (.int 0))) (nameT 2))
  (seqS (ifS (boolE (opE eqD (varE 1) (varE 2))) (retS (opE ixD (fldE ["Journal"] "own_base" (varE 0)) (cE (.int 1)))) (nxS))
  (retS (ifE (boolE (chE ltD leD (varE 2) (varE 1) (methE [("Journal", F_Journal_last)] "last" (varE 0) nilE))) (opE ixD (opE ixD (fldE ["Journal"] "entries" (varE 0)) (opE subD (opE subD (varE 1) (varE 2)) (cE (.int 1)))) (cE (.int 0))) (cE (.non)))))
def F_Journal_term_at : HF := defF 3 2 m_Journal_term_at
theorem ok_Journal_term_at (T : Tx K mg) : COk P w K mg base 2 2 ("Journal", some "term_at") F_Journal_term_at := by
  obtain ⟨fd, F⟩ := T.d_Journal_term_at
  have h := def_mk (P := P) (w := w) (mg := mg) (base := base) (k := 1) (at_ := ("Journal", some "term_at")) (m := m_Journal_term_at) F (F.bindsN (ps := ["self", "index"]) fun _ _ _ _ _ _ us hl => match us, hl with | [_, _], _ => rfl) sc_Journal_term_at (fun cdv A outer s H E hr tk pa => by
    exact (ss_cons (s_set (i := 2) sc_Journal_term_at.nd rfl (Or.inl rfl) (x_ix (hu_of hr) (x_fld T.f_own_base (x_var 0 (pv 0))) x_int))
  (ss_cons (s_if (t_cmp (op_eqE hr.units) calm_eqD (x_var 1 (pv 1)) (x_var 2 (pv 2)) (nomark _)) (ss_one (s_ret (x_ix (hu_of hr) (x_fld T.f_own_base (x_var 0 (pv 0))) x_int))) ss_nil)
  (ss_one (s_ret (x_ifExp (t_chain op_ltD calm_ints2 op_leD calm_ints2 (x_var 2 (pv 2)) (x_var 1 (pv 1)) (x_meth0 tk (x_var 0 (pv 0)) (tab_ok (tabs_cons (mok_of (ok_Journal_last T) (hr.mono (by decide)) T.cl_Journal T.m_Journal_last) tabs_nil)))) (x_ix (hu_of hr) (x_ix (hu_of hr) (x_fld T.f_entries (x_var 0 (pv 0))) (x_op op_subD calm_ints2 (x_op op_subD calm_ints2 (x_var 1 (pv 1)) (x_var 2 (pv 2))) x_int)) x_int) x_non))))))
  exact h
theorem sc_Journal_entries_from : FnScope N_Journal_entries_from ["self", "index"] (defScope s_Journal_entries_from) := ⟨rfl, rfl, rfl, by decide +kernel, rfl, by decide +kernel, by decide +kernel⟩
def m_Journal_entries_from : SM :=
  retS (apE tupF (consE (slE (fldE ["Journal"] "entries" (varE 0)) (optE (opE subD (opE subD (varE 1) (opE ixD (fldE ["Journal"] "own_base" (varE 0)) (cE (.int 0)))) (cE (.int 1)))) (noneE)) (nilE)))
def F_Journal_entries_from : HF := defF 2 2 m_Journal_entries_from
theorem ok_Journal_entries_from (T : Tx K mg) : COk P w K mg base 1 2 ("Journal", some "entries_from") F_Journal_entries_from := by
  obtain ⟨fd, F⟩ := T.d_Journal_entries_from
  have h := def_mk (P := P) (w := w) (mg := mg) (base := base) (k := 0) (at_ := ("Journal", some "entries_from")) (m := m_Journal_entries_from) F (F.bindsN (ps := ["self", "index"]) fun _ _ _ _ _ _ us hl => match us, hl with | [_, _], _ => rfl) sc_Journal_entries_from (fun cdv A outer s H E hr tk pa => by
    exact (ss_one (s_ret (x_callTy cr_tup calm_tupF rfl T.b_tuple (by decide +kernel) (a_cons (x_slice (x_fld T.f_entries (x_var 0 (pv 0))) (o_some (x_op op_subD calm_ints2 (x_op op_subD calm_ints2 (x_var 1 (pv 1)) (x_ix (hu_of hr) (x_fld T.f_own_base (x_var 0 (pv 0))) x_int)) x_int)) o_none) a_nil)))))
  exact h
theorem sc_Disk_append : FnScope N_Disk_append ["self", "line"] (defScope s_Disk_append) := ⟨rfl, rfl, rfl, by decide +kernel, rfl, by decide +kernel, by decide +kernel⟩
def m_Disk_append : SM :=
  seqS (exprS (apdE (fldE ["Disk"] "done" (varE 0)) (tupE (consE (cE (.str "log")) (consE (varE 1) (nilE))))))
  (asgS (opE addD (fldE ["Disk"] "logged" (varE 0)) (varE 1)) (fldT ["Disk"] "logged" 0))
def F_Disk_append : HF := defF 2 2 m_Disk_append
theorem ok_Disk_append (T : Tx K mg) : COk P w K mg base 1 2 ("Disk", some "append") F_Disk_append := by
  obtain ⟨fd, F⟩ := T.d_Disk_append
  have h := def_mk (P := P) (w := w) (mg := mg) (base := base) (k := 0) (at_ := ("Disk", some "append")) (m := m_Disk_append) F (F.bindsN (ps := ["self", "line"]) fun _ _ _ _ _ _ us hl => match us, hl with | [_, _], _ => rfl) sc_Disk_append (fun cdv A outer s H E hr tk pa => by
    exact (ss_cons (s_expr (x_append (x_fld T.f_done (x_var 0 (pv 0))) (x_tup (a_cons x_str (a_cons (x_var 1 (pv 1)) a_nil)))))
  (ss_one (s_asg (x_op op_addD calm_addD (x_fld T.f_logged (x_var 0 (pv 0))) (x_var 1 (pv 1))) (g_fld T.f_logged (pv 0))))))
  exact h
theorem sc_Journal_do : FnScope N_Journal_do ["self", "line"] (defScope s_Journal_do) := ⟨rfl, rfl, rfl, by decide +kernel, rfl, by decide +kernel, by decide +kernel⟩
def m_Journal_do : SM :=
  seqS (asgS (apE F_read_number (consE (varE 1) (consE (cE (.int 0)) (nilE)))) (tupT 2 (consT (nameT 2) (consT (nameT 3) (nilT)))))
  (seqS (asgS (apE F_read_number (consE (varE 1) (consE (varE 3) (nilE)))) (tupT 2 (consT (nameT 4) (consT (nameT 3) (nilT)))))
  (ifS (boolE (opE eqD (varE 2) (cE (.int 0)))) (asgS (tupE (consE (varE 4) (consE (opE ixD (apE F_read_ascii (consE (varE 1) (consE (varE 3) (nilE)))) (cE (.int 0))) (nilE)))) (tupT 2 (consT (fldT ["Journal"] "own_term" 0) (consT (fldT ["Journal"] "own_vote" 0) (nilT))))) (ifS (boolE (opE eqD (varE 2) (cE (.int 1)))) (exprS (apdE (fldE ["Journal"] "entries" (varE 0)) (tupE (consE (varE 4) (consE (opE ixD (apE F_read_line (consE (varE 1) (consE (varE 3) (nilE)))) (cE (.int 0))) (nilE)))))) (ifS (boolE (opE eqD (varE 2) (cE (.int 2)))) (asgS (slE (fldE ["Journal"] "entries" (varE 0)) (noneE) (optE (opE subD (opE subD (varE 4) (opE ixD (fldE ["Journal"] "own_base" (varE 0)) (cE (.int 0)))) (cE (.int 1))))) (fldT ["Journal"] "entries" 0)) (ifS (boolE (opE eqD (varE 2) (cE (.int 3)))) (seqS (asgS (tupE (consE (varE 4) (consE (methE [("Journal", F_Journal_term_at)] "term_at" (varE 0) (consE (varE 4) (nilE))) (consE (opE ixD (apE F_read_line (consE (varE 1) (consE (varE 3) (nilE)))) (cE (.int 0))) (nilE))))) (nameT 5))
  (seqS (asgS (slE (fldE ["Journal"] "entries" (varE 0)) (optE (opE subD (varE 4) (opE ixD (fldE ["Journal"] "own_base" (varE 0)) (cE (.int 0))))) (noneE)) (fldT ["Journal"] "entries" 0))
  (asgS (varE 5) (fldT ["Journal"] "own_base" 0)))) (seqS (asgS (apE F_read_number (consE (varE 1) (consE (varE 3) (nilE)))) (tupT 2 (consT (nameT 6) (consT (nameT 3) (nilT)))))
  (asgS (tupE (consE (tupE (consE (varE 4) (consE (varE 6) (consE (opE ixD (apE F_read_line (consE (varE 1) (consE (varE 3) (nilE)))) (cE (.int 0))) (nilE))))) (consE (lstE (nilE)) (nilE)))) (tupT 2 (consT (fldT ["Journal"] "own_base" 0) (consT (fldT ["Journal"] "entries" 0) (nilT)))))))))))
def F_Journal_do : HF := defF 7 2 m_Journal_do
theorem ok_Journal_do (T : Tx K mg) : COk P w K mg base 5 2 ("Journal", some "do") F_Journal_do := by
  obtain ⟨fd, F⟩ := T.d_Journal_do
  have h := def_mk (P := P) (w := w) (mg := mg) (base := base) (k := 4) (at_ := ("Journal", some "do")) (m := m_Journal_do) F (F.bindsN (ps := ["self", "line"]) fun _ _ _ _ _ _ us hl => match us, hl with | [_, _], _ => rfl) sc_Journal_do (fun cdv A outer s H E hr tk pa => by
    exact (ss_cons (s_asg (x_fn tk (ok_read_number T) (hr.mono (by decide)) rfl T.g_read_number (a_cons (x_var 1 (pv 1)) (a_cons x_int a_nil))) (g_tup (n := 2) rfl (gs_cons (g_name (pg_name (i := 2) sc_Journal_do.nd rfl (Or.inl rfl))) (gs_cons (g_name (pg_name (i := 3) sc_Journal_do.nd rfl (Or.inl rfl))) gs_nil))))
  (ss_cons (s_asg (x_fn tk (ok_read_number T) (hr.mono (by decide)) rfl T.g_read_number (a_cons (x_var 1 (pv 1)) (a_cons (x_var 3 (pv 3)) a_nil))) (g_tup (n := 2) rfl (gs_cons (g_name (pg_name (i := 4) sc_Journal_do.nd rfl (Or.inl rfl))) (gs_cons (g_name (pg_name (i := 3) sc_Journal_do.nd rfl (Or.inl rfl))) gs_nil))))
  (ss_one (s_if (t_cmp (op_eqE hr.units) calm_eqD (x_var 2 (pv 2)) x_int (nomark _)) (ss_one (s_asg (x_tup (a_cons (x_var 4 (pv 4)) (a_cons (x_ix (hu_of hr) (x_fn tk (ok_read_ascii T) (hr.mono (by decide)) rfl T.g_read_ascii (a_cons (x_var 1 (pv 1)) (a_cons (x_var 3 (pv 3)) a_nil))) x_int) a_nil))) (g_tup (n := 2) rfl (gs_cons (g_fld T.f_own_term (pv 0)) (gs_cons (g_fld T.f_own_vote (pv 0)) gs_nil))))) (ss_one (s_if (t_cmp (op_eqE hr.units) calm_eqD (x_var 2 (pv 2)) x_int (nomark _)) (ss_one (s_expr (x_append (x_fld T.f_entries (x_var 0 (pv 0))) (x_tup (a_cons (x_var 4 (pv 4)) (a_cons (x_ix (hu_of hr) (x_fn tk (ok_read_line T) (hr.mono (by decide)) rfl T.g_read_line (a_cons (x_var 1 (pv 1)) (a_cons (x_var 3 (pv 3)) a_nil))) x_int) a_nil)))))) (ss_one (s_if (t_cmp (op_eqE hr.units) calm_eqD (x_var 2 (pv 2)) x_int (nomark _)) (ss_one (s_asg (x_slice (x_fld T.f_entries (x_var 0 (pv 0))) o_none (o_some (x_op op_subD calm_ints2 (x_op op_subD calm_ints2 (x_var 4 (pv 4)) (x_ix (hu_of hr) (x_fld T.f_own_base (x_var 0 (pv 0))) x_int)) x_int))) (g_fld T.f_entries (pv 0)))) (ss_one (s_if (t_cmp (op_eqE hr.units) calm_eqD (x_var 2 (pv 2)) x_int (nomark _)) (ss_cons (s_set (i := 5) sc_Journal_do.nd rfl (Or.inl rfl) (x_tup (a_cons (x_var 4 (pv 4)) (a_cons (x_meth tk (x_var 0 (pv 0)) (tab_ok (tabs_cons (mok_of (ok_Journal_term_at T) (hr.mono (by decide)) T.cl_Journal T.m_Journal_term_at) tabs_nil)) (a_cons (x_var 4 (pv 4)) a_nil)) (a_cons (x_ix (hu_of hr) (x_fn tk (ok_read_line T) (hr.mono (by decide)) rfl T.g_read_line (a_cons (x_var 1 (pv 1)) (a_cons (x_var 3 (pv 3)) a_nil))) x_int) a_nil)))))
  (ss_cons (s_asg (x_slice (x_fld T.f_entries (x_var 0 (pv 0))) (o_some (x_op op_subD calm_ints2 (x_var 4 (pv 4)) (x_ix (hu_of hr) (x_fld T.f_own_base (x_var 0 (pv 0))) x_int))) o_none) (g_fld T.f_entries (pv 0)))
  (ss_one (s_asg (x_var 5 (pv 5)) (g_fld T.f_own_base (pv 0)))))) (ss_cons (s_asg (x_fn tk (ok_read_number T) (hr.mono (by decide)) rfl T.g_read_number (a_cons (x_var 1 (pv 1)) (a_cons (x_var 3 (pv 3)) a_nil))) (g_tup (n := 2) rfl (gs_cons (g_name (pg_name (i := 6) sc_Journal_do.nd rfl (Or.inl rfl))) (gs_cons (g_name (pg_name (i := 3) sc_Journal_do.nd rfl (Or.inl rfl))) gs_nil))))
  (ss_one (s_asg (x_tup (a_cons (x_tup (a_cons (x_var 4 (pv 4)) (a_cons (x_var 6 (pv 6)) (a_cons (x_ix (hu_of hr) (x_fn tk (ok_read_line T) (hr.mono (by decide)) rfl T.g_read_line (a_cons (x_var 1 (pv 1)) (a_cons (x_var 3 (pv 3)) a_nil))) x_int) a_nil)))) (a_cons (x_lst a_nil) a_nil))) (g_tup (n := 2) rfl (gs_cons (g_fld T.f_own_base (pv 0)) (gs_cons (g_fld T.f_entries (pv 0)) gs_nil)))))))))))))))))
  exact h
theorem sc_Journal_write : FnScope N_Journal_write ["self", "line"] (defScope s_Journal_write) := ⟨rfl, rfl, rfl, by decide +kernel, rfl, by decide +kernel, by decide +kernel⟩
def m_Journal_write : SM :=
  seqS (exprS (methE [("Disk", F_Disk_append)] "append" (fldE ["Journal"] "disk" (varE 0)) (consE (apE F_frame (consE (varE 1) (nilE))) (nilE))))
  (exprS (methE [("Journal", F_Journal_do)] "do" (varE 0) (consE (varE 1) (nilE))))
def F_Journal_write : HF := defF 2 2 m_Journal_write
theorem ok_Journal_write (T : Tx K mg) : COk P w K mg base 6 2 ("Journal", some "write") F_Journal_write := by
  obtain ⟨fd, F⟩ := T.d_Journal_write
  have h := def_mk (P := P) (w := w) (mg := mg) (base := base) (k := 5) (at_ := ("Journal", some "write")) (m := m_Journal_write) F (F.bindsN (ps := ["self", "line"]) fun _ _ _ _ _ _ us hl => match us, hl with | [_, _], _ => rfl) sc_Journal_write (fun cdv A outer s H E hr tk pa => by
    exact (ss_cons (s_expr (x_meth tk (x_fld T.f_disk (x_var 0 (pv 0))) (tab_ok (tabs_cons (mok_of (ok_Disk_append T) (hr.mono (by decide)) T.cl_Disk T.m_Disk_append) tabs_nil)) (a_cons (x_fn tk (ok_frame T) (hr.mono (by decide)) rfl T.g_frame (a_cons (x_var 1 (pv 1)) a_nil)) a_nil)))
  (ss_one (s_expr (x_meth tk (x_var 0 (pv 0)) (tab_ok (tabs_cons (mok_of (ok_Journal_do T) (hr.mono (by decide)) T.cl_Journal T.m_Journal_do) tabs_nil)) (a_cons (x_var 1 (pv 1)) a_nil))))))
  exact h
theorem sc_Journal_set_term : FnScope N_Journal_set_term ["self", "term", "vote"] (defScope s_Journal_set_term) := ⟨rfl, rfl, rfl, by decide +kernel, rfl, by decide +kernel, by decide +kernel⟩
def m_Journal_set_term : SM :=
  exprS (methE [("Journal", F_Journal_write)] "write" (varE 0) (consE (opE addD (opE addD (apE F_code_number (consE (cE (.int 0)) (nilE))) (apE F_code_number (consE (varE 1) (nilE)))) (apE F_code_ascii (consE (varE 2) (nilE)))) (nilE)))
def F_Journal_set_term : HF := defF 3 3 m_Journal_set_term
theorem ok_Journal_set_term (T : Tx K mg) : COk P w K mg base 7 3 ("Journal", some "set_term") F_Journal_set_term := by
  obtain ⟨fd, F⟩ := T.d_Journal_set_term
  have h := def_mk (P := P) (w := w) (mg := mg) (base := base) (k := 6) (at_ := ("Journal", some "set_term")) (m := m_Journal_set_term) F (F.bindsN (ps := ["self", "term", "vote"]) fun _ _ _ _ _ _ us hl => match us, hl with | [_, _, _], _ => rfl) sc_Journal_set_term (fun cdv A outer s H E hr tk pa => by
    exact (ss_one (s_expr (x_meth tk (x_var 0 (pv 0)) (tab_ok (tabs_cons (mok_of (ok_Journal_write T) (hr.mono (by decide)) T.cl_Journal T.m_Journal_write) tabs_nil)) (a_cons (x_op op_addD calm_addD (x_op op_addD calm_addD (x_fn tk (ok_code_number T) (hr.mono (by decide)) rfl T.g_code_number (a_cons x_int a_nil)) (x_fn tk (ok_code_number T) (hr.mono (by decide)) rfl T.g_code_number (a_cons (x_var 1 (pv 1)) a_nil))) (x_fn tk (ok_code_ascii T) (hr.mono (by decide)) rfl T.g_code_ascii (a_cons (x_var 2 (pv 2)) a_nil))) a_nil)))))
  exact h
theorem sc_Journal_add : FnScope N_Journal_add ["self", "term", "line"] (defScope s_Journal_add) := ⟨rfl, rfl, rfl, by decide +kernel, rfl, by decide +kernel, by decide +kernel⟩
def m_Journal_add : SM :=
  seqS (exprS (methE [("Journal", F_Journal_write)] "write" (varE 0) (consE (opE addD (opE addD (apE F_code_number (consE (cE (.int 1)) (nilE))) (apE F_code_number (consE (varE 1) (nilE)))) (apE F_code_line (consE (varE 2) (nilE)))) (nilE))))
  (retS (methE [("Journal", F_Journal_last)] "last" (varE 0) nilE))
def F_Journal_add : HF := defF 3 3 m_Journal_add
theorem ok_Journal_add (T : Tx K mg) : COk P w K mg base 7 3 ("Journal", some "add") F_Journal_add := by
  obtain ⟨fd, F⟩ := T.d_Journal_add
  have h := def_mk (P := P) (w := w) (mg := mg) (base := base) (k := 6) (at_ := ("Journal", some "add")) (m := m_Journal_add) F (F.bindsN (ps := ["self", "term", "line"]) fun _ _ _ _ _ _ us hl => match us, hl with | [_, _, _], _ => rfl) sc_Journal_add (fun cdv A outer s H E hr tk pa => by
    exact (ss_cons (s_expr (x_meth tk (x_var 0 (pv 0)) (tab_ok (tabs_cons (mok_of (ok_Journal_write T) (hr.mono (by decide)) T.cl_Journal T.m_Journal_write) tabs_nil)) (a_cons (x_op op_addD calm_addD (x_op op_addD calm_addD (x_fn tk (ok_code_number T) (hr.mono (by decide)) rfl T.g_code_number (a_cons x_int a_nil)) (x_fn tk (ok_code_number T) (hr.mono (by decide)) rfl T.g_code_number (a_cons (x_var 1 (pv 1)) a_nil))) (x_fn tk (ok_code_line T) (hr.mono (by decide)) rfl T.g_code_line (a_cons (x_var 2 (pv 2)) a_nil))) a_nil)))
  (ss_one (s_ret (x_meth0 tk (x_var 0 (pv 0)) (tab_ok (tabs_cons (mok_of (ok_Journal_last T) (hr.mono (by decide)) T.cl_Journal T.m_Journal_last) tabs_nil)))))))
  exact h
theorem sc_Journal_cut : FnScope N_Journal_cut ["self", "index"] (defScope s_Journal_cut) := ⟨rfl, rfl, rfl, by decide +kernel, rfl, by decide +kernel, by decide +kernel⟩
def m_Journal_cut : SM :=
  exprS (methE [("Journal", F_Journal_write)] "write" (varE 0) (consE (opE addD (apE F_code_number (consE (cE (.int 2)) (nilE))) (apE F_code_number (consE (varE 1) (nilE)))) (nilE)))
def F_Journal_cut : HF := defF 2 2 m_Journal_cut
theorem ok_Journal_cut (T : Tx K mg) : COk P w K mg base 7 2 ("Journal", some "cut") F_Journal_cut := by
  obtain ⟨fd, F⟩ := T.d_Journal_cut
  have h := def_mk (P := P) (w := w) (mg := mg) (base := base) (k := 6) (at_ := ("Journal", some "cut")) (m := m_Journal_cut) F (F.bindsN (ps := ["self", "index"]) fun _ _ _ _ _ _ us hl => match us, hl with | [_, _], _ => rfl) sc_Journal_cut (fun cdv A outer s H E hr tk pa => by
    exact (ss_one (s_expr (x_meth tk (x_var 0 (pv 0)) (tab_ok (tabs_cons (mok_of (ok_Journal_write T) (hr.mono (by decide)) T.cl_Journal T.m_Journal_write) tabs_nil)) (a_cons (x_op op_addD calm_addD (x_fn tk (ok_code_number T) (hr.mono (by decide)) rfl T.g_code_number (a_cons x_int a_nil)) (x_fn tk (ok_code_number T) (hr.mono (by decide)) rfl T.g_code_number (a_cons (x_var 1 (pv 1)) a_nil))) a_nil)))))
  exact h
theorem sc_Journal_rebase : FnScope N_Journal_rebase ["self", "index", "line"] (defScope s_Journal_rebase) := ⟨rfl, rfl, rfl, by decide +kernel, rfl, by decide +kernel, by decide +kernel⟩
def m_Journal_rebase : SM :=
  exprS (methE [("Journal", F_Journal_write)] "write" (varE 0) (consE (opE addD (opE addD (apE F_code_number (consE (cE (.int 3)) (nilE))) (apE F_code_number (consE (varE 1) (nilE)))) (apE F_code_line (consE (varE 2) (nilE)))) (nilE)))
def F_Journal_rebase : HF := defF 3 3 m_Journal_rebase
theorem ok_Journal_rebase (T : Tx K mg) : COk P w K mg base 7 3 ("Journal", some "rebase") F_Journal_rebase := by
  obtain ⟨fd, F⟩ := T.d_Journal_rebase
  have h := def_mk (P := P) (w := w) (mg := mg) (base := base) (k := 6) (at_ := ("Journal", some "rebase")) (m := m_Journal_rebase) F (F.bindsN (ps := ["self", "index", "line"]) fun _ _ _ _ _ _ us hl => match us, hl with | [_, _, _], _ => rfl) sc_Journal_rebase (fun cdv A outer s H E hr tk pa => by
    exact (ss_one (s_expr (x_meth tk (x_var 0 (pv 0)) (tab_ok (tabs_cons (mok_of (ok_Journal_write T) (hr.mono (by decide)) T.cl_Journal T.m_Journal_write) tabs_nil)) (a_cons (x_op op_addD calm_addD (x_op op_addD calm_addD (x_fn tk (ok_code_number T) (hr.mono (by decide)) rfl T.g_code_number (a_cons x_int a_nil)) (x_fn tk (ok_code_number T) (hr.mono (by decide)) rfl T.g_code_number (a_cons (x_var 1 (pv 1)) a_nil))) (x_fn tk (ok_code_line T) (hr.mono (by decide)) rfl T.g_code_line (a_cons (x_var 2 (pv 2)) a_nil))) a_nil)))))
  exact h
theorem sc_Journal_take_base : FnScope N_Journal_take_base ["self", "index", "term", "line"] (defScope s_Journal_take_base) := ⟨rfl, rfl, rfl, by decide +kernel, rfl, by decide +kernel, by decide +kernel⟩
def m_Journal_take_base : SM :=
  exprS (methE [("Journal", F_Journal_write)] "write" (varE 0) (consE (opE addD (opE addD (opE addD (apE F_code_number (consE (cE (.int 4)) (nilE))) (apE F_code_number (consE (varE 1) (nilE)))) (apE F_code_number (consE (varE 2) (nilE)))) (apE F_code_line (consE (varE 3) (nilE)))) (nilE)))
def F_Journal_take_base : HF := defF 4 4 m_Journal_take_base
theorem ok_Journal_take_base (T : Tx K mg) : COk P w K mg base 7 4 ("Journal", some "take_base") F_Journal_take_base := by
  obtain ⟨fd, F⟩ := T.d_Journal_take_base
  have h := def_mk (P := P) (w := w) (mg := mg) (base := base) (k := 6) (at_ := ("Journal", some "take_base")) (m := m_Journal_take_base) F (F.bindsN (ps := ["self", "index", "term", "line"]) fun _ _ _ _ _ _ us hl => match us, hl with | [_, _, _, _], _ => rfl) sc_Journal_take_base (fun cdv A outer s H E hr tk pa => by
    exact (ss_one (s_expr (x_meth tk (x_var 0 (pv 0)) (tab_ok (tabs_cons (mok_of (ok_Journal_write T) (hr.mono (by decide)) T.cl_Journal T.m_Journal_write) tabs_nil)) (a_cons (x_op op_addD calm_addD (x_op op_addD calm_addD (x_op op_addD calm_addD (x_fn tk (ok_code_number T) (hr.mono (by decide)) rfl T.g_code_number (a_cons x_int a_nil)) (x_fn tk (ok_code_number T) (hr.mono (by decide)) rfl T.g_code_number (a_cons (x_var 1 (pv 1)) a_nil))) (x_fn tk (ok_code_number T) (hr.mono (by decide)) rfl T.g_code_number (a_cons (x_var 2 (pv 2)) a_nil))) (x_fn tk (ok_code_line T) (hr.mono (by decide)) rfl T.g_code_line (a_cons (x_var 3 (pv 3)) a_nil))) a_nil)))))
  exact h
theorem sc_Disk_keep_log : FnScope N_Disk_keep_log ["self", "many"] (defScope s_Disk_keep_log) := ⟨rfl, rfl, rfl, by decide +kernel, rfl, by decide +kernel, by decide +kernel⟩
def m_Disk_keep_log : SM :=
  seqS (exprS (apdE (fldE ["Disk"] "done" (varE 0)) (tupE (consE (cE (.str "keep")) (consE (varE 1) (nilE))))))
  (asgS (slE (fldE ["Disk"] "logged" (varE 0)) (noneE) (optE (varE 1))) (fldT ["Disk"] "logged" 0))
def F_Disk_keep_log : HF := defF 2 2 m_Disk_keep_log
theorem ok_Disk_keep_log (T : Tx K mg) : COk P w K mg base 1 2 ("Disk", some "keep_log") F_Disk_keep_log := by
  obtain ⟨fd, F⟩ := T.d_Disk_keep_log
  have h := def_mk (P := P) (w := w) (mg := mg) (base := base) (k := 0) (at_ := ("Disk", some "keep_log")) (m := m_Disk_keep_log) F (F.bindsN (ps := ["self", "many"]) fun _ _ _ _ _ _ us hl => match us, hl with | [_, _], _ => rfl) sc_Disk_keep_log (fun cdv A outer s H E hr tk pa => by
    exact (ss_cons (s_expr (x_append (x_fld T.f_done (x_var 0 (pv 0))) (x_tup (a_cons x_str (a_cons (x_var 1 (pv 1)) a_nil)))))
  (ss_one (s_asg (x_slice (x_fld T.f_logged (x_var 0 (pv 0))) o_none (o_some (x_var 1 (pv 1)))) (g_fld T.f_logged (pv 0))))))
  exact h
theorem sc_Disk_log : FnScope N_Disk_log ["self"] (defScope s_Disk_log) := ⟨rfl, rfl, rfl, by decide +kernel, rfl, by decide +kernel, by decide +kernel⟩
def m_Disk_log : SM :=
  retS (fldE ["Disk"] "logged" (varE 0))
def F_Disk_log : HF := defF 1 1 m_Disk_log
theorem ok_Disk_log (T : Tx K mg) : COk P w K mg base 1 1 ("Disk", some "log") F_Disk_log := by
  obtain ⟨fd, F⟩ := T.d_Disk_log
  have h := def_mk (P := P) (w := w) (mg := mg) (base := base) (k := 0) (at_ := ("Disk", some "log")) (m := m_Disk_log) F (F.bindsN (ps := ["self"]) fun _ _ _ _ _ _ us hl => match us, hl with | [_], _ => rfl) sc_Disk_log (fun cdv A outer s H E hr tk pa => by
    exact (ss_one (s_ret (x_fld T.f_logged (x_var 0 (pv 0))))))
  exact h
theorem sc_open_journal : FnScope N_open_journal ["disk"] (defScope s_open_journal) := ⟨rfl, rfl, rfl, by decide +kernel, rfl, by decide +kernel, by decide +kernel⟩
def m_open_journal : SM :=
  seqS (asgS (apE (makF "Journal" F_Journalu_initu) (consE (varE 0) (nilE))) (nameT 1))
  (seqS (asgS (apE F_frames_in (consE (methE [("Disk", F_Disk_log)] "log" (varE 0) nilE) (nilE))) (tupT 2 (consT (nameT 2) (consT (nameT 3) (nilT)))))
  (seqS (ifS (boolE (opE ltD (varE 3) (apE lenF (consE (methE [("Disk", F_Disk_log)] "log" (varE 0) nilE) (nilE))))) (exprS (methE [("Disk", F_Disk_keep_log)] "keep_log" (varE 0) (consE (varE 3) (nilE)))) (nxS))
  (seqS (forS (seqE (varE 2)) (nameT 4) (exprS (methE [("Journal", F_Journal_do)] "do" (varE 1) (consE (varE 4) (nilE)))))
  (retS (varE 1)))))
def F_open_journal : HF := defF 5 1 m_open_journal
theorem ok_open_journal (T : Tx K mg) : COk P w K mg base 6 1 ("open_journal", none) F_open_journal := by
  obtain ⟨fd, F⟩ := T.d_open_journal
  have h := def_mk (P := P) (w := w) (mg := mg) (base := base) (k := 5) (at_ := ("open_journal", none)) (m := m_open_journal) F (F.bindsN (ps := ["disk"]) fun _ _ _ _ _ _ us hl => match us, hl with | [_], _ => rfl) sc_open_journal (fun cdv A outer s H E hr tk pa => by
    exact (ss_cons (s_set (i := 1) sc_open_journal.nd rfl (Or.inl rfl) (x_mk T.k_Journal (ok_Journalu_initu T) (hr.mono (by decide)) rfl T.g_Journal (a_cons (x_var 0 (pv 0)) a_nil)))
  (ss_cons (s_asg (x_fn tk (ok_frames_in T) (hr.mono (by decide)) rfl T.g_frames_in (a_cons (x_meth0 tk (x_var 0 (pv 0)) (tab_ok (tabs_cons (mok_of (ok_Disk_log T) (hr.mono (by decide)) T.cl_Disk T.m_Disk_log) tabs_nil))) a_nil)) (g_tup (n := 2) rfl (gs_cons (g_name (pg_name (i := 2) sc_open_journal.nd rfl (Or.inl rfl))) (gs_cons (g_name (pg_name (i := 3) sc_open_journal.nd rfl (Or.inl rfl))) gs_nil))))
  (ss_cons (s_if (t_cmp op_ltD calm_ints2 (x_var 3 (pv 3)) (x_callB cr_len calm_lenF rfl T.b_len (by decide +kernel) (a_cons (x_meth0 tk (x_var 0 (pv 0)) (tab_ok (tabs_cons (mok_of (ok_Disk_log T) (hr.mono (by decide)) T.cl_Disk T.m_Disk_log) tabs_nil))) a_nil)) (nomark _)) (ss_one (s_expr (x_meth tk (x_var 0 (pv 0)) (tab_ok (tabs_cons (mok_of (ok_Disk_keep_log T) (hr.mono (by decide)) T.cl_Disk T.m_Disk_keep_log) tabs_nil)) (a_cons (x_var 3 (pv 3)) a_nil)))) ss_nil)
  (ss_cons (s_for pa rfl (i_seq (x_var 2 (pv 2))) (g_name (pg_name (i := 4) sc_open_journal.nd rfl (Or.inl rfl))) (ss_one (s_expr (x_meth tk (x_var 1 (pv 1)) (tab_ok (tabs_cons (mok_of (ok_Journal_do T) (hr.mono (by decide)) T.cl_Journal T.m_Journal_do) tabs_nil)) (a_cons (x_var 4 (pv 4)) a_nil)))))
  (ss_one (s_ret (x_var 1 (pv 1)))))))))
  exact h
theorem sc_Disku_initu : FnScope N_Disku_initu ["self"] (defScope s_Disku_initu) := ⟨rfl, rfl, rfl, by decide +kernel, rfl, by decide +kernel, by decide +kernel⟩
def m_Disku_initu : SM :=
  seqS (asgS (dnewE) (fldT ["Disk"] "lines" 0))
  (seqS (asgS (tupE (nilE)) (fldT ["Disk"] "logged" 0))
  (seqS (asgS (lstE (consE (tupE (nilE)) (consE (tupE (nilE)) (nilE)))) (fldT ["Disk"] "roots" 0))
  (asgS (lstE (nilE)) (fldT ["Disk"] "done" 0))))
def F_Disku_initu : HF := defF 1 1 m_Disku_initu
theorem ok_Disku_initu (T : Tx K mg) : COk P w K mg base 1 1 ("Disk", some "__init__") F_Disku_initu := by
  obtain ⟨fd, F⟩ := T.d_Disku_initu
  have h := def_mk (P := P) (w := w) (mg := mg) (base := base) (k := 0) (at_ := ("Disk", some "__init__")) (m := m_Disku_initu) F (F.bindsN (ps := ["self"]) fun _ _ _ _ _ _ us hl => match us, hl with | [_], _ => rfl) sc_Disku_initu (fun cdv A outer s H E hr tk pa => by
    exact (ss_cons (s_asg x_dnew (g_fld T.f_lines (pv 0)))
  (ss_cons (s_asg (x_tup a_nil) (g_fld T.f_logged (pv 0)))
  (ss_cons (s_asg (x_lst (a_cons (x_tup a_nil) (a_cons (x_tup a_nil) a_nil))) (g_fld T.f_roots (pv 0)))
  (ss_one (s_asg (x_lst a_nil) (g_fld T.f_done (pv 0))))))))
  exact h
theorem sc_Disk_write : FnScope N_Disk_write ["self", "page", "line"] (defScope s_Disk_write) := ⟨rfl, rfl, rfl, by decide +kernel, rfl, by decide +kernel, by decide +kernel⟩
def m_Disk_write : SM :=
  seqS (exprS (apdE (fldE ["Disk"] "done" (varE 0)) (tupE (consE (cE (.str "page")) (consE (varE 1) (consE (varE 2) (nilE)))))))
  (subS (varE 2) (fldE ["Disk"] "lines" (varE 0)) (varE 1))
def F_Disk_write : HF := defF 3 3 m_Disk_write
theorem ok_Disk_write (T : Tx K mg) : COk P w K mg base 1 3 ("Disk", some "write") F_Disk_write := by
  obtain ⟨fd, F⟩ := T.d_Disk_write
  have h := def_mk (P := P) (w := w) (mg := mg) (base := base) (k := 0) (at_ := ("Disk", some "write")) (m := m_Disk_write) F (F.bindsN (ps := ["self", "page", "line"]) fun _ _ _ _ _ _ us hl => match us, hl with | [_, _, _], _ => rfl) sc_Disk_write (fun cdv A outer s H E hr tk pa => by
    exact (ss_cons (s_expr (x_append (x_fld T.f_done (x_var 0 (pv 0))) (x_tup (a_cons x_str (a_cons (x_var 1 (pv 1)) (a_cons (x_var 2 (pv 2)) a_nil))))))
  (ss_one (s_sub (hu_of hr) (x_var 2 (pv 2)) (x_fld T.f_lines (x_var 0 (pv 0))) (x_var 1 (pv 1))))))
  exact h
theorem sc_Disk_free : FnScope N_Disk_free ["self", "pages"] (defScope s_Disk_free) := ⟨rfl, rfl, rfl, by decide +kernel, rfl, by decide +kernel, by decide +kernel⟩
def m_Disk_free : SM :=
  seqS (exprS (apdE (fldE ["Disk"] "done" (varE 0)) (tupE (consE (cE (.str "free")) (consE (varE 1) (nilE))))))
  (forS (seqE (varE 1)) (nameT 2) (noS))
def F_Disk_free : HF := defF 3 2 m_Disk_free
theorem ok_Disk_free (T : Tx K mg) : COk P w K mg base 1 2 ("Disk", some "free") F_Disk_free := by
  obtain ⟨fd, F⟩ := T.d_Disk_free
  have h := def_mk (P := P) (w := w) (mg := mg) (base := base) (k := 0) (at_ := ("Disk", some "free")) (m := m_Disk_free) F (F.bindsN (ps := ["self", "pages"]) fun _ _ _ _ _ _ us hl => match us, hl with | [_, _], _ => rfl) sc_Disk_free (fun cdv A outer s H E hr tk pa => by
    exact (ss_cons (s_expr (x_append (x_fld T.f_done (x_var 0 (pv 0))) (x_tup (a_cons x_str (a_cons (x_var 1 (pv 1)) a_nil)))))
  (ss_one (s_for pa rfl (i_seq (x_var 1 (pv 1))) (g_name (pg_name (i := 2) sc_Disk_free.nd rfl (Or.inl rfl))) (ss_one s_never)))))
  exact h
theorem sc_Disk_set_root : FnScope N_Disk_set_root ["self", "slot", "line"] (defScope s_Disk_set_root) := ⟨rfl, rfl, rfl, by decide +kernel, rfl, by decide +kernel, by decide +kernel⟩
def m_Disk_set_root : SM :=
  seqS (exprS (apdE (fldE ["Disk"] "done" (varE 0)) (tupE (consE (cE (.str "root")) (consE (varE 1) (consE (varE 2) (nilE)))))))
  (subS (varE 2) (fldE ["Disk"] "roots" (varE 0)) (varE 1))
def F_Disk_set_root : HF := defF 3 3 m_Disk_set_root
theorem ok_Disk_set_root (T : Tx K mg) : COk P w K mg base 1 3 ("Disk", some "set_root") F_Disk_set_root := by
  obtain ⟨fd, F⟩ := T.d_Disk_set_root
  have h := def_mk (P := P) (w := w) (mg := mg) (base := base) (k := 0) (at_ := ("Disk", some "set_root")) (m := m_Disk_set_root) F (F.bindsN (ps := ["self", "slot", "line"]) fun _ _ _ _ _ _ us hl => match us, hl with | [_, _, _], _ => rfl) sc_Disk_set_root (fun cdv A outer s H E hr tk pa => by
    exact (ss_cons (s_expr (x_append (x_fld T.f_done (x_var 0 (pv 0))) (x_tup (a_cons x_str (a_cons (x_var 1 (pv 1)) (a_cons (x_var 2 (pv 2)) a_nil))))))
  (ss_one (s_sub (hu_of hr) (x_var 2 (pv 2)) (x_fld T.f_roots (x_var 0 (pv 0))) (x_var 1 (pv 1))))))
  exact h
theorem sc_Disk_deeds : FnScope N_Disk_deeds ["self"] (defScope s_Disk_deeds) := ⟨rfl, rfl, rfl, by decide +kernel, rfl, by decide +kernel, by decide +kernel⟩
def m_Disk_deeds : SM :=
  retS (apE tupF (consE (fldE ["Disk"] "done" (varE 0)) (nilE)))
def F_Disk_deeds : HF := defF 1 1 m_Disk_deeds
theorem ok_Disk_deeds (T : Tx K mg) : COk P w K mg base 1 1 ("Disk", some "deeds") F_Disk_deeds := by
  obtain ⟨fd, F⟩ := T.d_Disk_deeds
  have h := def_mk (P := P) (w := w) (mg := mg) (base := base) (k := 0) (at_ := ("Disk", some "deeds")) (m := m_Disk_deeds) F (F.bindsN (ps := ["self"]) fun _ _ _ _ _ _ us hl => match us, hl with | [_], _ => rfl) sc_Disk_deeds (fun cdv A outer s H E hr tk pa => by
    exact (ss_one (s_ret (x_callTy cr_tup calm_tupF rfl T.b_tuple (by decide +kernel) (a_cons (x_fld T.f_done (x_var 0 (pv 0))) a_nil)))))
  exact h
theorem sc_Disk_do : FnScope N_Disk_do ["self", "deed"] (defScope s_Disk_do) := ⟨rfl, rfl, rfl, by decide +kernel, rfl, by decide +kernel, by decide +kernel⟩
def m_Disk_do : SM :=
  ifS (boolE (opE eqD (opE ixD (varE 1) (cE (.int 0))) (cE (.str "page")))) (exprS (methE [("Disk", F_Disk_write)] "write" (varE 0) (consE (opE ixD (varE 1) (cE (.int 1))) (consE (opE ixD (varE 1) (cE (.int 2))) (nilE))))) (ifS (boolE (opE eqD (opE ixD (varE 1) (cE (.int 0))) (cE (.str "log")))) (exprS (methE [("Disk", F_Disk_append)] "append" (varE 0) (consE (opE ixD (varE 1) (cE (.int 1))) (nilE)))) (ifS (boolE (opE eqD (opE ixD (varE 1) (cE (.int 0))) (cE (.str "root")))) (exprS (methE [("Disk", F_Disk_set_root)] "set_root" (varE 0) (consE (opE ixD (varE 1) (cE (.int 1))) (consE (opE ixD (varE 1) (cE (.int 2))) (nilE))))) (ifS (boolE (opE eqD (opE ixD (varE 1) (cE (.int 0))) (cE (.str "keep")))) (exprS (methE [("Disk", F_Disk_keep_log)] "keep_log" (varE 0) (consE (opE ixD (varE 1) (cE (.int 1))) (nilE)))) (exprS (methE [("Disk", F_Disk_free)] "free" (varE 0) (consE (opE ixD (varE 1) (cE (.int 1))) (nilE)))))))
def F_Disk_do : HF := defF 2 2 m_Disk_do
theorem ok_Disk_do (T : Tx K mg) : COk P w K mg base 2 2 ("Disk", some "do") F_Disk_do := by
  obtain ⟨fd, F⟩ := T.d_Disk_do
  have h := def_mk (P := P) (w := w) (mg := mg) (base := base) (k := 1) (at_ := ("Disk", some "do")) (m := m_Disk_do) F (F.bindsN (ps := ["self", "deed"]) fun _ _ _ _ _ _ us hl => match us, hl with | [_, _], _ => rfl) sc_Disk_do (fun cdv A outer s H E hr tk pa => by
    exact (ss_one (s_if (t_cmp (op_eqE hr.units) calm_eqD (x_ix (hu_of hr) (x_var 1 (pv 1)) x_int) x_str (nomark _)) (ss_one (s_expr (x_meth tk (x_var 0 (pv 0)) (tab_ok (tabs_cons (mok_of (ok_Disk_write T) (hr.mono (by decide)) T.cl_Disk T.m_Disk_write) tabs_nil)) (a_cons (x_ix (hu_of hr) (x_var 1 (pv 1)) x_int) (a_cons (x_ix (hu_of hr) (x_var 1 (pv 1)) x_int) a_nil))))) (ss_one (s_if (t_cmp (op_eqE hr.units) calm_eqD (x_ix (hu_of hr) (x_var 1 (pv 1)) x_int) x_str (nomark _)) (ss_one (s_expr (x_meth tk (x_var 0 (pv 0)) (tab_ok (tabs_cons (mok_of (ok_Disk_append T) (hr.mono (by decide)) T.cl_Disk T.m_Disk_append) tabs_nil)) (a_cons (x_ix (hu_of hr) (x_var 1 (pv 1)) x_int) a_nil)))) (ss_one (s_if (t_cmp (op_eqE hr.units) calm_eqD (x_ix (hu_of hr) (x_var 1 (pv 1)) x_int) x_str (nomark _)) (ss_one (s_expr (x_meth tk (x_var 0 (pv 0)) (tab_ok (tabs_cons (mok_of (ok_Disk_set_root T) (hr.mono (by decide)) T.cl_Disk T.m_Disk_set_root) tabs_nil)) (a_cons (x_ix (hu_of hr) (x_var 1 (pv 1)) x_int) (a_cons (x_ix (hu_of hr) (x_var 1 (pv 1)) x_int) a_nil))))) (ss_one (s_if (t_cmp (op_eqE hr.units) calm_eqD (x_ix (hu_of hr) (x_var 1 (pv 1)) x_int) x_str (nomark _)) (ss_one (s_expr (x_meth tk (x_var 0 (pv 0)) (tab_ok (tabs_cons (mok_of (ok_Disk_keep_log T) (hr.mono (by decide)) T.cl_Disk T.m_Disk_keep_log) tabs_nil)) (a_cons (x_ix (hu_of hr) (x_var 1 (pv 1)) x_int) a_nil)))) (ss_one (s_expr (x_meth tk (x_var 0 (pv 0)) (tab_ok (tabs_cons (mok_of (ok_Disk_free T) (hr.mono (by decide)) T.cl_Disk T.m_Disk_free) tabs_nil)) (a_cons (x_ix (hu_of hr) (x_var 1 (pv 1)) x_int) a_nil)))))))))))))
  exact h
theorem sc_fallen : FnScope N_fallen ["deeds", "many", "signs"] (defScope s_fallen) := ⟨rfl, rfl, rfl, by decide +kernel, rfl, by decide +kernel, by decide +kernel⟩
def m_fallen : SM :=
  seqS (asgS (apE (makF "Disk" F_Disku_initu) nilE) (nameT 3))
  (seqS (forS (seqE (slE (varE 0) (noneE) (optE (varE 1)))) (nameT 4) (exprS (methE [("Disk", F_Disk_do)] "do" (varE 3) (consE (varE 4) (nilE)))))
  (seqS (forS (seqE (slE (varE 0) (optE (varE 1)) (optE (opE addD (varE 1) (cE (.int 1)))))) (nameT 4) (ifS (boolE (opE eqD (opE ixD (varE 4) (cE (.int 0))) (cE (.str "log")))) (exprS (methE [("Disk", F_Disk_append)] "append" (varE 3) (consE (slE (opE ixD (varE 4) (cE (.int 1))) (noneE) (optE (varE 2))) (nilE)))) (ifS (andB (boolE (opE eqD (opE ixD (varE 4) (cE (.int 0))) (cE (.str "root")))) (boolE (opE gtD (varE 2) (cE (.int 0))))) (exprS (methE [("Disk", F_Disk_set_root)] "set_root" (varE 3) (consE (opE ixD (varE 4) (cE (.int 1))) (consE (tupE (consE (cE (.int 255)) (nilE))) (nilE))))) (nxS))))
  (retS (varE 3))))
def F_fallen : HF := defF 5 3 m_fallen
theorem ok_fallen (T : Tx K mg) : COk P w K mg base 3 3 ("fallen", none) F_fallen := by
  obtain ⟨fd, F⟩ := T.d_fallen
  have h := def_mk (P := P) (w := w) (mg := mg) (base := base) (k := 2) (at_ := ("fallen", none)) (m := m_fallen) F (F.bindsN (ps := ["deeds", "many", "signs"]) fun _ _ _ _ _ _ us hl => match us, hl with | [_, _, _], _ => rfl) sc_fallen (fun cdv A outer s H E hr tk pa => by
    exact (ss_cons (s_set (i := 3) sc_fallen.nd rfl (Or.inl rfl) (x_mk0 T.k_Disk (ok_Disku_initu T) (hr.mono (by decide)) rfl T.g_Disk))
  (ss_cons (s_for pa rfl (i_seq (x_slice (x_var 0 (pv 0)) o_none (o_some (x_var 1 (pv 1))))) (g_name (pg_name (i := 4) sc_fallen.nd rfl (Or.inl rfl))) (ss_one (s_expr (x_meth tk (x_var 3 (pv 3)) (tab_ok (tabs_cons (mok_of (ok_Disk_do T) (hr.mono (by decide)) T.cl_Disk T.m_Disk_do) tabs_nil)) (a_cons (x_var 4 (pv 4)) a_nil)))))
  (ss_cons (s_for pa rfl (i_seq (x_slice (x_var 0 (pv 0)) (o_some (x_var 1 (pv 1))) (o_some (x_op op_addD calm_addD (x_var 1 (pv 1)) x_int)))) (g_name (pg_name (i := 4) sc_fallen.nd rfl (Or.inl rfl))) (ss_one (s_if (t_cmp (op_eqE hr.units) calm_eqD (x_ix (hu_of hr) (x_var 4 (pv 4)) x_int) x_str (nomark _)) (ss_one (s_expr (x_meth tk (x_var 3 (pv 3)) (tab_ok (tabs_cons (mok_of (ok_Disk_append T) (hr.mono (by decide)) T.cl_Disk T.m_Disk_append) tabs_nil)) (a_cons (x_slice (x_ix (hu_of hr) (x_var 4 (pv 4)) x_int) o_none (o_some (x_var 2 (pv 2)))) a_nil)))) (ss_one (s_if (PW.pt (w_and (t_cmp (op_eqE hr.units) calm_eqD (x_ix (hu_of hr) (x_var 4 (pv 4)) x_int) x_str (nomark _)) (pw_and1 (t_cmp op_gtD calm_ints2 (x_var 2 (pv 2)) x_int (nomark _))))) (ss_one (s_expr (x_meth tk (x_var 3 (pv 3)) (tab_ok (tabs_cons (mok_of (ok_Disk_set_root T) (hr.mono (by decide)) T.cl_Disk T.m_Disk_set_root) tabs_nil)) (a_cons (x_ix (hu_of hr) (x_var 4 (pv 4)) x_int) (a_cons (x_tup (a_cons x_int a_nil)) a_nil))))) ss_nil)))))
  (ss_one (s_ret (x_var 3 (pv 3))))))))
  exact h
theorem sc__law_draws : FnScope N__law_draws ["script", "many"] (defScope s__law_draws) := ⟨rfl, rfl, rfl, by decide +kernel, rfl, by decide +kernel, by decide +kernel⟩
def m__law_draws : SM :=
  seqS (asgS (lstE (nilE)) (nameT 2))
  (seqS (asgS (cE (.int 7)) (nameT 3))
  (seqS (forS (rngE1 (consE (apE lenF (consE (varE 0) (nilE))) (nilE))) (nameT 4) (seqS (asgS (apE absF (consE (apE intF (consE (opE ixD (varE 0) (varE 4)) (nilE))) (nilE))) (nameT 5))
  (seqS (asgS (opE modD (apE intF (consE (opE addD (opE addD (opE mulD (varE 3) (cE (.int 48271))) (opE modD (varE 5) (cE (.int 1000003)))) (varE 4)) (nilE))) (cE (.int 65537))) (nameT 3))
  (seqS (asgS (cE (.int 0)) (nameT 6))
  (seqS (ifS (boolE (opE geD (varE 5) (opE powD (cE (.int 10)) (cE (.int 18))))) (asgS (varE 5) (nameT 6)) (seqS (exprS (apdE (varE 2) (opE modD (apE intF (consE (varE 5) (nilE))) (cE (.int 997)))))
  (exprS (apdE (varE 2) (opE modD (opE modD (apE intF (consE (opE addD (opE mulD (varE 3) (cE (.int 69621))) (cE (.int 5))) (nilE))) (cE (.int 65521))) (cE (.int 997)))))))
  (forS (rngE1 (consE (cE (.int 60)) (nilE))) (nameT 7) (ifS (boolE (opE gtD (varE 6) (cE (.int 0)))) (seqS (exprS (apdE (varE 2) (opE modD (apE intF (consE (varE 6) (nilE))) (cE (.int 997)))))
  (asgS (opE fdivD (varE 6) (cE (.int 997))) (nameT 6))) (nxS))))))))
  (seqS (forS (rngE1 (consE (varE 1) (nilE))) (nameT 4) (seqS (asgS (opE modD (apE intF (consE (opE addD (opE addD (opE mulD (varE 3) (cE (.int 16807))) (varE 4)) (cE (.int 1))) (nilE))) (cE (.int 65537))) (nameT 3))
  (exprS (apdE (varE 2) (opE modD (apE intF (consE (varE 3) (nilE))) (cE (.int 997)))))))
  (retS (slE (varE 2) (noneE) (optE (varE 1)))))))
def F__law_draws : HF := defF 8 2 m__law_draws
theorem ok__law_draws (T : Tx K mg) : COk P w K mg base 1 2 ("_law_draws", none) F__law_draws := by
  obtain ⟨fd, F⟩ := T.d__law_draws
  have h := def_mk (P := P) (w := w) (mg := mg) (base := base) (k := 0) (at_ := ("_law_draws", none)) (m := m__law_draws) F (F.bindsN (ps := ["script", "many"]) fun _ _ _ _ _ _ us hl => match us, hl with | [_, _], _ => rfl) sc__law_draws (fun cdv A outer s H E hr tk pa => by
    exact (ss_cons (s_set (i := 2) sc__law_draws.nd rfl (Or.inl rfl) (x_lst a_nil))
  (ss_cons (s_set (i := 3) sc__law_draws.nd rfl (Or.inl rfl) x_int)
  (ss_cons (s_for pa rfl (i_range1 rfl T.b_range (a_cons (x_callB cr_len calm_lenF rfl T.b_len (by decide +kernel) (a_cons (x_var 0 (pv 0)) a_nil)) a_nil)) (g_name (pg_name (i := 4) sc__law_draws.nd rfl (Or.inl rfl))) (ss_cons (s_set (i := 5) sc__law_draws.nd rfl (Or.inl rfl) (x_callB cr_abs calm_absF rfl T.b_abs (by decide +kernel) (a_cons (x_callTy cr_int calm_intF rfl T.b_int (by decide +kernel) (a_cons (x_ix (hu_of hr) (x_var 0 (pv 0)) (x_var 4 (pv 4))) a_nil)) a_nil)))
  (ss_cons (s_set (i := 3) sc__law_draws.nd rfl (Or.inl rfl) (x_op op_modD calm_ints2 (x_callTy cr_int calm_intF rfl T.b_int (by decide +kernel) (a_cons (x_op op_addD calm_addD (x_op op_addD calm_addD (x_op op_mulD calm_ints2 (x_var 3 (pv 3)) x_int) (x_op op_modD calm_ints2 (x_var 5 (pv 5)) x_int)) (x_var 4 (pv 4))) a_nil)) x_int))
  (ss_cons (s_set (i := 6) sc__law_draws.nd rfl (Or.inl rfl) x_int)
  (ss_cons (s_if (t_cmp op_geD calm_ints2 (x_var 5 (pv 5)) (x_op op_powD calm_ints2 x_int x_int) (nomark _)) (ss_one (s_set (i := 6) sc__law_draws.nd rfl (Or.inl rfl) (x_var 5 (pv 5)))) (ss_cons (s_expr (x_append (x_var 2 (pv 2)) (x_op op_modD calm_ints2 (x_callTy cr_int calm_intF rfl T.b_int (by decide +kernel) (a_cons (x_var 5 (pv 5)) a_nil)) x_int)))
  (ss_one (s_expr (x_append (x_var 2 (pv 2)) (x_op op_modD calm_ints2 (x_op op_modD calm_ints2 (x_callTy cr_int calm_intF rfl T.b_int (by decide +kernel) (a_cons (x_op op_addD calm_addD (x_op op_mulD calm_ints2 (x_var 3 (pv 3)) x_int) x_int) a_nil)) x_int) x_int))))))
  (ss_one (s_for pa rfl (i_range1 rfl T.b_range (a_cons x_int a_nil)) (g_name (pg_name (i := 7) sc__law_draws.nd rfl (Or.inl rfl))) (ss_one (s_if (t_cmp op_gtD calm_ints2 (x_var 6 (pv 6)) x_int (nomark _)) (ss_cons (s_expr (x_append (x_var 2 (pv 2)) (x_op op_modD calm_ints2 (x_callTy cr_int calm_intF rfl T.b_int (by decide +kernel) (a_cons (x_var 6 (pv 6)) a_nil)) x_int)))
  (ss_one (s_set (i := 6) sc__law_draws.nd rfl (Or.inl rfl) (x_op op_fdivD calm_ints2 (x_var 6 (pv 6)) x_int)))) ss_nil)))))))))
  (ss_cons (s_for pa rfl (i_range1 rfl T.b_range (a_cons (x_var 1 (pv 1)) a_nil)) (g_name (pg_name (i := 4) sc__law_draws.nd rfl (Or.inl rfl))) (ss_cons (s_set (i := 3) sc__law_draws.nd rfl (Or.inl rfl) (x_op op_modD calm_ints2 (x_callTy cr_int calm_intF rfl T.b_int (by decide +kernel) (a_cons (x_op op_addD calm_addD (x_op op_addD calm_addD (x_op op_mulD calm_ints2 (x_var 3 (pv 3)) x_int) (x_var 4 (pv 4))) x_int) a_nil)) x_int))
  (ss_one (s_expr (x_append (x_var 2 (pv 2)) (x_op op_modD calm_ints2 (x_callTy cr_int calm_intF rfl T.b_int (by decide +kernel) (a_cons (x_var 3 (pv 3)) a_nil)) x_int))))))
  (ss_one (s_ret (x_slice (x_var 2 (pv 2)) o_none (o_some (x_var 1 (pv 1)))))))))))
  exact h
theorem sc__law_next : FnScope N__law_next ["w", "many"] (defScope s__law_next) := ⟨rfl, rfl, rfl, by decide +kernel, rfl, by decide +kernel, by decide +kernel⟩
def m__law_next : SM :=
  seqS (subAugS addI (varE 0) (cE (.str "at")) (cE (.int 1)))
  (seqS (ifS (boolE (opE gtD (opE ixD (varE 0) (cE (.str "at"))) (apE lenF (consE (opE ixD (varE 0) (cE (.str "draws"))) (nilE))))) (retS (cE (.int 0))) (nxS))
  (retS (opE modD (apE intF (consE (opE ixD (opE ixD (varE 0) (cE (.str "draws"))) (opE subD (opE ixD (varE 0) (cE (.str "at"))) (cE (.int 1)))) (nilE))) (varE 1))))
def F__law_next : HF := defF 2 2 m__law_next
theorem ok__law_next (T : Tx K mg) : COk P w K mg base 1 2 ("_law_next", none) F__law_next := by
  obtain ⟨fd, F⟩ := T.d__law_next
  have h := def_mk (P := P) (w := w) (mg := mg) (base := base) (k := 0) (at_ := ("_law_next", none)) (m := m__law_next) F (F.bindsN (ps := ["w", "many"]) fun _ _ _ _ _ _ us hl => match us, hl with | [_, _], _ => rfl) sc__law_next (fun cdv A outer s H E hr tk pa => by
    exact (ss_cons (s_subAug calm_ints2 (hu_of hr) iop_addI (x_var 0 (pv 0)) x_str x_int)
  (ss_cons (s_if (t_cmp op_gtD calm_ints2 (x_ix (hu_of hr) (x_var 0 (pv 0)) x_str) (x_callB cr_len calm_lenF rfl T.b_len (by decide +kernel) (a_cons (x_ix (hu_of hr) (x_var 0 (pv 0)) x_str) a_nil)) (nomark _)) (ss_one (s_ret x_int)) ss_nil)
  (ss_one (s_ret (x_op op_modD calm_ints2 (x_callTy cr_int calm_intF rfl T.b_int (by decide +kernel) (a_cons (x_ix (hu_of hr) (x_ix (hu_of hr) (x_var 0 (pv 0)) x_str) (x_op op_subD calm_ints2 (x_ix (hu_of hr) (x_var 0 (pv 0)) x_str) x_int)) a_nil)) (x_var 1 (pv 1))))))))
  exact h
theorem sc__law_pick : FnScope N__law_pick ["w", "rows"] (defScope s__law_pick) := ⟨rfl, rfl, rfl, by decide +kernel, rfl, by decide +kernel, by decide +kernel⟩
def m__law_pick : SM :=
  retS (opE ixD (varE 1) (apE F__law_next (consE (varE 0) (consE (apE lenF (consE (varE 1) (nilE))) (nilE)))))
def F__law_pick : HF := defF 2 2 m__law_pick
theorem ok__law_pick (T : Tx K mg) : COk P w K mg base 2 2 ("_law_pick", none) F__law_pick := by
  obtain ⟨fd, F⟩ := T.d__law_pick
  have h := def_mk (P := P) (w := w) (mg := mg) (base := base) (k := 1) (at_ := ("_law_pick", none)) (m := m__law_pick) F (F.bindsN (ps := ["w", "rows"]) fun _ _ _ _ _ _ us hl => match us, hl with | [_, _], _ => rfl) sc__law_pick (fun cdv A outer s H E hr tk pa => by
    exact (ss_one (s_ret (x_ix (hu_of hr) (x_var 1 (pv 1)) (x_fn tk (ok__law_next T) (hr.mono (by decide)) rfl T.g__law_next (a_cons (x_var 0 (pv 0)) (a_cons (x_callB cr_len calm_lenF rfl T.b_len (by decide +kernel) (a_cons (x_var 1 (pv 1)) a_nil)) a_nil)))))))
  exact h
theorem sc__law_same : FnScope N__law_same ["seen", "due"] (defScope s__law_same) := ⟨rfl, rfl, rfl, by decide +kernel, rfl, by decide +kernel, by decide +kernel⟩
def m__law_same (rc : HF) : SM :=
  seqS (ifS (truE (isiE "tuple" (varE 1))) (seqS (ifS (orB (notB (truE (isiE "tuple" (varE 0)))) (boolE (opE neD (apE lenF (consE (varE 0) (nilE))) (apE lenF (consE (varE 1) (nilE)))))) (retS (cE (.bl false))) (nxS))
  (retS (opE eqD (lcE (rngE1 (consE (apE lenF (consE (varE 1) (nilE))) (nilE))) [2] (fun d ev => some (ev.set 2 (some d))) (notB (truE (apE rc (consE (opE ixD (varE 0) (varE 2)) (consE (opE ixD (varE 1) (varE 2)) (nilE)))))) (varE 2)) (lstE (nilE))))) (nxS))
  (seqS (ifS (boolE (opE isD (varE 1) (cE (.non)))) (retS (opE isD (varE 0) (cE (.non)))) (nxS))
  (seqS (ifS (truE (isiE "str" (varE 1))) (retS (andV (isiE "str" (varE 0)) (opE eqD (varE 0) (varE 1)))) (nxS))
  (retS (andV (isiE "int" (varE 0)) (andV (opE eqD (isiE "bool" (varE 0)) (isiE "bool" (varE 1))) (opE eqD (varE 0) (varE 1)))))))
def R__law_same : Nat → HF
  | 0 => fun _ _ => .no
  | k + 1 => pureF (defF 3 2 (m__law_same (R__law_same k)))
def F__law_same : HF := R__law_same 8
theorem okr__law_same (T : Tx K mg) : ∀ n, COk P w K mg base (1 + n) 2 ("_law_same", none) (R__law_same n)
  | 0 => by
    obtain ⟨fd, F⟩ := T.d__law_same
    exact COk.never F (F.bindsN (ps := ["seen", "due"]) fun _ _ _ _ _ _ us hl => match us, hl with | [_, _], _ => rfl)
  | n + 1 => by
    obtain ⟨fd, F⟩ := T.d__law_same
    have ih := okr__law_same T n
    have h := def_mk (P := P) (w := w) (mg := mg) (base := base) (k := 1 + n) (at_ := ("_law_same", none)) (m := m__law_same (R__law_same n)) F (F.bindsN (ps := ["seen", "due"]) fun _ _ _ _ _ _ us hl => match us, hl with | [_, _], _ => rfl) sc__law_same (fun cdv A outer s H E hr tk pa => by
      exact (ss_cons (s_if (t_tru (x_isi (T := "tuple") rfl T.b_isinstance rfl T.b_tuple (by decide +kernel) (x_var 1 (pv 1)))) (ss_cons (s_if (PW.pt (w_or (t_not (t_tru (x_isi (T := "tuple") rfl T.b_isinstance rfl T.b_tuple (by decide +kernel) (x_var 0 (pv 0))))) (pw_or1 (t_cmp (op_neE hr.units) calm_neD (x_callB cr_len calm_lenF rfl T.b_len (by decide +kernel) (a_cons (x_var 0 (pv 0)) a_nil)) (x_callB cr_len calm_lenF rfl T.b_len (by decide +kernel) (a_cons (x_var 1 (pv 1)) a_nil)) (nomark _))))) (ss_one (s_ret x_bl)) ss_nil)
  (ss_one (s_ret (x_cmp (op_eqE hr.units) calm_eqD (x_lc (own := [("k", 2)]) (g := gName 2) (tm := (fun d ev => some (ev.set 2 (some d)))) rfl sc__law_same.nd (i_range1 rfl T.b_range (a_cons (x_callB cr_len calm_lenF rfl T.b_len (by decide +kernel) (a_cons (x_var 1 (pv 1)) a_nil)) a_nil)) (blkOk_by (own := [("k", 2)]) (N := N__law_same) (sc := defScope s__law_same) (by decide +kernel)) gc_name (fun _ _ _ _ _ => (pg_name (i := 2) sc__law_same.nd rfl (Or.inl rfl))) (fun _ _ _ _ _ => (f_one (t_not (t_tru (x_fn takes0 ih (hr.mono (by omega)) rfl T.g__law_same (a_cons (x_ix (hu_of hr) (x_var 0 (pv 0)) (x_var 2 (pv 2))) (a_cons (x_ix (hu_of hr) (x_var 1 (pv 1)) (x_var 2 (pv 2))) a_nil))))))) (fun _ _ _ _ _ => (x_var 2 (pv 2)))) (x_lst a_nil) (nomark _))))) ss_nil)
  (ss_cons (s_if (t_cmp op_isE calm_isD (x_var 1 (pv 1)) x_non (nomark _)) (ss_one (s_ret (x_cmp op_isE calm_isD (x_var 0 (pv 0)) x_non (nomark _)))) ss_nil)
  (ss_cons (s_if (t_tru (x_isi (T := "str") rfl T.b_isinstance rfl T.b_str (by decide +kernel) (x_var 1 (pv 1)))) (ss_one (s_ret (x_and (x_isi (T := "str") rfl T.b_isinstance rfl T.b_str (by decide +kernel) (x_var 0 (pv 0))) (x_one (x_cmp (op_eqE hr.units) calm_eqD (x_var 0 (pv 0)) (x_var 1 (pv 1)) (nomark _)))))) ss_nil)
  (ss_one (s_ret (x_and (x_isi (T := "int") rfl T.b_isinstance rfl T.b_int (by decide +kernel) (x_var 0 (pv 0))) (x_and (x_cmp (op_eqE hr.units) calm_eqD (x_isi (T := "bool") rfl T.b_isinstance rfl T.b_bool (by decide +kernel) (x_var 0 (pv 0))) (x_isi (T := "bool") rfl T.b_isinstance rfl T.b_bool (by decide +kernel) (x_var 1 (pv 1))) (nomark _)) (x_one (x_cmp (op_eqE hr.units) calm_eqD (x_var 0 (pv 0)) (x_var 1 (pv 1)) (nomark _)))))))))))
    exact COk.pure h
theorem ok__law_same (T : Tx K mg) : COk P w K mg base 9 2 ("_law_same", none) F__law_same := okr__law_same T 8
theorem sc__law_do : FnScope N__law_do ["j", "deed"] (defScope s__law_do) := ⟨rfl, rfl, rfl, by decide +kernel, rfl, by decide +kernel, by decide +kernel⟩
def m__law_do : SM :=
  seqS (asgS (varE 0) (tupT 4 (consT (nameT 2) (consT (nameT 3) (consT (nameT 4) (consT (nameT 5) (nilT)))))))
  (seqS (ifS (boolE (opE eqD (opE ixD (varE 1) (cE (.int 0))) (cE (.str "term")))) (retS (tupE (consE (opE ixD (varE 1) (cE (.int 1))) (consE (opE ixD (varE 1) (cE (.int 2))) (consE (varE 4) (consE (varE 5) (nilE))))))) (nxS))
  (seqS (ifS (boolE (opE eqD (opE ixD (varE 1) (cE (.int 0))) (cE (.str "add")))) (retS (tupE (consE (varE 2) (consE (varE 3) (consE (varE 4) (consE (opE addD (varE 5) (lstE (consE (slE (varE 1) (optE (cE (.int 1))) (noneE)) (nilE)))) (nilE))))))) (nxS))
  (seqS (ifS (boolE (opE eqD (opE ixD (varE 1) (cE (.int 0))) (cE (.str "cut")))) (retS (tupE (consE (varE 2) (consE (varE 3) (consE (varE 4) (consE (slE (varE 5) (noneE) (optE (opE subD (opE subD (opE ixD (varE 1) (cE (.int 1))) (opE ixD (varE 4) (cE (.int 0)))) (cE (.int 1))))) (nilE))))))) (nxS))
  (seqS (ifS (boolE (opE eqD (opE ixD (varE 1) (cE (.int 0))) (cE (.str "rebase")))) (seqS (asgS (ifE (boolE (opE eqD (opE ixD (varE 1) (cE (.int 1))) (opE ixD (varE 4) (cE (.int 0))))) (opE ixD (varE 4) (cE (.int 1))) (opE ixD (opE ixD (varE 5) (opE subD (opE subD (opE ixD (varE 1) (cE (.int 1))) (opE ixD (varE 4) (cE (.int 0)))) (cE (.int 1)))) (cE (.int 0)))) (nameT 6))
  (retS (tupE (consE (varE 2) (consE (varE 3) (consE (tupE (consE (opE ixD (varE 1) (cE (.int 1))) (consE (varE 6) (consE (opE ixD (varE 1) (cE (.int 2))) (nilE))))) (consE (slE (varE 5) (optE (opE subD (opE ixD (varE 1) (cE (.int 1))) (opE ixD (varE 4) (cE (.int 0))))) (noneE)) (nilE)))))))) (nxS))
  (retS (tupE (consE (varE 2) (consE (varE 3) (consE (slE (varE 1) (optE (cE (.int 1))) (noneE)) (consE (lstE (nilE)) (nilE)))))))))))
def F__law_do : HF := defF 7 2 m__law_do
theorem ok__law_do (T : Tx K mg) : COk P w K mg base 1 2 ("_law_do", none) F__law_do := by
  obtain ⟨fd, F⟩ := T.d__law_do
  have h := def_mk (P := P) (w := w) (mg := mg) (base := base) (k := 0) (at_ := ("_law_do", none)) (m := m__law_do) F (F.bindsN (ps := ["j", "deed"]) fun _ _ _ _ _ _ us hl => match us, hl with | [_, _], _ => rfl) sc__law_do (fun cdv A outer s H E hr tk pa => by
    exact (ss_cons (s_asg (x_var 0 (pv 0)) (g_tup (n := 4) rfl (gs_cons (g_name (pg_name (i := 2) sc__law_do.nd rfl (Or.inl rfl))) (gs_cons (g_name (pg_name (i := 3) sc__law_do.nd rfl (Or.inl rfl))) (gs_cons (g_name (pg_name (i := 4) sc__law_do.nd rfl (Or.inl rfl))) (gs_cons (g_name (pg_name (i := 5) sc__law_do.nd rfl (Or.inl rfl))) gs_nil))))))
  (ss_cons (s_if (t_cmp (op_eqE hr.units) calm_eqD (x_ix (hu_of hr) (x_var 1 (pv 1)) x_int) x_str (nomark _)) (ss_one (s_ret (x_tup (a_cons (x_ix (hu_of hr) (x_var 1 (pv 1)) x_int) (a_cons (x_ix (hu_of hr) (x_var 1 (pv 1)) x_int) (a_cons (x_var 4 (pv 4)) (a_cons (x_var 5 (pv 5)) a_nil))))))) ss_nil)
  (ss_cons (s_if (t_cmp (op_eqE hr.units) calm_eqD (x_ix (hu_of hr) (x_var 1 (pv 1)) x_int) x_str (nomark _)) (ss_one (s_ret (x_tup (a_cons (x_var 2 (pv 2)) (a_cons (x_var 3 (pv 3)) (a_cons (x_var 4 (pv 4)) (a_cons (x_op op_addD calm_addD (x_var 5 (pv 5)) (x_lst (a_cons (x_slice (x_var 1 (pv 1)) (o_some x_int) o_none) a_nil))) a_nil))))))) ss_nil)
  (ss_cons (s_if (t_cmp (op_eqE hr.units) calm_eqD (x_ix (hu_of hr) (x_var 1 (pv 1)) x_int) x_str (nomark _)) (ss_one (s_ret (x_tup (a_cons (x_var 2 (pv 2)) (a_cons (x_var 3 (pv 3)) (a_cons (x_var 4 (pv 4)) (a_cons (x_slice (x_var 5 (pv 5)) o_none (o_some (x_op op_subD calm_ints2 (x_op op_subD calm_ints2 (x_ix (hu_of hr) (x_var 1 (pv 1)) x_int) (x_ix (hu_of hr) (x_var 4 (pv 4)) x_int)) x_int))) a_nil))))))) ss_nil)
  (ss_cons (s_if (t_cmp (op_eqE hr.units) calm_eqD (x_ix (hu_of hr) (x_var 1 (pv 1)) x_int) x_str (nomark _)) (ss_cons (s_set (i := 6) sc__law_do.nd rfl (Or.inl rfl) (x_ifExp (t_cmp (op_eqE hr.units) calm_eqD (x_ix (hu_of hr) (x_var 1 (pv 1)) x_int) (x_ix (hu_of hr) (x_var 4 (pv 4)) x_int) (nomark _)) (x_ix (hu_of hr) (x_var 4 (pv 4)) x_int) (x_ix (hu_of hr) (x_ix (hu_of hr) (x_var 5 (pv 5)) (x_op op_subD calm_ints2 (x_op op_subD calm_ints2 (x_ix (hu_of hr) (x_var 1 (pv 1)) x_int) (x_ix (hu_of hr) (x_var 4 (pv 4)) x_int)) x_int)) x_int)))
  (ss_one (s_ret (x_tup (a_cons (x_var 2 (pv 2)) (a_cons (x_var 3 (pv 3)) (a_cons (x_tup (a_cons (x_ix (hu_of hr) (x_var 1 (pv 1)) x_int) (a_cons (x_var 6 (pv 6)) (a_cons (x_ix (hu_of hr) (x_var 1 (pv 1)) x_int) a_nil)))) (a_cons (x_slice (x_var 5 (pv 5)) (o_some (x_op op_subD calm_ints2 (x_ix (hu_of hr) (x_var 1 (pv 1)) x_int) (x_ix (hu_of hr) (x_var 4 (pv 4)) x_int))) o_none) a_nil)))))))) ss_nil)
  (ss_one (s_ret (x_tup (a_cons (x_var 2 (pv 2)) (a_cons (x_var 3 (pv 3)) (a_cons (x_slice (x_var 1 (pv 1)) (o_some x_int) o_none) (a_cons (x_lst a_nil) a_nil)))))))))))))
  exact h
theorem sc__law_tell : FnScope N__law_tell ["journal", "deed"] (defScope s__law_tell) := ⟨rfl, rfl, rfl, by decide +kernel, rfl, by decide +kernel, by decide +kernel⟩
def m__law_tell : SM :=
  seqS (ifS (boolE (opE eqD (opE ixD (varE 1) (cE (.int 0))) (cE (.str "term")))) (exprS (methE [("Journal", F_Journal_set_term)] "set_term" (varE 0) (consE (opE ixD (varE 1) (cE (.int 1))) (consE (opE ixD (varE 1) (cE (.int 2))) (nilE))))) (ifS (boolE (opE eqD (opE ixD (varE 1) (cE (.int 0))) (cE (.str "add")))) (retS (methE [("Journal", F_Journal_add)] "add" (varE 0) (consE (opE ixD (varE 1) (cE (.int 1))) (consE (opE ixD (varE 1) (cE (.int 2))) (nilE))))) (ifS (boolE (opE eqD (opE ixD (varE 1) (cE (.int 0))) (cE (.str "cut")))) (exprS (methE [("Journal", F_Journal_cut)] "cut" (varE 0) (consE (opE ixD (varE 1) (cE (.int 1))) (nilE)))) (ifS (boolE (opE eqD (opE ixD (varE 1) (cE (.int 0))) (cE (.str "rebase")))) (exprS (methE [("Journal", F_Journal_rebase)] "rebase" (varE 0) (consE (opE ixD (varE 1) (cE (.int 1))) (consE (opE ixD (varE 1) (cE (.int 2))) (nilE))))) (exprS (methE [("Journal", F_Journal_take_base)] "take_base" (varE 0) (consE (opE ixD (varE 1) (cE (.int 1))) (consE (opE ixD (varE 1) (cE (.int 2))) (consE (opE ixD (varE 1) (cE (.int 3))) (nilE))))))))))
  (retS (cE (.non)))
def F__law_tell : HF := defF 2 2 m__law_tell
theorem ok__law_tell (T : Tx K mg) : COk P w K mg base 8 2 ("_law_tell", none) F__law_tell := by
  obtain ⟨fd, F⟩ := T.d__law_tell
  have h := def_mk (P := P) (w := w) (mg := mg) (base := base) (k := 7) (at_ := ("_law_tell", none)) (m := m__law_tell) F (F.bindsN (ps := ["journal", "deed"]) fun _ _ _ _ _ _ us hl => match us, hl with | [_, _], _ => rfl) sc__law_tell (fun cdv A outer s H E hr tk pa => by
    exact (ss_cons (s_if (t_cmp (op_eqE hr.units) calm_eqD (x_ix (hu_of hr) (x_var 1 (pv 1)) x_int) x_str (nomark _)) (ss_one (s_expr (x_meth tk (x_var 0 (pv 0)) (tab_ok (tabs_cons (mok_of (ok_Journal_set_term T) (hr.mono (by decide)) T.cl_Journal T.m_Journal_set_term) tabs_nil)) (a_cons (x_ix (hu_of hr) (x_var 1 (pv 1)) x_int) (a_cons (x_ix (hu_of hr) (x_var 1 (pv 1)) x_int) a_nil))))) (ss_one (s_if (t_cmp (op_eqE hr.units) calm_eqD (x_ix (hu_of hr) (x_var 1 (pv 1)) x_int) x_str (nomark _)) (ss_one (s_ret (x_meth tk (x_var 0 (pv 0)) (tab_ok (tabs_cons (mok_of (ok_Journal_add T) (hr.mono (by decide)) T.cl_Journal T.m_Journal_add) tabs_nil)) (a_cons (x_ix (hu_of hr) (x_var 1 (pv 1)) x_int) (a_cons (x_ix (hu_of hr) (x_var 1 (pv 1)) x_int) a_nil))))) (ss_one (s_if (t_cmp (op_eqE hr.units) calm_eqD (x_ix (hu_of hr) (x_var 1 (pv 1)) x_int) x_str (nomark _)) (ss_one (s_expr (x_meth tk (x_var 0 (pv 0)) (tab_ok (tabs_cons (mok_of (ok_Journal_cut T) (hr.mono (by decide)) T.cl_Journal T.m_Journal_cut) tabs_nil)) (a_cons (x_ix (hu_of hr) (x_var 1 (pv 1)) x_int) a_nil)))) (ss_one (s_if (t_cmp (op_eqE hr.units) calm_eqD (x_ix (hu_of hr) (x_var 1 (pv 1)) x_int) x_str (nomark _)) (ss_one (s_expr (x_meth tk (x_var 0 (pv 0)) (tab_ok (tabs_cons (mok_of (ok_Journal_rebase T) (hr.mono (by decide)) T.cl_Journal T.m_Journal_rebase) tabs_nil)) (a_cons (x_ix (hu_of hr) (x_var 1 (pv 1)) x_int) (a_cons (x_ix (hu_of hr) (x_var 1 (pv 1)) x_int) a_nil))))) (ss_one (s_expr (x_meth tk (x_var 0 (pv 0)) (tab_ok (tabs_cons (mok_of (ok_Journal_take_base T) (hr.mono (by decide)) T.cl_Journal T.m_Journal_take_base) tabs_nil)) (a_cons (x_ix (hu_of hr) (x_var 1 (pv 1)) x_int) (a_cons (x_ix (hu_of hr) (x_var 1 (pv 1)) x_int) (a_cons (x_ix (hu_of hr) (x_var 1 (pv 1)) x_int) a_nil)))))))))))))
  (ss_one (s_ret x_non))))
  exact h
theorem sc__law_is : FnScope N__law_is ["journal", "j"] (defScope s__law_is) := ⟨rfl, rfl, rfl, by decide +kernel, rfl, by decide +kernel, by decide +kernel⟩
def m__law_is : SM :=
  seqS (asgS (varE 1) (tupT 4 (consT (nameT 2) (consT (nameT 3) (consT (nameT 4) (consT (nameT 5) (nilT)))))))
  (seqS (asgS (opE addD (opE ixD (varE 4) (cE (.int 0))) (apE lenF (consE (varE 5) (nilE)))) (nameT 6))
  (seqS (ifS (orB (boolE (opE neD (methE [("Journal", F_Journal_term)] "term" (varE 0) nilE) (varE 2))) (orB (boolE (opE neD (methE [("Journal", F_Journal_vote)] "vote" (varE 0) nilE) (varE 3))) (orB (notB (truE (apE F__law_same (consE (methE [("Journal", F_Journal_base)] "base" (varE 0) nilE) (consE (varE 4) (nilE)))))) (boolE (opE neD (methE [("Journal", F_Journal_last)] "last" (varE 0) nilE) (varE 6)))))) (retS (cE (.bl false))) (nxS))
  (seqS (forS (rngE2 (consE (apE maxF (consE (cE (.int 0)) (consE (opE subD (opE ixD (varE 4) (cE (.int 0))) (cE (.int 2))) (nilE)))) (consE (opE addD (varE 6) (cE (.int 3))) (nilE)))) (nameT 7) (seqS (asgS (ifE (boolE (opE eqD (varE 7) (opE ixD (varE 4) (cE (.int 0))))) (opE ixD (varE 4) (cE (.int 1))) (ifE (boolE (chE ltD leD (opE ixD (varE 4) (cE (.int 0))) (varE 7) (varE 6))) (opE ixD (opE ixD (varE 5) (opE subD (opE subD (varE 7) (opE ixD (varE 4) (cE (.int 0)))) (cE (.int 1)))) (cE (.int 0))) (cE (.non)))) (nameT 8))
  (seqS (ifS (notB (truE (apE F__law_same (consE (methE [("Journal", F_Journal_term_at)] "term_at" (varE 0) (consE (varE 7) (nilE))) (consE (varE 8) (nilE)))))) (retS (cE (.bl false))) (nxS))
  (ifS (andB (boolE (opE gtD (varE 7) (opE ixD (varE 4) (cE (.int 0))))) (notB (truE (apE F__law_same (consE (methE [("Journal", F_Journal_entries_from)] "entries_from" (varE 0) (consE (varE 7) (nilE))) (consE (apE tupF (consE (slE (varE 5) (optE (opE subD (opE subD (varE 7) (opE ixD (varE 4) (cE (.int 0)))) (cE (.int 1)))) (noneE)) (nilE))) (nilE))))))) (retS (cE (.bl false))) (nxS)))))
  (retS (cE (.bl true))))))
def F__law_is : HF := defF 9 2 m__law_is
theorem ok__law_is (T : Tx K mg) : COk P w K mg base 10 2 ("_law_is", none) F__law_is := by
  obtain ⟨fd, F⟩ := T.d__law_is
  have h := def_mk (P := P) (w := w) (mg := mg) (base := base) (k := 9) (at_ := ("_law_is", none)) (m := m__law_is) F (F.bindsN (ps := ["journal", "j"]) fun _ _ _ _ _ _ us hl => match us, hl with | [_, _], _ => rfl) sc__law_is (fun cdv A outer s H E hr tk pa => by
    exact (ss_cons (s_asg (x_var 1 (pv 1)) (g_tup (n := 4) rfl (gs_cons (g_name (pg_name (i := 2) sc__law_is.nd rfl (Or.inl rfl))) (gs_cons (g_name (pg_name (i := 3) sc__law_is.nd rfl (Or.inl rfl))) (gs_cons (g_name (pg_name (i := 4) sc__law_is.nd rfl (Or.inl rfl))) (gs_cons (g_name (pg_name (i := 5) sc__law_is.nd rfl (Or.inl rfl))) gs_nil))))))
  (ss_cons (s_set (i := 6) sc__law_is.nd rfl (Or.inl rfl) (x_op op_addD calm_addD (x_ix (hu_of hr) (x_var 4 (pv 4)) x_int) (x_callB cr_len calm_lenF rfl T.b_len (by decide +kernel) (a_cons (x_var 5 (pv 5)) a_nil))))
  (ss_cons (s_if (PW.pt (w_or (t_cmp (op_neE hr.units) calm_neD (x_meth0 tk (x_var 0 (pv 0)) (tab_ok (tabs_cons (mok_of (ok_Journal_term T) (hr.mono (by decide)) T.cl_Journal T.m_Journal_term) tabs_nil))) (x_var 2 (pv 2)) (nomark _)) (w_or (t_cmp (op_neE hr.units) calm_neD (x_meth0 tk (x_var 0 (pv 0)) (tab_ok (tabs_cons (mok_of (ok_Journal_vote T) (hr.mono (by decide)) T.cl_Journal T.m_Journal_vote) tabs_nil))) (x_var 3 (pv 3)) (nomark _)) (w_or (t_not (t_tru (x_fn tk (ok__law_same T) (hr.mono (by decide)) rfl T.g__law_same (a_cons (x_meth0 tk (x_var 0 (pv 0)) (tab_ok (tabs_cons (mok_of (ok_Journal_base T) (hr.mono (by decide)) T.cl_Journal T.m_Journal_base) tabs_nil))) (a_cons (x_var 4 (pv 4)) a_nil))))) (pw_or1 (t_cmp (op_neE hr.units) calm_neD (x_meth0 tk (x_var 0 (pv 0)) (tab_ok (tabs_cons (mok_of (ok_Journal_last T) (hr.mono (by decide)) T.cl_Journal T.m_Journal_last) tabs_nil))) (x_var 6 (pv 6)) (nomark _))))))) (ss_one (s_ret x_bl)) ss_nil)
  (ss_cons (s_for pa rfl (i_range2 rfl T.b_range (a_cons (x_callB (cr_max2 rfl) calm_maxF rfl T.b_max (by decide +kernel) (a_cons x_int (a_cons (x_op op_subD calm_ints2 (x_ix (hu_of hr) (x_var 4 (pv 4)) x_int) x_int) a_nil))) (a_cons (x_op op_addD calm_addD (x_var 6 (pv 6)) x_int) a_nil))) (g_name (pg_name (i := 7) sc__law_is.nd rfl (Or.inl rfl))) (ss_cons (s_set (i := 8) sc__law_is.nd rfl (Or.inl rfl) (x_ifExp (t_cmp (op_eqE hr.units) calm_eqD (x_var 7 (pv 7)) (x_ix (hu_of hr) (x_var 4 (pv 4)) x_int) (nomark _)) (x_ix (hu_of hr) (x_var 4 (pv 4)) x_int) (x_ifExp (t_chain op_ltD calm_ints2 op_leD calm_ints2 (x_ix (hu_of hr) (x_var 4 (pv 4)) x_int) (x_var 7 (pv 7)) (x_var 6 (pv 6))) (x_ix (hu_of hr) (x_ix (hu_of hr) (x_var 5 (pv 5)) (x_op op_subD calm_ints2 (x_op op_subD calm_ints2 (x_var 7 (pv 7)) (x_ix (hu_of hr) (x_var 4 (pv 4)) x_int)) x_int)) x_int) x_non)))
  (ss_cons (s_if (t_not (t_tru (x_fn tk (ok__law_same T) (hr.mono (by decide)) rfl T.g__law_same (a_cons (x_meth tk (x_var 0 (pv 0)) (tab_ok (tabs_cons (mok_of (ok_Journal_term_at T) (hr.mono (by decide)) T.cl_Journal T.m_Journal_term_at) tabs_nil)) (a_cons (x_var 7 (pv 7)) a_nil)) (a_cons (x_var 8 (pv 8)) a_nil))))) (ss_one (s_ret x_bl)) ss_nil)
  (ss_one (s_if (PW.pt (w_and (t_cmp op_gtD calm_ints2 (x_var 7 (pv 7)) (x_ix (hu_of hr) (x_var 4 (pv 4)) x_int) (nomark _)) (pw_and1 (t_not (t_tru (x_fn tk (ok__law_same T) (hr.mono (by decide)) rfl T.g__law_same (a_cons (x_meth tk (x_var 0 (pv 0)) (tab_ok (tabs_cons (mok_of (ok_Journal_entries_from T) (hr.mono (by decide)) T.cl_Journal T.m_Journal_entries_from) tabs_nil)) (a_cons (x_var 7 (pv 7)) a_nil)) (a_cons (x_callTy cr_tup calm_tupF rfl T.b_tuple (by decide +kernel) (a_cons (x_slice (x_var 5 (pv 5)) (o_some (x_op op_subD calm_ints2 (x_op op_subD calm_ints2 (x_var 7 (pv 7)) (x_ix (hu_of hr) (x_var 4 (pv 4)) x_int)) x_int)) o_none) a_nil)) a_nil)))))))) (ss_one (s_ret x_bl)) ss_nil)))))
  (ss_one (s_ret x_bl)))))))
  exact h
theorem sc__law_deed : FnScope N__law_deed ["w", "j"] (defScope s__law_deed) := ⟨rfl, rfl, rfl, by decide +kernel, rfl, by decide +kernel, by decide +kernel⟩
def m__law_deed : SM :=
  seqS (par2S 2 3 (consE (opE ixD (varE 1) (cE (.int 2))) (consE (opE ixD (varE 1) (cE (.int 3))) (nilE))))
  (seqS (par2S 4 5 (consE (opE addD (opE addD (opE ixD (varE 2) (cE (.int 0))) (cE (.int 1))) (apE F__law_next (consE (varE 0) (consE (opE addD (apE lenF (consE (varE 3) (nilE))) (cE (.int 1))) (nilE))))) (consE (apE tupF (consE (lcE (rngE1 (consE (apE F__law_next (consE (varE 0) (consE (cE (.int 3)) (nilE)))) (nilE))) [7] (fun d ev => some (ev.set 7 (some d))) (yesE) (apE F__law_next (consE (varE 0) (consE (cE (.int 256)) (nilE))))) (nilE))) (nilE))))
  (seqS (asgS (apE F__law_next (consE (varE 0) (consE (cE (.int 9)) (nilE)))) (nameT 6))
  (seqS (ifS (boolE (opE ltD (varE 6) (cE (.int 4)))) (retS (tupE (consE (cE (.str "add")) (consE (apE F__law_next (consE (varE 0) (consE (cE (.int 4)) (nilE)))) (consE (varE 5) (nilE)))))) (nxS))
  (seqS (ifS (boolE (opE ltD (varE 6) (cE (.int 6)))) (retS (tupE (consE (cE (.str "term")) (consE (apE F__law_next (consE (varE 0) (consE (cE (.int 9)) (nilE)))) (consE (apE F__law_pick (consE (varE 0) (consE (lstE (consE (cE (.str "")) (consE (cE (.str "a")) (consE (cE (.str "bob")) (nilE))))) (nilE)))) (nilE)))))) (nxS))
  (seqS (ifS (boolE (opE eqD (varE 6) (cE (.int 6)))) (retS (tupE (consE (cE (.str "cut")) (consE (varE 4) (nilE))))) (nxS))
  (retS (ifE (boolE (opE eqD (varE 6) (cE (.int 7)))) (tupE (consE (cE (.str "rebase")) (consE (apE maxF (consE (opE ixD (varE 2) (cE (.int 0))) (consE (opE subD (varE 4) (cE (.int 1))) (nilE)))) (consE (varE 5) (nilE))))) (tupE (consE (cE (.str "base")) (consE (opE addD (opE ixD (varE 2) (cE (.int 0))) (apE F__law_next (consE (varE 0) (consE (cE (.int 9)) (nilE))))) (consE (apE F__law_next (consE (varE 0) (consE (cE (.int 4)) (nilE)))) (consE (varE 5) (nilE)))))))))))))
def F__law_deed : HF := defF 8 2 m__law_deed
theorem ok__law_deed (T : Tx K mg) : COk P w K mg base 3 2 ("_law_deed", none) F__law_deed := by
  obtain ⟨fd, F⟩ := T.d__law_deed
  have h := def_mk (P := P) (w := w) (mg := mg) (base := base) (k := 2) (at_ := ("_law_deed", none)) (m := m__law_deed) F (F.bindsN (ps := ["w", "j"]) fun _ _ _ _ _ _ us hl => match us, hl with | [_, _], _ => rfl) sc__law_deed (fun cdv A outer s H E hr tk pa => by
    exact (ss_cons (s_par2 (i := 2) (j := 3) rfl sc__law_deed.nd rfl rfl (by decide) rfl rfl (a_cons (x_ix (hu_of hr) (x_var 1 (pv 1)) x_int) (a_cons (x_ix (hu_of hr) (x_var 1 (pv 1)) x_int) a_nil)) rfl)
  (ss_cons (s_par2 (i := 4) (j := 5) rfl sc__law_deed.nd rfl rfl (by decide) rfl rfl (a_cons (x_op op_addD calm_addD (x_op op_addD calm_addD (x_ix (hu_of hr) (x_var 2 (pv 2)) x_int) x_int) (x_fn tk (ok__law_next T) (hr.mono (by decide)) rfl T.g__law_next (a_cons (x_var 0 (pv 0)) (a_cons (x_op op_addD calm_addD (x_callB cr_len calm_lenF rfl T.b_len (by decide +kernel) (a_cons (x_var 3 (pv 3)) a_nil)) x_int) a_nil)))) (a_cons (x_callTy cr_tup calm_tupF rfl T.b_tuple (by decide +kernel) (a_cons (x_lc (own := [("k", 7)]) (g := gName 7) (tm := (fun d ev => some (ev.set 7 (some d)))) rfl sc__law_deed.nd (i_range1 rfl T.b_range (a_cons (x_fn tk (ok__law_next T) (hr.mono (by decide)) rfl T.g__law_next (a_cons (x_var 0 (pv 0)) (a_cons x_int a_nil))) a_nil)) (blkOk_by (own := [("k", 7)]) (N := N__law_deed) (sc := defScope s__law_deed) (by decide +kernel)) gc_name (fun _ _ _ _ _ => (pg_name (i := 7) sc__law_deed.nd rfl (Or.inl rfl))) (fun _ _ _ _ _ => f_nil) (fun _ _ _ _ _ => (x_fn takes0 (ok__law_next T) (hr.mono (by decide)) rfl T.g__law_next (a_cons (x_var 0 (pv 0)) (a_cons x_int a_nil))))) a_nil)) a_nil)) rfl)
  (ss_cons (s_set (i := 6) sc__law_deed.nd rfl (Or.inl rfl) (x_fn tk (ok__law_next T) (hr.mono (by decide)) rfl T.g__law_next (a_cons (x_var 0 (pv 0)) (a_cons x_int a_nil))))
  (ss_cons (s_if (t_cmp op_ltD calm_ints2 (x_var 6 (pv 6)) x_int (nomark _)) (ss_one (s_ret (x_tup (a_cons x_str (a_cons (x_fn tk (ok__law_next T) (hr.mono (by decide)) rfl T.g__law_next (a_cons (x_var 0 (pv 0)) (a_cons x_int a_nil))) (a_cons (x_var 5 (pv 5)) a_nil)))))) ss_nil)
  (ss_cons (s_if (t_cmp op_ltD calm_ints2 (x_var 6 (pv 6)) x_int (nomark _)) (ss_one (s_ret (x_tup (a_cons x_str (a_cons (x_fn tk (ok__law_next T) (hr.mono (by decide)) rfl T.g__law_next (a_cons (x_var 0 (pv 0)) (a_cons x_int a_nil))) (a_cons (x_fn tk (ok__law_pick T) (hr.mono (by decide)) rfl T.g__law_pick (a_cons (x_var 0 (pv 0)) (a_cons (x_lst (a_cons x_str (a_cons x_str (a_cons x_str a_nil)))) a_nil))) a_nil)))))) ss_nil)
  (ss_cons (s_if (t_cmp (op_eqE hr.units) calm_eqD (x_var 6 (pv 6)) x_int (nomark _)) (ss_one (s_ret (x_tup (a_cons x_str (a_cons (x_var 4 (pv 4)) a_nil))))) ss_nil)
  (ss_one (s_ret (x_ifExp (t_cmp (op_eqE hr.units) calm_eqD (x_var 6 (pv 6)) x_int (nomark _)) (x_tup (a_cons x_str (a_cons (x_callB (cr_max2 rfl) calm_maxF rfl T.b_max (by decide +kernel) (a_cons (x_ix (hu_of hr) (x_var 2 (pv 2)) x_int) (a_cons (x_op op_subD calm_ints2 (x_var 4 (pv 4)) x_int) a_nil))) (a_cons (x_var 5 (pv 5)) a_nil)))) (x_tup (a_cons x_str (a_cons (x_op op_addD calm_addD (x_ix (hu_of hr) (x_var 2 (pv 2)) x_int) (x_fn tk (ok__law_next T) (hr.mono (by decide)) rfl T.g__law_next (a_cons (x_var 0 (pv 0)) (a_cons x_int a_nil)))) (a_cons (x_fn tk (ok__law_next T) (hr.mono (by decide)) rfl T.g__law_next (a_cons (x_var 0 (pv 0)) (a_cons x_int a_nil))) (a_cons (x_var 5 (pv 5)) a_nil)))))))))))))))
  exact h
theorem sc_law : FnScope N_law ["script"] (defScope s_law) := ⟨rfl, rfl, rfl, by decide +kernel, rfl, by decide +kernel, by decide +kernel⟩
def m_law : SM :=
  seqS (asgS (dispE (pairsM [(cE (.str "draws"), apE F__law_draws (consE (varE 0) (consE (cE (.int 500)) (nilE)))), (cE (.str "at"), cE (.int 0))])) (nameT 1))
  (seqS (forS (rngE1 (consE (cE (.int 3)) (nilE))) (nameT 2) (seqS (asgS (apE (makF "Disk" F_Disku_initu) nilE) (nameT 3))
  (seqS (par3S 4 5 6 (consE (apE (makF "Journal" F_Journalu_initu) (consE (varE 3) (nilE))) (consE (tupE (consE (cE (.int 0)) (consE (cE (.str "")) (consE (tupE (consE (cE (.int 0)) (consE (cE (.int 0)) (consE (tupE (nilE)) (nilE))))) (consE (lstE (nilE)) (nilE)))))) (consE (lstE (nilE)) (nilE)))))
  (seqS (exprS (apdE (varE 6) (varE 5)))
  (seqS (forS (rngE1 (consE (cE (.int 14)) (nilE))) (nameT 7) (seqS (asgS (apE F__law_deed (consE (varE 1) (consE (varE 5) (nilE)))) (nameT 8))
  (seqS (asgS (apE F__law_do (consE (varE 5) (consE (varE 8) (nilE)))) (nameT 5))
  (seqS (asgS (apE F__law_tell (consE (varE 4) (consE (varE 8) (nilE)))) (nameT 9))
  (seqS (ifS (orB (andB (boolE (opE eqD (opE ixD (varE 8) (cE (.int 0))) (cE (.str "add")))) (boolE (opE neD (varE 9) (opE addD (opE ixD (opE ixD (varE 5) (cE (.int 2))) (cE (.int 0))) (apE lenF (consE (opE ixD (varE 5) (cE (.int 3))) (nilE))))))) (notB (truE (apE F__law_is (consE (varE 4) (consE (varE 5) (nilE))))))) (retS (cE (.bl false))) (nxS))
  (exprS (apdE (varE 6) (varE 5))))))))
  (seqS (asgS (methE [("Disk", F_Disk_deeds)] "deeds" (varE 3) nilE) (nameT 10))
  (seqS (ifS (orB (notB (truE (isiE "tuple" (varE 10)))) (boolE (opE neD (apE lenF (consE (varE 10) (nilE))) (cE (.int 14))))) (retS (cE (.bl false))) (nxS))
  (forS (rngE1 (consE (cE (.int 6)) (nilE))) (nameT 11) (seqS (par2S 12 13 (consE (apE F__law_next (consE (varE 1) (consE (cE (.int 15)) (nilE)))) (consE (apE F__law_pick (consE (varE 1) (consE (lstE (consE (cE (.int 0)) (consE (cE (.int 1)) (consE (cE (.int 5)) (consE (cE (.int 997)) (nilE)))))) (nilE)))) (nilE))))
  (seqS (asgS (ifE (boolE (opE ltD (varE 12) (cE (.int 14)))) (opE addD (varE 12) (apE intF (consE (andV (opE ltD (varE 12) (cE (.int 14))) (opE geD (varE 13) (apE lenF (consE (opE ixD (opE ixD (varE 10) (varE 12)) (cE (.int 1))) (nilE))))) (nilE)))) (cE (.int 14))) (nameT 14))
  (seqS (asgS (apE F_open_journal (consE (apE F_fallen (consE (varE 10) (consE (varE 12) (consE (varE 13) (nilE))))) (nilE))) (nameT 15))
  (seqS (ifS (notB (truE (apE F__law_is (consE (varE 15) (consE (opE ixD (varE 6) (varE 14)) (nilE)))))) (retS (cE (.bl false))) (nxS))
  (seqS (asgS (apE F__law_deed (consE (varE 1) (consE (opE ixD (varE 6) (varE 14)) (nilE)))) (nameT 8))
  (seqS (exprS (apE F__law_tell (consE (varE 15) (consE (varE 8) (nilE)))))
  (ifS (notB (truE (apE F__law_is (consE (varE 15) (consE (apE F__law_do (consE (opE ixD (varE 6) (varE 14)) (consE (varE 8) (nilE)))) (nilE)))))) (retS (cE (.bl false))) (nxS))))))))))))))))
  (retS (cE (.bl true))))
def F_law : HF := defF 16 1 m_law
theorem fn_law (T : Tx K mg) {fd : FuncData} (F : FunD K "law" "law" (defArgs s_law) (defBody s_law) (defScope s_law) [] [] (He.fAd K ("law", none)) fd) : FnOk P w K mg base (L2.CX P w) 11 (He.fAd K ("law", none)) fd ["script"] (spF K 1 F_law) := by
  have h := def_fn (P := P) (w := w) (mg := mg) (base := base) (k := 10) (at_ := ("law", none)) (ps := ["script"]) (m := m_law) F sc_law (fun cdv A outer s H E hr tk pa => by
    exact (ss_cons (s_set (i := 1) sc_law.nd rfl (Or.inl rfl) (x_disp (l := [(cE (.str "draws"), apE F__law_draws (consE (varE 0) (consE (cE (.int 500)) (nilE)))), (cE (.str "at"), cE (.int 0))]) (pps_cons x_str (x_fn tk (ok__law_draws T) (hr.mono (by decide)) rfl T.g__law_draws (a_cons (x_var 0 (pv 0)) (a_cons x_int a_nil))) (pps_cons x_str x_int pps_nil)) rfl rfl (by intro h; cases h) (by decide)))
  (ss_cons (s_for pa rfl (i_range1 rfl T.b_range (a_cons x_int a_nil)) (g_name (pg_name (i := 2) sc_law.nd rfl (Or.inl rfl))) (ss_cons (s_set (i := 3) sc_law.nd rfl (Or.inl rfl) (x_mk0 T.k_Disk (ok_Disku_initu T) (hr.mono (by decide)) rfl T.g_Disk))
  (ss_cons (s_par3 (i := 4) (j := 5) (l := 6) rfl sc_law.nd rfl rfl rfl (by decide) (by decide) (by decide) rfl rfl rfl (a_cons (x_mk T.k_Journal (ok_Journalu_initu T) (hr.mono (by decide)) rfl T.g_Journal (a_cons (x_var 3 (pv 3)) a_nil)) (a_cons (x_tup (a_cons x_int (a_cons x_str (a_cons (x_tup (a_cons x_int (a_cons x_int (a_cons (x_tup a_nil) a_nil)))) (a_cons (x_lst a_nil) a_nil))))) (a_cons (x_lst a_nil) a_nil))) rfl)
  (ss_cons (s_expr (x_append (x_var 6 (pv 6)) (x_var 5 (pv 5))))
  (ss_cons (s_for pa rfl (i_range1 rfl T.b_range (a_cons x_int a_nil)) (g_name (pg_name (i := 7) sc_law.nd rfl (Or.inl rfl))) (ss_cons (s_set (i := 8) sc_law.nd rfl (Or.inl rfl) (x_fn tk (ok__law_deed T) (hr.mono (by decide)) rfl T.g__law_deed (a_cons (x_var 1 (pv 1)) (a_cons (x_var 5 (pv 5)) a_nil))))
  (ss_cons (s_set (i := 5) sc_law.nd rfl (Or.inl rfl) (x_fn tk (ok__law_do T) (hr.mono (by decide)) rfl T.g__law_do (a_cons (x_var 5 (pv 5)) (a_cons (x_var 8 (pv 8)) a_nil))))
  (ss_cons (s_set (i := 9) sc_law.nd rfl (Or.inl rfl) (x_fn tk (ok__law_tell T) (hr.mono (by decide)) rfl T.g__law_tell (a_cons (x_var 4 (pv 4)) (a_cons (x_var 8 (pv 8)) a_nil))))
  (ss_cons (s_if (PW.pt (w_or (PW.pt (w_and (t_cmp (op_eqE hr.units) calm_eqD (x_ix (hu_of hr) (x_var 8 (pv 8)) x_int) x_str (nomark _)) (pw_and1 (t_cmp (op_neE hr.units) calm_neD (x_var 9 (pv 9)) (x_op op_addD calm_addD (x_ix (hu_of hr) (x_ix (hu_of hr) (x_var 5 (pv 5)) x_int) x_int) (x_callB cr_len calm_lenF rfl T.b_len (by decide +kernel) (a_cons (x_ix (hu_of hr) (x_var 5 (pv 5)) x_int) a_nil))) (nomark _))))) (pw_or1 (t_not (t_tru (x_fn tk (ok__law_is T) (hr.mono (by decide)) rfl T.g__law_is (a_cons (x_var 4 (pv 4)) (a_cons (x_var 5 (pv 5)) a_nil)))))))) (ss_one (s_ret x_bl)) ss_nil)
  (ss_one (s_expr (x_append (x_var 6 (pv 6)) (x_var 5 (pv 5))))))))))
  (ss_cons (s_set (i := 10) sc_law.nd rfl (Or.inl rfl) (x_meth0 tk (x_var 3 (pv 3)) (tab_ok (tabs_cons (mok_of (ok_Disk_deeds T) (hr.mono (by decide)) T.cl_Disk T.m_Disk_deeds) tabs_nil))))
  (ss_cons (s_if (PW.pt (w_or (t_not (t_tru (x_isi (T := "tuple") rfl T.b_isinstance rfl T.b_tuple (by decide +kernel) (x_var 10 (pv 10))))) (pw_or1 (t_cmp (op_neE hr.units) calm_neD (x_callB cr_len calm_lenF rfl T.b_len (by decide +kernel) (a_cons (x_var 10 (pv 10)) a_nil)) x_int (nomark _))))) (ss_one (s_ret x_bl)) ss_nil)
  (ss_one (s_for pa rfl (i_range1 rfl T.b_range (a_cons x_int a_nil)) (g_name (pg_name (i := 11) sc_law.nd rfl (Or.inl rfl))) (ss_cons (s_par2 (i := 12) (j := 13) rfl sc_law.nd rfl rfl (by decide) rfl rfl (a_cons (x_fn tk (ok__law_next T) (hr.mono (by decide)) rfl T.g__law_next (a_cons (x_var 1 (pv 1)) (a_cons x_int a_nil))) (a_cons (x_fn tk (ok__law_pick T) (hr.mono (by decide)) rfl T.g__law_pick (a_cons (x_var 1 (pv 1)) (a_cons (x_lst (a_cons x_int (a_cons x_int (a_cons x_int (a_cons x_int a_nil))))) a_nil))) a_nil)) rfl)
  (ss_cons (s_set (i := 14) sc_law.nd rfl (Or.inl rfl) (x_ifExp (t_cmp op_ltD calm_ints2 (x_var 12 (pv 12)) x_int (nomark _)) (x_op op_addD calm_addD (x_var 12 (pv 12)) (x_callTy cr_int calm_intF rfl T.b_int (by decide +kernel) (a_cons (x_and (x_cmp op_ltD calm_ints2 (x_var 12 (pv 12)) x_int (nomark _)) (x_one (x_cmp op_geD calm_ints2 (x_var 13 (pv 13)) (x_callB cr_len calm_lenF rfl T.b_len (by decide +kernel) (a_cons (x_ix (hu_of hr) (x_ix (hu_of hr) (x_var 10 (pv 10)) (x_var 12 (pv 12))) x_int) a_nil)) (nomark _)))) a_nil))) x_int))
  (ss_cons (s_set (i := 15) sc_law.nd rfl (Or.inl rfl) (x_fn tk (ok_open_journal T) (hr.mono (by decide)) rfl T.g_open_journal (a_cons (x_fn tk (ok_fallen T) (hr.mono (by decide)) rfl T.g_fallen (a_cons (x_var 10 (pv 10)) (a_cons (x_var 12 (pv 12)) (a_cons (x_var 13 (pv 13)) a_nil)))) a_nil)))
  (ss_cons (s_if (t_not (t_tru (x_fn tk (ok__law_is T) (hr.mono (by decide)) rfl T.g__law_is (a_cons (x_var 15 (pv 15)) (a_cons (x_ix (hu_of hr) (x_var 6 (pv 6)) (x_var 14 (pv 14))) a_nil))))) (ss_one (s_ret x_bl)) ss_nil)
  (ss_cons (s_set (i := 8) sc_law.nd rfl (Or.inl rfl) (x_fn tk (ok__law_deed T) (hr.mono (by decide)) rfl T.g__law_deed (a_cons (x_var 1 (pv 1)) (a_cons (x_ix (hu_of hr) (x_var 6 (pv 6)) (x_var 14 (pv 14))) a_nil))))
  (ss_cons (s_expr (x_fn tk (ok__law_tell T) (hr.mono (by decide)) rfl T.g__law_tell (a_cons (x_var 15 (pv 15)) (a_cons (x_var 8 (pv 8)) a_nil))))
  (ss_one (s_if (t_not (t_tru (x_fn tk (ok__law_is T) (hr.mono (by decide)) rfl T.g__law_is (a_cons (x_var 15 (pv 15)) (a_cons (x_fn tk (ok__law_do T) (hr.mono (by decide)) rfl T.g__law_do (a_cons (x_ix (hu_of hr) (x_var 6 (pv 6)) (x_var 14 (pv 14))) (a_cons (x_var 8 (pv 8)) a_nil))) a_nil))))) (ss_one (s_ret x_bl)) ss_nil)))))))))))))))))
  (ss_one (s_ret x_bl)))))
  exact h
end
def dd_code_number : He.DefD := ⟨("code_number", none), "code_number", "code_number", defArgs s_code_number, defBody s_code_number, defScope s_code_number, [], []⟩
def dd_read_number : He.DefD := ⟨("read_number", none), "read_number", "read_number", defArgs s_read_number, defBody s_read_number, defScope s_read_number, [], []⟩
def dd_read_many : He.DefD := ⟨("read_many", none), "read_many", "read_many", defArgs s_read_many, defBody s_read_many, defScope s_read_many, [], []⟩
def dd_code_line : He.DefD := ⟨("code_line", none), "code_line", "code_line", defArgs s_code_line, defBody s_code_line, defScope s_code_line, [], []⟩
def dd_read_line : He.DefD := ⟨("read_line", none), "read_line", "read_line", defArgs s_read_line, defBody s_read_line, defScope s_read_line, [], []⟩
def dd_check_of : He.DefD := ⟨("check_of", none), "check_of", "check_of", defArgs s_check_of, defBody s_check_of, defScope s_check_of, [], []⟩
def dd_frame : He.DefD := ⟨("frame", none), "frame", "frame", defArgs s_frame, defBody s_frame, defScope s_frame, [], []⟩
def dd_frame_at : He.DefD := ⟨("frame_at", none), "frame_at", "frame_at", defArgs s_frame_at, defBody s_frame_at, defScope s_frame_at, [], []⟩
def dd_frames_in : He.DefD := ⟨("frames_in", none), "frames_in", "frames_in", defArgs s_frames_in, defBody s_frames_in, defScope s_frames_in, [], []⟩
def dd_code_ascii : He.DefD := ⟨("code_ascii", none), "code_ascii", "code_ascii", defArgs s_code_ascii, defBody s_code_ascii, defScope s_code_ascii, [], []⟩
def dd_read_ascii : He.DefD := ⟨("read_ascii", none), "read_ascii", "read_ascii", defArgs s_read_ascii, defBody s_read_ascii, defScope s_read_ascii, [], []⟩
def dd_Journalu_initu : He.DefD := ⟨("Journal", some "__init__"), "__init__", "Journal.__init__", defArgs s_Journalu_initu, defBody s_Journalu_initu, defScope s_Journalu_initu, [], []⟩
def dd_Journal_term : He.DefD := ⟨("Journal", some "term"), "term", "Journal.term", defArgs s_Journal_term, defBody s_Journal_term, defScope s_Journal_term, [], []⟩
def dd_Journal_vote : He.DefD := ⟨("Journal", some "vote"), "vote", "Journal.vote", defArgs s_Journal_vote, defBody s_Journal_vote, defScope s_Journal_vote, [], []⟩
def dd_Journal_base : He.DefD := ⟨("Journal", some "base"), "base", "Journal.base", defArgs s_Journal_base, defBody s_Journal_base, defScope s_Journal_base, [], []⟩
def dd_Journal_last : He.DefD := ⟨("Journal", some "last"), "last", "Journal.last", defArgs s_Journal_last, defBody s_Journal_last, defScope s_Journal_last, [], []⟩
def dd_Journal_term_at : He.DefD := ⟨("Journal", some "term_at"), "term_at", "Journal.term_at", defArgs s_Journal_term_at, defBody s_Journal_term_at, defScope s_Journal_term_at, [], []⟩
def dd_Journal_entries_from : He.DefD := ⟨("Journal", some "entries_from"), "entries_from", "Journal.entries_from", defArgs s_Journal_entries_from, defBody s_Journal_entries_from, defScope s_Journal_entries_from, [], []⟩
def dd_Disk_append : He.DefD := ⟨("Disk", some "append"), "append", "Disk.append", defArgs s_Disk_append, defBody s_Disk_append, defScope s_Disk_append, [], []⟩
def dd_Journal_do : He.DefD := ⟨("Journal", some "do"), "do", "Journal.do", defArgs s_Journal_do, defBody s_Journal_do, defScope s_Journal_do, [], []⟩
def dd_Journal_write : He.DefD := ⟨("Journal", some "write"), "write", "Journal.write", defArgs s_Journal_write, defBody s_Journal_write, defScope s_Journal_write, [], []⟩
def dd_Journal_set_term : He.DefD := ⟨("Journal", some "set_term"), "set_term", "Journal.set_term", defArgs s_Journal_set_term, defBody s_Journal_set_term, defScope s_Journal_set_term, [], []⟩
def dd_Journal_add : He.DefD := ⟨("Journal", some "add"), "add", "Journal.add", defArgs s_Journal_add, defBody s_Journal_add, defScope s_Journal_add, [], []⟩
def dd_Journal_cut : He.DefD := ⟨("Journal", some "cut"), "cut", "Journal.cut", defArgs s_Journal_cut, defBody s_Journal_cut, defScope s_Journal_cut, [], []⟩
def dd_Journal_rebase : He.DefD := ⟨("Journal", some "rebase"), "rebase", "Journal.rebase", defArgs s_Journal_rebase, defBody s_Journal_rebase, defScope s_Journal_rebase, [], []⟩
def dd_Journal_take_base : He.DefD := ⟨("Journal", some "take_base"), "take_base", "Journal.take_base", defArgs s_Journal_take_base, defBody s_Journal_take_base, defScope s_Journal_take_base, [], []⟩
def dd_Disk_keep_log : He.DefD := ⟨("Disk", some "keep_log"), "keep_log", "Disk.keep_log", defArgs s_Disk_keep_log, defBody s_Disk_keep_log, defScope s_Disk_keep_log, [], []⟩
def dd_Disk_log : He.DefD := ⟨("Disk", some "log"), "log", "Disk.log", defArgs s_Disk_log, defBody s_Disk_log, defScope s_Disk_log, [], []⟩
def dd_open_journal : He.DefD := ⟨("open_journal", none), "open_journal", "open_journal", defArgs s_open_journal, defBody s_open_journal, defScope s_open_journal, [], []⟩
def dd_Disku_initu : He.DefD := ⟨("Disk", some "__init__"), "__init__", "Disk.__init__", defArgs s_Disku_initu, defBody s_Disku_initu, defScope s_Disku_initu, [], []⟩
def dd_Disk_write : He.DefD := ⟨("Disk", some "write"), "write", "Disk.write", defArgs s_Disk_write, defBody s_Disk_write, defScope s_Disk_write, [], []⟩
def dd_Disk_free : He.DefD := ⟨("Disk", some "free"), "free", "Disk.free", defArgs s_Disk_free, defBody s_Disk_free, defScope s_Disk_free, [], []⟩
def dd_Disk_set_root : He.DefD := ⟨("Disk", some "set_root"), "set_root", "Disk.set_root", defArgs s_Disk_set_root, defBody s_Disk_set_root, defScope s_Disk_set_root, [], []⟩
def dd_Disk_deeds : He.DefD := ⟨("Disk", some "deeds"), "deeds", "Disk.deeds", defArgs s_Disk_deeds, defBody s_Disk_deeds, defScope s_Disk_deeds, [], []⟩
def dd_Disk_do : He.DefD := ⟨("Disk", some "do"), "do", "Disk.do", defArgs s_Disk_do, defBody s_Disk_do, defScope s_Disk_do, [], []⟩
def dd_fallen : He.DefD := ⟨("fallen", none), "fallen", "fallen", defArgs s_fallen, defBody s_fallen, defScope s_fallen, [], []⟩
def dd__law_draws : He.DefD := ⟨("_law_draws", none), "_law_draws", "_law_draws", defArgs s__law_draws, defBody s__law_draws, defScope s__law_draws, [], []⟩
def dd__law_next : He.DefD := ⟨("_law_next", none), "_law_next", "_law_next", defArgs s__law_next, defBody s__law_next, defScope s__law_next, [], []⟩
def dd__law_pick : He.DefD := ⟨("_law_pick", none), "_law_pick", "_law_pick", defArgs s__law_pick, defBody s__law_pick, defScope s__law_pick, [], []⟩
def dd__law_same : He.DefD := ⟨("_law_same", none), "_law_same", "_law_same", defArgs s__law_same, defBody s__law_same, defScope s__law_same, [], []⟩
def dd__law_do : He.DefD := ⟨("_law_do", none), "_law_do", "_law_do", defArgs s__law_do, defBody s__law_do, defScope s__law_do, [], []⟩
def dd__law_tell : He.DefD := ⟨("_law_tell", none), "_law_tell", "_law_tell", defArgs s__law_tell, defBody s__law_tell, defScope s__law_tell, [], []⟩
def dd__law_is : He.DefD := ⟨("_law_is", none), "_law_is", "_law_is", defArgs s__law_is, defBody s__law_is, defScope s__law_is, [], []⟩
def dd__law_deed : He.DefD := ⟨("_law_deed", none), "_law_deed", "_law_deed", defArgs s__law_deed, defBody s__law_deed, defScope s__law_deed, [], []⟩
def dd_law : He.DefD := ⟨("law", none), "law", "law", defArgs s_law, defBody s_law, defScope s_law, [], []⟩
def fns : List He.DefD := [dd_code_number, dd_read_number, dd_read_many, dd_code_line, dd_read_line, dd_check_of, dd_frame, dd_frame_at, dd_frames_in, dd_code_ascii, dd_read_ascii, dd_Journalu_initu, dd_Journal_term, dd_Journal_vote, dd_Journal_base, dd_Journal_last, dd_Journal_term_at, dd_Journal_entries_from, dd_Disk_append, dd_Journal_do, dd_Journal_write, dd_Journal_set_term, dd_Journal_add, dd_Journal_cut, dd_Journal_rebase, dd_Journal_take_base, dd_Disk_keep_log, dd_Disk_log, dd_open_journal, dd_Disku_initu, dd_Disk_write, dd_Disk_free, dd_Disk_set_root, dd_Disk_deeds, dd_Disk_do, dd_fallen, dd__law_draws, dd__law_next, dd__law_pick, dd__law_same, dd__law_do, dd__law_tell, dd__law_is, dd__law_deed, dd_law]
def fas : List He.Fa := [.glo "code_number", .glo "read_number", .glo "read_many", .glo "code_line", .glo "read_line", .glo "check_of", .glo "frame", .glo "frame_at", .glo "frames_in", .glo "code_ascii", .glo "read_ascii", .glo "open_journal", .glo "fallen", .glo "_law_draws", .glo "_law_next", .glo "_law_pick", .glo "_law_same", .glo "_law_do", .glo "_law_tell", .glo "_law_is", .glo "_law_deed", .glo "law", .free "abs", .free "all", .free "bool", .free "int", .free "isinstance", .free "len", .free "max", .free "range", .free "str", .free "tuple", .str "SIGNS" S_SIGNS, .cls "Disk", .mkr "Disk", .glo "Disk", .cls "Journal", .mkr "Journal", .glo "Journal", .noat "Journal" "disk", .noat "Disk" "done", .noat "Journal" "entries", .noat "Disk" "lines", .noat "Disk" "logged", .noat "Journal" "own_base", .noat "Journal" "own_term", .noat "Journal" "own_vote", .noat "Disk" "roots", .meth "Disk" "append", .meth "Disk" "deeds", .meth "Disk" "do", .meth "Disk" "free", .meth "Disk" "keep_log", .meth "Disk" "log", .meth "Disk" "set_root", .meth "Disk" "write", .meth "Journal" "add", .meth "Journal" "base", .meth "Journal" "cut", .meth "Journal" "do", .meth "Journal" "entries_from", .meth "Journal" "last", .meth "Journal" "rebase", .meth "Journal" "set_term", .meth "Journal" "take_base", .meth "Journal" "term", .meth "Journal" "term_at", .meth "Journal" "vote", .meth "Journal" "write", .glo "BadRow", .exc "BadRow", .exm "BadRow" "BadRow" true]
theorem tx_of {K : Fg} {h : Heap} {mg : Str → Option Value} (X : K.In h) (G : h.Ns mainGlobals mg) (c : He.SaysD fas fns K) : Tx K mg where
  d_code_number := c.def_ 0 (d := dd_code_number) rfl
  g_code_number := He.glo_ok X G (c.fact 0 (f := .glo "code_number") rfl)
  d_read_number := c.def_ 1 (d := dd_read_number) rfl
  g_read_number := He.glo_ok X G (c.fact 1 (f := .glo "read_number") rfl)
  d_read_many := c.def_ 2 (d := dd_read_many) rfl
  g_read_many := He.glo_ok X G (c.fact 2 (f := .glo "read_many") rfl)
  d_code_line := c.def_ 3 (d := dd_code_line) rfl
  g_code_line := He.glo_ok X G (c.fact 3 (f := .glo "code_line") rfl)
  d_read_line := c.def_ 4 (d := dd_read_line) rfl
  g_read_line := He.glo_ok X G (c.fact 4 (f := .glo "read_line") rfl)
  d_check_of := c.def_ 5 (d := dd_check_of) rfl
  g_check_of := He.glo_ok X G (c.fact 5 (f := .glo "check_of") rfl)
  d_frame := c.def_ 6 (d := dd_frame) rfl
  g_frame := He.glo_ok X G (c.fact 6 (f := .glo "frame") rfl)
  d_frame_at := c.def_ 7 (d := dd_frame_at) rfl
  g_frame_at := He.glo_ok X G (c.fact 7 (f := .glo "frame_at") rfl)
  d_frames_in := c.def_ 8 (d := dd_frames_in) rfl
  g_frames_in := He.glo_ok X G (c.fact 8 (f := .glo "frames_in") rfl)
  d_code_ascii := c.def_ 9 (d := dd_code_ascii) rfl
  g_code_ascii := He.glo_ok X G (c.fact 9 (f := .glo "code_ascii") rfl)
  d_read_ascii := c.def_ 10 (d := dd_read_ascii) rfl
  g_read_ascii := He.glo_ok X G (c.fact 10 (f := .glo "read_ascii") rfl)
  d_Journalu_initu := c.def_ 11 (d := dd_Journalu_initu) rfl
  d_Journal_term := c.def_ 12 (d := dd_Journal_term) rfl
  d_Journal_vote := c.def_ 13 (d := dd_Journal_vote) rfl
  d_Journal_base := c.def_ 14 (d := dd_Journal_base) rfl
  d_Journal_last := c.def_ 15 (d := dd_Journal_last) rfl
  d_Journal_term_at := c.def_ 16 (d := dd_Journal_term_at) rfl
  d_Journal_entries_from := c.def_ 17 (d := dd_Journal_entries_from) rfl
  d_Disk_append := c.def_ 18 (d := dd_Disk_append) rfl
  d_Journal_do := c.def_ 19 (d := dd_Journal_do) rfl
  d_Journal_write := c.def_ 20 (d := dd_Journal_write) rfl
  d_Journal_set_term := c.def_ 21 (d := dd_Journal_set_term) rfl
  d_Journal_add := c.def_ 22 (d := dd_Journal_add) rfl
  d_Journal_cut := c.def_ 23 (d := dd_Journal_cut) rfl
  d_Journal_rebase := c.def_ 24 (d := dd_Journal_rebase) rfl
  d_Journal_take_base := c.def_ 25 (d := dd_Journal_take_base) rfl
  d_Disk_keep_log := c.def_ 26 (d := dd_Disk_keep_log) rfl
  d_Disk_log := c.def_ 27 (d := dd_Disk_log) rfl
  d_open_journal := c.def_ 28 (d := dd_open_journal) rfl
  g_open_journal := He.glo_ok X G (c.fact 11 (f := .glo "open_journal") rfl)
  d_Disku_initu := c.def_ 29 (d := dd_Disku_initu) rfl
  d_Disk_write := c.def_ 30 (d := dd_Disk_write) rfl
  d_Disk_free := c.def_ 31 (d := dd_Disk_free) rfl
  d_Disk_set_root := c.def_ 32 (d := dd_Disk_set_root) rfl
  d_Disk_deeds := c.def_ 33 (d := dd_Disk_deeds) rfl
  d_Disk_do := c.def_ 34 (d := dd_Disk_do) rfl
  d_fallen := c.def_ 35 (d := dd_fallen) rfl
  g_fallen := He.glo_ok X G (c.fact 12 (f := .glo "fallen") rfl)
  d__law_draws := c.def_ 36 (d := dd__law_draws) rfl
  g__law_draws := He.glo_ok X G (c.fact 13 (f := .glo "_law_draws") rfl)
  d__law_next := c.def_ 37 (d := dd__law_next) rfl
  g__law_next := He.glo_ok X G (c.fact 14 (f := .glo "_law_next") rfl)
  d__law_pick := c.def_ 38 (d := dd__law_pick) rfl
  g__law_pick := He.glo_ok X G (c.fact 15 (f := .glo "_law_pick") rfl)
  d__law_same := c.def_ 39 (d := dd__law_same) rfl
  g__law_same := He.glo_ok X G (c.fact 16 (f := .glo "_law_same") rfl)
  d__law_do := c.def_ 40 (d := dd__law_do) rfl
  g__law_do := He.glo_ok X G (c.fact 17 (f := .glo "_law_do") rfl)
  d__law_tell := c.def_ 41 (d := dd__law_tell) rfl
  g__law_tell := He.glo_ok X G (c.fact 18 (f := .glo "_law_tell") rfl)
  d__law_is := c.def_ 42 (d := dd__law_is) rfl
  g__law_is := He.glo_ok X G (c.fact 19 (f := .glo "_law_is") rfl)
  d__law_deed := c.def_ 43 (d := dd__law_deed) rfl
  g__law_deed := He.glo_ok X G (c.fact 20 (f := .glo "_law_deed") rfl)
  d_law := c.def_ 44 (d := dd_law) rfl
  g_law := He.glo_ok X G (c.fact 21 (f := .glo "law") rfl)
  b_abs := He.free_ok X G (c.fact 22 (f := .free "abs") rfl)
  b_all := He.free_ok X G (c.fact 23 (f := .free "all") rfl)
  b_bool := He.free_ok X G (c.fact 24 (f := .free "bool") rfl)
  b_int := He.free_ok X G (c.fact 25 (f := .free "int") rfl)
  b_isinstance := He.free_ok X G (c.fact 26 (f := .free "isinstance") rfl)
  b_len := He.free_ok X G (c.fact 27 (f := .free "len") rfl)
  b_max := He.free_ok X G (c.fact 28 (f := .free "max") rfl)
  b_range := He.free_ok X G (c.fact 29 (f := .free "range") rfl)
  b_str := He.free_ok X G (c.fact 30 (f := .free "str") rfl)
  b_tuple := He.free_ok X G (c.fact 31 (f := .free "tuple") rfl)
  c_SIGNS := He.str_ok X G (c.fact 32 (f := .str "SIGNS" S_SIGNS) rfl)
  cl_Disk := He.cls_ok (c.fact 33 (f := .cls "Disk") rfl)
  k_Disk := He.mkr_ok (c.fact 34 (f := .mkr "Disk") rfl)
  g_Disk := He.glo_ok X G (c.fact 35 (f := .glo "Disk") rfl)
  cl_Journal := He.cls_ok (c.fact 36 (f := .cls "Journal") rfl)
  k_Journal := He.mkr_ok (c.fact 37 (f := .mkr "Journal") rfl)
  g_Journal := He.glo_ok X G (c.fact 38 (f := .glo "Journal") rfl)
  f_disk := fld_cons (He.cls_ok (c.fact 36 (f := .cls "Journal") rfl)) (He.noat_ok (c.fact 39 (f := .noat "Journal" "disk") rfl)) (fld_nil)
  f_done := fld_cons (He.cls_ok (c.fact 33 (f := .cls "Disk") rfl)) (He.noat_ok (c.fact 40 (f := .noat "Disk" "done") rfl)) (fld_nil)
  f_entries := fld_cons (He.cls_ok (c.fact 36 (f := .cls "Journal") rfl)) (He.noat_ok (c.fact 41 (f := .noat "Journal" "entries") rfl)) (fld_nil)
  f_lines := fld_cons (He.cls_ok (c.fact 33 (f := .cls "Disk") rfl)) (He.noat_ok (c.fact 42 (f := .noat "Disk" "lines") rfl)) (fld_nil)
  f_logged := fld_cons (He.cls_ok (c.fact 33 (f := .cls "Disk") rfl)) (He.noat_ok (c.fact 43 (f := .noat "Disk" "logged") rfl)) (fld_nil)
  f_own_base := fld_cons (He.cls_ok (c.fact 36 (f := .cls "Journal") rfl)) (He.noat_ok (c.fact 44 (f := .noat "Journal" "own_base") rfl)) (fld_nil)
  f_own_term := fld_cons (He.cls_ok (c.fact 36 (f := .cls "Journal") rfl)) (He.noat_ok (c.fact 45 (f := .noat "Journal" "own_term") rfl)) (fld_nil)
  f_own_vote := fld_cons (He.cls_ok (c.fact 36 (f := .cls "Journal") rfl)) (He.noat_ok (c.fact 46 (f := .noat "Journal" "own_vote") rfl)) (fld_nil)
  f_roots := fld_cons (He.cls_ok (c.fact 33 (f := .cls "Disk") rfl)) (He.noat_ok (c.fact 47 (f := .noat "Disk" "roots") rfl)) (fld_nil)
  m_Disk_append := He.meth_ok (c.fact 48 (f := .meth "Disk" "append") rfl)
  m_Disk_deeds := He.meth_ok (c.fact 49 (f := .meth "Disk" "deeds") rfl)
  m_Disk_do := He.meth_ok (c.fact 50 (f := .meth "Disk" "do") rfl)
  m_Disk_free := He.meth_ok (c.fact 51 (f := .meth "Disk" "free") rfl)
  m_Disk_keep_log := He.meth_ok (c.fact 52 (f := .meth "Disk" "keep_log") rfl)
  m_Disk_log := He.meth_ok (c.fact 53 (f := .meth "Disk" "log") rfl)
  m_Disk_set_root := He.meth_ok (c.fact 54 (f := .meth "Disk" "set_root") rfl)
  m_Disk_write := He.meth_ok (c.fact 55 (f := .meth "Disk" "write") rfl)
  m_Journal_add := He.meth_ok (c.fact 56 (f := .meth "Journal" "add") rfl)
  m_Journal_base := He.meth_ok (c.fact 57 (f := .meth "Journal" "base") rfl)
  m_Journal_cut := He.meth_ok (c.fact 58 (f := .meth "Journal" "cut") rfl)
  m_Journal_do := He.meth_ok (c.fact 59 (f := .meth "Journal" "do") rfl)
  m_Journal_entries_from := He.meth_ok (c.fact 60 (f := .meth "Journal" "entries_from") rfl)
  m_Journal_last := He.meth_ok (c.fact 61 (f := .meth "Journal" "last") rfl)
  m_Journal_rebase := He.meth_ok (c.fact 62 (f := .meth "Journal" "rebase") rfl)
  m_Journal_set_term := He.meth_ok (c.fact 63 (f := .meth "Journal" "set_term") rfl)
  m_Journal_take_base := He.meth_ok (c.fact 64 (f := .meth "Journal" "take_base") rfl)
  m_Journal_term := He.meth_ok (c.fact 65 (f := .meth "Journal" "term") rfl)
  m_Journal_term_at := He.meth_ok (c.fact 66 (f := .meth "Journal" "term_at") rfl)
  m_Journal_vote := He.meth_ok (c.fact 67 (f := .meth "Journal" "vote") rfl)
  m_Journal_write := He.meth_ok (c.fact 68 (f := .meth "Journal" "write") rfl)
  e_BadRow := ⟨He.glo_ok X G (c.fact 69 (f := .glo "BadRow") rfl), He.exc_ok (c.fact 70 (f := .exc "BadRow") rfl)⟩
  y_BadRow := exm_cons (He.exm_ok (c.fact 71 (f := .exm "BadRow" "BadRow" true) rfl)) (exm_nil)
  z_BadRow := exm_nil
end K70

/-! ## Dp1 -/
set_option maxHeartbeats 4000000
/-! Evaluation of the data layer's code: one equation a combinator. -/
namespace DL
open PySem PySem.Spec PyProof.Rows L2
theorem opq {β : Type} {a b : β} (h : a = b) : a = b := h
@[simp] theorem e_seqS (m m' : SM) {ev : _} {g : _} : seqS m m' ev g = (match m ev g with
  | .ok .nx s => m' s.1 s.2
  | r => r) := opq rfl
@[simp] theorem e_ifS (t : EM Bool) (a b : SM) {ev : _} {g : _} : ifS t a b ev g = (withE t fun k => if k then a else b) ev g := opq rfl
@[simp] theorem e_asgS (m : EM D) (t : TM) {ev : _} {g : _} : asgS m t ev g = (withE m fun d ev g => orNoS (t d ev g)) ev g := opq rfl
@[simp] theorem e_withE {β : Type} (m : EM β) (f : β → SM) {ev : _} {g : _} : withE m f ev g = (match m ev g with
  | .ok d g1 => f d ev g1
  | .exn c g1 => .exn c (ev, g1)
  | .no => .no) := opq rfl
@[simp] theorem e_withEs (m : EM (List D)) (f : List D → SM) {ev : _} {g : _} : withEs m f ev g = (withE m f) ev g := opq rfl
@[simp] theorem e_retS (m : EM D) {ev : _} {g : _} : retS m ev g = (withE m fun d ev g => .ok (.ret d) (ev, g)) ev g := opq rfl
@[simp] theorem e_retNS {ev : _} {g : _} : retNS  ev g = (.ok (.ret .non) (ev, g)) := opq rfl
@[simp] theorem e_exprS (m : EM D) {ev : _} {g : _} : exprS m ev g = (withE m fun _ ev g => .ok .nx (ev, g)) ev g := opq rfl
@[simp] theorem e_nxS {ev : _} {g : _} : nxS  ev g = (.ok .nx (ev, g)) := opq rfl
@[simp] theorem e_brkS {ev : _} {g : _} : brkS  ev g = (.ok .brk (ev, g)) := opq rfl
@[simp] theorem e_ctS {ev : _} {g : _} : ctS  ev g = (.ok .ct (ev, g)) := opq rfl
@[simp] theorem e_raiS (c : Str) {ev : _} {g : _} : raiS c ev g = (.exn c (ev, g)) := opq rfl
@[simp] theorem e_par2S (i j : Nat) (ms : EM (List D)) {ev : _} {g : _} : par2S i j ms ev g = (withE ms fun ds ev g => match ds with
  | [x, y] => .ok .nx ((ev.set i (some x)).set j (some y), g)
  | _ => .no) ev g := opq rfl
@[simp] theorem e_par3S (i j l : Nat) (ms : EM (List D)) {ev : _} {g : _} : par3S i j l ms ev g = (withE ms fun ds ev g => match ds with
  | [x, y, z] => .ok .nx (((ev.set i (some x)).set j (some y)).set l (some z), g)
  | _ => .no) ev g := opq rfl
@[simp] theorem e_augS (i : Nat) (f : Op2) (m : EM D) {ev : _} {g : _} : augS i f m ev g = (asgS (opE f (varE i) m) (nameT i)) ev g := opq rfl
@[simp] theorem e_subS (mv mo mk : EM D) {ev : _} {g : _} : subS mv mo mk ev g = (withE mv fun d => withE mo fun x => withE mk fun y ev g => match upAt x y d g with
  | some g' => .ok .nx (ev, g')
  | none => .no) ev g := opq rfl
@[simp] theorem e_subAugS (f : Op2) (mo mk mv : EM D) {ev : _} {g : _} : subAugS f mo mk mv ev g = (withE mo fun x => withE mk fun y => withE (fun _ g => ixDic x y g) fun z => withE mv fun w => withE (fun _ g => f z w g) fun d ev g => match upAt x y d g with
  | some g' => .ok .nx (ev, g')
  | none => .no) ev g := opq rfl
@[simp] theorem e_tryS (yes no : List Str) (mb ms : SM) {ev : _} {g : _} : tryS yes no mb ms ev g = (match mb ev g with
  | .exn c s => if yes.contains c then (match ms s.1 s.2 with
      | .exn _ _ => .no
      | r => r) else if no.contains c then .exn c s else .no
  | r => r) := opq rfl
@[simp] theorem e_nameT (i : Nat) {d : _} {ev : _} {g : _} : nameT i d ev g = (some (ev.set i (some d), g)) := opq rfl
@[simp] theorem e_consT (m : TM) (ms : TMs) {ds : _} {ev : _} {g : _} : consT m ms ds ev g = (match ds with
  | d :: r => (match m d ev g with
    | some s => ms r s.1 s.2
    | none => none)
  | [] => none) := opq rfl
@[simp] theorem e_nilT {ds : _} {ev : _} {g : _} : nilT  ds ev g = (match ds with
  | [] => some (ev, g)
  | _ => none) := opq rfl
@[simp] theorem e_tupT (n : Nat) (ms : TMs) {d : _} {ev : _} {g : _} : tupT n ms d ev g = (match d with
  | .tup ds => if ds.length = n then ms ds ev g else none
  | _ => none) := opq rfl
@[simp] theorem e_orNoS (o : Option (Ev × G))  : orNoS o  = (match o with
  | some s => .ok .nx s
  | none => .no)  := opq rfl
@[simp] theorem e_fldT (cs : List Str) (f : Str) (i : Nat) {d : _} {ev : _} {g : _} : fldT cs f i d ev g = (match ev[i]? with
  | some (some (.ref n)) => (match g[n]? with
    | some (.ins c fs) => if cs.contains c && decide (fs.length < 1000) then some (ev, g.set n (.ins c (putFD f d fs))) else none
    | _ => none)
  | _ => none) := opq rfl
@[simp] theorem e_cE (d : D) {z1 : _} {g : _} : cE d z1 g = (.ok d g) := opq rfl
@[simp] theorem e_varE (i : Nat) {ev : _} {g : _} : varE i ev g = (match ev[i]? with
  | some (some d) => .ok d g
  | _ => .no) := opq rfl
@[simp] theorem e_opE (f : Op2) (ma mb : EM D) {ev : _} {g : _} : opE f ma mb ev g = (match ma ev g with
  | .ok x g1 => (match mb ev g1 with
    | .ok y g2 => f x y g2
    | .exn c g2 => .exn c g2
    | .no => .no)
  | .exn c g1 => .exn c g1
  | .no => .no) := opq rfl
@[simp] theorem e_boolE (m : EM D) {ev : _} {g : _} : boolE m ev g = (match m ev g with
  | .ok (.bl b) g1 => .ok b g1
  | .ok _ _ => .no
  | .exn c g1 => .exn c g1
  | .no => .no) := opq rfl
@[simp] theorem e_truE (m : EM D) {ev : _} {g : _} : truE m ev g = (match m ev g with
  | .ok d g1 => (match truD d g1 with
    | some b => .ok b g1
    | none => .no)
  | .exn c g1 => .exn c g1
  | .no => .no) := opq rfl
@[simp] theorem e_notB (t : EM Bool) {ev : _} {g : _} : notB t ev g = (match t ev g with
  | .ok b g1 => .ok (!b) g1
  | .exn c g1 => .exn c g1
  | .no => .no) := opq rfl
@[simp] theorem e_andB (t u : EM Bool) {ev : _} {g : _} : andB t u ev g = (match t ev g with
  | .ok true g1 => u ev g1
  | .ok false g1 => .ok false g1
  | .exn c g1 => .exn c g1
  | .no => .no) := opq rfl
@[simp] theorem e_orB (t u : EM Bool) {ev : _} {g : _} : orB t u ev g = (match t ev g with
  | .ok true g1 => .ok true g1
  | .ok false g1 => u ev g1
  | .exn c g1 => .exn c g1
  | .no => .no) := opq rfl
@[simp] theorem e_ifE {β : Type} (t : EM Bool) (a b : EM β) {ev : _} {g : _} : ifE t a b ev g = (match t ev g with
  | .ok true g1 => a ev g1
  | .ok false g1 => b ev g1
  | .exn c g1 => .exn c g1
  | .no => .no) := opq rfl
@[simp] theorem e_andV (ma mb : EM D) {ev : _} {g : _} : andV ma mb ev g = (ifE (boolE ma) mb (cE (.bl false))) ev g := opq rfl
@[simp] theorem e_orV (ma mb : EM D) {ev : _} {g : _} : orV ma mb ev g = (ifE (boolE ma) (cE (.bl true)) mb) ev g := opq rfl
@[simp] theorem e_notV (ma : EM D) {ev : _} {g : _} : notV ma ev g = (ifE (boolE ma) (cE (.bl false)) (cE (.bl true))) ev g := opq rfl
@[simp] theorem e_chE (f f' : Op2) (ma mb mc : EM D) {ev : _} {g : _} : chE f f' ma mb mc ev g = (match ma ev g with
  | .ok x g1 => (match mb ev g1 with
    | .ok y g2 => (match f x y g2 with
      | .ok (.bl true) g3 => (match mc ev g3 with
        | .ok z g4 => f' y z g4
        | .exn c g4 => .exn c g4
        | .no => .no)
      | .ok (.bl false) g3 => .ok (.bl false) g3
      | .ok _ _ => .no
      | .exn c g3 => .exn c g3
      | .no => .no)
    | .exn c g2 => .exn c g2
    | .no => .no)
  | .exn c g1 => .exn c g1
  | .no => .no) := opq rfl
@[simp] theorem e_nilE {z1 : _} {g : _} : nilE  z1 g = (.ok [] g) := opq rfl
@[simp] theorem e_consE (m : EM D) (ms : EM (List D)) {ev : _} {g : _} : consE m ms ev g = (match m ev g with
  | .ok d g1 => (match ms ev g1 with
    | .ok ds g2 => .ok (d :: ds) g2
    | .exn c g2 => .exn c g2
    | .no => .no)
  | .exn c g1 => .exn c g1
  | .no => .no) := opq rfl
@[simp] theorem e_tupE (ms : EM (List D)) {ev : _} {g : _} : tupE ms ev g = (match ms ev g with
  | .ok ds g1 => if ds.length ≤ sizeLine then .ok (.tup ds) g1 else .no
  | .exn c g1 => .exn c g1
  | .no => .no) := opq rfl
@[simp] theorem e_lstE (ms : EM (List D)) {ev : _} {g : _} : lstE ms ev g = (match ms ev g with
  | .ok ds g1 => if ds.length ≤ sizeLine then .ok (.ref g1.length) (g1 ++ [.lst ds]) else .no
  | .exn c g1 => .exn c g1
  | .no => .no) := opq rfl
@[simp] theorem e_apE (f : List D → G → R G D) (ms : EM (List D)) {ev : _} {g : _} : apE f ms ev g = (match ms ev g with
  | .ok ds g1 => f ds g1
  | .exn c g1 => .exn c g1
  | .no => .no) := opq rfl
@[simp] theorem e_optE (m : EM D) {ev : _} {g : _} : optE m ev g = (match m ev g with
  | .ok (.int i) g1 => .ok (some i) g1
  | .ok _ _ => .no
  | .exn c g1 => .exn c g1
  | .no => .no) := opq rfl
@[simp] theorem e_noneE {z1 : _} {g : _} : noneE  z1 g = (.ok none g) := opq rfl
@[simp] theorem e_slE (m : EM D) (ml mh : EM (Option Int)) {ev : _} {g : _} : slE m ml mh ev g = (match m ev g with
  | .ok d g1 => (match ml ev g1 with
    | .ok lo g2 => (match mh ev g2 with
      | .ok hi g3 => slD d lo hi g3
      | .exn c g3 => .exn c g3
      | .no => .no)
    | .exn c g2 => .exn c g2
    | .no => .no)
  | .exn c g1 => .exn c g1
  | .no => .no) := opq rfl
@[simp] theorem e_slD (d : D) (lo hi : Option Int) (g : G)  : slD d lo hi g  = (match d with
  | .tup ds => .ok (.tup (cutD ds lo hi)) g
  | .ref n => (match g[n]? with
    | some (.lst xs) => .ok (.ref g.length) (g ++ [.lst (cutD xs lo hi)])
    | _ => .no)
  | _ => .no)  := opq rfl
@[simp] theorem e_fldE (cs : List Str) (f : Str) (m : EM D) {ev : _} {g : _} : fldE cs f m ev g = (match m ev g with
  | .ok d g1 => orNo (getF cs f d g1) g1
  | .exn c g1 => .exn c g1
  | .no => .no) := opq rfl
@[simp] theorem e_getF (cs : List Str) (f : Str) (d : D) (g : G)  : getF cs f d g  = (match d with
  | .ref n => (match g[n]? with
    | some (.ins c fs) => if cs.contains c then fs.lookup f else none
    | _ => none)
  | _ => none)  := opq rfl
@[simp] theorem e_orNo (o : Option D) (g : G)  : orNo o g  = (match o with
  | some d => .ok d g
  | none => .no)  := opq rfl
@[simp] theorem e_methE (tab : List (Str × HF)) (m : Str) (mo : EM D) (ms : EM (List D)) {ev : _} {g : _} : methE tab m mo ms ev g = (match mo ev g with
  | .ok (.ref n) g1 => (match g1[n]? with
    | some (.ins c fs) => (match fs.lookup m, tab.lookup c with
      | none, some F => (match ms ev g1 with
        | .ok ds g2 => F (.ref n :: ds) g2
        | .exn c g2 => .exn c g2
        | .no => .no)
      | _, _ => .no)
    | _ => .no)
  | .ok _ _ => .no
  | .exn c g1 => .exn c g1
  | .no => .no) := opq rfl
@[simp] theorem e_makF (c : Str) (F : HF) {ds : _} {g : _} : makF c F ds g = (match F (.ref g.length :: ds) (g ++ [.ins c []]) with
  | .ok .non g2 => .ok (.ref g.length) g2
  | _ => .no) := opq rfl
@[simp] theorem e_lenF {ds : _} {g : _} : lenF  ds g = (match ds with
  | [.str y] => if y.length ≤ sizeLine then .ok (.int y.length) g else .no
  | [.tup xs] => .ok (.int xs.length) g
  | [.ref n] => (match g[n]? with
    | some (.lst xs) => .ok (.int xs.length) g
    | some (.dic kvs) => .ok (.int kvs.length) g
    | _ => .no)
  | [.fz xs] => .ok (.int xs.length) g
  | _ => .no) := opq rfl
@[simp] theorem e_absF {ds : _} {g : _} : absF  ds g = (match ds with
  | [.int i] => .ok (.int (if i < 0 then -i else i)) g
  | _ => .no) := opq rfl
@[simp] theorem e_maxF {ds : _} {g : _} : maxF  ds g = (match ds with
  | [.int i, .int j] => .ok (.int (if j > i then j else i)) g
  | _ => .no) := opq rfl
@[simp] theorem e_minF {ds : _} {g : _} : minF  ds g = (match ds with
  | [.int i, .int j] => .ok (.int (if j < i then j else i)) g
  | _ => .no) := opq rfl
@[simp] theorem e_intF {ds : _} {g : _} : intF  ds g = (match ds with
  | [.int i] => .ok (.int i) g
  | [.bl b] => .ok (.int (if b then 1 else 0)) g
  | _ => .no) := opq rfl
@[simp] theorem e_tupF {ds : _} {g : _} : tupF  ds g = (match ds with
  | [.tup xs] => .ok (.tup xs) g
  | [.ref n] => (match g[n]? with
    | some (.lst xs) => .ok (.tup xs) g
    | _ => .no)
  | _ => .no) := opq rfl
@[simp] theorem e_lisF {ds : _} {g : _} : lisF  ds g = (match ds with
  | [.tup xs] => .ok (.ref g.length) (g ++ [.lst xs])
  | [.ref n] => (match g[n]? with
    | some (.lst xs) => .ok (.ref g.length) (g ++ [.lst xs])
    | _ => .no)
  | _ => .no) := opq rfl
@[simp] theorem e_ints2 (C : Int → Int → Bool) (f : Int → Int → D) {x : _} {y : _} {g : _} : ints2 C f x y g = (match x, y with
  | .int i, .int j => if C i j then .ok (f i j) g else .no
  | _, _ => .no) := opq rfl
@[simp] theorem e_addD {x : _} {y : _} {g : _} : addD  x y g = (match x, y with
  | .int i, .int j => .ok (.int (i + j)) g
  | .tup a, .tup b => if a.length + b.length ≤ sizeLine then .ok (.tup (a ++ b)) g else .no
  | .str a, .str b => if a.length + b.length ≤ sizeLine then .ok (.str (a ++ b)) g else .no
  | .ref a, .ref b => (match g[a]?, g[b]? with
    | some (.lst xs), some (.lst ys) => if xs.length + ys.length ≤ sizeLine then .ok (.ref g.length) (g ++ [.lst (xs ++ ys)]) else .no
    | _, _ => .no)
  | _, _ => .no) := opq rfl
@[simp] theorem e_subD {x : _} {y : _} {g : _} : subD  x y g = (ints2 (fun _ _ => true) fun i j => .int (i - j)) x y g := opq rfl
@[simp] theorem e_mulD {x : _} {y : _} {g : _} : mulD  x y g = (ints2 CMulB fun i j => .int (i * j)) x y g := opq rfl
@[simp] theorem e_fdivD {x : _} {y : _} {g : _} : fdivD  x y g = (ints2 CDivB fun i j => .int (i / j)) x y g := opq rfl
@[simp] theorem e_modD {x : _} {y : _} {g : _} : modD  x y g = (ints2 (fun _ j => decide (0 < j)) fun i j => .int (i % j)) x y g := opq rfl
@[simp] theorem e_powD {x : _} {y : _} {g : _} : powD  x y g = (ints2 CPowB fun i j => .int (i ^ j.toNat)) x y g := opq rfl
@[simp] theorem e_ltD {x : _} {y : _} {g : _} : ltD  x y g = (ints2 (fun _ _ => true) fun i j => .bl (decide (i < j))) x y g := opq rfl
@[simp] theorem e_leD {x : _} {y : _} {g : _} : leD  x y g = (ints2 (fun _ _ => true) fun i j => .bl (decide (i ≤ j))) x y g := opq rfl
@[simp] theorem e_gtD {x : _} {y : _} {g : _} : gtD  x y g = (ints2 (fun _ _ => true) fun i j => .bl (decide (j < i))) x y g := opq rfl
@[simp] theorem e_geD {x : _} {y : _} {g : _} : geD  x y g = (ints2 (fun _ _ => true) fun i j => .bl (decide (j ≤ i))) x y g := opq rfl
@[simp] theorem e_eqD {x : _} {y : _} {g : _} : eqD  x y g = (match eqB x y g with
  | some b => .ok (.bl b) g
  | none => .no) := opq rfl
@[simp] theorem e_neD {x : _} {y : _} {g : _} : neD  x y g = (match eqB x y g with
  | some b => .ok (.bl (!b)) g
  | none => .no) := opq rfl
@[simp] theorem e_isD {x : _} {y : _} {g : _} : isD  x y g = (match y with
  | .non => .ok (.bl (isNon x)) g
  | .bl b => (match x with | .bl a => .ok (.bl (a == b)) g | _ => .no)
  | _ => .no) := opq rfl
@[simp] theorem e_notD {x : _} {y : _} {g : _} : notD  x y g = (match y with
  | .non => .ok (.bl (!isNon x)) g
  | .bl b => (match x with | .bl a => .ok (.bl (!(a == b))) g | _ => .no)
  | _ => .no) := opq rfl
@[simp] theorem e_ixD {x : _} {y : _} {g : _} : ixD  x y g = (match x, y with
  | .tup ds, .int i => orNo (atI ds i) g
  | .str z, .int i => if z.length ≤ sizeLine then orNo ((atI z.cps.toList i).map fun c => .str ⟨#[c]⟩) g else .no
  | .ref n, y => (match g[n]? with
    | some (.lst xs) => (match y with
      | .int i => orNo (atI xs i) g
      | _ => .no)
    | some (.dic kvs) => (match keyD y with
      | some k => orNo (valK kvs k) g
      | none => .no)
    | _ => .no)
  | .fz ds, .int i => orNo (atI ds i) g
  | _, _ => .no) := opq rfl
@[simp] theorem e_ixDic {x : _} {y : _} {g : _} : ixDic  x y g = (match x with
  | .ref n => (match g[n]? with
    | some (.dic kvs) => (match keyD y with
      | some k => orNo (valK kvs k) g
      | none => .no)
    | _ => .no)
  | _ => .no) := opq rfl
@[simp] theorem e_upAt (x y : D) (d : D) (g : G)  : upAt x y d g  = (match x with
  | .ref n => (match g[n]? with
    | some (.lst xs) => (match y with
      | .int k => (match ixN xs.length k with
        | some j => some (g.set n (.lst (xs.set j d)))
        | none => none)
      | _ => none)
    | some (.dic kvs) => (match keyD y with
      | some k => if kvs.length < sizeLine then some (g.set n (.dic (if (kvs.any fun kv => decide (kv.1 = k)) = true then kvs.map (fun kv => if kv.1 = k then (kv.1, d) else kv) else kvs ++ [(k, d)]))) else none
      | none => none)
    | _ => none)
  | _ => none)  := opq rfl
@[simp] theorem e_apdE (mo m : EM D) {ev : _} {g : _} : apdE mo m ev g = (match mo ev g with
  | .ok (.ref n) g1 => (match g1[n]? with
    | some (.lst _) => (match m ev g1 with
      | .ok d g2 => (match g2[n]? with
        | some (.lst ys) => if ys.length < sizeLine then .ok .non (g2.set n (.lst (ys ++ [d]))) else .no
        | _ => .no)
      | .exn c g2 => .exn c g2
      | .no => .no)
    | _ => .no)
  | .ok _ _ => .no
  | .exn c g1 => .exn c g1
  | .no => .no) := opq rfl
@[simp] theorem e_smE (f : HF) (mo m : EM D) {ev : _} {g : _} : smE f mo m ev g = (match mo ev g with
  | .ok (.str a) g1 => (match m ev g1 with
    | .ok d g2 => f [.str a, d] g2
    | .exn c g2 => .exn c g2
    | .no => .no)
  | .ok _ _ => .no
  | .exn c g1 => .exn c g1
  | .no => .no) := opq rfl
@[simp] theorem e_sixF {ds : _} {g : _} : sixF  ds g = (match ds with
  | [.str a, .str b] => (match Txt.index0 a b with
    | some k => .ok (.int (k : Nat)) g
    | none => .no)
  | _ => .no) := opq rfl
@[simp] theorem e_joinF {ds : _} {g : _} : joinF  ds g = (match ds with
  | [.str a, .ref n] => (match g[n]? with
    | some (.lst xs) => (match strsD xs with
      | some ys => if (ys.map (·.length)).sum + ys.length * a.length ≤ 16777216 then .ok (.str (Txt.join a ys)) g else .no
      | none => .no)
    | _ => .no)
  | _ => .no) := opq rfl
@[simp] theorem e_negE (m : EM D) {ev : _} {g : _} : negE m ev g = (match m ev g with
  | .ok (.int i) g1 => .ok (.int (-i)) g1
  | .ok _ _ => .no
  | .exn c g1 => .exn c g1
  | .no => .no) := opq rfl
@[simp] theorem e_dispE (mp : EM (List (Key × D))) {ev : _} {g : _} : dispE mp ev g = (match mp ev (g ++ [.dic []]) with
  | .ok kvs g2 => (match g2[g.length]? with
    | some (.dic []) => if kvs.length ≤ 15 then .ok (.ref g.length) (g2.set g.length (.dic (mergeD [] kvs))) else .no
    | _ => .no)
  | .exn c g2 => .exn c g2
  | .no => .no) := opq rfl
@[simp] theorem e_consP (mk mv : EM D) (mr : EM (List (Key × D))) {ev : _} {g : _} : consP mk mv mr ev g = (match mk ev g with
  | .ok k g1 => (match mv ev g1 with
    | .ok d g2 => (match mr ev g2 with
      | .ok r g3 => (match keyD k with
        | some kk => .ok ((kk, d) :: r) g3
        | none => .no)
      | .exn c g3 => .exn c g3
      | .no => .no)
    | .exn c g2 => .exn c g2
    | .no => .no)
  | .exn c g1 => .exn c g1
  | .no => .no) := opq rfl
@[simp] theorem e_nilP {z1 : _} {g : _} : nilP  z1 g = (.ok [] g) := opq rfl
@[simp] theorem e_dnewE {z1 : _} {g : _} : dnewE  z1 g = (.ok (.ref g.length) (g ++ [.dic []])) := opq rfl
@[simp] theorem e_seqE (m : EM D) {ev : _} {g : _} : seqE m ev g = (match m ev g with
  | .ok (.tup ds) g1 => .ok (.tup ds) g1
  | .ok (.str z) g1 => .ok (.str z) g1
  | .ok (.ref n) g1 => (match g1[n]? with
    | some (.lst _) => .ok (.lst n) g1
    | _ => .no)
  | .ok _ _ => .no
  | .exn c g1 => .exn c g1
  | .no => .no) := opq rfl
@[simp] theorem e_rngE1 (ms : EM (List D)) {ev : _} {g : _} : rngE1 ms ev g = (match ms ev g with
  | .ok [.int j] g1 => if small62 j then .ok (.rng 0 j.toNat) g1 else .no
  | .ok _ _ => .no
  | .exn c g1 => .exn c g1
  | .no => .no) := opq rfl
@[simp] theorem e_rngE2 (ms : EM (List D)) {ev : _} {g : _} : rngE2 ms ev g = (match ms ev g with
  | .ok [.int i, .int j] g1 => if small62 i && small62 j then .ok (.rng i (j - i).toNat) g1 else .no
  | .ok _ _ => .no
  | .exn c g1 => .exn c g1
  | .no => .no) := opq rfl
@[simp] theorem e_stepS (tg : TM) (b : SM) {d : _} {ev : _} {g : _} : stepS tg b d ev g = (match tg d ev g with
  | some z => b z.1 z.2
  | none => .no) := opq rfl
@[simp] theorem e_forS (src : EM Src) (tg : TM) (b : SM) {ev : _} {g : _} : forS src tg b ev g = (withE src fun s ev g => forL s (stepS tg b) (s.len g + 1) 0 ev g) ev g := opq rfl
@[simp] theorem e_yesE {z1 : _} {g : _} : yesE  z1 g = (.ok true g) := opq rfl
@[simp] theorem e_isiE (T : String) (m : EM D) {ev : _} {g : _} : isiE T m ev g = (match m ev g with
  | .ok d g1 => (match tyD d g1 with
    | some t => (match kitB t T with
      | some b => .ok (.bl b) g1
      | none => .no)
    | none => .no)
  | .exn c g1 => .exn c g1
  | .no => .no) := opq rfl
@[simp] theorem e_truD (d : D) (g : G)  : truD d g  = (match d with
  | .non => some false
  | .bl b => some b
  | .int i => some (i != 0)
  | .str y => if y.length ≤ sizeLine then some ((y.length : Int) != 0) else none
  | .tup ds => some (!ds.isEmpty)
  | .ref n => (match g[n]? with
    | some (.lst xs) => some (!xs.isEmpty)
    | some (.dic kvs) => some (!kvs.isEmpty)
    | _ => none)
  | .glo _ => none
  | .fz _ => none)  := opq rfl
@[simp] theorem e_CMulB (i j : Int)  : CMulB i j  = ((decide (-(2 ^ 64) < i) && decide (i < 2 ^ 64)) || (decide (-(2 ^ 64) < j) && decide (j < 2 ^ 64)))  := opq rfl
@[simp] theorem e_CDivB (i j : Int)  : CDivB i j  = (decide (0 < j) && decide (j < 1073741824))  := opq rfl
@[simp] theorem e_CPowB (i j : Int)  : CPowB i j  = (decide (0 ≤ j) && (decide (j ≤ 1000000) && decide (i.natAbs < 2 ^ 64)))  := opq rfl
@[simp] theorem e_addI {x : _} {y : _} {g : _} : addI  x y g = (ints2 (fun _ _ => true) fun i j => .int (i + j)) x y g := opq rfl
@[simp] theorem e_lcE (src : EM Src) (vs : List Nat) (tm : D → Ev → Option Ev) (tt : EM Bool) (te : EM D) {ev : _} {g : _} : lcE src vs tm tt te ev g = (match src ev g with
  | .ok s g1 => (match lcL s tm tt te g1.length (s.len g1 + 1) 0 (wipeE ev vs) (g1 ++ [.lst []]) with
    | .ok _ g2 => .ok (.ref g1.length) g2
    | _ => .no)
  | .exn c g1 => .exn c g1
  | .no => .no) := opq rfl
@[simp] theorem e_allF {ds : _} {g : _} : allF  ds g = (match ds with
  | [.ref n] => (match g[n]? with
    | some (.lst xs) => (match blsD xs with
      | some bs => .ok (.bl (bs.all (fun b => b))) g
      | none => .no)
    | _ => .no)
  | _ => .no) := opq rfl
end DL

/-! ## Dp2 -/
set_option maxHeartbeats 4000000
namespace DL
open PySem PySem.Spec PyProof.Rows L2
/-! ### equality of plain values -/
theorem eqB_int {i j : Int} {g : G} : eqB (.int i) (.int j) g = some (decide (i = j)) := by
  have h1 : ∀ k : Int, SeqAt.shaped (.int k) = true := fun k => by simp [SeqAt.shaped, PyData.canLay0, PyData.depth]
  have h2 : PyData.eqv (.int i) (.int j) = decide (i = j) := by
    rw [PyData.eqv]; by_cases h : i = j <;> simp [h]
  simp only [eqB, toQ, toP, h1, h2, Bool.and_self, if_true]
theorem eqB_bl {i j : Bool} {g : G} : eqB (.bl i) (.bl j) g = some (i == j) := by
  have h1 : ∀ k : Bool, SeqAt.shaped (.bool k) = true := fun k => by simp [SeqAt.shaped, PyData.canLay0, PyData.depth]
  have h2 : PyData.eqv (.bool i) (.bool j) = (i == j) := by rw [PyData.eqv]
  simp only [eqB, toQ, toP, h1, h2, Bool.and_self, if_true]
theorem eqB_str {i j : Str} {g : G} (hi : PyData.strOk i = true) (hj : PyData.strOk j = true) : eqB (.str i) (.str j) g = some (i == j) := by
  have h1 : ∀ k : Str, PyData.strOk k = true → SeqAt.shaped (.str k) = true := fun k h => by simp [SeqAt.shaped, PyData.canLay0, PyData.depth, h]
  have h2 : PyData.eqv (.str i) (.str j) = (i == j) := by rw [PyData.eqv]
  simp only [eqB, toQ, toP, h1 i hi, h1 j hj, h2, Bool.and_self, if_true]
theorem eqB_intnon {i : Int} {g : G} : eqB (.int i) .non g = some false := by
  have h1 : ∀ k : Int, SeqAt.shaped (.int k) = true := fun k => by simp [SeqAt.shaped, PyData.canLay0, PyData.depth]
  have h3 : SeqAt.shaped .none = true := by simp [SeqAt.shaped, PyData.canLay0, PyData.depth]
  have h2 : PyData.eqv (.int i) .none = false := by rw [PyData.eqv]
  simp only [eqB, toQ, toP, h1, h2, h3, Bool.and_self, if_true]
/-- a tuple of ints -/
def tI (l : List Int) : D := .tup (l.map .int)
theorem toPs_ints {g : G} {n : Nat} : ∀ l : List Int, toPs g n (l.map D.int) = some (l.map PyData.int)
  | [] => by simp [toPs]
  | a :: l => by
    have e : toP g n (.int a) = some (.int a) := by cases n <;> simp [toP]
    simp only [List.map_cons, toPs, e, toPs_ints l]
theorem can_ints : ∀ l : List Int, PyData.canLayAll0 (l.map PyData.int) = true
  | [] => by simp [PyData.canLayAll0]
  | a :: l => by simp [PyData.canLayAll0, PyData.canLay0, can_ints l]
theorem dep_ints : ∀ l : List Int, PyData.depthAll (l.map PyData.int) = 0
  | [] => by simp [PyData.depthAll]
  | a :: l => by simp [PyData.depthAll, PyData.depth, dep_ints l]
theorem eqv_ints : ∀ l m : List Int, PyData.eqvAll (l.map PyData.int) (m.map PyData.int) = decide (l = m)
  | [], [] => by simp [PyData.eqvAll]
  | a :: l, [] => by simp [PyData.eqvAll]
  | [], a :: l => by simp [PyData.eqvAll]
  | a :: l, b :: m => by
    simp only [List.map_cons, PyData.eqvAll, PyData.eqv, eqv_ints l m]
    by_cases h : a = b <;> by_cases h2 : l = m <;> simp [h, h2]
theorem eqB_tI {l m : List Int} {g : G} : eqB (tI l) (tI m) g = some (decide (l = m)) := by
  have e : ∀ l : List Int, toQ g (tI l) = some (.tuple (l.map .int)) := fun l => by
    show toP g 0 (.tup _) = _
    simp only [toP, toPs_ints, Option.map_some]
  have s : ∀ l : List Int, SeqAt.shaped (.tuple (l.map .int)) = true := fun l => by
    simp [SeqAt.shaped, PyData.canLay0, PyData.depth, can_ints, dep_ints]
  have h2 : PyData.eqv (.tuple (l.map .int)) (.tuple (m.map .int)) = decide (l = m) := by rw [PyData.eqv]; exact eqv_ints l m
  simp only [eqB, e, s, h2, Bool.and_self, if_true]
/-- two empty lists -/
theorem eqB_nils {a b : Nat} {g : G} (ha : g[a]? = some (.lst [])) (hb : g[b]? = some (.lst [])) : eqB (.ref a) (.ref b) g = some true := by
  have e : ∀ n, g[n]? = some (.lst []) → toQ g (.ref n) = some (.list []) := fun n h => by
    simp only [toQ, h, toPs, Option.map_some]
  have s : SeqAt.shaped (.list []) = true := by simp [SeqAt.shaped, PyData.canLay0, PyData.depth, PyData.canLayAll0, PyData.depthAll]
  have h2 : PyData.eqv (.list []) (.list []) = true := by rw [PyData.eqv, PyData.eqvAll]
  simp only [eqB, e a ha, e b hb, s, h2, Bool.and_self, if_true]
theorem kb1 : kitB "tuple" "tuple" = some true := by decide +kernel
theorem kb2 : kitB "int" "tuple" = some false := by decide +kernel
theorem kb3 : kitB "str" "tuple" = some false := by decide +kernel
theorem kb4 : kitB "NoneType" "tuple" = some false := by decide +kernel
theorem kb5 : kitB "str" "str" = some true := by decide +kernel
theorem kb6 : kitB "int" "str" = some false := by decide +kernel
theorem kb7 : kitB "int" "int" = some true := by decide +kernel
theorem kb8 : kitB "int" "bool" = some false := by decide +kernel
/-! ### plain values hold no addresses -/
theorem noRefs_ints : ∀ l : List Int, noRefs (l.map D.int) = true
  | [] => rfl
  | a :: l => by simp [noRefs, noRef, noRefs_ints l]
theorem noRef_tI {l : List Int} : noRef (tI l) = true := by simp [tI, noRef, noRefs_ints]
theorem noRefs_append : ∀ a b : List D, noRefs (a ++ b) = (noRefs a && noRefs b)
  | [], b => by simp [noRefs]
  | x :: a, b => by simp [noRefs, noRefs_append a b, Bool.and_assoc]
theorem pureF_ok {F : HF} {ds : List D} {g : G} {d : D} {g' : G} (h1 : noRefs ds = true) (h2 : F ds [] = .ok d g') (h3 : noRef d = true) : pureF F ds g = .ok d g := by
  simp only [pureF, h1, h2, h3, if_true]
theorem pureF_exn {F : HF} {ds : List D} {g : G} {c : Str} {g' : G} (h1 : noRefs ds = true) (h2 : F ds [] = .exn c g') : pureF F ds g = .exn c g := by
  simp only [pureF, h1, h2, if_true]
/-! ### lists -/
theorem atI_nat {β : Type} {xs : List β} {i : Nat} {x : β} (h : xs[i]? = some x) : atI xs (i : Int) = some x := by
  have hl : i < xs.length := (List.getElem?_eq_some_iff.mp h).1
  unfold atI ixN
  rw [if_pos (by omega), if_pos (by omega)]
  simpa using h
theorem atI_nonneg {β : Type} {xs : List β} {i : Int} {x : β} (h0 : 0 ≤ i) (h : xs[i.toNat]? = some x) : atI xs i = some x := by
  have e : i = (i.toNat : Int) := by omega
  rw [e]; exact atI_nat h
@[simp] theorem atI_0 {β : Type} {x : β} {xs : List β} : atI (x :: xs) 0 = some x := atI_nat (i := 0) rfl
@[simp] theorem atI_1 {β : Type} {a x : β} {xs : List β} : atI (a :: x :: xs) 1 = some x := atI_nat (i := 1) rfl
@[simp] theorem atI_2 {β : Type} {a b x : β} {xs : List β} : atI (a :: b :: x :: xs) 2 = some x := atI_nat (i := 2) rfl
@[simp] theorem atI_3 {β : Type} {a b c x : β} {xs : List β} : atI (a :: b :: c :: x :: xs) 3 = some x := atI_nat (i := 3) rfl
theorem sIx_n {n d : Nat} {i : Int} (h0 : 0 ≤ i) : HT.sIx n d (some i) = min i.toNat n := by
  have e : i = (i.toNat : Int) := by omega
  rw [e, HT.sIx_nat]; rfl
theorem cut_ft {β : Type} {xs : List β} {lo hi : Int} (h0 : 0 ≤ lo) (h1 : lo ≤ hi) (h2 : hi ≤ xs.length) : cutD xs (some lo) (some hi) = (xs.drop lo.toNat).take (hi.toNat - lo.toNat) := by
  unfold cutD
  rw [sIx_n h0, sIx_n (by omega), Nat.min_eq_left (by omega), Nat.min_eq_left (by omega)]
theorem cut_f {β : Type} {xs : List β} {lo : Int} (h0 : 0 ≤ lo) : cutD xs (some lo) none = xs.drop lo.toNat := by
  unfold cutD
  rw [sIx_n h0, HT.sIx_none]
  by_cases h : lo.toNat ≤ xs.length
  · rw [Nat.min_eq_left h, List.take_of_length_le (by simp)]
  · have e : min lo.toNat xs.length = xs.length := by omega
    rw [e, List.drop_eq_nil_of_le (Nat.le_refl _), List.drop_eq_nil_of_le (i := lo.toNat) (by omega)]; simp
theorem cut_t {β : Type} {xs : List β} {hi : Int} (h0 : 0 ≤ hi) : cutD xs none (some hi) = xs.take hi.toNat := by
  unfold cutD
  rw [sIx_n h0, HT.sIx_none]
  by_cases h : hi.toNat ≤ xs.length
  · rw [Nat.min_eq_left h]; simp
  · rw [Nat.min_eq_right (by omega)]; simp [List.take_of_length_le, show xs.length ≤ hi.toNat by omega]
/-- a cut past the end -/
theorem cut_ft' {β : Type} {xs : List β} {lo hi : Int} (h0 : 0 ≤ lo) (h1 : lo ≤ hi) : cutD xs (some lo) (some hi) = (xs.drop lo.toNat).take (hi.toNat - lo.toNat) := by
  unfold cutD
  rw [sIx_n h0, sIx_n (by omega)]
  by_cases h : lo.toNat ≤ xs.length
  · rw [Nat.min_eq_left h]
    by_cases h' : hi.toNat ≤ xs.length
    · rw [Nat.min_eq_left h']
    · rw [Nat.min_eq_right (by omega), List.take_of_length_le (by simp), List.take_of_length_le (by simp; omega)]
  · have e : min lo.toNat xs.length = xs.length := by omega
    rw [e, List.drop_eq_nil_of_le (Nat.le_refl _), List.drop_eq_nil_of_le (i := lo.toNat) (by omega)]; simp
/-! ### heaps -/
theorem get_app {g : G} {n : Nat} {o : O} (l : G) (h : g[n]? = some o) : (g ++ l)[n]? = some o := by
  rw [List.getElem?_append_left (List.getElem?_eq_some_iff.mp h).1]; exact h
theorem get_new {g : G} {o : O} {l : G} : (g ++ o :: l)[g.length]? = some o := by simp
theorem get_set_ne {g : G} {n m : Nat} {o o' : O} (h : g[n]? = some o) (e : m ≠ n) : (g.set m o')[n]? = some o := by
  rw [List.getElem?_set_ne e]; exact h
theorem get_set_eq {g : G} {n : Nat} {o o' : O} (h : g[n]? = some o) : (g.set n o')[n]? = some o' := List.getElem?_set_self (List.getElem?_eq_some_iff.mp h).1
theorem get_lt {g : G} {n : Nat} {o : O} (h : g[n]? = some o) : n < g.length := (List.getElem?_eq_some_iff.mp h).1
/-- all objects but those of S stay -/
structure Sm (S : Nat → Prop) (g g' : G) : Prop where
  get : ∀ (n : Nat) o, g[n]? = some o → ¬ S n → g'[n]? = some o
  len : g.length ≤ g'.length
theorem Sm.refl {S g} : Sm S g g := ⟨fun _ _ h _ => h, Nat.le_refl _⟩
theorem Sm.trans {S g1 g2 g3} (a : Sm S g1 g2) (b : Sm S g2 g3) : Sm S g1 g3 := ⟨fun n o h s => b.get n o (a.get n o h s) s, Nat.le_trans a.len b.len⟩
theorem Sm.imp {S T : Nat → Prop} {g g'} (a : Sm S g g') (h : ∀ n, n < g.length → S n → T n) : Sm T g g' := ⟨fun n o e s => a.get n o e fun z => s (h n (get_lt e) z), a.len⟩
theorem Sm.sub {S T : Nat → Prop} {g0 g1 g2 : G} (a : Sm T g0 g1) (b : Sm S g1 g2) (h : ∀ n, n < g0.length → S n → T n) : Sm T g0 g2 := ⟨fun n o e s => b.get n o (a.get n o e s) fun z => s (h n (get_lt e) z), Nat.le_trans a.len b.len⟩
theorem Sm.app {S g} (l : G) : Sm S g (g ++ l) := ⟨fun _ _ h _ => get_app l h, by simp⟩
theorem Sm.set {S : Nat → Prop} {g : G} {n : Nat} {o : O} (h : S n) : Sm S g (g.set n o) := ⟨fun m o' e s => get_set_ne e fun z => s (z ▸ h), by simp⟩
/-! ### loops -/
theorem whileL_succ {t : EM Bool} {b : SM} {k : Nat} {ev : Ev} {g : G} : whileL t b (k + 1) ev g = (match t ev g with
    | .ok true g1 => (match b ev g1 with
      | .ok .nx s => whileL t b k s.1 s.2
      | .ok .ct s => whileL t b k s.1 s.2
      | .ok .brk s => .ok .nx s
      | .ok (.ret d) s => .ok (.ret d) s
      | .exn c s => .exn c s
      | .no => .no)
    | .ok false g1 => .ok .nx (ev, g1)
    | .exn c g1 => .exn c (ev, g1)
    | .no => .no) := rfl
theorem whileS_k : ∃ k, ∀ (t : EM Bool) (b : SM) (ev : Ev) (g : G), whileS t b ev g = whileL t b (k + 1 + 1 + 1 + 1) ev g := ⟨1073741820, fun _ _ _ _ => rfl⟩
/-- a while by turns: i of n are done -/
theorem whileL_inv {t : EM Bool} {b : SM} {n : Nat} (I : Nat → Ev → G → Prop) (hs : ∀ i ev g, i < n → I i ev g → ∃ g1 ev' g', t ev g = .ok true g1 ∧ b ev g1 = .ok .nx (ev', g') ∧ I (i + 1) ev' g') (he : ∀ ev g, I n ev g → ∃ g1, t ev g = .ok false g1 ∧ I n ev g1) :
    ∀ (m i k : Nat) (ev : Ev) (g : G), i + m = n → I i ev g → ∃ ev' g', whileL t b (k + m + 1) ev g = .ok .nx (ev', g') ∧ I n ev' g'
  | 0, i, k, ev, g, e, h => by
    have e : i = n := by omega
    subst e
    obtain ⟨g1, e1, h1⟩ := he ev g h
    refine ⟨ev, g1, ?_, h1⟩
    rw [whileL_succ, e1]
  | m + 1, i, k, ev, g, e, h => by
    obtain ⟨g1, ev', g', e1, e2, h'⟩ := hs i ev g (by omega) h
    obtain ⟨ev2, g2, e3, h2⟩ := whileL_inv I hs he m (i + 1) k ev' g' (by omega) h'
    refine ⟨ev2, g2, ?_, h2⟩
    rw [whileL_succ, e1]
    simp only [e2]
    exact e3
theorem whileS_inv {t : EM Bool} {b : SM} {n : Nat} {ev : Ev} {g : G} (I : Nat → Ev → G → Prop) (hn : n < 1000000) (h0 : I 0 ev g) (hs : ∀ i ev g, i < n → I i ev g → ∃ g1 ev' g', t ev g = .ok true g1 ∧ b ev g1 = .ok .nx (ev', g') ∧ I (i + 1) ev' g') (he : ∀ ev g, I n ev g → ∃ g1, t ev g = .ok false g1 ∧ I n ev g1) :
    ∃ ev' g', whileS t b ev g = .ok .nx (ev', g') ∧ I n ev' g' := by
  obtain ⟨k, hk⟩ : ∃ k, manyW = k + n + 1 := ⟨manyW - n - 1, by unfold manyW; omega⟩
  unfold whileS
  rw [hk]
  exact whileL_inv I hs he n 0 k ev g (by omega) h0
theorem forL_inv {s : Src} {step : D → SM} {n : Nat} (I : Nat → Ev → G → Prop) (hs : ∀ i ev g, i < n → I i ev g → ∃ d, s.at_ i g = some (some d) ∧ ∃ ev' g', step d ev g = .ok .nx (ev', g') ∧ I (i + 1) ev' g') (he : ∀ ev g, I n ev g → s.at_ n g = some none) :
    ∀ (k i : Nat) (ev : Ev) (g : G), i + k = n → I i ev g → ∃ ev' g', forL s step (k + 1) i ev g = .ok .nx (ev', g') ∧ I n ev' g'
  | 0, i, ev, g, e, h => by
    have e : i = n := by omega
    subst e
    refine ⟨ev, g, ?_, h⟩
    simp only [forL, he ev g h]
  | k + 1, i, ev, g, e, h => by
    obtain ⟨d, e1, ev', g', e2, h'⟩ := hs i ev g (by omega) h
    obtain ⟨ev2, g2, e3, h2⟩ := forL_inv I hs he k (i + 1) ev' g' (by omega) h'
    refine ⟨ev2, g2, ?_, h2⟩
    rw [forL]; dsimp only; rw [e1]
    simp only [e2]
    exact e3
/-- a loop over ints -/
theorem for_rng {lo : Int} {n : Nat} {tg : TM} {b : SM} {ev : Ev} {g : G} (I : Nat → Ev → G → Prop) (h0 : I 0 ev g) (hs : ∀ i ev g, i < n → I i ev g → ∃ ev' g', stepS tg b (.int (lo + i)) ev g = .ok .nx (ev', g') ∧ I (i + 1) ev' g') :
    ∃ ev' g', forL (.rng lo n) (stepS tg b) (n + 1) 0 ev g = .ok .nx (ev', g') ∧ I n ev' g' :=
  forL_inv I (fun i ev g hi h => ⟨_, by simp [Src.at_, hi], hs i ev g hi h⟩) (fun ev g h => by simp [Src.at_]) n 0 ev g (by omega) h0
/-- a loop over a tuple -/
theorem for_tup {ds : List D} {tg : TM} {b : SM} {ev : Ev} {g : G} (I : Nat → Ev → G → Prop) (h0 : I 0 ev g) (hs : ∀ i d ev g, ds[i]? = some d → I i ev g → ∃ ev' g', stepS tg b d ev g = .ok .nx (ev', g') ∧ I (i + 1) ev' g') :
    ∃ ev' g', forL (.tup ds) (stepS tg b) (ds.length + 1) 0 ev g = .ok .nx (ev', g') ∧ I ds.length ev' g' :=
  forL_inv I (fun i ev g hi h => by
    have e : ds[i]? = some ds[i] := by simp [hi]
    exact ⟨ds[i], by simp [Src.at_, hi], hs i _ ev g e h⟩) (fun ev g h => by simp [Src.at_]) ds.length 0 ev g (by omega) h0
theorem lcL_inv {s : Src} {tm : D → Ev → Option Ev} {tt : EM Bool} {te : EM D} {dn n : Nat} {ev : Ev} (I : Nat → G → Prop)
    (hs : ∀ i g, i < n → I i g → ∃ d ev' g1, s.at_ i g = some (some d) ∧ tm d ev = some ev' ∧ ((tt ev' g = .ok false g1 ∧ I (i + 1) g1) ∨ (∃ y g2 acc, tt ev' g = .ok true g1 ∧ te ev' g1 = .ok y g2 ∧ g2[dn]? = some (.lst acc) ∧ acc.length < sizeLine ∧ I (i + 1) (g2.set dn (.lst (acc ++ [y]))))))
    (he : ∀ g, I n g → s.at_ n g = some none) : ∀ (k i : Nat) (g : G), i + k = n → I i g → ∃ g', lcL s tm tt te dn (k + 1) i ev g = .ok () g' ∧ I n g'
  | 0, i, g, e, h => by
    have e : i = n := by omega
    subst e
    refine ⟨g, ?_, h⟩
    simp only [lcL, he g h]
  | k + 1, i, g, e, h => by
    obtain ⟨d, ev', g1, e1, e2, q⟩ := hs i g (by omega) h
    rcases q with ⟨e3, h'⟩ | ⟨y, g2, acc, e3, e4, e5, e6, h'⟩
    · obtain ⟨g2, e4, h2⟩ := lcL_inv I hs he k (i + 1) _ (by omega) h'
      refine ⟨g2, ?_, h2⟩
      rw [lcL]; dsimp only; rw [e1]
      simp only [e2, e3]
      exact e4
    · obtain ⟨g3, e7, h2⟩ := lcL_inv I hs he k (i + 1) _ (by omega) h'
      refine ⟨g3, ?_, h2⟩
      rw [lcL]; dsimp only; rw [e1]
      simp only [e2, e3, e4, e5, if_pos e6]
      exact e7
end DL

/-! ## Kp1 -/
set_option maxHeartbeats 4000000
namespace K70
open PySem PySem.Spec PyProof.Rows L2 DL
def cn (n : Int) : List Int := if n < 64 then [2 * n] else [2 * n % 128 + 128, 2 * n / 128]
theorem cn1 {n : Int} (h : n < 64) : cn n = [2 * n] := if_pos h
theorem cn2 {n : Int} (h : ¬ n < 64) : cn n = [2 * n % 128 + 128, 2 * n / 128] := if_neg h
theorem code_number_ok {n : Int} {g : G} (h0 : 0 ≤ n) (h1 : n < 8192) : F_code_number [.int n] g = .ok (tI (cn n)) g := by
  by_cases h : n < 64
  · rw [cn1 h]
    refine pureF_ok (g' := [.lst [], .lst [.int (2 * n)], .lst [.int (2 * n)]]) rfl ?_ noRef_tI
    have b : ¬ (128 ≤ 2 * n) := by omega
    obtain ⟨k, hk⟩ := whileS_k
    simp [defF, m_code_number, List.replicate, hk, whileL_succ, h0, b, sizeLine, tI]
  · rw [cn2 h]
    refine pureF_ok (g' := [.lst [.int (2 * n % 128 + 128)], .lst [.int (2 * n / 128)], .lst [.int (2 * n % 128 + 128), .int (2 * n / 128)]]) rfl ?_ noRef_tI
    have b : 128 ≤ 2 * n := by omega
    have c : ¬ (128 ≤ 2 * n / 128) := by omega
    obtain ⟨k, hk⟩ := whileS_k
    simp [defF, m_code_number, List.replicate, hk, whileL_succ, h0, b, c, sizeLine, tI]
theorem drop_get {β : Type} {l r : List β} {a : β} {n : Nat} (h : l.drop n = a :: r) : l[n]? = some a ∧ n < l.length ∧ l.drop (n + 1) = r := by
  have e1 : (l.drop n)[0]? = some a := by rw [h]; rfl
  rw [List.getElem?_drop] at e1
  have e1 : l[n]? = some a := by simpa using e1
  refine ⟨e1, (List.getElem?_eq_some_iff.mp e1).1, ?_⟩
  rw [← List.drop_drop, h]; rfl
theorem atI_ints {l : List Int} {n : Nat} {a : Int} (h : l[n]? = some a) : atI (l.map D.int) (n : Int) = some (.int a) := DL.atI_nat (by simp [h])
theorem read_number_ok {l r : List Int} {at_ : Nat} {n : Int} {g : G} (h0 : 0 ≤ n) (h1 : n < 8192) (h : l.drop at_ = cn n ++ r) : F_read_number [tI l, .int at_] g = .ok (.tup [.int n, .int (at_ + (cn n).length)]) g := by
  have em : (2 * n) % 2 = 0 := by omega
  have ed : (2 * n) / 2 = n := by omega
  by_cases c : n < 64
  · rw [cn1 c] at h ⊢
    obtain ⟨e1, e2, _⟩ := drop_get h
    refine pureF_ok (g' := []) (by simp [noRefs, noRef_tI, noRef]) ?_ (by simp [noRef, noRefs])
    have a1 : ¬ ((l.length : Int) ≤ at_) := by omega
    have a2 : 2 * n % 128 = 2 * n := by omega
    have a3 : 2 * n < 128 := by omega
    obtain ⟨k, hk⟩ := whileS_k
    by_cases hz : 2 * n = 0 <;> simp [defF, m_read_number, List.replicate, hk, whileL_succ, tI, atI_ints e1, a1, a2, a3, eqB_int, sizeLine, em, ed, hz] <;> omega
  · rw [cn2 c] at h ⊢
    obtain ⟨e1, e2, e3⟩ := drop_get h
    obtain ⟨e4, e5, _⟩ := drop_get e3
    refine pureF_ok (g' := []) (by simp [noRefs, noRef_tI, noRef]) ?_ (by simp [noRef, noRefs])
    have a1 : ¬ ((l.length : Int) ≤ at_) := by omega
    have a2 : ¬ ((l.length : Int) ≤ at_ + 1) := by omega
    have a3 : ¬ (2 * n % 128 + 128 < 128) := by omega
    have a4 : (2 * n % 128 + 128) % 128 = 2 * n % 128 := by omega
    have a5 : 2 * n / 128 < 128 := by omega
    have a6 : ¬ (2 * n / 128 = 0) := by omega
    have a7 : (2 * n / 128) % 128 = 2 * n / 128 := by omega
    have a8 : 2 * n % 128 + 2 * n / 128 * 128 = 2 * n := by omega
    have a9 : atI (l.map D.int) ((at_ : Int) + 1) = some (.int (2 * n / 128)) := atI_ints (n := at_ + 1) e4
    have a10 : -(2 ^ 64) < (2 * n / 128) ∧ (2 * n / 128) < 2 ^ 64 := by constructor <;> omega
    have a11 : (at_ : Int) + 1 + 1 = at_ + 2 := by omega
    obtain ⟨k, hk⟩ := whileS_k
    simp [defF, m_read_number, List.replicate, hk, whileL_succ, tI, atI_ints e1, a1, a2, a3, a4, a5, a6, a7, a8, a9, a11, eqB_int, sizeLine, em, ed]
/-- nothing is left to read -/
theorem read_number_end {l : List Int} {at_ : Nat} {g : G} (h : l.length ≤ at_) : F_read_number [tI l, .int at_] g = .exn "BadRow" g := by
  refine pureF_exn (g' := []) (by simp [noRefs, noRef_tI, noRef]) ?_
  have a1 : (l.length : Int) ≤ at_ := by omega
  obtain ⟨k, hk⟩ := whileS_k
  simp [defF, m_read_number, List.replicate, hk, whileL_succ, tI, a1, sizeLine]
theorem cn_len {n : Int} : (cn n).length ≤ 2 := by unfold cn; split <;> simp
theorem code_line_ok {x : List Int} {g : G} (h : x.length < 8192) : F_code_line [tI x] g = .ok (tI (cn x.length ++ x)) g := by
  refine pureF_ok (g' := []) (by simp [noRefs, noRef_tI]) ?_ noRef_tI
  have e : F_code_number [.int x.length] [] = .ok (tI (cn x.length)) [] := code_number_ok (by omega) (by omega)
  have e2 : (cn x.length).length + x.length ≤ 16777216 := by have := @cn_len x.length; omega
  simp only [tI] at e ⊢
  simp [defF, m_code_line, e, e2, sizeLine]
theorem read_many_ok {l r : List Int} {at_ : Nat} {n : Nat} {g : G} (h1 : n < 8192) (h : l.drop at_ = cn n ++ r) (hr : n ≤ r.length) : F_read_many [tI l, .int at_] g = .ok (.tup [.int n, .int (at_ + (cn n).length)]) g := by
  refine pureF_ok (g' := []) (by simp [noRefs, noRef_tI, noRef]) ?_ (by simp [noRef, noRefs])
  have e := read_number_ok (g := []) (n := n) (by omega) (by omega) h
  have hl : l.length - at_ = (cn n).length + r.length := by rw [← List.length_drop, h, List.length_append]
  have h0 : 0 < (cn n).length := by unfold cn; split <;> simp
  have a1 : (n : Int) ≤ l.length - (at_ + (cn n).length) := by omega
  simp only [tI] at e ⊢
  simp [defF, m_read_many, List.replicate, e, a1, sizeLine]
theorem read_line_ok {l x r : List Int} {at_ : Nat} {g : G} (h1 : x.length < 8192) (h : l.drop at_ = cn x.length ++ (x ++ r)) : F_read_line [tI l, .int at_] g = .ok (.tup [tI x, .int (at_ + (cn x.length).length + x.length)]) g := by
  refine pureF_ok (g' := []) (by simp [noRefs, noRef_tI, noRef]) ?_ (by simp [noRef, noRefs, noRef_tI])
  have e := read_many_ok (g := []) h1 h (by simp)
  have e3 : l.drop (at_ + (cn x.length).length) = x ++ r := by rw [← List.drop_drop, h, List.drop_left]
  have e2 : cutD (l.map D.int) (some ((at_ : Int) + (cn x.length).length)) (some ((at_ : Int) + (cn x.length).length + x.length)) = x.map D.int := by
    rw [cut_ft' (by omega) (by omega)]
    have t1 : ((at_ : Int) + (cn x.length).length).toNat = at_ + (cn x.length).length := by omega
    have t2 : ((at_ : Int) + (cn x.length).length + x.length).toNat - ((at_ : Int) + (cn x.length).length).toNat = x.length := by omega
    rw [t2, t1, ← List.map_drop, e3, ← List.map_take, List.take_left]
  simp only [tI] at e ⊢
  simp [defF, m_read_line, List.replicate, e, e2, sizeLine]
def cf (l : List Int) : Int := l.foldl (fun c s => (257 * c + s + 1) % 4294967291) 7
def ck (l : List Int) : List Int := [cf l / 16777216, cf l / 65536 % 256, cf l / 256 % 256, cf l % 256]
theorem check_of_ok {l : List Int} {g : G} : F_check_of [tI l] g = .ok (tI (ck l)) g := by
  refine pureF_ok (g' := []) (by simp [noRefs, noRef_tI]) ?_ noRef_tI
  obtain ⟨ev', g', e, z, rfl, rfl⟩ := for_tup (ds := l.map D.int) (tg := nameT 2) (b := asgS (opE modD (opE addD (opE addD (opE mulD (cE (.int 257)) (varE 1)) (varE 2)) (cE (.int 1))) (cE (.int 4294967291))) (nameT 1)) (ev := [some (tI l), some (.int 7), none]) (g := [])
    (fun i ev g => ∃ z, ev = [some (tI l), some (.int (cf (l.take i))), z] ∧ g = []) ⟨none, by simp [cf], rfl⟩ (by
      rintro i d ev g hd ⟨z, rfl, rfl⟩
      have hd2 : ∃ a, l[i]? = some a ∧ d = .int a := by
        rw [List.getElem?_map] at hd
        cases q : l[i]? with
        | none => rw [q] at hd; cases hd
        | some a => rw [q] at hd; exact ⟨a, rfl, (Option.some.inj hd).symm⟩
      obtain ⟨a, ha, rfl⟩ := hd2
      refine ⟨[some (tI l), some (.int (cf (l.take (i + 1)))), some (.int a)], [], ?_, some (.int a), rfl, rfl⟩
      simp [List.take_add_one, ha, cf])
  have t : (l.map D.int).length = l.length := by simp
  rw [t, List.take_length] at e
  simp only [tI] at e ⊢
  simp only [ck, List.map_cons, List.map_nil]
  simp [defF, m_check_of, List.replicate, e, Src.len, sizeLine]
def fr (x : List Int) : List Int := cn x.length ++ (x ++ ck x)
theorem fr_len {x : List Int} : (fr x).length = (cn x.length).length + x.length + 4 := by simp [fr, ck]; omega
theorem frame_ok {x : List Int} {g : G} (h : x.length < 8192) : F_frame [tI x] g = .ok (tI (fr x)) g := by
  refine pureF_ok (g' := []) (by simp [noRefs, noRef_tI]) ?_ noRef_tI
  have e : F_code_number [.int x.length] [] = .ok (tI (cn x.length)) [] := code_number_ok (by omega) (by omega)
  have e1 : F_check_of [tI x] [] = .ok (tI (ck x)) [] := check_of_ok
  have e2 : (cn x.length).length + x.length ≤ 16777216 := by have := @cn_len x.length; omega
  have e3 : (cn x.length).length + x.length + (ck x).length ≤ 16777216 := by have := @cn_len x.length; simp [ck]; omega
  have e4 : (cn x.length).length + (x.length + (ck x).length) ≤ 16777216 := by omega
  simp only [tI, fr] at e e1 ⊢
  simp [defF, m_frame, e, e1, e2, e3, e4, sizeLine]
end K70

/-! ## Kp2 -/
set_option maxHeartbeats 4000000
namespace K70
open PySem PySem.Spec PyProof.Rows L2 DL
theorem drop_mid {β : Type} {a b c : List β} : (a ++ (b ++ c)).drop a.length = b ++ c := List.drop_left
theorem frame_at_ok {l x r : List Int} {at_ : Nat} {g : G} (h1 : x.length < 64) (h : l.drop at_ = fr x ++ r) : F_frame_at [tI l, .int at_] g = .ok (.tup [tI x, .int (at_ + (fr x).length)]) g := by
  refine pureF_ok (g' := []) (by simp [noRefs, noRef_tI, noRef]) ?_ (by simp [noRef, noRefs, noRef_tI])
  have h' : l.drop at_ = cn x.length ++ (x ++ (ck x ++ r)) := by rw [h, fr]; simp
  have e := read_number_ok (g := []) (n := x.length) (by omega) (by omega) h'
  have hc : (cn x.length).length = 1 := by rw [cn1 (by omega)]; rfl
  have hk : (ck x).length = 4 := rfl
  have hl : l.length - at_ = (fr x).length + r.length := by rw [← List.length_drop, h, List.length_append]
  rw [fr_len, hc] at hl
  have e3 : l.drop (at_ + 1) = x ++ (ck x ++ r) := by rw [← hc, ← List.drop_drop, h', List.drop_left]
  have e4 : l.drop (at_ + 1 + x.length) = ck x ++ r := by rw [← List.drop_drop, e3, List.drop_left]
  have c1 : cutD (l.map D.int) (some ((at_ : Int) + 1)) (some ((at_ : Int) + 1 + x.length)) = x.map D.int := by
    rw [cut_ft' (by omega) (by omega)]
    have t1 : ((at_ : Int) + 1).toNat = at_ + 1 := by omega
    have t2 : ((at_ : Int) + 1 + x.length).toNat - ((at_ : Int) + 1).toNat = x.length := by omega
    rw [t2, t1, ← List.map_drop, e3, ← List.map_take, List.take_left]
  have c2 : cutD (l.map D.int) (some ((at_ : Int) + 1 + x.length)) (some ((at_ : Int) + 1 + x.length + 4)) = (ck x).map D.int := by
    rw [cut_ft' (by omega) (by omega)]
    have t1 : ((at_ : Int) + 1 + x.length).toNat = at_ + 1 + x.length := by omega
    have t2 : ((at_ : Int) + 1 + x.length + 4).toNat - ((at_ : Int) + 1 + x.length).toNat = (ck x).length := by omega
    rw [t2, t1, ← List.map_drop, e4, ← List.map_take, List.take_left]
  have e5 : F_check_of [tI x] [] = .ok (tI (ck x)) [] := check_of_ok
  have e6 := eqB_tI (l := ck x) (m := ck x) (g := [])
  have a1 : ¬ ((x.length : Int) < 0) := by omega
  have a2 : ¬ ((l.length : Int) < at_ + 1 + x.length + 4) := by omega
  have a3 : (at_ : Int) + 1 + x.length + 4 - 4 = at_ + 1 + x.length := by omega
  have a4 : (at_ : Int) + ((fr x).length : Int) = at_ + 1 + x.length + 4 := by rw [fr_len, hc]; omega
  rw [hc] at e
  rw [a4]
  simp only [tI] at e e5 e6 ⊢
  simp [defF, m_frame_at, List.replicate, e, e5, e6, a1, a2, a3, c1, c2, sizeLine]
theorem frame_at_cut {l x : List Int} {at_ s : Nat} {g : G} (h1 : x.length < 64) (h : l.drop at_ = (fr x).take s) (hs : s < (fr x).length) : F_frame_at [tI l, .int at_] g = .ok .non g := by
  refine pureF_ok (g' := []) (by simp [noRefs, noRef_tI, noRef]) ?_ rfl
  have hl : l.length - at_ = s := by rw [← List.length_drop, h, List.length_take]; omega
  by_cases h0 : s = 0
  · have e : F_read_number [tI l, .int at_] [] = .exn "BadRow" [] := read_number_end (by omega)
    simp only [tI] at e ⊢
    simp [defF, m_frame_at, List.replicate, e, Y_BadRow, sizeLine]
  · have hc : cn x.length = [2 * (x.length : Int)] := cn1 (by omega)
    obtain ⟨t, rfl⟩ : ∃ t, s = t + 1 := ⟨s - 1, by omega⟩
    have h' : l.drop at_ = cn x.length ++ ((x ++ ck x).take t) := by rw [h, fr, hc]; rfl
    have e := read_number_ok (g := []) (n := x.length) (by omega) (by omega) h'
    rw [fr_len] at hs
    rw [hc] at hs e
    have a1 : ¬ ((x.length : Int) < 0) := by omega
    have a2 : ((l.length : Int) < at_ + 1 + x.length + 4) := by simp at hs; omega
    simp only [tI] at e ⊢
    simp [defF, m_frame_at, List.replicate, e, a1, a2, sizeLine]
/-- whole frames -/
def fl (xs : List (List Int)) : List Int := (xs.map fr).flatten
theorem fl_at {xs : List (List Int)} {i : Nat} {x t : List Int} (h : xs[i]? = some x) : (fl xs ++ t).drop (fl (xs.take i)).length = fr x ++ (fl (xs.drop (i + 1)) ++ t) := by
  have hi := (List.getElem?_eq_some_iff.mp h).1
  have e : xs = xs.take i ++ (x :: xs.drop (i + 1)) := by
    have : xs.drop i = x :: xs.drop (i + 1) := by rw [List.drop_eq_getElem_cons hi, (List.getElem?_eq_some_iff.mp h).2]
    rw [← this, List.take_append_drop]
  have e2 : fl xs = fl (xs.take i) ++ (fr x ++ fl (xs.drop (i + 1))) := by
    conv => lhs; rw [e]
    simp [fl]
  rw [e2, List.append_assoc, List.append_assoc, List.drop_left]
theorem fl_succ {xs : List (List Int)} {i : Nat} {x : List Int} (h : xs[i]? = some x) : (fl (xs.take (i + 1))).length = (fl (xs.take i)).length + (fr x).length := by
  simp [List.take_add_one, h, fl]
def toldAt (xs : List (List Int)) (i : Nat) : D := match xs[i]? with
  | some x => .tup [tI x, .int ((fl (xs.take (i + 1))).length : Nat)]
  | none => .non
theorem toldAt_some {xs : List (List Int)} {i : Nat} {x : List Int} (h : xs[i]? = some x) : toldAt xs i = .tup [tI x, .int ((fl (xs.take (i + 1))).length : Nat)] := by simp only [toldAt, h]
theorem toldAt_none {xs : List (List Int)} {i : Nat} (h : xs[i]? = none) : toldAt xs i = .non := by simp only [toldAt, h]
/-- what stands behind the whole frames: a frame's beginning -/
def Cut (t : List Int) : Prop := ∃ (x : List Int) (s : Nat), x.length < 64 ∧ t = (fr x).take s ∧ s < (fr x).length
theorem frame_at_i {xs : List (List Int)} {t : List Int} {g : G} (hx : ∀ x ∈ xs, x.length < 64) (ht : Cut t) {i : Nat} (hi : i ≤ xs.length) : F_frame_at [tI (fl xs ++ t), .int ((fl (xs.take i)).length : Nat)] g = .ok (toldAt xs i) g := by
  cases h : xs[i]? with
  | some x =>
    rw [toldAt_some h, fl_succ h]
    have := frame_at_ok (g := g) (hx x (List.mem_of_getElem? h)) (fl_at (t := t) h)
    rw [this]; rfl
  | none =>
    rw [toldAt_none h]
    have hi : i = xs.length := by have := List.getElem?_eq_none_iff.mp h; omega
    subst hi
    obtain ⟨x, s, h1, rfl, h2⟩ := ht
    refine frame_at_cut h1 ?_ h2
    rw [List.take_length, List.drop_left]
theorem told_t {a b c : Option D} {q : List D} {g : G} : boolE (opE notD (varE 3) (cE (.non))) [a, b, c, some (.tup q)] g = .ok true g := by simp [isNon]
theorem told_f {a b c : Option D} {g : G} : boolE (opE notD (varE 3) (cE (.non))) [a, b, c, some .non] g = .ok false g := by simp [isNon]
theorem told_b {s x at' y : D} {c : Option D} {p : List D} (h : F_frame_at [s, at'] [.lst (p ++ [x])] = .ok y [.lst (p ++ [x])]) (hp : p.length < sizeLine) :
    seqS (exprS (apdE (varE 1) (opE ixD (varE 3) (cE (.int 0))))) (seqS (asgS (opE ixD (varE 3) (cE (.int 1))) (nameT 2)) (asgS (apE F_frame_at (consE (varE 0) (consE (varE 2) (nilE)))) (nameT 3))) [some s, some (.ref 0), c, some (.tup [x, at'])] [.lst p]
      = .ok .nx ([some s, some (.ref 0), some at', some y], [.lst (p ++ [x])]) := by simp [h, hp]
theorem frames_b {s y : D} {d : Option D} {k : Int} {p : List D} (h : F_frame_at [s, .int 0] [.lst []] = .ok y [.lst []])
    (e : whileS (boolE (opE notD (varE 3) (cE (.non)))) (seqS (exprS (apdE (varE 1) (opE ixD (varE 3) (cE (.int 0))))) (seqS (asgS (opE ixD (varE 3) (cE (.int 1))) (nameT 2)) (asgS (apE F_frame_at (consE (varE 0) (consE (varE 2) (nilE)))) (nameT 3)))) [some s, some (.ref 0), some (.int 0), some y] [.lst []]
      = .ok .nx ([some s, some (.ref 0), some (.int k), d], [.lst p])) : defF 4 1 m_frames_in [s] [] = .ok (.tup [.tup p, .int k]) [.lst p] := by
  generalize hw : whileS (boolE (opE notD (varE 3) (cE (.non)))) (seqS (exprS (apdE (varE 1) (opE ixD (varE 3) (cE (.int 0))))) (seqS (asgS (opE ixD (varE 3) (cE (.int 1))) (nameT 2)) (asgS (apE F_frame_at (consE (varE 0) (consE (varE 2) (nilE)))) (nameT 3)))) = W at e
  simp [defF, m_frames_in, List.replicate, h, hw, e, sizeLine]
theorem frames_in_ok {xs : List (List Int)} {t : List Int} {g : G} (hx : ∀ x ∈ xs, x.length < 64) (ht : Cut t) (hn : xs.length < 1000) : F_frames_in [tI (fl xs ++ t)] g = .ok (.tup [.tup (xs.map tI), .int ((fl xs).length : Nat)]) g := by
  have nr : noRefs (xs.map tI) = true := by
    clear hx hn
    induction xs with
    | nil => rfl
    | cons x xs ih => simp [noRefs, noRef_tI, ih]
  refine pureF_ok (g' := [.lst (xs.map tI)]) (by simp [noRefs, noRef_tI]) ?_ (by simp [noRef, noRefs, nr])
  obtain ⟨ev', g', e, rfl, rfl⟩ := whileS_inv (t := boolE (opE notD (varE 3) (cE (.non)))) (b := seqS (exprS (apdE (varE 1) (opE ixD (varE 3) (cE (.int 0)))))
    (seqS (asgS (opE ixD (varE 3) (cE (.int 1))) (nameT 2)) (asgS (apE F_frame_at (consE (varE 0) (consE (varE 2) (nilE)))) (nameT 3)))) (n := xs.length)
    (ev := [some (tI (fl xs ++ t)), some (.ref 0), some (.int ((fl (xs.take 0)).length : Nat)), some (toldAt xs 0)]) (g := [.lst ((xs.take 0).map tI)])
    (fun i ev g => ev = [some (tI (fl xs ++ t)), some (.ref 0), some (.int ((fl (xs.take i)).length : Nat)), some (toldAt xs i)] ∧ g = [.lst ((xs.take i).map tI)]) (by omega) ⟨rfl, rfl⟩ (by
      rintro i ev g hi ⟨rfl, rfl⟩
      obtain ⟨x, h⟩ : ∃ x, xs[i]? = some x := ⟨xs[i], by simp [hi]⟩
      have e1 := frame_at_i (g := [.lst ((xs.take (i + 1)).map tI)]) hx ht (i := i + 1) (by omega)
      refine ⟨[.lst ((xs.take i).map tI)], [some (tI (fl xs ++ t)), some (.ref 0), some (.int ((fl (xs.take (i + 1))).length : Nat)), some (toldAt xs (i + 1))], [.lst ((xs.take (i + 1)).map tI)], ?_, ?_, rfl, rfl⟩
      · rw [toldAt_some h]; exact told_t
      · have e2 : (xs.take (i + 1)).map tI = (xs.take i).map tI ++ [tI x] := by simp [List.take_add_one, h]
        have e3 : ((xs.take i).map tI).length < sizeLine := by simp [sizeLine]; omega
        rw [toldAt_some h, e2]
        rw [e2] at e1
        exact told_b e1 e3) (by
      rintro ev g ⟨rfl, rfl⟩
      refine ⟨_, ?_, rfl, rfl⟩
      rw [toldAt_none (by simp)]; exact told_f)
  have e1 := frame_at_i (g := [.lst []]) hx ht (i := 0) (by omega)
  rw [List.take_length] at e
  exact frames_b e1 e
end K70

/-! ## Kp2b -/
set_option maxHeartbeats 4000000
namespace K70
open PySem PySem.Spec PyProof.Rows L2 DL
/-- the votes that a law gives -/
inductive Vt where
  | none | a | bob
def Vt.s : Vt → Str
  | .none => ""
  | .a => "a"
  | .bob => "bob"
def Vt.c : Vt → List Int
  | .none => []
  | .a => [0]
  | .bob => [1, 14, 1]
theorem code_ascii_ok {v : Vt} {g : G} : F_code_ascii [.str v.s] g = .ok (tI (cn v.c.length ++ v.c)) g := by
  have e : F_code_line [tI v.c] [.lst (v.c.map .int)] = .ok (tI (cn v.c.length ++ v.c)) [.lst (v.c.map .int)] := code_line_ok (by cases v <;> decide)
  refine pureF_ok (g' := [.lst (v.c.map .int)]) (by simp [noRefs, noRef]) ?_ noRef_tI
  have i0 : Txt.index0 S_SIGNS "a" = some 0 := by decide +kernel
  have i1 : Txt.index0 S_SIGNS "b" = some 1 := by decide +kernel
  have i2 : Txt.index0 S_SIGNS "o" = some 14 := by decide +kernel
  cases v
  · have e : F_code_line [.tup []] [.lst []] = .ok (tI [0]) [.lst []] := e
    have z : Src.len (.str "") ([] : G) = 0 := by decide +kernel
    have z0 : Src.at_ (.str "") 0 ([.lst []] : G) = some none := by rfl
    simp [defF, m_code_ascii, List.replicate, Vt.s, Vt.c, lcL, z, z0, e, cn, tI]
  · have e : F_code_line [.tup [.int 0]] [.lst [.int 0]] = .ok (tI [2, 0]) [.lst [.int 0]] := e
    have z : Src.len (.str "a") ([] : G) = 1 := by decide +kernel
    have z0 : ∀ g : G, Src.at_ (.str "a") 0 g = some (some (.str "a")) := fun g => by rfl
    have z1 : ∀ g : G, Src.at_ (.str "a") 1 g = some none := fun g => by rfl
    simp [defF, m_code_ascii, List.replicate, Vt.s, Vt.c, lcL, wipeE, z, z0, z1, e, i0, cn, tI, sizeLine]
  · have e : F_code_line [.tup [.int 1, .int 14, .int 1]] [.lst [.int 1, .int 14, .int 1]] = .ok (tI [6, 1, 14, 1]) [.lst [.int 1, .int 14, .int 1]] := e
    have z : Src.len (.str "bob") ([] : G) = 3 := by decide +kernel
    have z0 : ∀ g : G, Src.at_ (.str "bob") 0 g = some (some (.str "b")) := fun g => by rfl
    have z1 : ∀ g : G, Src.at_ (.str "bob") 1 g = some (some (.str "o")) := fun g => by rfl
    have z2 : ∀ g : G, Src.at_ (.str "bob") 2 g = some (some (.str "b")) := fun g => by rfl
    have z3 : ∀ g : G, Src.at_ (.str "bob") 3 g = some none := fun g => by rfl
    simp [defF, m_code_ascii, List.replicate, Vt.s, Vt.c, lcL, wipeE, z, z0, z1, z2, z3, e, i1, i2, cn, tI, sizeLine]
theorem read_ascii_ok {v : Vt} {l r : List Int} {at_ : Nat} {g : G} (h : l.drop at_ = cn v.c.length ++ (v.c ++ r)) : F_read_ascii [tI l, .int at_] g = .ok (.tup [.str v.s, .int (at_ + (cn v.c.length).length + v.c.length)]) g := by
  have e := read_line_ok (g := []) (by cases v <;> decide) h
  have l1 : S_SIGNS.length ≤ sizeLine := by decide +kernel
  have l2 : S_SIGNS.length = 49 := by decide +kernel
  have k0 : (Str.ofString "").length = 0 := by decide +kernel
  have k1 : ∀ z, (⟨#[z]⟩ : Str).length = 1 := fun _ => rfl
  have i0 : atI S_SIGNS.cps.toList 0 = some 97 := by decide +kernel
  have i1 : atI S_SIGNS.cps.toList 1 = some 98 := by decide +kernel
  have i2 : atI S_SIGNS.cps.toList 14 = some 111 := by decide +kernel
  cases v
  · refine pureF_ok (g' := [.lst [], .lst []]) (by simp [noRefs, noRef_tI, noRef]) ?_ (by simp [noRef, noRefs])
    have j : Txt.join "" [] = ("" : Str) := by decide +kernel
    simp only [tI, Vt.c] at e ⊢
    simp [defF, m_read_ascii, List.replicate, lcL, wipeE, Src.len, Src.at_, e, Vt.s, blsD, strsD, l1, l2, sizeLine, j, List.set]
  · refine pureF_ok (g' := [.lst [.bl true], .lst [.str ⟨#[97]⟩]]) (by simp [noRefs, noRef_tI, noRef]) ?_ (by simp [noRef, noRefs])
    have j : Txt.join "" [⟨#[97]⟩] = ("a" : Str) := by decide +kernel
    simp only [tI, Vt.c] at e ⊢
    simp [defF, m_read_ascii, List.replicate, lcL, wipeE, Src.len, Src.at_, e, Vt.s, blsD, strsD, l1, l2, i0, k0, k1, sizeLine, j, List.set]
  · refine pureF_ok (g' := [.lst [.bl true, .bl true, .bl true], .lst [.str ⟨#[98]⟩, .str ⟨#[111]⟩, .str ⟨#[98]⟩]]) (by simp [noRefs, noRef_tI, noRef]) ?_ (by simp [noRef, noRefs])
    have j : Txt.join "" [⟨#[98]⟩, ⟨#[111]⟩, ⟨#[98]⟩] = ("bob" : Str) := by decide +kernel
    simp only [tI, Vt.c] at e ⊢
    simp [defF, m_read_ascii, List.replicate, lcL, wipeE, Src.len, Src.at_, e, Vt.s, blsD, strsD, l1, l2, i1, i2, k0, k1, sizeLine, j, List.set]
end K70

/-! ## Kp3 -/
set_option maxHeartbeats 4000000
namespace K70
open PySem PySem.Spec PyProof.Rows L2 DL
@[simp] theorem tg_log_page {g : G} : eqB (.str "log") (.str "page") g = some false := by rw [eqB_str (by decide +kernel) (by decide +kernel)]; exact congrArg some (by decide +kernel)
@[simp] theorem tg_log_log {g : G} : eqB (.str "log") (.str "log") g = some true := by rw [eqB_str (by decide +kernel) (by decide +kernel)]; exact congrArg some (by decide +kernel)
@[simp] theorem tg_log_root {g : G} : eqB (.str "log") (.str "root") g = some false := by rw [eqB_str (by decide +kernel) (by decide +kernel)]; exact congrArg some (by decide +kernel)
@[simp] theorem tg_log_keep {g : G} : eqB (.str "log") (.str "keep") g = some false := by rw [eqB_str (by decide +kernel) (by decide +kernel)]; exact congrArg some (by decide +kernel)
@[simp] theorem tg_root_log {g : G} : eqB (.str "root") (.str "log") g = some false := by rw [eqB_str (by decide +kernel) (by decide +kernel)]; exact congrArg some (by decide +kernel)
@[simp] theorem tg_term_term {g : G} : eqB (.str "term") (.str "term") g = some true := by rw [eqB_str (by decide +kernel) (by decide +kernel)]; exact congrArg some (by decide +kernel)
@[simp] theorem tg_term_add {g : G} : eqB (.str "term") (.str "add") g = some false := by rw [eqB_str (by decide +kernel) (by decide +kernel)]; exact congrArg some (by decide +kernel)
@[simp] theorem tg_term_cut {g : G} : eqB (.str "term") (.str "cut") g = some false := by rw [eqB_str (by decide +kernel) (by decide +kernel)]; exact congrArg some (by decide +kernel)
@[simp] theorem tg_term_rebase {g : G} : eqB (.str "term") (.str "rebase") g = some false := by rw [eqB_str (by decide +kernel) (by decide +kernel)]; exact congrArg some (by decide +kernel)
@[simp] theorem tg_add_term {g : G} : eqB (.str "add") (.str "term") g = some false := by rw [eqB_str (by decide +kernel) (by decide +kernel)]; exact congrArg some (by decide +kernel)
@[simp] theorem tg_add_add {g : G} : eqB (.str "add") (.str "add") g = some true := by rw [eqB_str (by decide +kernel) (by decide +kernel)]; exact congrArg some (by decide +kernel)
@[simp] theorem tg_add_cut {g : G} : eqB (.str "add") (.str "cut") g = some false := by rw [eqB_str (by decide +kernel) (by decide +kernel)]; exact congrArg some (by decide +kernel)
@[simp] theorem tg_add_rebase {g : G} : eqB (.str "add") (.str "rebase") g = some false := by rw [eqB_str (by decide +kernel) (by decide +kernel)]; exact congrArg some (by decide +kernel)
@[simp] theorem tg_cut_term {g : G} : eqB (.str "cut") (.str "term") g = some false := by rw [eqB_str (by decide +kernel) (by decide +kernel)]; exact congrArg some (by decide +kernel)
@[simp] theorem tg_cut_add {g : G} : eqB (.str "cut") (.str "add") g = some false := by rw [eqB_str (by decide +kernel) (by decide +kernel)]; exact congrArg some (by decide +kernel)
@[simp] theorem tg_cut_cut {g : G} : eqB (.str "cut") (.str "cut") g = some true := by rw [eqB_str (by decide +kernel) (by decide +kernel)]; exact congrArg some (by decide +kernel)
@[simp] theorem tg_cut_rebase {g : G} : eqB (.str "cut") (.str "rebase") g = some false := by rw [eqB_str (by decide +kernel) (by decide +kernel)]; exact congrArg some (by decide +kernel)
@[simp] theorem tg_rebase_term {g : G} : eqB (.str "rebase") (.str "term") g = some false := by rw [eqB_str (by decide +kernel) (by decide +kernel)]; exact congrArg some (by decide +kernel)
@[simp] theorem tg_rebase_add {g : G} : eqB (.str "rebase") (.str "add") g = some false := by rw [eqB_str (by decide +kernel) (by decide +kernel)]; exact congrArg some (by decide +kernel)
@[simp] theorem tg_rebase_cut {g : G} : eqB (.str "rebase") (.str "cut") g = some false := by rw [eqB_str (by decide +kernel) (by decide +kernel)]; exact congrArg some (by decide +kernel)
@[simp] theorem tg_rebase_rebase {g : G} : eqB (.str "rebase") (.str "rebase") g = some true := by rw [eqB_str (by decide +kernel) (by decide +kernel)]; exact congrArg some (by decide +kernel)
@[simp] theorem tg_base_term {g : G} : eqB (.str "base") (.str "term") g = some false := by rw [eqB_str (by decide +kernel) (by decide +kernel)]; exact congrArg some (by decide +kernel)
@[simp] theorem tg_base_add {g : G} : eqB (.str "base") (.str "add") g = some false := by rw [eqB_str (by decide +kernel) (by decide +kernel)]; exact congrArg some (by decide +kernel)
@[simp] theorem tg_base_cut {g : G} : eqB (.str "base") (.str "cut") g = some false := by rw [eqB_str (by decide +kernel) (by decide +kernel)]; exact congrArg some (by decide +kernel)
@[simp] theorem tg_base_rebase {g : G} : eqB (.str "base") (.str "rebase") g = some false := by rw [eqB_str (by decide +kernel) (by decide +kernel)]; exact congrArg some (by decide +kernel)
/-! ### what a journal holds -/
structure St where
  term : Nat
  vote : Vt
  bi : Nat
  bt : Nat
  bl : List Int
  es : List (Nat × List Int)
inductive Dd where
  | term (t : Nat) (v : Vt) | add (t : Nat) (x : List Int) | cut (i : Nat) | rebase (i : Nat) (x : List Int) | base (i t : Nat) (x : List Int)
def Dd.d : Dd → D
  | .term t v => .tup [.str "term", .int t, .str v.s]
  | .add t x => .tup [.str "add", .int t, tI x]
  | .cut i => .tup [.str "cut", .int i]
  | .rebase i x => .tup [.str "rebase", .int i, tI x]
  | .base i t x => .tup [.str "base", .int i, .int t, tI x]
def tx (x : List Int) : List Int := cn x.length ++ x
def Dd.line : Dd → List Int
  | .term t v => cn 0 ++ (cn t ++ tx v.c)
  | .add t x => cn 1 ++ (cn t ++ tx x)
  | .cut i => cn 2 ++ cn i
  | .rebase i x => cn 3 ++ (cn i ++ tx x)
  | .base i t x => cn 4 ++ (cn i ++ (cn t ++ tx x))
def St.at_ (s : St) (i : Nat) : Nat := if i = s.bi then s.bt else ((s.es[i - s.bi - 1]?).getD (0, [])).1
def St.step (s : St) : Dd → St
  | .term t v => { s with term := t, vote := v }
  | .add t x => { s with es := s.es ++ [(t, x)] }
  | .cut i => { s with es := s.es.take (i - s.bi - 1) }
  | .rebase i x => { s with bi := i, bt := s.at_ i, bl := x, es := s.es.drop (i - s.bi) }
  | .base i t x => { s with bi := i, bt := t, bl := x, es := [] }
/-- what a law asks for -/
def Dd.ok (s : St) : Dd → Prop
  | .term t v => t < 8192
  | .add t x => t < 8192 ∧ x.length ≤ 2
  | .cut i => s.bi + 1 ≤ i ∧ i < 8192
  | .rebase i x => s.bi ≤ i ∧ i ≤ s.bi + s.es.length ∧ i < 8192 ∧ x.length ≤ 2
  | .base i t x => i < 8192 ∧ t < 8192 ∧ x.length ≤ 2
def ent (p : Nat × List Int) : D := .tup [.int p.1, tI p.2]
def bD (s : St) : D := .tup [.int s.bi, .int s.bt, tI s.bl]
def JF (dk e : Nat) (s : St) : List (Str × D) := [("disk", .ref dk), ("own_term", .int s.term), ("own_vote", .str s.vote.s), ("own_base", bD s), ("entries", .ref e)]
def DF (ln rt dn : Nat) (lg : List Int) : List (Str × D) := [("lines", .ref ln), ("logged", tI lg), ("roots", .ref rt), ("done", .ref dn)]
section
variable {dk e ln rt dn : Nat} {s : St} {lg : List Int}
@[simp] theorem jf1 : List.lookup ("disk" : Str) (JF dk e s) = some (.ref dk) := opq (by rfl)
@[simp] theorem jf2 : List.lookup ("own_term" : Str) (JF dk e s) = some (.int s.term) := opq (by rfl)
@[simp] theorem jf3 : List.lookup ("own_vote" : Str) (JF dk e s) = some (.str s.vote.s) := opq (by rfl)
@[simp] theorem jf4 : List.lookup ("own_base" : Str) (JF dk e s) = some (bD s) := opq (by rfl)
@[simp] theorem jf5 : List.lookup ("entries" : Str) (JF dk e s) = some (.ref e) := opq (by rfl)
@[simp] theorem jn_term : List.lookup ("term" : Str) (JF dk e s) = none := opq (by rfl)
@[simp] theorem jn_vote : List.lookup ("vote" : Str) (JF dk e s) = none := opq (by rfl)
@[simp] theorem jn_base : List.lookup ("base" : Str) (JF dk e s) = none := opq (by rfl)
@[simp] theorem jn_last : List.lookup ("last" : Str) (JF dk e s) = none := opq (by rfl)
@[simp] theorem jn_term_at : List.lookup ("term_at" : Str) (JF dk e s) = none := opq (by rfl)
@[simp] theorem jn_entries_from : List.lookup ("entries_from" : Str) (JF dk e s) = none := opq (by rfl)
@[simp] theorem jn_write : List.lookup ("write" : Str) (JF dk e s) = none := opq (by rfl)
@[simp] theorem jn_set_term : List.lookup ("set_term" : Str) (JF dk e s) = none := opq (by rfl)
@[simp] theorem jn_add : List.lookup ("add" : Str) (JF dk e s) = none := opq (by rfl)
@[simp] theorem jn_cut : List.lookup ("cut" : Str) (JF dk e s) = none := opq (by rfl)
@[simp] theorem jn_rebase : List.lookup ("rebase" : Str) (JF dk e s) = none := opq (by rfl)
@[simp] theorem jn_take_base : List.lookup ("take_base" : Str) (JF dk e s) = none := opq (by rfl)
@[simp] theorem jn_do : List.lookup ("do" : Str) (JF dk e s) = none := opq (by rfl)
@[simp] theorem dn_append : List.lookup ("append" : Str) (DF ln rt dn lg) = none := opq (by rfl)
@[simp] theorem dn_keep_log : List.lookup ("keep_log" : Str) (DF ln rt dn lg) = none := opq (by rfl)
@[simp] theorem dn_log : List.lookup ("log" : Str) (DF ln rt dn lg) = none := opq (by rfl)
@[simp] theorem dn_deeds : List.lookup ("deeds" : Str) (DF ln rt dn lg) = none := opq (by rfl)
@[simp] theorem dn_do : List.lookup ("do" : Str) (DF ln rt dn lg) = none := opq (by rfl)
@[simp] theorem dn_set_root : List.lookup ("set_root" : Str) (DF ln rt dn lg) = none := opq (by rfl)
@[simp] theorem dn_write : List.lookup ("write" : Str) (DF ln rt dn lg) = none := opq (by rfl)
@[simp] theorem dn_free : List.lookup ("free" : Str) (DF ln rt dn lg) = none := opq (by rfl)
@[simp] theorem df1 : List.lookup ("logged" : Str) (DF ln rt dn lg) = some (tI lg) := opq (by rfl)
@[simp] theorem df2 : List.lookup ("done" : Str) (DF ln rt dn lg) = some (.ref dn) := opq (by rfl)
@[simp] theorem df3 {m : List Int} : putFD "logged" (tI m) (DF ln rt dn lg) = DF ln rt dn m := opq (by rfl)
@[simp] theorem jp1 {t : Nat} : putFD "own_term" (.int t) (JF dk e s) = JF dk e { s with term := t } := opq (by rfl)
@[simp] theorem jp2 {v : Vt} : putFD "own_vote" (.str v.s) (JF dk e s) = JF dk e { s with vote := v } := opq (by rfl)
@[simp] theorem jp3 {i t : Nat} {x : List Int} : putFD "own_base" (.tup [.int i, .int t, tI x]) (JF dk e s) = JF dk e { s with bi := i, bt := t, bl := x } := opq (by rfl)
@[simp] theorem jp4 {f : Nat} : putFD "entries" (.ref f) (JF dk e s) = JF dk f s := opq (by rfl)
@[simp] theorem jl : (JF dk e s).length = 5 := rfl
@[simp] theorem dl : (DF ln rt dn lg).length = 4 := rfl
@[simp] theorem look1 {β : Type} {c : Str} {F : β} : List.lookup c [(c, F)] = some F := by simp [List.lookup]
@[simp] theorem jf_es {es : List (Nat × List Int)} : JF dk e { s with es := es } = JF dk e s := rfl
end
@[simp] theorem e_tI {l : List Int} : D.tup (l.map D.int) = tI l := rfl
structure JO (j dk e : Nat) (s : St) (g : G) : Prop where
  ins : g[j]? = some (.ins "Journal" (JF dk e s))
  lst : g[e]? = some (.lst (s.es.map ent))
structure DO (dk ln rt dn : Nat) (lg : List Int) (ds : List D) (g : G) : Prop where
  ins : g[dk]? = some (.ins "Disk" (DF ln rt dn lg))
  lst : g[dn]? = some (.lst ds)
section
variable {j dk e ln rt dn : Nat} {s : St} {lg : List Int} {ds : List D} {g : G}
theorem j_last (h : JO j dk e s g) : F_Journal_last [.ref j] g = .ok (.int (s.bi + s.es.length)) g := by
  simp [F_Journal_last, defF, m_Journal_last, List.replicate, h.ins, h.lst, bD]
theorem j_term (h : JO j dk e s g) : F_Journal_term [.ref j] g = .ok (.int s.term) g := by
  simp [F_Journal_term, defF, m_Journal_term, List.replicate, h.ins, h.lst, bD]
theorem j_vote (h : JO j dk e s g) : F_Journal_vote [.ref j] g = .ok (.str s.vote.s) g := by
  simp [F_Journal_vote, defF, m_Journal_vote, List.replicate, h.ins, h.lst, bD]
theorem j_base (h : JO j dk e s g) : F_Journal_base [.ref j] g = .ok (bD s) g := by
  simp [F_Journal_base, defF, m_Journal_base, List.replicate, h.ins, h.lst]
/-- the term at an index, as the code tells it -/
def St.tD (s : St) (i : Nat) : D := if i = s.bi then .int s.bt else if s.bi < i ∧ i ≤ s.bi + s.es.length then .int ((s.es[i - s.bi - 1]?).getD (0, [])).1 else .non
theorem atI_ent {es : List (Nat × List Int)} {i : Int} {k : Nat} {p : Nat × List Int} (h : es[k]? = some p) (e : i = k) : atI (es.map ent) i = some (ent p) := by
  subst e; exact DL.atI_nat (by simp [h])
theorem j_term_at (h : JO j dk e s g) (i : Nat) : F_Journal_term_at [.ref j, .int i] g = .ok (s.tD i) g := by
  have e1 := j_last h
  have e2 := eqB_int (i := i) (j := s.bi) (g := g)
  unfold St.tD
  by_cases c : i = s.bi
  · have c' : (i : Int) = s.bi := by omega
    simp [F_Journal_term_at, defF, m_Journal_term_at, List.replicate, h.ins, h.lst, bD, eqB_int, c', c]
  · have c' : ¬ (i : Int) = s.bi := by omega
    by_cases c2 : s.bi < i
    · have c2' : (s.bi : Int) < i := by omega
      by_cases c3 : i ≤ s.bi + s.es.length
      · have c3' : (i : Int) ≤ s.bi + s.es.length := by omega
        obtain ⟨p, hp⟩ : ∃ p, s.es[i - s.bi - 1]? = some p := ⟨_, List.getElem?_eq_getElem (by omega)⟩
        have e3 : atI (s.es.map ent) ((i : Int) - s.bi - 1) = some (ent p) := atI_ent hp (by omega)
        simp [F_Journal_term_at, defF, m_Journal_term_at, List.replicate, h.ins, h.lst, bD, eqB_int, c', c, c2, c2', c3, c3', e1, e3, hp, ent]
      · have c3' : ¬ (i : Int) ≤ s.bi + s.es.length := by omega
        simp [F_Journal_term_at, defF, m_Journal_term_at, List.replicate, h.ins, h.lst, bD, eqB_int, c', c, c2, c2', c3, c3', e1]
    · have c2' : ¬ (s.bi : Int) < i := by omega
      simp [F_Journal_term_at, defF, m_Journal_term_at, List.replicate, h.ins, h.lst, bD, eqB_int, c', c, c2, c2', e1]
theorem j_entries (h : JO j dk e s g) {i : Nat} (hi : s.bi < i) : F_Journal_entries_from [.ref j, .int i] g = .ok (.tup ((s.es.drop (i - s.bi - 1)).map ent)) (g ++ [O.lst ((s.es.drop (i - s.bi - 1)).map ent)]) := by
  have e1 : cutD (s.es.map ent) (some ((i : Int) - s.bi - 1)) none = (s.es.drop (i - s.bi - 1)).map ent := by
    rw [cut_f (by omega), ← List.map_drop]
    congr 2; omega
  simp only [F_Journal_entries_from, defF]
  generalize hp : (s.es.drop (i - s.bi - 1)).map ent = p at e1 ⊢
  simp [m_Journal_entries_from, List.replicate, h.ins, h.lst, bD, e1]
theorem d_append (h : DO dk ln rt dn lg ds g) (x : List Int) (h1 : ds.length < 1000000) (h2 : lg.length + x.length ≤ 1000000) :
    F_Disk_append [.ref dk, tI x] g = .ok .non ((g.set dn (.lst (ds ++ [.tup [.str "log", tI x]]))).set dk (.ins "Disk" (DF ln rt dn (lg ++ x)))) := by
  have n1 : dn ≠ dk := fun z => by subst z; have := h.ins; rw [h.lst] at this; cases this
  have e1 := get_set_ne (o' := .lst (ds ++ [.tup [.str "log", tI x]])) h.ins n1
  have a1 : ds.length < sizeLine := by unfold sizeLine; omega
  have a2 : lg.length + x.length ≤ sizeLine := by unfold sizeLine; omega
  have a3 : (2 : Nat) ≤ sizeLine := by decide
  have e2 : addD (tI lg) (tI x) (g.set dn (.lst (ds ++ [.tup [.str "log", tI x]]))) = .ok (tI (lg ++ x)) (g.set dn (.lst (ds ++ [.tup [.str "log", tI x]]))) := by
    have a4 : (lg.map D.int).length + (x.map D.int).length ≤ sizeLine := by simpa using a2
    unfold tI
    rw [e_addD]; dsimp only
    rw [if_pos a4, ← List.map_append]
  simp [F_Disk_append, defF, m_Disk_append, List.replicate, h.ins, h.lst, a1, a3, e1, e2, -e_addD]
/-! ### a journal follows a line -/
theorem cn_k {n : Nat} (h : n < 64) : (cn (n : Int)).length = 1 := by rw [cn1 (by omega)]; rfl
theorem rn0 {n : Nat} {r : List Int} {g : G} (h : n < 64) : F_read_number [tI (cn n ++ r), .int 0] g = .ok (.tup [.int n, .int 1]) g := by
  have e := read_number_ok (l := cn n ++ r) (r := r) (at_ := 0) (n := n) (g := g) (by omega) (by omega) rfl
  rw [cn_k h] at e
  exact e
theorem rnk {l r : List Int} {a n : Nat} {g : G} (h : n < 8192) (e : l.drop a = cn n ++ r) : F_read_number [tI l, .int a] g = .ok (.tup [.int n, .int (a + (cn n).length : Nat)]) g := by
  have e := read_number_ok (l := l) (r := r) (at_ := a) (n := n) (g := g) (by omega) (by omega) e
  rw [e, Int.natCast_add]
theorem dropk {a b r : List Int} {n m : Nat} (h : a.drop n = b ++ r) (e : m = n + b.length) : a.drop m = r := by rw [e, ← List.drop_drop, h, List.drop_left]
theorem sm_je {j e : Nat} {g : G} {o : O} : Sm (fun n => n = j ∨ n = e) g (g.set j o) := Sm.set (.inl rfl)
theorem JO.ne (h : JO j dk e s g) : e ≠ j := fun z => by subst z; have := h.ins; rw [h.lst] at this; cases this
theorem do_term (h : JO j dk e s g) {t : Nat} {v : Vt} (ht : t < 8192) : ∃ g', F_Journal_do [.ref j, tI (Dd.term t v).line] g = .ok .non g' ∧ JO j dk e (s.step (.term t v)) g' ∧ Sm (fun n => n = j ∨ n = e) g g' := by
  have l1 : (Dd.term t v).line.drop 1 = cn t ++ tx v.c := rfl
  have e1 : F_read_number [tI (Dd.term t v).line, .int 0] g = _ := rn0 (n := 0) (by omega)
  have e2 : F_read_number [tI (Dd.term t v).line, .int 1] g = _ := rnk ht l1
  have l2 : (Dd.term t v).line.drop (1 + (cn (t : Int)).length) = cn v.c.length ++ (v.c ++ []) := by rw [dropk l1 rfl, tx, List.append_nil]
  have e3 := read_ascii_ok (g := g) l2
  generalize (Dd.term t v).line = l at e1 e2 e3 ⊢
  generalize hu : 1 + (cn (t : Int)).length = u at e2 e3
  refine ⟨_, ?_, ⟨get_set_eq h.ins, get_set_ne h.lst (Ne.symm h.ne)⟩, sm_je⟩
  have x1 := get_set_eq (o' := .ins "Journal" (JF dk e { s with term := t })) h.ins
  simp [F_Journal_do, defF, m_Journal_do, List.replicate, e1, e2, e3, eqB_int, h.ins, x1, St.step, sizeLine]
theorem do_add (h : JO j dk e s g) {t : Nat} {x : List Int} (ht : t < 8192) (hx : x.length ≤ 2) (hs : s.es.length < 1000) : ∃ g', F_Journal_do [.ref j, tI (Dd.add t x).line] g = .ok .non g' ∧ JO j dk e (s.step (.add t x)) g' ∧ Sm (fun n => n = j ∨ n = e) g g' := by
  have l1 : (Dd.add t x).line.drop 1 = cn t ++ tx x := rfl
  have e1 : F_read_number [tI (Dd.add t x).line, .int 0] g = _ := rn0 (n := 1) (by omega)
  have e2 : F_read_number [tI (Dd.add t x).line, .int 1] g = _ := rnk ht l1
  have l2 : (Dd.add t x).line.drop (1 + (cn (t : Int)).length) = cn x.length ++ (x ++ []) := by rw [dropk l1 rfl, tx, List.append_nil]
  have e3 := read_line_ok (g := g) (by omega) l2
  generalize (Dd.add t x).line = l at e1 e2 e3 ⊢
  generalize hu : 1 + (cn (t : Int)).length = u at e2 e3
  refine ⟨g.set e (.lst ((s.es ++ [(t, x)]).map ent)), ?_, ⟨get_set_ne h.ins h.ne, get_set_eq h.lst⟩, Sm.set (.inr rfl)⟩
  have a1 : s.es.length < sizeLine := by unfold sizeLine; omega
  have a2 : (2 : Nat) ≤ sizeLine := by decide
  simp [F_Journal_do, defF, m_Journal_do, List.replicate, e1, e2, e3, eqB_int, h.ins, h.lst, a1, a2, ent]
theorem do_cut (h : JO j dk e s g) {i : Nat} (ht : i < 8192) (hi : s.bi + 1 ≤ i) : ∃ g', F_Journal_do [.ref j, tI (Dd.cut i).line] g = .ok .non g' ∧ JO j dk g.length (s.step (.cut i)) g' ∧ Sm (fun n => n = j ∨ n = e) g g' := by
  have l1 : (Dd.cut i).line.drop 1 = cn i ++ [] := by show cn i = _; simp
  have e1 : F_read_number [tI (Dd.cut i).line, .int 0] g = _ := rn0 (n := 2) (by omega)
  have e2 : F_read_number [tI (Dd.cut i).line, .int 1] g = _ := rnk ht l1
  generalize (Dd.cut i).line = l at e1 e2 ⊢
  have e3 : cutD (s.es.map ent) none (some ((i : Int) - s.bi - 1)) = (s.es.take (i - s.bi - 1)).map ent := by
    rw [cut_t (by omega), ← List.map_take]; congr 2; omega
  have x1 := get_app [O.lst ((s.es.take (i - s.bi - 1)).map ent)] h.ins
  refine ⟨(g ++ [O.lst ((s.es.take (i - s.bi - 1)).map ent)]).set j (.ins "Journal" (JF dk g.length s)), ?_, ⟨get_set_eq x1, get_set_ne get_new (Nat.ne_of_lt (get_lt h.ins))⟩, (Sm.app _).trans (sm_je)⟩
  generalize hp : (s.es.take (i - s.bi - 1)).map ent = p at e3 x1 ⊢
  simp [F_Journal_do, defF, m_Journal_do, List.replicate, e1, e2, e3, eqB_int, h.ins, h.lst, x1, bD]
theorem tD_at {i : Nat} (h1 : s.bi ≤ i) (h2 : i ≤ s.bi + s.es.length) : s.tD i = .int (s.at_ i) := by
  unfold St.tD St.at_
  by_cases c : i = s.bi
  · rw [if_pos c, if_pos c]
  · rw [if_neg c, if_neg c, if_pos ⟨by omega, h2⟩]
theorem do_rebase (h : JO j dk e s g) {i : Nat} {x : List Int} (ht : i < 8192) (hx : x.length ≤ 2) (h1 : s.bi ≤ i) (h2 : i ≤ s.bi + s.es.length) : ∃ g', F_Journal_do [.ref j, tI (Dd.rebase i x).line] g = .ok .non g' ∧ JO j dk g.length (s.step (.rebase i x)) g' ∧ Sm (fun n => n = j ∨ n = e) g g' := by
  have l1 : (Dd.rebase i x).line.drop 1 = cn i ++ tx x := rfl
  have e1 : F_read_number [tI (Dd.rebase i x).line, .int 0] g = _ := rn0 (n := 3) (by omega)
  have e2 : F_read_number [tI (Dd.rebase i x).line, .int 1] g = _ := rnk ht l1
  have l2 : (Dd.rebase i x).line.drop (1 + (cn (i : Int)).length) = cn x.length ++ (x ++ []) := by rw [dropk l1 rfl, tx, List.append_nil]
  have e3 := read_line_ok (g := g) (by omega) l2
  generalize (Dd.rebase i x).line = l at e1 e2 e3 ⊢
  generalize hu : 1 + (cn (i : Int)).length = u at e2 e3
  have e4 : cutD (s.es.map ent) (some ((i : Int) - s.bi)) none = (s.es.drop (i - s.bi)).map ent := by
    rw [cut_f (by omega), ← List.map_drop]; congr 2; omega
  have e5 := j_term_at h i
  rw [tD_at h1 h2] at e5
  have x1 := get_app [O.lst ((s.es.drop (i - s.bi)).map ent)] h.ins
  have x2 := get_set_eq (o' := .ins "Journal" (JF dk g.length s)) x1
  refine ⟨((g ++ [O.lst ((s.es.drop (i - s.bi)).map ent)]).set j (.ins "Journal" (JF dk g.length s))).set j (.ins "Journal" (JF dk g.length { s with bi := i, bt := s.at_ i, bl := x })), ?_, ⟨get_set_eq x2, get_set_ne (get_set_ne get_new (Nat.ne_of_lt (get_lt h.ins))) (Nat.ne_of_lt (get_lt h.ins))⟩, ((Sm.app _).trans (sm_je)).trans (sm_je)⟩
  have a2 : (3 : Nat) ≤ sizeLine := by decide
  generalize hp : (s.es.drop (i - s.bi)).map ent = p at e4 x1 x2 ⊢
  generalize hq : s.at_ i = q at e5 ⊢
  simp [F_Journal_do, defF, m_Journal_do, List.replicate, e1, e2, e3, e4, e5, eqB_int, h.ins, h.lst, x1, x2, bD, a2, -List.set_set]
theorem do_base (h : JO j dk e s g) {i t : Nat} {x : List Int} (ht : i < 8192) (ht2 : t < 8192) (hx : x.length ≤ 2) : ∃ g', F_Journal_do [.ref j, tI (Dd.base i t x).line] g = .ok .non g' ∧ JO j dk g.length (s.step (.base i t x)) g' ∧ Sm (fun n => n = j ∨ n = e) g g' := by
  have l1 : (Dd.base i t x).line.drop 1 = cn i ++ (cn t ++ tx x) := rfl
  have e1 : F_read_number [tI (Dd.base i t x).line, .int 0] g = _ := rn0 (n := 4) (by omega)
  have e2 : F_read_number [tI (Dd.base i t x).line, .int 1] g = _ := rnk ht l1
  have l2 : (Dd.base i t x).line.drop (1 + (cn (i : Int)).length) = cn t ++ tx x := dropk l1 rfl
  have e3 : F_read_number [tI (Dd.base i t x).line, .int (1 + (cn (i : Int)).length : Nat)] g = _ := rnk ht2 l2
  have l3 : (Dd.base i t x).line.drop (1 + (cn (i : Int)).length + (cn (t : Int)).length) = cn x.length ++ (x ++ []) := by rw [dropk l2 rfl, tx, List.append_nil]
  have e4 := read_line_ok (g := g) (by omega) l3
  generalize (Dd.base i t x).line = l at e1 e2 e3 e4 ⊢
  generalize hu : 1 + (cn (i : Int)).length = u at e2 e3 e4
  generalize hv : u + (cn (t : Int)).length = v at e3 e4
  have x1 := get_app [O.lst []] h.ins
  have x2 := get_set_eq (o' := .ins "Journal" (JF dk e { s with bi := i, bt := t, bl := x })) x1
  refine ⟨((g ++ [O.lst []]).set j (.ins "Journal" (JF dk e { s with bi := i, bt := t, bl := x }))).set j (.ins "Journal" (JF dk g.length { s with bi := i, bt := t, bl := x })), ?_, ⟨get_set_eq x2, get_set_ne (get_set_ne get_new (Nat.ne_of_lt (get_lt h.ins))) (Nat.ne_of_lt (get_lt h.ins))⟩, ((Sm.app _).trans (sm_je)).trans (sm_je)⟩
  have a2 : (3 : Nat) ≤ sizeLine := by decide
  have a3 : (2 : Nat) ≤ sizeLine := by decide
  simp [F_Journal_do, defF, m_Journal_do, List.replicate, e1, e2, e3, e4, eqB_int, h.ins, h.lst, x1, x2, bD, a2, a3, -List.set_set]
end
end K70

/-! ## Kp4 -/
set_option maxHeartbeats 4000000
namespace K70
open PySem PySem.Spec PyProof.Rows L2 DL
section
variable {j dk e ln rt dn : Nat} {s : St} {lg : List Int} {ds : List D} {g : G} {d : Dd}
theorem do_any (h : JO j dk e s g) (ok : d.ok s) (hs : s.es.length < 1000) : ∃ e' g', F_Journal_do [.ref j, tI d.line] g = .ok .non g' ∧ JO j dk e' (s.step d) g' ∧ Sm (fun n => n = j ∨ n = e) g g' ∧ (e' = e ∨ e' = g.length) := by
  cases d with
  | term t v => obtain ⟨g', a, b, c⟩ := do_term h (v := v) ok; exact ⟨e, g', a, b, c, .inl rfl⟩
  | add t x => obtain ⟨g', a, b, c⟩ := do_add h ok.1 ok.2 hs; exact ⟨e, g', a, b, c, .inl rfl⟩
  | cut i => obtain ⟨g', a, b, c⟩ := do_cut h ok.2 ok.1; exact ⟨_, g', a, b, c, .inr rfl⟩
  | rebase i x => obtain ⟨g', a, b, c⟩ := do_rebase h ok.2.2.1 ok.2.2.2 ok.1 ok.2.1; exact ⟨_, g', a, b, c, .inr rfl⟩
  | base i t x => obtain ⟨g', a, b, c⟩ := do_base h ok.1 ok.2.1 ok.2.2; exact ⟨_, g', a, b, c, .inr rfl⟩
theorem vt_len {v : Vt} : v.c.length ≤ 3 := by cases v <;> simp [Vt.c]
theorem tx_len {x : List Int} : (tx x).length ≤ 2 + x.length := by have := @cn_len x.length; simp [tx]; omega
theorem line_len (ok : d.ok s) : d.line.length < 20 := by
  have h0 := @cn_len 0
  have h1 := @cn_len 1
  have h2 := @cn_len 2
  have h3 := @cn_len 3
  have h4 := @cn_len 4
  cases d with
  | term t v => have a := @cn_len t; have b := @tx_len v.c; have c := @vt_len v; simp only [Dd.line, List.length_append]; omega
  | add t x => have a := @cn_len t; have b := @tx_len x; have c := ok.2; simp only [Dd.line, List.length_append]; omega
  | cut i => have a := @cn_len i; simp only [Dd.line, List.length_append]; omega
  | rebase i x => have a := @cn_len i; have b := @tx_len x; have c := ok.2.2.2; simp only [Dd.line, List.length_append]; omega
  | base i t x => have a := @cn_len i; have a' := @cn_len t; have b := @tx_len x; have c := ok.2.2; simp only [Dd.line, List.length_append]; omega
/-- a deed on the disk -/
def lgD (x : List Int) : D := .tup [.str "log", tI x]
structure JW (j dk e ln rt dn : Nat) (s : St) (lg : List Int) (ds : List D) (g : G) : Prop where
  jo : JO j dk e s g
  do_ : DO dk ln rt dn lg ds g
  ne : e ≠ dn
theorem JW.jk (h : JW j dk e ln rt dn s lg ds g) : j ≠ dk := fun z => by
  have a := h.jo.ins
  rw [z, h.do_.ins] at a
  have a : (("Disk" : Str) = "Journal") := by injection (Option.some.inj a)
  exact absurd a (by decide +kernel)
theorem JW.jn (h : JW j dk e ln rt dn s lg ds g) : j ≠ dn := fun z => by have a := h.jo.ins; rw [z, h.do_.lst] at a; cases a
theorem JW.ek (h : JW j dk e ln rt dn s lg ds g) : e ≠ dk := fun z => by have a := h.jo.lst; rw [z, h.do_.ins] at a; cases a
theorem JW.kn (h : JW j dk e ln rt dn s lg ds g) : dk ≠ dn := fun z => by have a := h.do_.ins; rw [z, h.do_.lst] at a; cases a
theorem fr_len_ok (ok : d.ok s) : (fr d.line).length < 40 := by have := line_len ok; have := @cn_len d.line.length; rw [fr_len]; omega
theorem j_write (h : JW j dk e ln rt dn s lg ds g) (ok : d.ok s) (hs : s.es.length < 1000) (h1 : ds.length < 1000) (h2 : lg.length < 100000) :
    ∃ e' g', F_Journal_write [.ref j, tI d.line] g = .ok .non g' ∧ JW j dk e' ln rt dn (s.step d) (lg ++ fr d.line) (ds ++ [lgD (fr d.line)]) g' ∧ Sm (fun n => n = j ∨ n = e ∨ n = dk ∨ n = dn) g g' ∧ (e' = e ∨ g.length ≤ e') := by
  have ll := line_len ok
  have e1 : F_frame [tI d.line] g = .ok (tI (fr d.line)) g := frame_ok (by omega)
  have fl' := fr_len_ok ok
  have e2 := d_append h.do_ (fr d.line) (by omega) (by omega)
  generalize hg1 : (g.set dn (.lst (ds ++ [.tup [.str "log", tI (fr d.line)]]))).set dk (.ins "Disk" (DF ln rt dn (lg ++ fr d.line))) = g1 at e2
  have j1 : g1[j]? = some (.ins "Journal" (JF dk e s)) := by rw [← hg1]; exact get_set_ne (get_set_ne h.jo.ins h.jn.symm) h.jk.symm
  have j2 : g1[e]? = some (.lst (s.es.map ent)) := by rw [← hg1]; exact get_set_ne (get_set_ne h.jo.lst h.ne.symm) h.ek.symm
  have d1 : g1[dk]? = some (.ins "Disk" (DF ln rt dn (lg ++ fr d.line))) := by rw [← hg1]; exact get_set_eq (get_set_ne h.do_.ins h.kn.symm)
  have d2 : g1[dn]? = some (.lst (ds ++ [lgD (fr d.line)])) := by rw [← hg1]; exact get_set_ne (get_set_eq h.do_.lst) h.kn
  have gl : g1.length = g.length := by rw [← hg1]; simp
  have s1 : Sm (fun n => n = j ∨ n = e ∨ n = dk ∨ n = dn) g g1 := by rw [← hg1]; exact (Sm.set (.inr (.inr (.inr rfl)))).trans (Sm.set (.inr (.inr (.inl rfl))))
  obtain ⟨e', g', a1, a2, a3, a4⟩ := do_any ⟨j1, j2⟩ ok hs
  refine ⟨e', g', ?_, ⟨a2, ⟨a3.get _ _ d1 ?_, a3.get _ _ d2 ?_⟩, ?_⟩, s1.trans (a3.imp fun n _ z => z.elim .inl fun z => .inr (.inl z)), ?_⟩
  · simp [F_Journal_write, defF, m_Journal_write, List.replicate, h.jo.ins, h.do_.ins, e1, e2, a1, j1]
  · rintro (z | z)
    · exact h.jk z.symm
    · exact h.ek z.symm
  · rintro (z | z)
    · exact h.jn z.symm
    · exact h.ne z.symm
  · rcases a4 with z | z
    · rw [z]; exact h.ne
    · rw [z]; exact Ne.symm (Nat.ne_of_lt (get_lt d2))
  · rcases a4 with z | z
    · exact .inl z
    · exact .inr (by rw [z, gl]; exact Nat.le_refl _)
theorem addT {a b : List Int} (h : a.length + b.length ≤ 1000) : addD (tI a) (tI b) g = .ok (tI (a ++ b)) g := by
  have a4 : (a.map D.int).length + (b.map D.int).length ≤ sizeLine := by unfold sizeLine; simp; omega
  unfold tI
  rw [e_addD]; dsimp only
  rw [if_pos a4, ← List.map_append]
theorem cno {n : Nat} (h : n < 8192) : F_code_number [.int n] g = .ok (tI (cn n)) g := code_number_ok (by omega) (by omega)
/-- what a deed's call gives back -/
def Dd.told (s : St) : Dd → D
  | .add _ _ => .int (s.bi + s.es.length)
  | _ => .non
theorem tell_ok (h : JW j dk e ln rt dn s lg ds g) (ok : d.ok s) (hs : s.es.length < 1000) (h1 : ds.length < 1000) (h2 : lg.length < 100000) :
    ∃ e' g', F__law_tell [.ref j, d.d] g = .ok (d.told (s.step d)) g' ∧ JW j dk e' ln rt dn (s.step d) (lg ++ fr d.line) (ds ++ [lgD (fr d.line)]) g' ∧ Sm (fun n => n = j ∨ n = e ∨ n = dk ∨ n = dn) g g' ∧ (e' = e ∨ g.length ≤ e') := by
  obtain ⟨e', g', w, a2, a3, a4⟩ := j_write h ok hs h1 h2
  refine ⟨e', g', ?_, a2, a3, a4⟩
  have k0 : F_code_number [.int 0] g = .ok (tI (cn 0)) g := cno (n := 0) (by omega)
  have k1 : F_code_number [.int 1] g = .ok (tI (cn 1)) g := cno (n := 1) (by omega)
  have k2 : F_code_number [.int 2] g = .ok (tI (cn 2)) g := cno (n := 2) (by omega)
  have k3 : F_code_number [.int 3] g = .ok (tI (cn 3)) g := cno (n := 3) (by omega)
  have k4 : F_code_number [.int 4] g = .ok (tI (cn 4)) g := cno (n := 4) (by omega)
  have c0 := @cn_len 0
  have c1 := @cn_len 1
  have c2 := @cn_len 2
  have c3 := @cn_len 3
  have c4 := @cn_len 4
  cases d with
  | term t v =>
    have k5 : F_code_number [.int t] g = _ := cno ok
    have k6 : F_code_ascii [.str v.s] g = .ok (tI (tx v.c)) g := code_ascii_ok
    have b := @tx_len v.c
    have b2 := @vt_len v
    have b3 := @cn_len t
    have s1 := addT (g := g) (a := cn 0) (b := cn t) (by omega)
    have s2 := addT (g := g) (a := cn 0 ++ cn t) (b := tx v.c) (by rw [List.length_append]; omega)
    rw [List.append_assoc] at s2
    have w : F_Journal_write [.ref j, tI (cn 0 ++ (cn t ++ tx v.c))] g = _ := w
    have m : F_Journal_set_term [.ref j, .int t, .str v.s] g = .ok .non g' := by
      simp [F_Journal_set_term, defF, m_Journal_set_term, List.replicate, k0, k5, k6, s1, s2, w, h.jo.ins, -e_addD]
    simp [F__law_tell, defF, m__law_tell, List.replicate, Dd.d, Dd.told, m, h.jo.ins]
  | add t x =>
    have k5 : F_code_number [.int t] g = _ := cno ok.1
    have b2 := ok.2
    have k6 : F_code_line [tI x] g = .ok (tI (tx x)) g := code_line_ok (by omega)
    have b := @tx_len x
    have b3 := @cn_len t
    have s1 := addT (g := g) (a := cn 1) (b := cn t) (by omega)
    have s2 := addT (g := g) (a := cn 1 ++ cn t) (b := tx x) (by rw [List.length_append]; omega)
    rw [List.append_assoc] at s2
    have w : F_Journal_write [.ref j, tI (cn 1 ++ (cn t ++ tx x))] g = _ := w
    have l := j_last a2.jo
    have m : F_Journal_add [.ref j, .int t, tI x] g = .ok (.int ((s.step (.add t x)).bi + (s.step (.add t x)).es.length)) g' := by
      simp only [F_Journal_add, defF]
      generalize s.step (.add t x) = s' at l a2
      simp [m_Journal_add, List.replicate, k1, k5, k6, s1, s2, w, h.jo.ins, l, a2.jo.ins, -e_addD]
    simp only [Dd.told]
    generalize s.step (.add t x) = s' at m
    simp [F__law_tell, defF, m__law_tell, List.replicate, Dd.d, m, h.jo.ins]
  | cut i =>
    have k5 : F_code_number [.int i] g = _ := cno ok.2
    have b3 := @cn_len i
    have s1 := addT (g := g) (a := cn 2) (b := cn i) (by omega)
    have w : F_Journal_write [.ref j, tI (cn 2 ++ cn i)] g = _ := w
    have m : F_Journal_cut [.ref j, .int i] g = .ok .non g' := by
      simp [F_Journal_cut, defF, m_Journal_cut, List.replicate, k2, k5, s1, w, h.jo.ins, -e_addD]
    simp [F__law_tell, defF, m__law_tell, List.replicate, Dd.d, Dd.told, m, h.jo.ins]
  | rebase t x =>
    have k5 : F_code_number [.int t] g = _ := cno ok.2.2.1
    have b2 := ok.2.2.2
    have k6 : F_code_line [tI x] g = .ok (tI (tx x)) g := code_line_ok (by omega)
    have b := @tx_len x
    have b3 := @cn_len t
    have s1 := addT (g := g) (a := cn 3) (b := cn t) (by omega)
    have s2 := addT (g := g) (a := cn 3 ++ cn t) (b := tx x) (by rw [List.length_append]; omega)
    rw [List.append_assoc] at s2
    have w : F_Journal_write [.ref j, tI (cn 3 ++ (cn t ++ tx x))] g = _ := w
    have m : F_Journal_rebase [.ref j, .int t, tI x] g = .ok .non g' := by
      simp [F_Journal_rebase, defF, m_Journal_rebase, List.replicate, k3, k5, k6, s1, s2, w, h.jo.ins, -e_addD]
    simp [F__law_tell, defF, m__law_tell, List.replicate, Dd.d, Dd.told, m, h.jo.ins]
  | base i t x =>
    have k5 : F_code_number [.int t] g = _ := cno ok.2.1
    have k7 : F_code_number [.int i] g = _ := cno ok.1
    have b2 := ok.2.2
    have k6 : F_code_line [tI x] g = .ok (tI (tx x)) g := code_line_ok (by omega)
    have b := @tx_len x
    have b3 := @cn_len t
    have b4 := @cn_len i
    have s1 := addT (g := g) (a := cn 4) (b := cn i) (by omega)
    have s2 := addT (g := g) (a := cn 4 ++ cn i) (b := cn t) (by rw [List.length_append]; omega)
    have s3 : addD (tI (cn 4 ++ cn i ++ cn t)) (tI (tx x)) g = .ok (tI (cn 4 ++ (cn i ++ (cn t ++ tx x)))) g := by
      rw [addT (by rw [List.length_append, List.length_append]; omega)]; simp
    have w : F_Journal_write [.ref j, tI (cn 4 ++ (cn i ++ (cn t ++ tx x)))] g = _ := w
    have m : F_Journal_take_base [.ref j, .int i, .int t, tI x] g = .ok .non g' := by
      simp only [F_Journal_take_base, defF]
      generalize cn 4 ++ cn i ++ cn t = p2 at s2 s3
      generalize cn 4 ++ cn i = p1 at s1 s2
      generalize cn 4 ++ (cn i ++ (cn t ++ tx x)) = p3 at s3 w
      simp [m_Journal_take_base, List.replicate, k4, k5, k6, k7, s1, s2, s3, w, h.jo.ins, -e_addD]
    simp [F__law_tell, defF, m__law_tell, List.replicate, Dd.d, Dd.told, m, h.jo.ins]
end
end K70

/-! ## Kp5 -/
set_option maxHeartbeats 4000000
namespace K70
open PySem PySem.Spec PyProof.Rows L2 DL
/-! ### the law's own equality -/
theorem same_int {k : Nat} {i : Int} {g : G} : R__law_same (k + 1) [.int i, .int i] g = .ok (.bl true) g := by
  refine pureF_ok (g' := []) rfl ?_ rfl
  simp [defF, m__law_same, List.replicate, tyD, isNon, kb2, kb6, kb7, kb8, eqB_bl, eqB_int]
theorem same_non {k : Nat} {g : G} : R__law_same (k + 1) [.non, .non] g = .ok (.bl true) g := by
  refine pureF_ok (g' := []) rfl ?_ rfl
  simp [defF, m__law_same, List.replicate, tyD, isNon, kb4]
theorem s62 {n : Nat} (h : n < 1000000) : small62 (n : Int) = true := by
  have a : -(2 ^ 62 : Int) ≤ n := by
    have : (-(2 ^ 62) : Int) ≤ 0 := by decide
    omega
  have b : (n : Int) < 2 ^ 62 := by
    have : (1000000 : Int) < 2 ^ 62 := by decide
    omega
  unfold small62
  rw [decide_eq_true a, decide_eq_true b]; rfl
theorem same_a1 {k : Nat} {ds : List D} {g : G} (s62 : small62 (ds.length : Int) = true) (e : lcL (.rng 0 ds.length) (fun d ev => some (ev.set 2 (some d))) (notB (truE (apE (R__law_same k) (consE (opE ixD (varE 0) (varE 2)) (consE (opE ixD (varE 1) (varE 2)) (nilE)))))) (varE 2) 0 (ds.length + 1) 0 [some (.tup ds), some (.tup ds), none] [.lst []] = .ok () [.lst []]) : 
   lcE (rngE1 (consE (apE lenF (consE (varE 1) (nilE))) (nilE))) [2] (fun d ev => some (ev.set 2 (some d))) (notB (truE (apE (R__law_same k) (consE (opE ixD (varE 0) (varE 2)) (consE (opE ixD (varE 1) (varE 2)) (nilE)))))) (varE 2) [some (.tup ds), some (.tup ds), none] [] = .ok (.ref 0) [.lst []] := by
  simp only [e_lcE, e_rngE1, e_consE, e_nilE, e_apE, e_varE, e_lenF, List.getElem?_cons_succ, List.getElem?_cons_zero, s62, if_true, Int.toNat_natCast, Src.len, wipeE, List.set_cons_succ, List.set_cons_zero, List.length_nil, List.nil_append, e]
theorem same_a2 {m : EM D} {ds : List D} (e : m [some (.tup ds), some (.tup ds), none] [] = .ok (.ref 0) [.lst []]) : 
   retS (opE eqD m (lstE (nilE))) [some (.tup ds), some (.tup ds), none] [] = .ok (.ret (.bl true)) ([some (.tup ds), some (.tup ds), none], [.lst [], .lst []]) := by
  have z := eqB_nils (a := 0) (b := 1) (g := [.lst [], .lst []]) rfl rfl
  simp [e, z]
theorem same_a3 {m : SM} {n : SM} {ds : List D} {f : Fl × Ev × G} (e : m [some (.tup ds), some (.tup ds), none] [] = .ok f.1 f.2) : (ifS (truE (isiE "tuple" (varE 1))) (seqS (ifS (orB (notB (truE (isiE "tuple" (varE 0)))) (boolE (opE neD (apE lenF (consE (varE 0) (nilE))) (apE lenF (consE (varE 1) (nilE)))))) (retS (cE (.bl false))) (nxS))
  m) n) [some (.tup ds), some (.tup ds), none] [] = .ok f.1 f.2 := by
  simp [tyD, kb1, eqB_int, e]
theorem same_tup {k : Nat} {ds : List D} {g : G} (nr : noRefs ds = true) (hl : ds.length < 1000000) (h : ∀ x ∈ ds, ∀ g, R__law_same k [x, x] g = .ok (.bl true) g) : R__law_same (k + 1) [.tup ds, .tup ds] g = .ok (.bl true) g := by
  refine pureF_ok (g' := [.lst [], .lst []]) (by simp [noRefs, noRef, nr]) ?_ rfl
  obtain ⟨g', e, rfl⟩ := lcL_inv (s := .rng 0 ds.length) (tm := fun d ev => some (ev.set 2 (some d))) (tt := notB (truE (apE (R__law_same k) (consE (opE ixD (varE 0) (varE 2)) (consE (opE ixD (varE 1) (varE 2)) (nilE)))))) (te := varE 2) (dn := 0) (n := ds.length) (ev := [some (.tup ds), some (.tup ds), none])
    (fun i g => g = [.lst []]) (by
      rintro i g hi rfl
      obtain ⟨x, hx⟩ : ∃ x, ds[i]? = some x := ⟨_, List.getElem?_eq_getElem hi⟩
      have ax : atI ds (i : Int) = some x := DL.atI_nat hx
      have hh := h x (List.mem_of_getElem? hx)
      refine ⟨.int i, [some (.tup ds), some (.tup ds), some (.int i)], [.lst []], by simp [Src.at_, hi], rfl, .inl ⟨?_, rfl⟩⟩
      simp [ax, hh]) (by
      rintro g rfl
      simp [Src.at_]) ds.length 0 [.lst []] (by omega) rfl
  have h3 := same_a3 (n := nxS) (f := (.ret (.bl true), [some (.tup ds), some (.tup ds), none], [.lst [], .lst []])) (same_a2 (same_a1 (g := g) (s62 hl) e))
  have h4 : m__law_same (R__law_same k) [some (.tup ds), some (.tup ds), none] [] = .ok (.ret (.bl true)) ([some (.tup ds), some (.tup ds), none], [.lst [], .lst []]) := by
    unfold m__law_same
    rw [e_seqS, h3]
  show (match m__law_same (R__law_same k) [some (.tup ds), some (.tup ds), none] [] with
    | .ok (.ret d) s => R.ok d s.2
    | .ok .nx s => .ok .non s.2
    | .ok _ _ => .no
    | .exn c s => .exn c s.2
    | .no => .no) = _
  rw [h4]
theorem same_tI {k : Nat} {l : List Int} {g : G} (h : l.length < 1000000) : R__law_same (k + 2) [tI l, tI l] g = .ok (.bl true) g := by
  refine same_tup (noRefs_ints l) (by simpa using h) fun x hx g => ?_
  obtain ⟨a, _, rfl⟩ := List.mem_map.mp hx
  exact same_int
theorem nr_ents : ∀ es : List (Nat × List Int), noRefs (es.map ent) = true
  | [] => rfl
  | p :: es => by simp [noRefs, ent, noRef, noRef_tI, nr_ents es]
theorem same_ents {es : List (Nat × List Int)} {g : G} (h : es.length < 1000) (h2 : ∀ p ∈ es, p.2.length ≤ 2) : F__law_same [.tup (es.map ent), .tup (es.map ent)] g = .ok (.bl true) g := by
  refine same_tup (k := 7) (nr_ents es) (by simp; omega) fun x hx g => ?_
  obtain ⟨p, hp, rfl⟩ := List.mem_map.mp hx
  refine same_tup (k := 6) (by simp [noRefs, noRef, noRef_tI]) (by simp) fun y hy g => ?_
  simp only [List.mem_cons, List.not_mem_nil, or_false] at hy
  rcases hy with rfl | rfl
  · exact same_int
  · exact same_tI (by have := h2 p hp; omega)
theorem same_bD {s : St} {g : G} (h : s.bl.length ≤ 2) : F__law_same [bD s, bD s] g = .ok (.bl true) g := by
  refine same_tup (k := 7) (by simp [noRefs, noRef, noRef_tI]) (by simp) fun y hy g => ?_
  simp only [List.mem_cons, List.not_mem_nil, or_false] at hy
  rcases hy with rfl | rfl | rfl
  · exact same_int
  · exact same_int
  · exact same_tI (by omega)
theorem same_tD {s : St} {n : Nat} {g : G} : F__law_same [s.tD n, s.tD n] g = .ok (.bl true) g := by
  unfold St.tD
  split
  · exact same_int (k := 7)
  · split
    · exact same_int (k := 7)
    · exact same_non (k := 7)
/-! ### the law's own journal -/
def jD (s : St) (e2 : Nat) : D := .tup [.int s.term, .str s.vote.s, bD s, .ref e2]
structure Small (s : St) : Prop where
  es : s.es.length < 1000
  sum : s.bi + s.es.length < 8000
  ln : ∀ p ∈ s.es, p.2.length ≤ 2
  bl : s.bl.length ≤ 2
section
variable {j dk e e2 : Nat} {s : St} {g : G}
theorem due_ok (h : g[e2]? = some (.lst (s.es.map ent))) {a b c d : Option D} {n : Nat} {z : Option D} :
    (ifE (boolE (opE eqD (varE 7) (opE ixD (varE 4) (cE (.int 0))))) (opE ixD (varE 4) (cE (.int 1))) (ifE (boolE (chE ltD leD (opE ixD (varE 4) (cE (.int 0))) (varE 7) (varE 6))) (opE ixD (opE ixD (varE 5) (opE subD (opE subD (varE 7) (opE ixD (varE 4) (cE (.int 0)))) (cE (.int 1)))) (cE (.int 0))) (cE (.non))))
      [a, b, c, d, some (bD s), some (.ref e2), some (.int (s.bi + s.es.length)), some (.int n), z] g = .ok (s.tD n) g := by
  unfold St.tD
  by_cases c : n = s.bi
  · have c' : (n : Int) = s.bi := by omega
    simp [h, bD, eqB_int, c', c]
  · have c' : ¬ (n : Int) = s.bi := by omega
    by_cases c2 : s.bi < n
    · have c2' : (s.bi : Int) < n := by omega
      by_cases c3 : n ≤ s.bi + s.es.length
      · have c3' : (n : Int) ≤ s.bi + s.es.length := by omega
        obtain ⟨p, hp⟩ : ∃ p, s.es[n - s.bi - 1]? = some p := ⟨_, List.getElem?_eq_getElem (by omega)⟩
        have e3 : atI (s.es.map ent) ((n : Int) - s.bi - 1) = some (ent p) := atI_ent hp (by omega)
        simp [h, bD, eqB_int, c', c, c2, c2', c3, c3', e3, hp, ent]
      · have c3' : ¬ (n : Int) ≤ s.bi + s.es.length := by omega
        simp [h, bD, eqB_int, c', c, c2, c2', c3, c3']
    · have c2' : ¬ (s.bi : Int) < n := by omega
      simp [h, bD, eqB_int, c', c, c2, c2']
theorem vt_ok {v : Vt} : PyData.strOk v.s = true := by cases v <;> decide +kernel
def none_ : Nat → Prop := fun _ => False
theorem is_turn (h : JO j dk e s g) (h2 : g[e2]? = some (.lst (s.es.map ent))) (sm : Small s) {a b c : Option D} {n : Nat} {y z : Option D} : ∃ b' g', stepS (nameT 7) (seqS (asgS (ifE (boolE (opE eqD (varE 7) (opE ixD (varE 4) (cE (.int 0))))) (opE ixD (varE 4) (cE (.int 1))) (ifE (boolE (chE ltD leD (opE ixD (varE 4) (cE (.int 0))) (varE 7) (varE 6))) (opE ixD (opE ixD (varE 5) (opE subD (opE subD (varE 7) (opE ixD (varE 4) (cE (.int 0)))) (cE (.int 1)))) (cE (.int 0))) (cE (.non)))) (nameT 8))
  (seqS (ifS (notB (truE (apE F__law_same (consE (methE [("Journal", F_Journal_term_at)] "term_at" (varE 0) (consE (varE 7) (nilE))) (consE (varE 8) (nilE)))))) (retS (cE (.bl false))) (nxS))
  (ifS (andB (boolE (opE gtD (varE 7) (opE ixD (varE 4) (cE (.int 0))))) (notB (truE (apE F__law_same (consE (methE [("Journal", F_Journal_entries_from)] "entries_from" (varE 0) (consE (varE 7) (nilE))) (consE (apE tupF (consE (slE (varE 5) (optE (opE subD (opE subD (varE 7) (opE ixD (varE 4) (cE (.int 0)))) (cE (.int 1)))) (noneE)) (nilE))) (nilE))))))) (retS (cE (.bl false))) (nxS)))) (.int n)
      [some (.ref j), a, b, c, some (bD s), some (.ref e2), some (.int (s.bi + s.es.length)), y, z] g = .ok .nx ([some (.ref j), a, b, c, some (bD s), some (.ref e2), some (.int (s.bi + s.es.length)), some (.int n), b'], g') ∧ Sm none_ g g' := by
  have d := due_ok h2 (a := some (.ref j)) (b := a) (c := b) (d := c) (n := n) (z := z)
  have t := j_term_at h n
  have st := same_tD (s := s) (n := n) (g := g)
  generalize hm : (ifE (boolE (opE eqD (varE 7) (opE ixD (varE 4) (cE (.int 0))))) (opE ixD (varE 4) (cE (.int 1))) (ifE (boolE (chE ltD leD (opE ixD (varE 4) (cE (.int 0))) (varE 7) (varE 6))) (opE ixD (opE ixD (varE 5) (opE subD (opE subD (varE 7) (opE ixD (varE 4) (cE (.int 0)))) (cE (.int 1)))) (cE (.int 0))) (cE (.non)))) = m at d ⊢
  generalize hd : s.tD n = dd at d t st
  by_cases c : s.bi < n
  · have c' : (s.bi : Int) < n := by omega
    have en := j_entries h c
    have e1 : cutD (s.es.map ent) (some ((n : Int) - s.bi - 1)) none = (s.es.drop (n - s.bi - 1)).map ent := by
      rw [cut_f (by omega), ← List.map_drop]
      congr 2; omega
    have h3 := get_app [O.lst ((s.es.drop (n - s.bi - 1)).map ent)] h2
    have se := fun g => same_ents (es := s.es.drop (n - s.bi - 1)) (g := g) (by rw [List.length_drop]; have := sm.es; omega) (fun p hp => sm.ln p (List.mem_of_mem_drop hp))
    generalize (s.es.drop (n - s.bi - 1)).map ent = q at en e1 h3 se
    refine ⟨some dd, (g ++ [O.lst q]) ++ [O.lst q], ?_, (Sm.app _).trans (Sm.app _)⟩
    have hb := d
    simp [bD] at d en t
    simp [d, t, st, h.ins, h2, h3, en, e1, se, c', bD, -List.append_assoc]
  · have c' : ¬ (s.bi : Int) < n := by omega
    refine ⟨some dd, g, ?_, Sm.refl⟩
    simp [bD] at d t
    simp [d, t, st, h.ins, h2, c', bD]
end
end K70

/-! ## Kp6 -/
set_option maxHeartbeats 4000000
namespace K70
open PySem PySem.Spec PyProof.Rows L2 DL
section
variable {j dk e e2 : Nat} {s : St} {g : G}
theorem Sm.jo (h : JO j dk e s g) {g' : G} (m : Sm none_ g g') : JO j dk e s g' := ⟨m.get _ _ h.ins (fun z => z), m.get _ _ h.lst (fun z => z)⟩
theorem is_ok (h : JO j dk e s g) (h2 : g[e2]? = some (.lst (s.es.map ent))) (sm : Small s) : ∃ g', F__law_is [.ref j, jD s e2] g = .ok (.bl true) g' ∧ Sm none_ g g' := by
  have t1 := j_term h
  have t2 := j_vote h
  have t3 := j_base h
  have t4 := j_last h
  have q1 := same_bD (s := s) (g := g) sm.bl
  have q2 := eqB_str (i := s.vote.s) (j := s.vote.s) (g := g) vt_ok vt_ok
  have sums := sm.sum
  obtain ⟨lo, hlo⟩ : ∃ lo : Nat, (if (s.bi : Int) - 2 > 0 then (s.bi : Int) - 2 else 0) = lo := ⟨s.bi - 2, by split <;> omega⟩
  have hn : ((s.bi : Int) + s.es.length + 3 - lo).toNat = s.bi + s.es.length + 3 - lo := by omega
  have l0 : lo ≤ s.bi := by split at hlo <;> omega
  have m1 : small62 (lo : Int) = true := s62 (by omega)
  have m2 : small62 ((s.bi : Int) + s.es.length + 3) = true := by have := @s62 (s.bi + s.es.length + 3) (by omega); simpa using this
  obtain ⟨ev', g', fe, ⟨y, z, he⟩, hsm⟩ := for_rng (lo := (lo : Int)) (n := s.bi + s.es.length + 3 - lo) (tg := nameT 7) (b := (seqS (asgS (ifE (boolE (opE eqD (varE 7) (opE ixD (varE 4) (cE (.int 0))))) (opE ixD (varE 4) (cE (.int 1))) (ifE (boolE (chE ltD leD (opE ixD (varE 4) (cE (.int 0))) (varE 7) (varE 6))) (opE ixD (opE ixD (varE 5) (opE subD (opE subD (varE 7) (opE ixD (varE 4) (cE (.int 0)))) (cE (.int 1)))) (cE (.int 0))) (cE (.non)))) (nameT 8))
  (seqS (ifS (notB (truE (apE F__law_same (consE (methE [("Journal", F_Journal_term_at)] "term_at" (varE 0) (consE (varE 7) (nilE))) (consE (varE 8) (nilE)))))) (retS (cE (.bl false))) (nxS))
  (ifS (andB (boolE (opE gtD (varE 7) (opE ixD (varE 4) (cE (.int 0))))) (notB (truE (apE F__law_same (consE (methE [("Journal", F_Journal_entries_from)] "entries_from" (varE 0) (consE (varE 7) (nilE))) (consE (apE tupF (consE (slE (varE 5) (optE (opE subD (opE subD (varE 7) (opE ixD (varE 4) (cE (.int 0)))) (cE (.int 1)))) (noneE)) (nilE))) (nilE))))))) (retS (cE (.bl false))) (nxS)))))
    (ev := [some (.ref j), some (jD s e2), some (.int s.term), some (.str s.vote.s), some (bD s), some (.ref e2), some (.int (s.bi + s.es.length)), none, none]) (g := g)
    (fun i ev g1 => (∃ y z, ev = [some (.ref j), some (jD s e2), some (.int s.term), some (.str s.vote.s), some (bD s), some (.ref e2), some (.int (s.bi + s.es.length)), y, z]) ∧ Sm none_ g g1) ⟨⟨none, none, rfl⟩, Sm.refl⟩ (by
      rintro i ev g1 hi ⟨⟨y, z, rfl⟩, hs⟩
      have hj := Sm.jo h hs
      obtain ⟨b', g2, r1, r2⟩ := is_turn hj (hs.get _ _ h2 (fun z => z)) sm (a := some (jD s e2)) (b := some (.int s.term)) (c := some (.str s.vote.s)) (n := lo + i) (y := y) (z := z)
      exact ⟨_, g2, by rw [Int.natCast_add] at r1; exact r1, ⟨_, _, rfl⟩, hs.trans r2⟩)
  subst he
  refine ⟨g', ?_, hsm⟩
  have hu : m__law_is [some (.ref j), some (jD s e2), none, none, none, none, none, none, none] g = .ok (.ret (.bl true)) ([some (.ref j), some (jD s e2), some (.int s.term), some (.str s.vote.s), some (bD s), some (.ref e2), some (.int (s.bi + s.es.length)), y, z], g') := by
    unfold m__law_is
    generalize hb : (seqS (asgS (ifE (boolE (opE eqD (varE 7) (opE ixD (varE 4) (cE (.int 0))))) (opE ixD (varE 4) (cE (.int 1))) (ifE (boolE (chE ltD leD (opE ixD (varE 4) (cE (.int 0))) (varE 7) (varE 6))) (opE ixD (opE ixD (varE 5) (opE subD (opE subD (varE 7) (opE ixD (varE 4) (cE (.int 0)))) (cE (.int 1)))) (cE (.int 0))) (cE (.non)))) (nameT 8))
  (seqS (ifS (notB (truE (apE F__law_same (consE (methE [("Journal", F_Journal_term_at)] "term_at" (varE 0) (consE (varE 7) (nilE))) (consE (varE 8) (nilE)))))) (retS (cE (.bl false))) (nxS))
  (ifS (andB (boolE (opE gtD (varE 7) (opE ixD (varE 4) (cE (.int 0))))) (notB (truE (apE F__law_same (consE (methE [("Journal", F_Journal_entries_from)] "entries_from" (varE 0) (consE (varE 7) (nilE))) (consE (apE tupF (consE (slE (varE 5) (optE (opE subD (opE subD (varE 7) (opE ixD (varE 4) (cE (.int 0)))) (cE (.int 1)))) (noneE)) (nilE))) (nilE))))))) (retS (cE (.bl false))) (nxS)))) = body at fe
    have b0 : atI [D.int s.bi, D.int s.bt, tI s.bl] 0 = some (.int s.bi) := atI_0
    have gt : (if (2 : Int) < (s.bi : Int) then (s.bi : Int) - 2 else 0) = lo := by
      rw [← hlo]
      by_cases c : (2 : Int) < s.bi
      · rw [if_pos c, if_pos (by omega)]
      · rw [if_neg c, if_neg (by omega)]
    generalize hst : stepS (nameT 7) body = stp at fe
    simp [jD, bD] at t1 t2 t3 t4 q1 q2 fe ⊢
    simp [h.ins, h2, t1, t2, t3, t4, q1, q2, eqB_int, gt, m1, m2, hn, Src.len, hst, fe]
  show (match m__law_is [some (.ref j), some (jD s e2), none, none, none, none, none, none, none] g with
    | .ok (.ret d) s => R.ok d s.2
    | .ok .nx s => .ok .non s.2
    | .ok _ _ => .no
    | .exn c s => .exn c s.2
    | .no => .no) = _
  rw [hu]
theorem ldo_ok (d : Dd) (ok : d.ok s) (h2 : g[e2]? = some (.lst (s.es.map ent))) (sm : Small s) : ∃ e3 g', F__law_do [jD s e2, d.d] g = .ok (jD (s.step d) e3) g' ∧ g'[e3]? = some (.lst ((s.step d).es.map ent)) ∧ Sm none_ g g' ∧ (e3 = e2 ∨ g.length ≤ e3) := by
  have a4 : (4 : Nat) ≤ sizeLine := by decide
  have a3 : (3 : Nat) ≤ sizeLine := by decide
  have a1 : (1 : Nat) ≤ sizeLine := by decide
  have sme := sm.es
  cases d with
  | term t v =>
    refine ⟨e2, g, ?_, h2, Sm.refl, .inl rfl⟩
    simp [F__law_do, defF, m__law_do, List.replicate, jD, Dd.d, a4, St.step, bD]
  | add t x =>
    have h3 := get_app [O.lst [ent (t, x)]] h2
    have a5 : s.es.length + 1 ≤ sizeLine := by unfold sizeLine; omega
    refine ⟨g.length + 1, (g ++ [.lst [ent (t, x)]]) ++ [.lst (s.es.map ent ++ [ent (t, x)])], ?_, ?_, (Sm.app _).trans (Sm.app _), .inr (by omega)⟩
    · simp only [ent] at h3 ⊢
      simp [F__law_do, defF, m__law_do, List.replicate, jD, Dd.d, a1, a4, St.step, bD, h2, h3, a5, cut_f, -List.append_assoc, DL.cutD, HT.sIx]
    · have := @get_new (g ++ [O.lst [ent (t, x)]]) (.lst (s.es.map ent ++ [ent (t, x)])) []
      simp only [List.length_append, List.length_singleton] at this
      rw [this]; simp [St.step]
  | cut i =>
    have e3 : DL.cutD (s.es.map ent) none (some ((i : Int) - s.bi - 1)) = (s.es.take (i - s.bi - 1)).map ent := by
      have := ok.1
      rw [cut_t (by omega), ← List.map_take]; congr 2; omega
    refine ⟨g.length, g ++ [.lst ((s.es.take (i - s.bi - 1)).map ent)], ?_, get_new, Sm.app _, .inr (Nat.le_refl _)⟩
    generalize (s.es.take (i - s.bi - 1)).map ent = q at e3 ⊢
    simp [F__law_do, defF, m__law_do, List.replicate, jD, Dd.d, a4, St.step, bD, h2, e3]
  | rebase i x =>
    obtain ⟨o1, o2, o3, o4⟩ := ok
    have e3 : DL.cutD (s.es.map ent) (some ((i : Int) - s.bi)) none = (s.es.drop (i - s.bi)).map ent := by
      rw [cut_f (by omega), ← List.map_drop]; congr 2; omega
    refine ⟨g.length, g ++ [.lst ((s.es.drop (i - s.bi)).map ent)], ?_, get_new, Sm.app _, .inr (Nat.le_refl _)⟩
    generalize (s.es.drop (i - s.bi)).map ent = q at e3 ⊢
    by_cases c : i = s.bi
    · have c' : (i : Int) = s.bi := by omega
      have z : s.at_ i = s.bt := by unfold St.at_; rw [if_pos c]
      rw [c', Int.sub_self] at e3
      simp [F__law_do, defF, m__law_do, List.replicate, jD, Dd.d, a4, a3, St.step, bD, h2, e3, eqB_int, c', z]
    · have c' : ¬ (i : Int) = s.bi := by omega
      obtain ⟨p, hp⟩ : ∃ p, s.es[i - s.bi - 1]? = some p := ⟨_, List.getElem?_eq_getElem (by omega)⟩
      have e4 : atI (s.es.map ent) ((i : Int) - s.bi - 1) = some (ent p) := atI_ent hp (by omega)
      have z : s.at_ i = p.1 := by unfold St.at_; rw [if_neg c, hp]; rfl
      simp [F__law_do, defF, m__law_do, List.replicate, jD, Dd.d, a4, a3, St.step, bD, h2, e3, e4, eqB_int, c', z, ent]
  | base i t x =>
    refine ⟨g.length, g ++ [.lst []], ?_, get_new, Sm.app _, .inr (Nat.le_refl _)⟩
    simp [F__law_do, defF, m__law_do, List.replicate, jD, Dd.d, a4, a3, St.step, bD, h2, DL.cutD, HT.sIx]
end
end K70

/-! ## Kp7 -/
set_option maxHeartbeats 4000000
namespace K70
open PySem PySem.Spec PyProof.Rows L2 DL
/-! ### the law's draws -/
def wD (il at_ : Nat) : List (Key × D) := [(.inr "draws", .ref il), (.inr "at", .int at_)]
structure WW (iw il : Nat) (xs : List Int) (g : G) : Prop where
  w : ∃ a : Nat, g[iw]? = some (.dic (wD il a))
  l : g[il]? = some (.lst (xs.map .int))
section
variable {iw il a : Nat} {xs : List Int} {g : G}
@[simp] theorem w1 : valK (wD il a) (.inr "at") = some (.int a) := opq (by rfl)
@[simp] theorem w2 : valK (wD il a) (.inr "draws") = some (.ref il) := opq (by rfl)
@[simp] theorem kd1 {z : Str} : keyD (.str z) = some (.inr z) := rfl
theorem up1 {k : Nat} (h : g[iw]? = some (.dic (wD il a))) : upAt (.ref iw) (.str "at") (.int k) g = some (g.set iw (.dic (wD il k))) := by
  have e : (if ((wD il a).any fun kv => decide (kv.1 = .inr "at")) = true then (wD il a).map (fun kv => if kv.1 = .inr "at" then (kv.1, D.int k) else kv) else (wD il a) ++ [(.inr "at", .int k)]) = wD il k := by rfl
  have e2 : (wD il a).length < sizeLine := by show 2 < sizeLine; decide
  simp only [upAt, h, keyD, e2, if_true]
  rw [e]
theorem WW.iwl (h : WW iw il xs g) : il ≠ iw := fun z => by obtain ⟨a, q⟩ := h.w; rw [← z, h.l] at q; cases q
theorem next_ok (h : WW iw il xs g) {m : Nat} (hm : 0 < m) : ∃ (r : Nat) (g' : G), F__law_next [.ref iw, .int m] g = .ok (.int r) g' ∧ r < m ∧ WW iw il xs g' ∧ Sm (fun n => n = iw) g g' := by
  obtain ⟨a, hw⟩ := h.w
  have u : upAt (.ref iw) (.str "at") (.int ((a : Int) + 1)) g = some (g.set iw (.dic (wD il (a + 1)))) := up1 (k := a + 1) hw
  have hw2 : (g.set iw (.dic (wD il (a + 1))))[iw]? = some (.dic (wD il (a + 1))) := get_set_eq hw
  have hl2 : (g.set iw (.dic (wD il (a + 1))))[il]? = some (.lst (xs.map .int)) := get_set_ne h.l h.iwl.symm
  have s1 : Sm (fun n => n = iw) g (g.set iw (.dic (wD il (a + 1)))) := Sm.set rfl
  have hW : WW iw il xs (g.set iw (.dic (wD il (a + 1)))) := ⟨⟨_, hw2⟩, hl2⟩
  have hm' : (0 : Int) < m := by omega
  generalize g.set iw (.dic (wD il (a + 1))) = g1 at u hw2 hl2 s1 hW
  by_cases c : xs.length < a + 1
  · have c' : (xs.length : Int) < a + 1 := by omega
    refine ⟨0, g1, ?_, hm, hW, s1⟩
    simp [F__law_next, defF, m__law_next, List.replicate, hw, u, hw2, hl2, c', -e_upAt]
  · have c' : ¬ (xs.length : Int) < a + 1 := by omega
    obtain ⟨x, hx⟩ : ∃ x, xs[a]? = some x := ⟨_, List.getElem?_eq_getElem (by omega)⟩
    have ax : atI (xs.map D.int) (a : Int) = some (.int x) := atI_ints hx
    have r0 := Int.emod_nonneg x (show (m : Int) ≠ 0 by omega)
    have r1 := Int.emod_lt_of_pos x hm'
    refine ⟨(x % m).toNat, g1, ?_, by omega, hW, s1⟩
    have e : ((x % (m : Int)).toNat : Int) = x % m := by omega
    rw [e]
    simp [F__law_next, defF, m__law_next, List.replicate, hw, u, hw2, hl2, c', ax, hm, hm', -e_upAt, -List.map_map]
theorem pick_ok (h : WW iw il xs g) {p : Nat} {rows : List D} (hp : g[p]? = some (.lst rows)) (h0 : 0 < rows.length) : ∃ (x : D) (g' : G), F__law_pick [.ref iw, .ref p] g = .ok x g' ∧ x ∈ rows ∧ WW iw il xs g' ∧ Sm (fun n => n = iw) g g' := by
  obtain ⟨r, g', e, h1, h2, h3⟩ := next_ok h h0
  have np : p ≠ iw := fun z => by obtain ⟨a, q⟩ := h.w; rw [← z, hp] at q; cases q
  have hp2 := h3.get _ _ hp np
  obtain ⟨x, hx⟩ : ∃ x, rows[r]? = some x := ⟨_, List.getElem?_eq_getElem h1⟩
  have ax : atI rows (r : Int) = some x := DL.atI_nat hx
  refine ⟨x, g', ?_, List.mem_of_getElem? hx, h2, h3⟩
  simp [F__law_pick, defF, m__law_pick, List.replicate, hp, hp2, e, ax]
/-- a line of at most two signs -/
theorem line_ok (h : WW iw il xs g) {a b c d e f i : Option D} : ∃ (x : List Int) (g' : G), (apE tupF (consE (lcE (rngE1 (consE (apE F__law_next (consE (varE 0) (consE (cE (.int 3)) (nilE)))) (nilE))) [7] (fun d ev => some (ev.set 7 (some d))) (yesE) (apE F__law_next (consE (varE 0) (consE (cE (.int 256)) (nilE))))) (nilE)))
    [some (.ref iw), a, b, c, d, e, f, i] g = .ok (tI x) g' ∧ x.length ≤ 2 ∧ WW iw il xs g' ∧ Sm (fun n => n = iw) g g' := by
  obtain ⟨r, g1, e1, h1, h2, h3⟩ := next_ok h (m := 3) (by omega)
  have e1 : F__law_next [.ref iw, .int 3] g = _ := e1
  have nw : g1.length ≠ iw := fun z => by obtain ⟨a, q⟩ := h2.w; have := get_lt q; omega
  have nl : g1.length ≠ il := fun z => by have := get_lt h2.l; omega
  have W0 : WW iw il xs (g1 ++ [.lst []]) := ⟨by obtain ⟨a, q⟩ := h2.w; exact ⟨a, get_app _ q⟩, get_app _ h2.l⟩
  obtain ⟨g2, e2, x, q1, q2, q3, q4⟩ := lcL_inv (s := .rng 0 r) (tm := fun d ev => some (ev.set 7 (some d))) (tt := yesE) (te := apE F__law_next (consE (varE 0) (consE (cE (.int 256)) (nilE)))) (dn := g1.length) (n := r) (ev := [some (.ref iw), a, b, c, d, e, f, none])
    (fun k g2 => ∃ x : List Int, g2[g1.length]? = some (.lst (x.map .int)) ∧ x.length = k ∧ WW iw il xs g2 ∧ Sm (fun n => n = iw) g1 g2) (by
      rintro k g2 hk ⟨x, q1, q2, q3, q4⟩
      obtain ⟨y, g3, e3, _, h6, h7⟩ := next_ok q3 (m := 256) (by omega)
      have e3 : F__law_next [.ref iw, .int 256] g2 = _ := e3
      have q5 := h7.get _ _ q1 nw
      refine ⟨.int k, [some (.ref iw), a, b, c, d, e, f, some (.int k)], g2, by simp [Src.at_, hk], rfl, .inr ⟨.int y, g3, x.map .int, rfl, by simp [e3], q5, by simp [sizeLine]; omega, x ++ [(y : Int)], ?_, by simp [q2], ⟨?_, ?_⟩, ?_⟩⟩
      · rw [get_set_eq q5]; simp
      · obtain ⟨a, q⟩ := h6.w; exact ⟨a, get_set_ne q nw⟩
      · exact get_set_ne h6.l nl
      · refine ⟨fun n o ho hn => ?_, by rw [List.length_set]; exact Nat.le_trans q4.len h7.len⟩
        exact get_set_ne (h7.get _ _ (q4.get _ _ ho hn) hn) (Ne.symm (Nat.ne_of_lt (get_lt ho)))) (by
      rintro g2 _
      simp [Src.at_]) r 0 (g1 ++ [.lst []]) (by omega) ⟨[], get_new, rfl, W0, Sm.app _⟩
  refine ⟨x, g2, ?_, by omega, q3, h3.trans q4⟩
  have z : small62 (r : Int) = true := s62 (by omega)
  simp only [e_apE, e_consE, e_nilE, e_lcE, e_rngE1, e_varE, e_cE, List.getElem?_cons_zero, e1, z, if_true, Int.toNat_natCast, Src.len, wipeE, List.set_cons_succ, List.set_cons_zero, e2, e_tupF, q1]
  rfl
theorem ldeed_ok {s : St} {e2 : Nat} (h : WW iw il xs g) (h2 : g[e2]? = some (.lst (s.es.map ent))) (hs : s.bi + s.es.length < 8000) : ∃ (d : Dd) (g' : G), F__law_deed [.ref iw, jD s e2] g = .ok d.d g' ∧ d.ok s ∧ WW iw il xs g' ∧ Sm (fun n => n = iw) g g' ∧
    (s.step d).bi + (s.step d).es.length ≤ s.bi + s.es.length + 9 ∧ (s.step d).es.length ≤ s.es.length + 1 := by
  have ne : e2 ≠ iw := fun z => by obtain ⟨a, q⟩ := h.w; rw [← z, h2] at q; cases q
  obtain ⟨r1, g1, e1, b1, W1, s1⟩ := next_ok h (m := s.es.length + 1) (by omega)
  obtain ⟨x, g2, e3, b2, W2, s2⟩ := line_ok W1 (a := some (jD s e2)) (b := some (bD s)) (c := some (.ref e2)) (d := none) (e := none) (f := none) (i := none)
  obtain ⟨k, g3, e4, b3, W3, s3⟩ := next_ok W2 (m := 9) (by omega)
  have e4 : F__law_next [.ref iw, .int 9] g2 = _ := e4
  have s13 := (s1.trans s2).trans s3
  have a3 : (3 : Nat) ≤ sizeLine := by decide
  have a4 : (4 : Nat) ≤ sizeLine := by decide
  have a2 : (2 : Nat) ≤ sizeLine := by decide
  have e1 : F__law_next [.ref iw, .int ((s.es.length : Int) + 1)] g = .ok (.int r1) g1 := e1
  generalize hm : (apE tupF (consE (lcE (rngE1 (consE (apE F__law_next (consE (varE 0) (consE (cE (.int 3)) (nilE)))) (nilE))) [7] (fun d ev => some (ev.set 7 (some d))) (yesE) (apE F__law_next (consE (varE 0) (consE (cE (.int 256)) (nilE))))) (nilE))) = m at e3
  by_cases c1 : k < 4
  · obtain ⟨t, g4, e5, b5, W5, s5⟩ := next_ok W3 (m := 4) (by omega)
    have e5 : F__law_next [.ref iw, .int 4] g3 = _ := e5
    refine ⟨.add t x, g4, ?_, ⟨by omega, b2⟩, W5, s13.trans s5, by simp [St.step]; omega, by simp [St.step]⟩
    have c1' : (k : Int) < 4 := by omega
    simp only [jD, bD] at e3
    simp only [F__law_deed, defF, m__law_deed, hm]
    simp [List.replicate, jD, bD, h2, e1, e3, e4, e5, c1', a3, Dd.d]
  · have c1' : ¬ (k : Int) < 4 := by omega
    by_cases c2 : k < 6
    · obtain ⟨t, g4, e5, b5, W5, s5⟩ := next_ok W3 (m := 9) (by omega)
      have e5 : F__law_next [.ref iw, .int 9] g3 = _ := e5
      have W6 : WW iw il xs (g4 ++ [.lst [.str "", .str "a", .str "bob"]]) := ⟨by obtain ⟨a, q⟩ := W5.w; exact ⟨a, get_app _ q⟩, get_app _ W5.l⟩
      obtain ⟨y, g5, e6, m6, W7, s7⟩ := pick_ok W6 (p := g4.length) (rows := [.str "", .str "a", .str "bob"]) get_new (by simp)
      obtain ⟨v, rfl⟩ : ∃ v : Vt, y = .str v.s := by
        simp only [List.mem_cons, List.not_mem_nil, or_false] at m6
        rcases m6 with rfl | rfl | rfl
        · exact ⟨.none, rfl⟩
        · exact ⟨.a, rfl⟩
        · exact ⟨.bob, rfl⟩
      refine ⟨.term t v, g5, ?_, (show t < 8192 by omega), W7, (s13.trans s5).trans ((Sm.app _).trans s7), by simp [St.step], by simp [St.step]⟩
      have c2' : (k : Int) < 6 := by omega
      simp only [jD, bD] at e3
      simp only [F__law_deed, defF, m__law_deed, hm]
      simp [List.replicate, jD, bD, h2, e1, e3, e4, e5, e6, c1', c2', a3, Dd.d]
    · have c2' : ¬ (k : Int) < 6 := by omega
      by_cases c3 : k = 6
      · refine ⟨.cut (s.bi + 1 + r1), g3, ?_, ⟨by omega, by omega⟩, W3, s13, by simp [St.step]; omega, by simp [St.step]; omega⟩
        have c3' : (k : Int) = 6 := by omega
        simp only [jD, bD] at e3
        simp only [F__law_deed, defF, m__law_deed, hm]
        subst c3
        simp [List.replicate, jD, bD, h2, e1, e3, e4, c1', c2', eqB_int, a2, Dd.d]
      · have c3' : ¬ (k : Int) = 6 := by omega
        by_cases c4 : k = 7
        · refine ⟨.rebase (s.bi + r1) x, g3, ?_, ⟨by omega, by omega, by omega, b2⟩, W3, s13, by simp [St.step]; omega, by simp [St.step]; omega⟩
          subst c4
          have mx : (if (s.bi : Int) < (s.bi : Int) + 1 + r1 - 1 then (s.bi : Int) + 1 + r1 - 1 else s.bi) = s.bi + r1 := by split <;> omega
          simp only [jD, bD] at e3
          simp only [F__law_deed, defF, m__law_deed, hm]
          simp [List.replicate, jD, bD, h2, e1, e3, e4, eqB_int, a3, Dd.d]
          omega
        · have c4' : ¬ (k : Int) = 7 := by omega
          obtain ⟨i, g4, e5, b5, W5, s5⟩ := next_ok W3 (m := 9) (by omega)
          have e5 : F__law_next [.ref iw, .int 9] g3 = _ := e5
          obtain ⟨t, g5, e6, b6, W6, s6⟩ := next_ok W5 (m := 4) (by omega)
          have e6 : F__law_next [.ref iw, .int 4] g4 = _ := e6
          refine ⟨.base (s.bi + i) t x, g5, ?_, ⟨by omega, by omega, b2⟩, W6, (s13.trans s5).trans s6, by simp [St.step]; omega, by simp [St.step]⟩
          simp only [jD, bD] at e3
          simp only [F__law_deed, defF, m__law_deed, hm]
          simp [List.replicate, jD, bD, h2, e1, e3, e4, e5, e6, c1', c2', c3', c4', eqB_int, a4, Dd.d]
end
end K70

/-! ## Kp8 -/
set_option maxHeartbeats 4000000
namespace K70
open PySem PySem.Spec PyProof.Rows L2 DL
/-! ### the draws -/
/-- a list that grows behind g0 -/
def DI (g0 : G) (dn B : Nat) (g : G) : Prop := ∃ acc : List Int, g[dn]? = some (.lst (acc.map .int)) ∧ acc.length ≤ B ∧ Sm none_ g0 g ∧ g0.length ≤ dn
section
variable {g0 g : G} {dn B : Nat}
theorem sm_set_new (h : Sm none_ g0 g) (hn : g0.length ≤ dn) {o : O} : Sm none_ g0 (g.set dn o) := ⟨fun n o ho _ => get_set_ne (h.get _ _ ho (fun z => z)) (Ne.symm (Nat.ne_of_lt (Nat.lt_of_lt_of_le (get_lt ho) hn))), by rw [List.length_set]; exact h.len⟩
theorem DI.add (h : DI g0 dn B g) (hB : B < 100000) {m : EM D} {ev : Ev} {v : Int} (hv : varE 2 ev g = .ok (.ref dn) g) (hm : m ev g = .ok (.int v) g) : ∃ g', exprS (apdE (varE 2) m) ev g = .ok .nx (ev, g') ∧ DI g0 dn (B + 1) g' := by
  obtain ⟨acc, h1, h2, h3, h4⟩ := h
  have a1 : acc.length < sizeLine := by unfold sizeLine; omega
  refine ⟨g.set dn (.lst ((acc ++ [v]).map .int)), ?_, acc ++ [v], get_set_eq h1, by simp; omega, sm_set_new h3 h4, h4⟩
  simp only [e_exprS, e_withE, e_apdE, hv, hm, h1]
  simp [a1]
theorem DI.le (h : DI g0 dn B g) {C : Nat} (hC : B ≤ C) : DI g0 dn C g := by obtain ⟨a, h1, h2, h3⟩ := h; exact ⟨a, h1, Nat.le_trans h2 hC, h3⟩
theorem turn60 {a b d e f : Option D} {r0 : Int} {z : Option D} (h : DI g0 dn B g) (hB : B < 10000) :
    ∃ r z' g', forS (rngE1 (consE (cE (.int 60)) (nilE))) (nameT 7) (ifS (boolE (opE gtD (varE 6) (cE (.int 0)))) (seqS (exprS (apdE (varE 2) (opE modD (apE intF (consE (varE 6) (nilE))) (cE (.int 997)))))
  (asgS (opE fdivD (varE 6) (cE (.int 997))) (nameT 6))) (nxS)) [a, b, some (.ref dn), d, e, f, some (.int r0), z] g = .ok .nx ([a, b, some (.ref dn), d, e, f, some (.int r), z'], g') ∧ DI g0 dn (B + 60) g' := by
  obtain ⟨ev', g', e1, ⟨r, z', he⟩, hd⟩ := for_rng (lo := 0) (n := 60) (tg := nameT 7) (b := ifS (boolE (opE gtD (varE 6) (cE (.int 0)))) (seqS (exprS (apdE (varE 2) (opE modD (apE intF (consE (varE 6) (nilE))) (cE (.int 997)))))
  (asgS (opE fdivD (varE 6) (cE (.int 997))) (nameT 6))) (nxS)) (ev := [a, b, some (.ref dn), d, e, f, some (.int r0), z]) (g := g)
    (fun i ev g => (∃ r z', ev = [a, b, some (.ref dn), d, e, f, some (.int r), z']) ∧ DI g0 dn (B + i) g) ⟨⟨r0, z, rfl⟩, h⟩ (by
      rintro i ev g hi ⟨⟨r, z', rfl⟩, hd⟩
      by_cases c : 0 < r
      · obtain ⟨g', e2, h2⟩ := hd.add (by omega) (m := opE modD (apE intF (consE (varE 6) (nilE))) (cE (.int 997))) (ev := [a, b, some (.ref dn), d, e, f, some (.int r), some (.int (0 + i))]) (v := r % 997) rfl (by simp)
        refine ⟨[a, b, some (.ref dn), d, e, f, some (.int (r / 997)), some (.int (0 + i))], g', ?_, ⟨_, _, rfl⟩, h2⟩
        generalize exprS (apdE (varE 2) (opE modD (apE intF (consE (varE 6) (nilE))) (cE (.int 997)))) = m at e2 ⊢
        simp only [Int.zero_add] at e2 ⊢
        simp [c, e2]
      · refine ⟨[a, b, some (.ref dn), d, e, f, some (.int r), some (.int (0 + i))], g, by simp [c], ⟨_, _, rfl⟩, hd.le (by omega)⟩)
  subst he
  refine ⟨r, z', g', ?_, hd⟩
  have z : small62 60 = true := s62 (n := 60) (by omega)
  simp only [e_forS, e_withE, e_rngE1, e_consE, e_cE, e_nilE, z, if_true]
  exact e1
theorem one_cell {mM : D} {ns : List Int} {mx : Int} {i : Nat} (hi : i < ns.length) {e f r z : Option D} (h : DI g0 dn B g) (hB : B < 9000) :
    ∃ mx' e' f' r' z' g', stepS (nameT 4) (seqS (asgS (apE absF (consE (apE intF (consE (opE ixD (varE 0) (varE 4)) (nilE))) (nilE))) (nameT 5))
  (seqS (asgS (opE modD (apE intF (consE (opE addD (opE addD (opE mulD (varE 3) (cE (.int 48271))) (opE modD (varE 5) (cE (.int 1000003)))) (varE 4)) (nilE))) (cE (.int 65537))) (nameT 3))
  (seqS (asgS (cE (.int 0)) (nameT 6))
  (seqS (ifS (boolE (opE geD (varE 5) (opE powD (cE (.int 10)) (cE (.int 18))))) (asgS (varE 5) (nameT 6)) (seqS (exprS (apdE (varE 2) (opE modD (apE intF (consE (varE 5) (nilE))) (cE (.int 997)))))
  (exprS (apdE (varE 2) (opE modD (opE modD (apE intF (consE (opE addD (opE mulD (varE 3) (cE (.int 69621))) (cE (.int 5))) (nilE))) (cE (.int 65521))) (cE (.int 997)))))))
  (forS (rngE1 (consE (cE (.int 60)) (nilE))) (nameT 7) (ifS (boolE (opE gtD (varE 6) (cE (.int 0)))) (seqS (exprS (apdE (varE 2) (opE modD (apE intF (consE (varE 6) (nilE))) (cE (.int 997)))))
  (asgS (opE fdivD (varE 6) (cE (.int 997))) (nameT 6))) (nxS))))))) (.int (0 + i)) [some (.fz (ns.map .int)), some mM, some (.ref dn), some (.int mx), e, f, r, z] g
      = .ok .nx ([some (.fz (ns.map .int)), some mM, some (.ref dn), some (.int mx'), e', f', r', z'], g') ∧ DI g0 dn (B + 62) g' := by
  obtain ⟨x, hx⟩ : ∃ x, ns[i]? = some x := ⟨_, List.getElem?_eq_getElem hi⟩
  have ax : atI (ns.map D.int) (i : Int) = some (.int x) := atI_ints hx
  generalize hloop : (forS (rngE1 (consE (cE (.int 60)) (nilE))) (nameT 7) (ifS (boolE (opE gtD (varE 6) (cE (.int 0)))) (seqS (exprS (apdE (varE 2) (opE modD (apE intF (consE (varE 6) (nilE))) (cE (.int 997)))))
  (asgS (opE fdivD (varE 6) (cE (.int 997))) (nameT 6))) (nxS))) = loop
  obtain ⟨cell, hc⟩ : ∃ cell : Int, (if x < 0 then -x else x) = cell := ⟨_, rfl⟩
  obtain ⟨mx', hmx⟩ : ∃ mx' : Int, (mx * 48271 + cell % 1000003 + i) % 65537 = mx' := ⟨_, rfl⟩
  have pw : (10 : Int) ^ 18 = 1000000000000000000 := by decide
  by_cases c : (1000000000000000000 : Int) ≤ cell
  · obtain ⟨r', z', g', e1, h1⟩ := turn60 (a := some (.fz (ns.map .int))) (b := some mM) (d := some (.int mx')) (e := some (.int i)) (f := some (.int cell)) (r0 := cell) (z := z) h (by omega)
    rw [hloop] at e1
    refine ⟨mx', some (.int i), some (.int cell), some (.int r'), z', g', ?_, h1.le (by omega)⟩
    simp [ax, hc, hmx, c, e1]
  · obtain ⟨g1, e1, h1⟩ := h.add (by omega) (m := opE modD (apE intF (consE (varE 5) (nilE))) (cE (.int 997))) (ev := [some (.fz (ns.map .int)), some mM, some (.ref dn), some (.int mx'), some (.int i), some (.int cell), some (.int 0), z]) (v := cell % 997) rfl (by simp)
    obtain ⟨g2, e2, h2⟩ := h1.add (by omega) (m := opE modD (opE modD (apE intF (consE (opE addD (opE mulD (varE 3) (cE (.int 69621))) (cE (.int 5))) (nilE))) (cE (.int 65521))) (cE (.int 997))) (ev := [some (.fz (ns.map .int)), some mM, some (.ref dn), some (.int mx'), some (.int i), some (.int cell), some (.int 0), z]) (v := (mx' * 69621 + 5) % 65521 % 997) rfl (by simp)
    obtain ⟨r', z', g', e3, h3⟩ := turn60 (a := some (.fz (ns.map .int))) (b := some mM) (d := some (.int mx')) (e := some (.int i)) (f := some (.int cell)) (r0 := 0) (z := z) h2 (by omega)
    rw [hloop] at e3
    generalize exprS (apdE (varE 2) (opE modD (apE intF (consE (varE 5) (nilE))) (cE (.int 997)))) = m1 at e1 ⊢
    generalize exprS (apdE (varE 2) (opE modD (opE modD (apE intF (consE (opE addD (opE mulD (varE 3) (cE (.int 69621))) (cE (.int 5))) (nilE))) (cE (.int 65521))) (cE (.int 997)))) = m2 at e2 ⊢
    refine ⟨mx', some (.int i), some (.int cell), some (.int r'), z', g', ?_, h3.le (by omega)⟩
    simp [ax, hc, hmx, c, e1, e2, e3]
end
end K70

/-! ## Kp9 -/
set_option maxHeartbeats 4000000
namespace K70
open PySem PySem.Spec PyProof.Rows L2 DL
def bd1 : SM := (seqS (asgS (apE absF (consE (apE intF (consE (opE ixD (varE 0) (varE 4)) (nilE))) (nilE))) (nameT 5))
  (seqS (asgS (opE modD (apE intF (consE (opE addD (opE addD (opE mulD (varE 3) (cE (.int 48271))) (opE modD (varE 5) (cE (.int 1000003)))) (varE 4)) (nilE))) (cE (.int 65537))) (nameT 3))
  (seqS (asgS (cE (.int 0)) (nameT 6))
  (seqS (ifS (boolE (opE geD (varE 5) (opE powD (cE (.int 10)) (cE (.int 18))))) (asgS (varE 5) (nameT 6)) (seqS (exprS (apdE (varE 2) (opE modD (apE intF (consE (varE 5) (nilE))) (cE (.int 997)))))
  (exprS (apdE (varE 2) (opE modD (opE modD (apE intF (consE (opE addD (opE mulD (varE 3) (cE (.int 69621))) (cE (.int 5))) (nilE))) (cE (.int 65521))) (cE (.int 997)))))))
  (forS (rngE1 (consE (cE (.int 60)) (nilE))) (nameT 7) (ifS (boolE (opE gtD (varE 6) (cE (.int 0)))) (seqS (exprS (apdE (varE 2) (opE modD (apE intF (consE (varE 6) (nilE))) (cE (.int 997)))))
  (asgS (opE fdivD (varE 6) (cE (.int 997))) (nameT 6))) (nxS)))))))
def bd2 : SM := (seqS (asgS (opE modD (apE intF (consE (opE addD (opE addD (opE mulD (varE 3) (cE (.int 16807))) (varE 4)) (cE (.int 1))) (nilE))) (cE (.int 65537))) (nameT 3))
  (exprS (apdE (varE 2) (opE modD (apE intF (consE (varE 3) (nilE))) (cE (.int 997))))))
def bfa : SM := (exprS (methE [("Disk", F_Disk_do)] "do" (varE 3) (consE (varE 4) (nilE))))
def bfb : SM := (ifS (boolE (opE eqD (opE ixD (varE 4) (cE (.int 0))) (cE (.str "log")))) (exprS (methE [("Disk", F_Disk_append)] "append" (varE 3) (consE (slE (opE ixD (varE 4) (cE (.int 1))) (noneE) (optE (varE 2))) (nilE)))) (ifS (andB (boolE (opE eqD (opE ixD (varE 4) (cE (.int 0))) (cE (.str "root")))) (boolE (opE gtD (varE 2) (cE (.int 0))))) (exprS (methE [("Disk", F_Disk_set_root)] "set_root" (varE 3) (consE (opE ixD (varE 4) (cE (.int 1))) (consE (tupE (consE (cE (.int 255)) (nilE))) (nilE))))) (nxS)))
def boa : SM := (exprS (methE [("Journal", F_Journal_do)] "do" (varE 1) (consE (varE 4) (nilE))))
def bla : SM := (seqS (asgS (apE (makF "Disk" F_Disku_initu) nilE) (nameT 3))
  (seqS (par3S 4 5 6 (consE (apE (makF "Journal" F_Journalu_initu) (consE (varE 3) (nilE))) (consE (tupE (consE (cE (.int 0)) (consE (cE (.str "")) (consE (tupE (consE (cE (.int 0)) (consE (cE (.int 0)) (consE (tupE (nilE)) (nilE))))) (consE (lstE (nilE)) (nilE)))))) (consE (lstE (nilE)) (nilE)))))
  (seqS (exprS (apdE (varE 6) (varE 5)))
  (seqS (forS (rngE1 (consE (cE (.int 14)) (nilE))) (nameT 7) (seqS (asgS (apE F__law_deed (consE (varE 1) (consE (varE 5) (nilE)))) (nameT 8))
  (seqS (asgS (apE F__law_do (consE (varE 5) (consE (varE 8) (nilE)))) (nameT 5))
  (seqS (asgS (apE F__law_tell (consE (varE 4) (consE (varE 8) (nilE)))) (nameT 9))
  (seqS (ifS (orB (andB (boolE (opE eqD (opE ixD (varE 8) (cE (.int 0))) (cE (.str "add")))) (boolE (opE neD (varE 9) (opE addD (opE ixD (opE ixD (varE 5) (cE (.int 2))) (cE (.int 0))) (apE lenF (consE (opE ixD (varE 5) (cE (.int 3))) (nilE))))))) (notB (truE (apE F__law_is (consE (varE 4) (consE (varE 5) (nilE))))))) (retS (cE (.bl false))) (nxS))
  (exprS (apdE (varE 6) (varE 5))))))))
  (seqS (asgS (methE [("Disk", F_Disk_deeds)] "deeds" (varE 3) nilE) (nameT 10))
  (seqS (ifS (orB (notB (truE (isiE "tuple" (varE 10)))) (boolE (opE neD (apE lenF (consE (varE 10) (nilE))) (cE (.int 14))))) (retS (cE (.bl false))) (nxS))
  (forS (rngE1 (consE (cE (.int 6)) (nilE))) (nameT 11) (seqS (par2S 12 13 (consE (apE F__law_next (consE (varE 1) (consE (cE (.int 15)) (nilE)))) (consE (apE F__law_pick (consE (varE 1) (consE (lstE (consE (cE (.int 0)) (consE (cE (.int 1)) (consE (cE (.int 5)) (consE (cE (.int 997)) (nilE)))))) (nilE)))) (nilE))))
  (seqS (asgS (ifE (boolE (opE ltD (varE 12) (cE (.int 14)))) (opE addD (varE 12) (apE intF (consE (andV (opE ltD (varE 12) (cE (.int 14))) (opE geD (varE 13) (apE lenF (consE (opE ixD (opE ixD (varE 10) (varE 12)) (cE (.int 1))) (nilE))))) (nilE)))) (cE (.int 14))) (nameT 14))
  (seqS (asgS (apE F_open_journal (consE (apE F_fallen (consE (varE 10) (consE (varE 12) (consE (varE 13) (nilE))))) (nilE))) (nameT 15))
  (seqS (ifS (notB (truE (apE F__law_is (consE (varE 15) (consE (opE ixD (varE 6) (varE 14)) (nilE)))))) (retS (cE (.bl false))) (nxS))
  (seqS (asgS (apE F__law_deed (consE (varE 1) (consE (opE ixD (varE 6) (varE 14)) (nilE)))) (nameT 8))
  (seqS (exprS (apE F__law_tell (consE (varE 15) (consE (varE 8) (nilE)))))
  (ifS (notB (truE (apE F__law_is (consE (varE 15) (consE (apE F__law_do (consE (opE ixD (varE 6) (varE 14)) (consE (varE 8) (nilE)))) (nilE)))))) (retS (cE (.bl false))) (nxS)))))))))))))))
def blb : SM := (seqS (asgS (apE F__law_deed (consE (varE 1) (consE (varE 5) (nilE)))) (nameT 8))
  (seqS (asgS (apE F__law_do (consE (varE 5) (consE (varE 8) (nilE)))) (nameT 5))
  (seqS (asgS (apE F__law_tell (consE (varE 4) (consE (varE 8) (nilE)))) (nameT 9))
  (seqS (ifS (orB (andB (boolE (opE eqD (opE ixD (varE 8) (cE (.int 0))) (cE (.str "add")))) (boolE (opE neD (varE 9) (opE addD (opE ixD (opE ixD (varE 5) (cE (.int 2))) (cE (.int 0))) (apE lenF (consE (opE ixD (varE 5) (cE (.int 3))) (nilE))))))) (notB (truE (apE F__law_is (consE (varE 4) (consE (varE 5) (nilE))))))) (retS (cE (.bl false))) (nxS))
  (exprS (apdE (varE 6) (varE 5)))))))
def blc : SM := (seqS (par2S 12 13 (consE (apE F__law_next (consE (varE 1) (consE (cE (.int 15)) (nilE)))) (consE (apE F__law_pick (consE (varE 1) (consE (lstE (consE (cE (.int 0)) (consE (cE (.int 1)) (consE (cE (.int 5)) (consE (cE (.int 997)) (nilE)))))) (nilE)))) (nilE))))
  (seqS (asgS (ifE (boolE (opE ltD (varE 12) (cE (.int 14)))) (opE addD (varE 12) (apE intF (consE (andV (opE ltD (varE 12) (cE (.int 14))) (opE geD (varE 13) (apE lenF (consE (opE ixD (opE ixD (varE 10) (varE 12)) (cE (.int 1))) (nilE))))) (nilE)))) (cE (.int 14))) (nameT 14))
  (seqS (asgS (apE F_open_journal (consE (apE F_fallen (consE (varE 10) (consE (varE 12) (consE (varE 13) (nilE))))) (nilE))) (nameT 15))
  (seqS (ifS (notB (truE (apE F__law_is (consE (varE 15) (consE (opE ixD (varE 6) (varE 14)) (nilE)))))) (retS (cE (.bl false))) (nxS))
  (seqS (asgS (apE F__law_deed (consE (varE 1) (consE (opE ixD (varE 6) (varE 14)) (nilE)))) (nameT 8))
  (seqS (exprS (apE F__law_tell (consE (varE 15) (consE (varE 8) (nilE)))))
  (ifS (notB (truE (apE F__law_is (consE (varE 15) (consE (apE F__law_do (consE (opE ixD (varE 6) (varE 14)) (consE (varE 8) (nilE)))) (nilE)))))) (retS (cE (.bl false))) (nxS))))))))
section
variable {g0 g : G} {dn B : Nat}
theorem defF_ret {n np : Nat} {m : SM} {ds : List D} {ev : Ev} {d : D} {s : Ev × G} (h1 : ds.length = np) (h2 : ds.map some ++ List.replicate (n - ds.length) none = ev) (h3 : m ev g = .ok (.ret d) s) : defF n np m ds g = .ok d s.2 := by
  subst h2; simp only [defF, if_pos h1, h3]
theorem bd2_ok {sc mx : D} {m : Int} {i : Nat} {e f r z : Option D} (h : DI g0 dn B g) (hB : B < 9000) :
    ∃ m' g', stepS (nameT 4) bd2 (.int (0 + i)) [some sc, some mx, some (.ref dn), some (.int m), e, f, r, z] g = .ok .nx ([some sc, some mx, some (.ref dn), some (.int m'), some (.int i), f, r, z], g') ∧ DI g0 dn (B + 1) g' := by
  obtain ⟨m', hm⟩ : ∃ m' : Int, (m * 16807 + i + 1) % 65537 = m' := ⟨_, rfl⟩
  obtain ⟨g1, e1, h1⟩ := h.add (by omega) (m := opE modD (apE intF (consE (varE 3) (nilE))) (cE (.int 997))) (ev := [some sc, some mx, some (.ref dn), some (.int m'), some (.int i), f, r, z]) (v := m' % 997) rfl (by simp)
  refine ⟨m', g1, ?_, h1⟩
  unfold bd2
  generalize exprS (apdE (varE 2) (opE modD (apE intF (consE (varE 3) (nilE))) (cE (.int 997)))) = m1 at e1 ⊢
  simp [hm, e1]
theorem rng1_ok {ms : EM (List D)} {ev : Ev} {g g1 : G} {j : Int} (h : ms ev g = .ok [.int j] g1) (hz : small62 j = true) : rngE1 ms ev g = .ok (.rng 0 j.toNat) g1 := by
  unfold rngE1; rw [h]; exact if_pos hz
theorem forS_rng {ms : EM (List D)} {tg : TM} {b : SM} {ev : Ev} {g g1 : G} {j : Int} (h : ms ev g = .ok [.int j] g1) (hz : small62 j = true) : forS (rngE1 ms) tg b ev g = forL (.rng 0 j.toNat) (stepS tg b) (j.toNat + 1) 0 ev g1 := by
  unfold forS withE; rw [rng1_ok h hz]; rfl
theorem k1' {ns : List Int} {tg : TM} {b : SM} {r : Ev} {g : G} (h : ns.length < 1000000) : forS (rngE1 (consE (apE lenF (consE (varE 0) (nilE))) (nilE))) tg b (some (.fz (ns.map .int)) :: r) g = forL (.rng 0 ns.length) (stepS tg b) (ns.length + 1) 0 (some (.fz (ns.map .int)) :: r) g := by
  rw [forS_rng (j := (ns.length : Int)) (g1 := g) (by simp) (s62 h), Int.toNat_natCast]
theorem k2' {M : Nat} {x : Option D} {tg : TM} {b : SM} {r : Ev} {g : G} (h : M < 1000000) : forS (rngE1 (consE (varE 1) (nilE))) tg b (x :: some (.int M) :: r) g = forL (.rng 0 M) (stepS tg b) (M + 1) 0 (x :: some (.int M) :: r) g := by
  rw [forS_rng (j := (M : Int)) (g1 := g) (by simp) (s62 h), Int.toNat_natCast]
theorem e_draws : m__law_draws = seqS (asgS (lstE (nilE)) (nameT 2)) (seqS (asgS (cE (.int 7)) (nameT 3)) (seqS (forS (rngE1 (consE (apE lenF (consE (varE 0) (nilE))) (nilE))) (nameT 4) bd1) (seqS (forS (rngE1 (consE (varE 1) (nilE))) (nameT 4) bd2) (retS (slE (varE 2) (noneE) (optE (varE 1))))))) := rfl
theorem k3' {w1 w2 : SM} {sc : D} {M : Nat} {a1 b1 c1 d1 a2 b2 c2 d2 : Option D} {m1 m2 : Int} {g g1 g2 : G} {acc q : List D} (k1 : w1 [some sc, some (.int M), some (.ref g.length), some (.int 7), none, none, none, none] (g ++ [.lst []]) = .ok .nx ([some sc, some (.int M), some (.ref g.length), some (.int m1), a1, b1, c1, d1], g1))
  (k2 : w2 [some sc, some (.int M), some (.ref g.length), some (.int m1), a1, b1, c1, d1] g1 = .ok .nx ([some sc, some (.int M), some (.ref g.length), some (.int m2), a2, b2, c2, d2], g2)) (q1 : g2[g.length]? = some (.lst acc)) (z3 : DL.cutD acc none (some (M : Int)) = q) :
   seqS (asgS (lstE (nilE)) (nameT 2)) (seqS (asgS (cE (.int 7)) (nameT 3)) (seqS w1 (seqS w2 (retS (slE (varE 2) (noneE) (optE (varE 1))))))) [some sc, some (.int M), none, none, none, none, none, none] g = .ok (.ret (.ref g2.length)) ([some sc, some (.int M), some (.ref g.length), some (.int m2), a2, b2, c2, d2], g2 ++ [.lst q]) := by
    simp [k1, k2, q1, z3]
theorem draws_ok {ns : List Int} {M : Nat} (hM : M ≤ 1000) (hn : ns.length ≤ 63) : ∃ (xs : List Int) (n : Nat) (g' : G), F__law_draws [.fz (ns.map .int), .int M] g = .ok (.ref n) g' ∧ g'[n]? = some (.lst (xs.map .int)) ∧ Sm none_ g g' ∧ g.length ≤ n := by
  have h0 : DI g g.length 0 (g ++ [.lst []]) := ⟨[], get_new, Nat.le_refl _, Sm.app _, Nat.le_refl _⟩
  obtain ⟨ev1, g1, e1, ⟨m1, a1, b1, c1, d1, he1⟩, h1⟩ := for_rng (lo := 0) (n := ns.length) (tg := nameT 4) (b := bd1) (ev := [some (.fz (ns.map .int)), some (.int M), some (.ref g.length), some (.int 7), none, none, none, none]) (g := g ++ [.lst []])
    (fun i ev g1 => (∃ m a b c d, ev = [some (.fz (ns.map .int)), some (.int M), some (.ref g.length), some (.int m), a, b, c, d]) ∧ DI g g.length (62 * i) g1) ⟨⟨7, none, none, none, none, rfl⟩, h0⟩ (by
      rintro i ev g1 hi ⟨⟨m, a, b, c, d, rfl⟩, h⟩
      obtain ⟨m', a', b', c', d', g', e, h'⟩ := one_cell hi h (by omega) (mx := m) (e := a) (f := b) (r := c) (z := d)
      exact ⟨_, g', e, ⟨m', a', b', c', d', rfl⟩, h'.le (by omega)⟩)
  subst he1
  obtain ⟨ev2, g2, e2, ⟨m2, a2, b2, c2, d2, he2⟩, h2⟩ := for_rng (lo := 0) (n := M) (tg := nameT 4) (b := bd2) (ev := [some (.fz (ns.map .int)), some (.int M), some (.ref g.length), some (.int m1), a1, b1, c1, d1]) (g := g1)
    (fun i ev g1 => (∃ m a b c d, ev = [some (.fz (ns.map .int)), some (.int M), some (.ref g.length), some (.int m), a, b, c, d]) ∧ DI g g.length (62 * ns.length + i) g1) ⟨⟨m1, a1, b1, c1, d1, rfl⟩, h1⟩ (by
      rintro i ev g1 hi ⟨⟨m, a, b, c, d, rfl⟩, h⟩
      obtain ⟨m', g', e, h'⟩ := bd2_ok (sc := .fz (ns.map .int)) (mx := .int M) h (by omega) (m := m) (i := i) (e := a) (f := b) (r := c) (z := d)
      exact ⟨_, g', e, ⟨m', some (.int i), b, c, d, rfl⟩, h'⟩)
  subst he2
  obtain ⟨acc, q1, q2, q3, q4⟩ := h2
  refine ⟨acc.take M, g2.length, g2 ++ [.lst ((acc.take M).map .int)], ?_, get_new, q3.trans (Sm.app _), q3.len⟩
  have z3 : DL.cutD (acc.map D.int) none (some (M : Int)) = (acc.take M).map D.int := by rw [cut_t (by omega), ← List.map_take]; rfl
  have hu : m__law_draws [some (.fz (ns.map .int)), some (.int M), none, none, none, none, none, none] g = .ok (.ret (.ref g2.length)) ([some (.fz (ns.map .int)), some (.int M), some (.ref g.length), some (.int m2), a2, b2, c2, d2], g2 ++ [.lst ((acc.take M).map .int)]) := by
    rw [e_draws]
    exact k3' ((k1' (by omega)).trans e1) ((k2' (by omega)).trans e2) q1 z3
  have h8 : [D.fz (ns.map .int), D.int M].map some ++ List.replicate (8 - [D.fz (ns.map .int), D.int M].length) none = [some (.fz (ns.map .int)), some (.int M), none, none, none, none, none, none] := by simp [List.replicate]
  have h9 := defF_ret (n := 8) (np := 2) (m := m__law_draws) (ds := [.fz (ns.map .int), .int M]) rfl h8 hu
  unfold F__law_draws
  exact h9
end
end K70

/-! ## Kp10 -/
set_option maxHeartbeats 4000000
namespace K70
open PySem PySem.Spec PyProof.Rows L2 DL
theorem set_new {g : G} {o o' : O} {l : G} : (g ++ o :: l).set g.length o' = g ++ o' :: l := by simp [List.set_append]
theorem app_app {g l : G} {o p : O} : (g ++ o :: l) ++ [p] = g ++ o :: (l ++ [p]) := by simp
theorem len_app {g l : G} {o : O} : (g ++ o :: l).length = g.length + (l.length + 1) := by simp
section
variable {g g0 : G} {dk e ln rt dn : Nat} {s : St} {lg : List Int} {ds : List D}
def s0 : St := ⟨0, .none, 0, 0, [], []⟩
theorem df0 : putFD "done" (.ref dn) (putFD "roots" (.ref rt) (putFD "logged" (.tup []) (putFD "lines" (.ref ln) []))) = DF ln rt dn [] := by rfl
theorem jf0 : putFD "entries" (.ref e) (putFD "own_base" (.tup [.int 0, .int 0, .tup []]) (putFD "own_vote" (.str "") (putFD "own_term" (.int 0) (putFD "disk" (.ref dk) [])))) = JF dk e s0 := by rfl
theorem ln1 {f : Str} {a : D} : (putFD f a []).length = 1 := rfl
theorem ln2 {a b : D} : (putFD "logged" b (putFD "lines" a [])).length = 2 := rfl
theorem ln3 {a b c : D} : (putFD "roots" c (putFD "logged" b (putFD "lines" a []))).length = 3 := rfl
theorem lm2 {a b : D} : (putFD "own_term" b (putFD "disk" a [])).length = 2 := rfl
theorem lm3 {a b c : D} : (putFD "own_vote" c (putFD "own_term" b (putFD "disk" a []))).length = 3 := rfl
theorem lm4 {a b c d : D} : (putFD "own_base" d (putFD "own_vote" c (putFD "own_term" b (putFD "disk" a [])))).length = 4 := rfl
theorem mk_disk : makF "Disk" F_Disku_initu [] g = .ok (.ref g.length) (g ++ .ins "Disk" (DF (g.length + 1) (g.length + 2) (g.length + 3) []) :: [.dic [], .lst [.tup [], .tup []], .lst []]) := by
  rw [← df0]
  simp [F_Disku_initu, defF, m_Disku_initu, List.replicate, set_new, get_new, app_app, len_app, ln1, ln2, ln3, sizeLine, -List.append_assoc]
theorem mk_journal {d : Nat} : makF "Journal" F_Journalu_initu [.ref d] g = .ok (.ref g.length) (g ++ .ins "Journal" (JF d (g.length + 1) s0) :: [.lst []]) := by
  rw [← jf0]
  simp [F_Journalu_initu, defF, m_Journalu_initu, List.replicate, set_new, get_new, app_app, len_app, ln1, lm2, lm3, lm4, sizeLine, -List.append_assoc]
/-! ### a disk that fell, a journal that rises -/
theorem do_log (h : DO dk ln rt dn lg ds g) {x : List Int} (h1 : ds.length < 1000) (h2 : lg.length + x.length ≤ 100000) (h0 : Sm none_ g0 g) (n1 : g0.length ≤ dk) (n2 : g0.length ≤ dn) :
    ∃ g', F_Disk_append [.ref dk, tI x] g = .ok .non g' ∧ DO dk ln rt dn (lg ++ x) (ds ++ [lgD x]) g' ∧ Sm none_ g0 g' := by
  have e := d_append h x (by omega) (by omega)
  have kn : dk ≠ dn := fun z => by have a := h.ins; rw [z, h.lst] at a; cases a
  exact ⟨_, e, ⟨get_set_eq (get_set_ne h.ins kn.symm), get_set_ne (get_set_eq h.lst) kn⟩, sm_set_new (sm_set_new h0 n2) n1⟩
def lns (Ds : List Dd) : List (List Int) := Ds.map Dd.line
/-- what a disk has done -/
def dns (Ds : List Dd) : List D := (lns Ds).map fun x => lgD (fr x)
theorem fl_take {xs : List (List Int)} {i : Nat} {x : List Int} (h : xs[i]? = some x) : fl (xs.take (i + 1)) = fl (xs.take i) ++ fr x := by simp [List.take_add_one, h, fl]
theorem fl_len {xs : List (List Int)} (h : ∀ x ∈ xs, (fr x).length < 40) : (fl xs).length ≤ 40 * xs.length := by
  induction xs with
  | nil => simp [fl]
  | cons x xs ih =>
    have a := h x (List.mem_cons_self ..)
    have b := ih fun y hy => h y (List.mem_cons_of_mem _ hy)
    simp [fl] at b ⊢
    omega
theorem fallen_1 {xs : List (List Int)} (hx : ∀ x ∈ xs, (fr x).length < 40) (hl : xs.length ≤ 20) (h : DO dk ln rt dn [] [] g) (h0 : Sm none_ g0 g) (n1 : g0.length ≤ dk) (n2 : g0.length ≤ dn) {a b c z : Option D} :
    ∃ z' ds' g', forL (.tup (xs.map fun x => lgD (fr x))) (stepS (nameT 4) bfa) ((xs.map fun x => lgD (fr x)).length + 1) 0 [a, b, c, some (.ref dk), z] g = .ok .nx ([a, b, c, some (.ref dk), z'], g') ∧ DO dk ln rt dn (fl xs) ds' g' ∧ ds'.length ≤ xs.length ∧ Sm none_ g0 g' := by
  obtain ⟨ev', g', e, ⟨z', he⟩, ds', q1, q2, q3⟩ := for_tup (ds := xs.map fun x => lgD (fr x)) (tg := nameT 4) (b := bfa) (ev := [a, b, c, some (.ref dk), z]) (g := g)
    (fun i ev g => (∃ z', ev = [a, b, c, some (.ref dk), z']) ∧ ∃ ds', DO dk ln rt dn (fl (xs.take i)) ds' g ∧ ds'.length ≤ i ∧ Sm none_ g0 g) ⟨⟨z, rfl⟩, [], by simpa [fl] using h, Nat.le_refl _, h0⟩ (by
      rintro i d ev g hd ⟨⟨z', rfl⟩, ds', q1, q2, q3⟩
      obtain ⟨x, hxi, rfl⟩ : ∃ x, xs[i]? = some x ∧ d = lgD (fr x) := by
        rw [List.getElem?_map] at hd
        cases q : xs[i]? with
        | none => rw [q] at hd; cases hd
        | some a => rw [q] at hd; exact ⟨a, rfl, (Option.some.inj hd).symm⟩
      have hi := (List.getElem?_eq_some_iff.mp hxi).1
      have l1 := hx x (List.mem_of_getElem? hxi)
      have l2 := fl_len (xs := xs.take i) fun y hy => hx y (List.mem_of_mem_take hy)
      rw [List.length_take] at l2
      obtain ⟨g', e, r1, r2⟩ := do_log q1 (x := fr x) (by omega) (by omega) q3 n1 n2
      refine ⟨[a, b, c, some (.ref dk), some (lgD (fr x))], g', ?_, ⟨_, rfl⟩, ds' ++ [lgD (fr x)], ?_, by simp; omega, r2⟩
      · have m : F_Disk_do [.ref dk, lgD (fr x)] g = .ok .non g' := by
          generalize fr x = y at e ⊢
          simp [F_Disk_do, defF, m_Disk_do, List.replicate, lgD, e, q1.ins]
        generalize lgD (fr x) = y at m ⊢
        simp [bfa, m, q1.ins]
      · rw [fl_take hxi]; exact r1)
  subst he
  rw [List.length_map, List.take_length] at q1
  exact ⟨z', ds', g', e, q1, by simpa using q2, q3⟩
theorem fallen_ok {xs : List (List Int)} {m sg : Nat} (hx : ∀ x ∈ xs, (fr x).length < 40) (hl : xs.length ≤ 20) : ∃ dk ln rt dn ds' g', F_fallen [.tup (xs.map fun x => lgD (fr x)), .int m, .int sg] g = .ok (.ref dk) g' ∧
    DO dk ln rt dn (fl (xs.take m) ++ ((xs[m]?.map fr).getD []).take sg) ds' g' ∧ ds'.length ≤ 21 ∧ Sm none_ g g' ∧ g.length ≤ dk ∧ g.length ≤ dn := by
  have D0 : DO g.length (g.length + 1) (g.length + 2) (g.length + 3) [] [] (g ++ .ins "Disk" (DF (g.length + 1) (g.length + 2) (g.length + 3) []) :: [.dic [], .lst [.tup [], .tup []], .lst []]) := ⟨get_new, by rw [List.getElem?_append_right (by omega)]; simp⟩
  obtain ⟨z1, ds1, g1, e1, q1, q2, q3⟩ := fallen_1 (xs := xs.take m) (fun y hy => hx y (List.mem_of_mem_take hy)) (by rw [List.length_take]; omega) D0 (Sm.app (S := none_) (g := g) _) (Nat.le_refl _) (by omega) (a := some (.tup (xs.map fun x => lgD (fr x)))) (b := some (.int m)) (c := some (.int sg)) (z := none)
  have c1 : DL.cutD (xs.map fun x => lgD (fr x)) none (some (m : Int)) = (xs.take m).map fun x => lgD (fr x) := by rw [cut_t (by omega), ← List.map_take]; rfl
  have c2 : DL.cutD (xs.map fun x => lgD (fr x)) (some (m : Int)) (some ((m : Int) + 1)) = ((xs.drop m).take 1).map fun x => lgD (fr x) := by
    rw [cut_ft' (by omega) (by omega), ← List.map_drop, ← List.map_take]
    congr 2
    · omega
  rw [List.length_take] at q2
  have k0 := mk_disk (g := g)
  have em : m_fallen = seqS (asgS (apE (makF "Disk" F_Disku_initu) nilE) (nameT 3)) (seqS (forS (seqE (slE (varE 0) (noneE) (optE (varE 1)))) (nameT 4) bfa) (seqS (forS (seqE (slE (varE 0) (optE (varE 1)) (optE (opE addD (varE 1) (cE (.int 1)))))) (nameT 4) bfb) (retS (varE 3)))) := rfl
  have h8 : [D.tup (xs.map fun x => lgD (fr x)), D.int m, D.int sg].map some ++ List.replicate (5 - [D.tup (xs.map fun x => lgD (fr x)), D.int m, D.int sg].length) none = [some (.tup (xs.map fun x => lgD (fr x))), some (.int m), some (.int sg), none, none] := by simp [List.replicate]
  have f1 : forS (seqE (slE (varE 0) (noneE) (optE (varE 1)))) (nameT 4) bfa [some (.tup (xs.map fun x => lgD (fr x))), some (.int m), some (.int sg), some (.ref g.length), none] (g ++ .ins "Disk" (DF (g.length + 1) (g.length + 2) (g.length + 3) []) :: [.dic [], .lst [.tup [], .tup []], .lst []]) = .ok .nx ([some (.tup (xs.map fun x => lgD (fr x))), some (.int m), some (.int sg), some (.ref g.length), z1], g1) := by
    simp only [e_forS, e_withE, e_seqE, e_slE, e_varE, e_noneE, e_optE, e_slD, List.getElem?_cons_zero, List.getElem?_cons_succ, c1, Src.len]
    exact e1
  cases hm : xs[m]? with
  | none =>
    have d0 : (xs.drop m).take 1 = [] := by have := List.getElem?_eq_none_iff.mp hm; simp [List.drop_eq_nil_of_le this]
    rw [d0] at c2
    refine ⟨g.length, _, _, _, ds1, g1, ?_, by simpa using q1, by omega, q3, Nat.le_refl _, by omega⟩
    have hu : m_fallen [some (.tup (xs.map fun x => lgD (fr x))), some (.int m), some (.int sg), none, none] g = .ok (.ret (.ref g.length)) ([some (.tup (xs.map fun x => lgD (fr x))), some (.int m), some (.int sg), some (.ref g.length), z1], g1) := by
      rw [em]
      generalize forS (seqE (slE (varE 0) (noneE) (optE (varE 1)))) (nameT 4) bfa = w1 at f1 ⊢
      generalize (xs.map fun x => lgD (fr x)) = q at f1 c2 ⊢
      simp [k0, f1, c2, Src.len, Src.at_, forL, -e_makF]
    exact defF_ret (n := 5) (np := 3) (m := m_fallen) rfl h8 hu
  | some x =>
    have d0 : (xs.drop m).take 1 = [x] := by
      have hi := (List.getElem?_eq_some_iff.mp hm).1
      rw [List.drop_eq_getElem_cons hi, (List.getElem?_eq_some_iff.mp hm).2]; rfl
    rw [d0] at c2
    have l1 := hx x (List.mem_of_getElem? hm)
    have l2 := fl_len (xs := xs.take m) fun y hy => hx y (List.mem_of_mem_take hy)
    rw [List.length_take] at l2
    obtain ⟨g2, e2, r1, r2⟩ := do_log q1 (x := (fr x).take sg) (by omega) (by rw [List.length_take]; omega) q3 (Nat.le_refl _) (by omega)
    refine ⟨g.length, _, _, _, _, g2, ?_, r1, by simp; omega, r2, Nat.le_refl _, by omega⟩
    have c3 : DL.cutD ((fr x).map D.int) none (some (sg : Int)) = ((fr x).take sg).map D.int := by rw [cut_t (by omega), ← List.map_take]; rfl
    have sl : slD (tI (fr x)) none (some (sg : Int)) g1 = .ok (tI ((fr x).take sg)) g1 := by unfold tI; rw [e_slD]; dsimp only; rw [c3]
    have hu : m_fallen [some (.tup (xs.map fun x => lgD (fr x))), some (.int m), some (.int sg), none, none] g = .ok (.ret (.ref g.length)) ([some (.tup (xs.map fun x => lgD (fr x))), some (.int m), some (.int sg), some (.ref g.length), some (lgD (fr x))], g2) := by
      rw [em]
      generalize forS (seqE (slE (varE 0) (noneE) (optE (varE 1)))) (nameT 4) bfa = w1 at f1 ⊢
      generalize (xs.map fun x => lgD (fr x)) = q at f1 c2 ⊢
      generalize (fr x).take sg = y at sl e2
      simp only [List.map_cons, List.map_nil, lgD] at c2 ⊢
      have sl2 : slD (.tup q) (some (m : Int)) (some ((m : Int) + 1)) g1 = .ok (.tup [.tup [.str "log", tI (fr x)]]) g1 := by rw [e_slD]; dsimp only; rw [c2]
      simp [k0, f1, sl2, Src.len, Src.at_, forL, bfb, sl, e2, q1.ins, -e_slD, -e_makF]
    exact defF_ret (n := 5) (np := 3) (m := m_fallen) rfl h8 hu
end
end K70

/-! ## Kp11 -/
set_option maxHeartbeats 4000000
namespace K70
open PySem PySem.Spec PyProof.Rows L2 DL
def run (Ds : List Dd) : St := Ds.foldl St.step s0
structure Sml (k : Nat) (s : St) : Prop where
  es : s.es.length ≤ k
  sum : s.bi + s.es.length ≤ 9 * k
  ln : ∀ p ∈ s.es, p.2.length ≤ 2
  bl : s.bl.length ≤ 2
theorem Sml.small {k : Nat} {s : St} (h : Sml k s) (hk : k < 100) : Small s := ⟨by have := h.es; omega, by have := h.sum; omega, h.ln, h.bl⟩
theorem Sml.step {k : Nat} {s : St} {d : Dd} (h : Sml k s) (ok : d.ok s) (g1 : (s.step d).bi + (s.step d).es.length ≤ s.bi + s.es.length + 9) (g2 : (s.step d).es.length ≤ s.es.length + 1) : Sml (k + 1) (s.step d) := by
  refine ⟨by have := h.es; omega, by have := h.sum; omega, fun p hp => ?_, ?_⟩
  · cases d with
    | term t v => exact h.ln p hp
    | add t x =>
      rcases List.mem_append.mp hp with q | q
      · exact h.ln p q
      · have : p = (t, x) := by simpa using q
        rw [this]; exact ok.2
    | cut i => exact h.ln p (List.mem_of_mem_take hp)
    | rebase i x => exact h.ln p (List.mem_of_mem_drop hp)
    | base i t x => simp [St.step] at hp
  · cases d with
    | term t v => exact h.bl
    | add t x => exact h.bl
    | cut i => exact h.bl
    | rebase i x => exact ok.2.2.2
    | base i t x => exact ok.2.2
structure Good (Ds : List Dd) : Prop where
  sm : ∀ k, k ≤ Ds.length → Sml k (run (Ds.take k))
  ok : ∀ (k : Nat) d, Ds[k]? = some d → d.ok (run (Ds.take k))
theorem run_snoc {Ds : List Dd} {d : Dd} : run (Ds ++ [d]) = (run Ds).step d := by simp [run]
theorem run_succ {Ds : List Dd} {k : Nat} {d : Dd} (h : Ds[k]? = some d) : run (Ds.take (k + 1)) = (run (Ds.take k)).step d := by
  rw [List.take_add_one, h]; exact run_snoc
theorem Good.nil : Good [] := ⟨fun k hk => by
  have : k = 0 := by simpa using hk
  subst this
  exact ⟨by simp [run, s0], by simp [run, s0], by simp [run, s0], by simp [run, s0]⟩, fun k d h => by simp at h⟩
theorem Good.snoc {Ds : List Dd} {d : Dd} (h : Good Ds) (ok : d.ok (run Ds)) (g1 : ((run Ds).step d).bi + ((run Ds).step d).es.length ≤ (run Ds).bi + (run Ds).es.length + 9) (g2 : ((run Ds).step d).es.length ≤ (run Ds).es.length + 1) : Good (Ds ++ [d]) := by
  refine ⟨fun k hk => ?_, fun k d' hd => ?_⟩
  · by_cases c : k ≤ Ds.length
    · rw [List.take_append_of_le_length c]; exact h.sm k c
    · have e : k = Ds.length + 1 := by simp at hk; omega
      subst e
      rw [List.take_of_length_le (by simp), run_snoc]
      have z := h.sm Ds.length (Nat.le_refl _)
      rw [List.take_length] at z
      exact z.step ok g1 g2
  · by_cases c : k < Ds.length
    · rw [List.getElem?_append_left c] at hd
      rw [List.take_append_of_le_length (by omega)]; exact h.ok k d' hd
    · have hk : k = Ds.length := by have := (List.getElem?_eq_some_iff.mp hd).1; simp at this; omega
      subst hk
      have : d = d' := by simpa using hd
      subst this
      rw [List.take_left]; exact ok
theorem Good.take {Ds : List Dd} (h : Good Ds) (m : Nat) : Good (Ds.take m) := by
  refine ⟨fun k hk => ?_, fun k d hd => ?_⟩
  · rw [List.length_take] at hk
    rw [List.take_take, Nat.min_eq_left (by omega)]; exact h.sm k (by omega)
  · have hk := (List.getElem?_eq_some_iff.mp hd).1
    rw [List.length_take] at hk
    rw [List.getElem?_take_of_lt (by omega)] at hd
    rw [List.take_take, Nat.min_eq_left (by omega)]; exact h.ok k d hd
section
variable {g g0 : G} {j dk e ln rt dn : Nat} {s : St} {lg t : List Int} {ds : List D} {Ds : List Dd}
theorem Good.lens (h : Good Ds) : ∀ x ∈ lns Ds, x.length < 20 := fun x hx => by
  obtain ⟨d, hd, rfl⟩ := List.mem_map.mp hx
  obtain ⟨k, hk⟩ := List.getElem?_of_mem hd
  exact line_len (h.ok k d hk)
theorem Good.frs (h : Good Ds) : ∀ x ∈ lns Ds, (fr x).length < 40 := fun x hx => by
  have := h.lens x hx
  have := @cn_len x.length
  rw [fr_len]; omega
theorem d_log (h : DO dk ln rt dn lg ds g) : F_Disk_log [.ref dk] g = .ok (tI lg) g := by
  simp [F_Disk_log, defF, m_Disk_log, List.replicate, h.ins]
theorem len_tI {l : List Int} : lenF [tI l] g = .ok (.int l.length) g := by unfold tI; rw [e_lenF]; simp
theorem keep_ok (h : DO dk ln rt dn (lg ++ t) ds g) (hd : ds.length < 1000) : ∃ g', F_Disk_keep_log [.ref dk, .int lg.length] g = .ok .non g' ∧ DO dk ln rt dn lg (ds ++ [.tup [.str "keep", .int lg.length]]) g' ∧ Sm (fun n => n = dk ∨ n = dn) g g' := by
  have kn : dk ≠ dn := fun z => by have a := h.ins; rw [z, h.lst] at a; cases a
  have a1 : ds.length < sizeLine := by unfold sizeLine; omega
  have a3 : (2 : Nat) ≤ sizeLine := by decide
  have e1 := get_set_ne (o' := .lst (ds ++ [.tup [.str "keep", .int lg.length]])) h.ins kn.symm
  have sl : slD (tI (lg ++ t)) none (some (lg.length : Int)) (g.set dn (.lst (ds ++ [.tup [.str "keep", .int lg.length]]))) = .ok (tI lg) (g.set dn (.lst (ds ++ [.tup [.str "keep", .int lg.length]]))) := by
    unfold tI; rw [e_slD]; dsimp only; rw [cut_t (by omega), ← List.map_take, Int.toNat_natCast, List.take_left]
  refine ⟨(g.set dn (.lst (ds ++ [.tup [.str "keep", .int lg.length]]))).set dk (.ins "Disk" (DF ln rt dn lg)), ?_, ⟨get_set_eq e1, get_set_ne (get_set_eq h.lst) kn⟩, (Sm.set (.inr rfl)).trans (Sm.set (.inl rfl))⟩
  generalize lg ++ t = l at h e1 sl
  simp [F_Disk_keep_log, defF, m_Disk_keep_log, List.replicate, h.ins, h.lst, a1, a3, e1, sl, -e_slD]
theorem open_loop (G : Good Ds) (hl : Ds.length ≤ 20) (h : JW j dk e ln rt dn s0 lg ds g) (n1 : g0.length ≤ j) (n2 : g0.length ≤ e) (h0 : g0.length ≤ g.length) {a c d z : Option D} :
    ∃ z' e' g', forL (.tup ((lns Ds).map tI)) (stepS (nameT 4) boa) (((lns Ds).map tI).length + 1) 0 [a, some (.ref j), c, d, z] g = .ok .nx ([a, some (.ref j), c, d, z'], g') ∧ JW j dk e' ln rt dn (run Ds) lg ds g' ∧ Sm (fun n => g0.length ≤ n ∧ n ≠ dk ∧ n ≠ dn) g g' ∧ g0.length ≤ e' := by
  obtain ⟨ev', g', ee, ⟨z', he⟩, e', q1, q2, q3, q4⟩ := for_tup (ds := (lns Ds).map tI) (tg := nameT 4) (b := boa) (ev := [a, some (.ref j), c, d, z]) (g := g)
    (fun i ev g' => (∃ z', ev = [a, some (.ref j), c, d, z']) ∧ ∃ e', JW j dk e' ln rt dn (run (Ds.take i)) lg ds g' ∧ Sm (fun n => g0.length ≤ n ∧ n ≠ dk ∧ n ≠ dn) g g' ∧ g0.length ≤ e' ∧ g0.length ≤ g'.length) ⟨⟨z, rfl⟩, e, h, Sm.refl, n2, h0⟩ (by
      rintro i x ev g1 hd ⟨⟨z', rfl⟩, e', q1, q2, q3, q4⟩
      obtain ⟨dd, hdd, rfl⟩ : ∃ dd, Ds[i]? = some dd ∧ x = tI dd.line := by
        unfold lns at hd
        rw [List.map_map, List.getElem?_map] at hd
        cases q : Ds[i]? with
        | none => rw [q] at hd; cases hd
        | some a => rw [q] at hd; exact ⟨a, rfl, (Option.some.inj hd).symm⟩
      have hi := (List.getElem?_eq_some_iff.mp hdd).1
      have ok := G.ok i dd hdd
      have sm := (G.sm i (by omega)).es
      obtain ⟨e2, g2, r1, r2, r3, r4⟩ := do_any q1.jo ok (by omega)
      have e2n : e2 ≠ dn := by
        rcases r4 with z | z
        · rw [z]; exact q1.ne
        · rw [z]; exact Ne.symm (Nat.ne_of_lt (get_lt q1.do_.lst))
      refine ⟨[a, some (.ref j), c, d, some (tI dd.line)], g2, ?_, ⟨_, rfl⟩, e2, ?_, q2.trans (r3.imp fun n _ z => ?_), ?_, Nat.le_trans q4 r3.len⟩
      · generalize tI dd.line = y at r1 ⊢
        simp [boa, r1, q1.jo.ins]
      · rw [run_succ hdd]
        refine ⟨r2, ⟨r3.get _ _ q1.do_.ins ?_, r3.get _ _ q1.do_.lst ?_⟩, e2n⟩
        · rintro (z | z)
          · exact q1.jk z.symm
          · exact q1.ek z.symm
        · rintro (z | z)
          · exact q1.jn z.symm
          · exact q1.ne z.symm
      · rcases z with z | z <;> subst z
        · exact ⟨n1, q1.jk, q1.jn⟩
        · exact ⟨q3, q1.ek, q1.ne⟩
      · rcases r4 with z | z <;> rw [z]
        · exact q3
        · exact q4)
  subst he
  have tl : ((lns Ds).map tI).length = Ds.length := by simp [lns]
  rw [tl, List.take_length] at q1
  exact ⟨z', e', g', ee, q1, q2, q3⟩
theorem open_ok (G : Good Ds) (hl : Ds.length ≤ 20) (h : DO dk ln rt dn (fl (lns Ds) ++ t) ds g) (ht : Cut t) (hd : ds.length < 900) : ∃ j e ds' g', F_open_journal [.ref dk] g = .ok (.ref j) g' ∧ JW j dk e ln rt dn (run Ds) (fl (lns Ds)) ds' g' ∧
    ds'.length ≤ ds.length + 1 ∧ Sm (fun n => n = dk ∨ n = dn) g g' ∧ g.length ≤ j ∧ g.length ≤ e := by
  have k0 := mk_journal (d := dk) (g := g)
  have J1 : (g ++ O.ins "Journal" (JF dk (g.length + 1) s0) :: [O.lst []])[g.length]? = some (.ins "Journal" (JF dk (g.length + 1) s0)) := get_new
  have J2 : (g ++ O.ins "Journal" (JF dk (g.length + 1) s0) :: [O.lst []])[g.length + 1]? = some (.lst []) := by rw [List.getElem?_append_right (by omega)]; simp
  have D1 : DO dk ln rt dn (fl (lns Ds) ++ t) ds (g ++ O.ins "Journal" (JF dk (g.length + 1) s0) :: [O.lst []]) := ⟨get_app _ h.ins, get_app _ h.lst⟩
  have S1 : Sm (fun n => n = dk ∨ n = dn) g (g ++ O.ins "Journal" (JF dk (g.length + 1) s0) :: [O.lst []]) := Sm.app _
  have N1 : g.length < (g ++ O.ins "Journal" (JF dk (g.length + 1) s0) :: [O.lst []]).length := by simp
  generalize hg1 : (g ++ O.ins "Journal" (JF dk (g.length + 1) s0) :: [O.lst []]) = g1 at k0 J1 J2 D1 S1 N1
  have kl := get_lt h.ins
  have nl := get_lt h.lst
  have l1 := d_log D1
  have l2 : F_frames_in [tI (fl (lns Ds) ++ t)] g1 = _ := frames_in_ok (g := g1) (fun x hx => by have := G.lens x hx; omega) ht (by simp [lns]; omega)
  have em : m_open_journal = seqS (asgS (apE (makF "Journal" F_Journalu_initu) (consE (varE 0) (nilE))) (nameT 1))
    (seqS (asgS (apE F_frames_in (consE (methE [("Disk", F_Disk_log)] "log" (varE 0) nilE) (nilE))) (tupT 2 (consT (nameT 2) (consT (nameT 3) (nilT)))))
    (seqS (ifS (boolE (opE ltD (varE 3) (apE lenF (consE (methE [("Disk", F_Disk_log)] "log" (varE 0) nilE) (nilE))))) (exprS (methE [("Disk", F_Disk_keep_log)] "keep_log" (varE 0) (consE (varE 3) (nilE)))) (nxS))
    (seqS (forS (seqE (varE 2)) (nameT 4) boa) (retS (varE 1))))) := rfl
  -- the log is cut where a frame is not whole
  obtain ⟨ds', g2, c1, D2, c2, S2⟩ : ∃ ds' g2, (ifS (boolE (opE ltD (varE 3) (apE lenF (consE (methE [("Disk", F_Disk_log)] "log" (varE 0) nilE) (nilE))))) (exprS (methE [("Disk", F_Disk_keep_log)] "keep_log" (varE 0) (consE (varE 3) (nilE)))) (nxS)) [some (.ref dk), some (.ref g.length), some (.tup ((lns Ds).map tI)), some (.int ((fl (lns Ds)).length : Nat)), none] g1
      = .ok .nx ([some (.ref dk), some (.ref g.length), some (.tup ((lns Ds).map tI)), some (.int ((fl (lns Ds)).length : Nat)), none], g2) ∧ DO dk ln rt dn (fl (lns Ds)) ds' g2 ∧ ds'.length ≤ ds.length + 1 ∧ Sm (fun n => n = dk ∨ n = dn) g1 g2 := by
    by_cases ct : t = []
    · subst ct
      rw [List.append_nil] at l1 D1
      refine ⟨ds, g1, ?_, D1, by omega, Sm.refl⟩
      generalize fl (lns Ds) = l at l1 D1 ⊢
      generalize (lns Ds).map tI = q
      simp [l1, D1.ins, len_tI, -e_lenF]
    · obtain ⟨g2, k1, k2, k3⟩ := keep_ok D1 (by omega)
      have tl : 0 < t.length := List.length_pos_iff.mpr ct
      refine ⟨_, g2, ?_, k2, by simp, k3⟩
      have c : ((fl (lns Ds)).length : Int) < (fl (lns Ds) ++ t).length := by rw [List.length_append]; omega
      generalize fl (lns Ds) ++ t = l at l1 D1 c
      generalize ((fl (lns Ds)).length : Int) = k at k1 c ⊢
      generalize (lns Ds).map tI = q
      simp [l1, D1.ins, len_tI, c, k1, -e_lenF]
  have J3 := S2.get _ _ J1 (by omega)
  have J4 := S2.get _ _ J2 (by omega)
  obtain ⟨z', e', g3, e3, q1, q2, q3⟩ := open_loop (g0 := g) G hl (j := g.length) (e := g.length + 1) (g := g2) (ds := ds') ⟨⟨J3, J4⟩, D2, by omega⟩ (Nat.le_refl _) (by omega) (by have := S2.len; omega) (a := some (.ref dk)) (c := some (.tup ((lns Ds).map tI))) (d := some (.int ((fl (lns Ds)).length : Nat))) (z := none)
  refine ⟨g.length, e', ds', g3, ?_, q1, c2, (S1.trans S2).sub q2 ?_, Nat.le_refl _, q3⟩
  · have f3 : forS (seqE (varE 2)) (nameT 4) boa [some (.ref dk), some (.ref g.length), some (.tup ((lns Ds).map tI)), some (.int ((fl (lns Ds)).length : Nat)), none] g2 = .ok .nx ([some (.ref dk), some (.ref g.length), some (.tup ((lns Ds).map tI)), some (.int ((fl (lns Ds)).length : Nat)), z'], g3) := by
      simp only [e_forS, e_withE, e_seqE, e_varE, List.getElem?_cons_zero, List.getElem?_cons_succ, Src.len]
      exact e3
    have hu : m_open_journal [some (.ref dk), none, none, none, none] g = .ok (.ret (.ref g.length)) ([some (.ref dk), some (.ref g.length), some (.tup ((lns Ds).map tI)), some (.int ((fl (lns Ds)).length : Nat)), z'], g3) := by
      rw [em]
      generalize forS (seqE (varE 2)) (nameT 4) boa = w1 at f3 ⊢
      generalize (ifS (boolE (opE ltD (varE 3) (apE lenF (consE (methE [("Disk", F_Disk_log)] "log" (varE 0) nilE) (nilE))))) (exprS (methE [("Disk", F_Disk_keep_log)] "keep_log" (varE 0) (consE (varE 3) (nilE)))) (nxS)) = w2 at c1 ⊢
      generalize fl (lns Ds) ++ t = l at l1 l2 D1
      generalize ((fl (lns Ds)).length : Int) = k at l2 c1 f3 ⊢
      generalize (lns Ds).map tI = q at l2 c1 f3 ⊢
      simp [k0, l1, l2, D1.ins, c1, f3, -e_makF]
    exact defF_ret (n := 5) (np := 1) (m := m_open_journal) rfl (by simp [List.replicate]) hu
  · intro n hn z; omega
end
end K70

/-! ## Kp12 -/
set_option maxHeartbeats 4000000
namespace K70
open PySem PySem.Spec PyProof.Rows L2 DL
section
variable {g g' g1 g2 g3 g4 : G} {iw il j dk e ln rt dn ip : Nat} {s : St} {lg : List Int} {ds ps : List D} {Ds : List Dd} {xs : List Int} {S : Nat → Prop}
theorem WW.sm (h : WW iw il xs g) (m : Sm S g g') (h1 : ¬ S iw) (h2 : ¬ S il) : WW iw il xs g' := by
  obtain ⟨a, q⟩ := h.w
  exact ⟨⟨a, m.get _ _ q h1⟩, m.get _ _ h.l h2⟩
theorem JW.sm (h : JW j dk e ln rt dn s lg ds g) (m : Sm S g g') (h1 : ¬ S j) (h2 : ¬ S e) (h3 : ¬ S dk) (h4 : ¬ S dn) : JW j dk e ln rt dn s lg ds g' :=
  ⟨⟨m.get _ _ h.jo.ins h1, m.get _ _ h.jo.lst h2⟩, ⟨m.get _ _ h.do_.ins h3, m.get _ _ h.do_.lst h4⟩, h.ne⟩
theorem WW.ne_of {o : O} {n : Nat} (h : WW iw il xs g) (ho : g[n]? = some o) (k : ∀ m, o ≠ .dic m) : n ≠ iw := fun z => by
  obtain ⟨a, q⟩ := h.w
  rw [← z, ho] at q
  exact k _ (Option.some.inj q)
structure P1 (iw il dk ln rt dn j ip e : Nat) (xs : List Int) (Ds : List Dd) (ps : List D) (g : G) : Prop where
  W : WW iw il xs g
  jw : JW j dk e ln rt dn (run Ds) (fl (lns Ds)) (dns Ds) g
  good : Good Ds
  pl : ps.length = Ds.length + 1
  past : g[ip]? = some (.lst ps)
  pk : ∀ k, k ≤ Ds.length → ∃ e2, ps[k]? = some (jD (run (Ds.take k)) e2) ∧ g[e2]? = some (.lst ((run (Ds.take k)).es.map ent)) ∧ e2 ≠ e ∧ e2 ≠ dn ∧ e2 ≠ ip
  n1 : ip ≠ dn
  n2 : il ≠ dn
  n3 : il ≠ ip
  n4 : il ≠ e
  n5 : ip ≠ e
theorem blb_run {sc w tn dkD jr jd jd' dd told : D} {a7 a8 a9 a10 a11 a12 a13 a14 a15 : Option D} {i : Int}
    (e1 : F__law_deed [w, jd] g = .ok dd g1) (e2 : F__law_do [jd, dd] g1 = .ok jd' g2) (e3 : F__law_tell [jr, dd] g2 = .ok told g3)
    (e4 : (andB (boolE (opE eqD (opE ixD (varE 8) (cE (.int 0))) (cE (.str "add")))) (boolE (opE neD (varE 9) (opE addD (opE ixD (opE ixD (varE 5) (cE (.int 2))) (cE (.int 0))) (apE lenF (consE (opE ixD (varE 5) (cE (.int 3))) (nilE))))))) [some sc, some w, some tn, some dkD, some jr, some jd', some (.ref ip), some (.int i), some dd, some told, a10, a11, a12, a13, a14, a15] g3 = .ok false g3)
    (e5 : F__law_is [jr, jd'] g3 = .ok (.bl true) g4) (e6 : g4[ip]? = some (.lst ps)) (e7 : ps.length < 1000) :
    stepS (nameT 7) blb (.int i) [some sc, some w, some tn, some dkD, some jr, some jd, some (.ref ip), a7, a8, a9, a10, a11, a12, a13, a14, a15] g
      = .ok .nx ([some sc, some w, some tn, some dkD, some jr, some jd', some (.ref ip), some (.int i), some dd, some told, a10, a11, a12, a13, a14, a15], g4.set ip (.lst (ps ++ [jd']))) := by
  have a1 : ps.length < sizeLine := by unfold sizeLine; omega
  unfold blb
  generalize (andB (boolE (opE eqD (opE ixD (varE 8) (cE (.int 0))) (cE (.str "add")))) (boolE (opE neD (varE 9) (opE addD (opE ixD (opE ixD (varE 5) (cE (.int 2))) (cE (.int 0))) (apE lenF (consE (opE ixD (varE 5) (cE (.int 3))) (nilE))))))) = m at e4
  simp [e1, e2, e3, e4, e5, e6, a1]
theorem told_ok {d : Dd} {s' : St} {e3 : Nat} {sc w tn dkD jr p7 : Option D} {a6 a10 a11 a12 a13 a14 a15 : Option D} (h : g[e3]? = some (.lst (s'.es.map ent))) :
    (andB (boolE (opE eqD (opE ixD (varE 8) (cE (.int 0))) (cE (.str "add")))) (boolE (opE neD (varE 9) (opE addD (opE ixD (opE ixD (varE 5) (cE (.int 2))) (cE (.int 0))) (apE lenF (consE (opE ixD (varE 5) (cE (.int 3))) (nilE))))))) [sc, w, tn, dkD, jr, some (jD s' e3), a6, p7, some d.d, some (d.told s'), a10, a11, a12, a13, a14, a15] g = .ok false g := by
  cases d <;> simp [Dd.d, Dd.told, jD, bD, h, eqB_int]
theorem p1_step (h : P1 iw il dk ln rt dn j ip e xs Ds ps g) (hl : Ds.length < 14) {sc tn : D} {i : Int} {a7 a8 a9 a10 a11 a12 a13 a14 a15 jd : Option D} (hj : ps[Ds.length]? = jd) :
    ∃ d e' a8' a9' jd' g', stepS (nameT 7) blb (.int i) [some sc, some (.ref iw), some tn, some (.ref dk), some (.ref j), jd, some (.ref ip), a7, a8, a9, a10, a11, a12, a13, a14, a15] g
      = .ok .nx ([some sc, some (.ref iw), some tn, some (.ref dk), some (.ref j), some jd', some (.ref ip), some (.int i), a8', a9', a10, a11, a12, a13, a14, a15], g') ∧ P1 iw il dk ln rt dn j ip e' xs (Ds ++ [d]) (ps ++ [jd']) g' := by
  obtain ⟨e2, p1, p2, p3, p4, p5⟩ := h.pk Ds.length (Nat.le_refl _)
  rw [List.take_length] at p1 p2
  rw [p1] at hj
  subst hj
  have sm := h.good.sm Ds.length (Nat.le_refl _)
  rw [List.take_length] at sm
  have sml := sm.small (by omega)
  obtain ⟨d, g1, f1, ok, W1, m1, gr1, gr2⟩ := ldeed_ok h.W p2 (by have := sml.sum; omega)
  have nj := h.W.ne_of h.jw.jo.ins (fun _ => by intro z; cases z)
  have ne := h.W.ne_of h.jw.jo.lst (fun _ => by intro z; cases z)
  have nk := h.W.ne_of h.jw.do_.ins (fun _ => by intro z; cases z)
  have nd := h.W.ne_of h.jw.do_.lst (fun _ => by intro z; cases z)
  have np := h.W.ne_of h.past (fun _ => by intro z; cases z)
  have n2 := h.W.ne_of p2 (fun _ => by intro z; cases z)
  have j1 := h.jw.sm m1 nj ne nk nd
  have q2 := m1.get _ _ p2 n2
  obtain ⟨e3, g2, f2, q3, m2, r3⟩ := ldo_ok d ok q2 sml
  have j2 := j1.sm m2 (fun z => z) (fun z => z) (fun z => z) (fun z => z)
  have dl : (dns Ds).length = Ds.length := by simp [dns, lns]
  have fll := fl_len h.good.frs
  have lnl : (lns Ds).length = Ds.length := by simp [lns]
  obtain ⟨e', g3, f3, j3, m3, r4⟩ := tell_ok j2 ok sml.es (by omega) (by omega)
  have S2 : Sm none_ g2 g2 := Sm.refl
  -- places
  have ile : ∀ {n : Nat} {o : O}, g[n]? = some o → n < g2.length := fun q => Nat.lt_of_lt_of_le (get_lt q) (Nat.le_trans m1.len m2.len)
  have e3e : e3 ≠ e := by
    rcases r3 with z | z
    · rw [z]; exact p3
    · have := get_lt j1.jo.lst; omega
  have e3n : e3 ≠ dn := by
    rcases r3 with z | z
    · rw [z]; exact p4
    · have := get_lt j1.do_.lst; omega
  have pst1 := m1.get _ _ h.past np
  have e3p : e3 ≠ ip := by
    rcases r3 with z | z
    · rw [z]; exact p5
    · have := get_lt pst1; omega
  have kj : ∀ {n : Nat} {xs : List D}, g2[n]? = some (.lst xs) → n ≠ j := fun q z => by have := j2.jo.ins; rw [← z, q] at this; cases this
  have kk : ∀ {n : Nat} {xs : List D}, g2[n]? = some (.lst xs) → n ≠ dk := fun q z => by have := j2.do_.ins; rw [← z, q] at this; cases this
  have pst2 := m2.get _ _ pst1 (fun z => z)
  have W2 := W1.sm m2 (fun z => z) (fun z => z)
  have wl : ∀ {n : Nat}, n = j ∨ n = e ∨ n = dk ∨ n = dn → n ≠ iw := fun z => by rcases z with z | z | z | z <;> subst z <;> assumption
  have W3 : WW iw il xs g3 := W2.sm m3 (fun z => wl z rfl) (by
    rintro (z | z | z | z)
    · exact kj W2.l z
    · exact h.n4 z
    · exact kk W2.l z
    · exact h.n2 z)
  have keep3 : ∀ {n : Nat} {ys : List D}, g2[n]? = some (.lst ys) → n ≠ e → n ≠ dn → g3[n]? = some (.lst ys) := fun q a b => m3.get _ _ q (by
    rintro (z | z | z | z)
    · exact kj q z
    · exact a z
    · exact kk q z
    · exact b z)
  have q33 := keep3 q3 e3e e3n
  have pst3 := keep3 pst2 h.n5 h.n1
  have sm' := sm.step ok gr1 gr2
  obtain ⟨g4, f4, m4⟩ := is_ok j3.jo q33 (sm'.small (by omega))
  have pst4 := m4.get _ _ pst3 (fun z => z)
  have e4 := told_ok (d := d) (s' := (run Ds).step d) (e3 := e3) (sc := some sc) (w := some (.ref iw)) (tn := some tn) (dkD := some (.ref dk)) (jr := some (.ref j)) (p7 := some (.int i)) (a6 := some (.ref ip)) (a10 := a10) (a11 := a11) (a12 := a12) (a13 := a13) (a14 := a14) (a15 := a15) q33
  have R := blb_run (sc := sc) (tn := tn) (dkD := .ref dk) (a7 := a7) (a8 := a8) (a9 := a9) (a10 := a10) (a11 := a11) (a12 := a12) (a13 := a13) (a14 := a14) (a15 := a15) (i := i) f1 f2 f3 e4 f4 pst4 (by have := h.pl; omega)
  refine ⟨d, e', _, _, jD ((run Ds).step d) e3, _, R, ?_⟩
  have e'p : ip ≠ e' := by
    rcases r4 with z | z
    · rw [z]; exact h.n5
    · have := get_lt pst2; omega
  have e'l : il ≠ e' := by
    rcases r4 with z | z
    · rw [z]; exact h.n4
    · have := get_lt W2.l; omega
  have s5 : Sm (fun n => n = ip) g4 (g4.set ip (.lst (ps ++ [jD ((run Ds).step d) e3]))) := Sm.set rfl
  have pj : ip ≠ j := kj pst2
  have pkk : ip ≠ dk := kk pst2
  have W5 : WW iw il xs (g4.set ip (.lst (ps ++ [jD ((run Ds).step d) e3]))) := (W3.sm m4 (fun z => z) (fun z => z)).sm s5 (fun z => np z.symm) h.n3
  have J5 := (j3.sm m4 (fun z => z) (fun z => z) (fun z => z) (fun z => z)).sm s5 (fun z => pj z.symm) (fun z => e'p z.symm) (fun z => pkk z.symm) (fun z => h.n1 z.symm)
  have keep5 : ∀ {n : Nat} {ys : List D}, g2[n]? = some (.lst ys) → n ≠ e → n ≠ dn → n ≠ ip → (g4.set ip (.lst (ps ++ [jD ((run Ds).step d) e3])))[n]? = some (.lst ys) := fun q a b c => s5.get _ _ (m4.get _ _ (keep3 q a b) (fun z => z)) c
  have e'3 : ∀ {n : Nat} {ys : List D}, g2[n]? = some (.lst ys) → n ≠ e → n ≠ e' := fun q a => by
    rcases r4 with z | z
    · rw [z]; exact a
    · have := get_lt q; omega
  refine ⟨W5, ?_, h.good.snoc ok gr1 gr2, by simp [h.pl], get_set_eq pst4, fun k hk => ?_, h.n1, h.n2, h.n3, e'l, e'p⟩
  · rw [run_snoc]
    have a : fl (lns (Ds ++ [d])) = fl (lns Ds) ++ fr d.line := by simp [fl, lns]
    have b : dns (Ds ++ [d]) = dns Ds ++ [lgD (fr d.line)] := by simp [dns, lns]
    rw [a, b]; exact J5
  · by_cases c : k ≤ Ds.length
    · obtain ⟨e2k, k1, k2, k3, k4, k5⟩ := h.pk k c
      have k6 := h.W.ne_of k2 (fun _ => by intro z; cases z)
      have k7 := m2.get _ _ (m1.get _ _ k2 k6) (fun z => z)
      refine ⟨e2k, ?_, ?_, e'3 k7 k3, k4, k5⟩
      · rw [List.take_append_of_le_length c, List.getElem?_append_left (by have := h.pl; omega)]; exact k1
      · rw [List.take_append_of_le_length c]; exact keep5 k7 k3 k4 k5
    · have hk : k = Ds.length + 1 := by simp at hk; omega
      subst hk
      refine ⟨e3, ?_, ?_, e'3 q3 e3e, e3n, e3p⟩
      · rw [List.take_of_length_le (by simp), run_snoc, List.getElem?_append_right (by rw [h.pl]; exact Nat.le_refl _), h.pl]; simp
      · rw [List.take_of_length_le (by simp), run_snoc]; exact keep5 q3 e3e e3n e3p
end
end K70

/-! ## Kp13 -/
set_option maxHeartbeats 4000000
namespace K70
open PySem PySem.Spec PyProof.Rows L2 DL
section
variable {g g' g1 g2 g3 g4 g5 g6 g7 g8 g9 gP : G} {iw il j dk e ln rt dn ip : Nat} {s : St} {lg : List Int} {ds ps : List D} {Ds : List Dd} {xs : List Int} {S : Nat → Prop}
def whE : EM D := (ifE (boolE (opE ltD (varE 12) (cE (.int 14)))) (opE addD (varE 12) (apE intF (consE (andV (opE ltD (varE 12) (cE (.int 14))) (opE geD (varE 13) (apE lenF (consE (opE ixD (opE ixD (varE 10) (varE 12)) (cE (.int 1))) (nilE))))) (nilE)))) (cE (.int 14)))
theorem blc_run {sc w tn dkD jr jd deeds dkr jr2 pj pj' dd told : D} {a7 a8 a9 a11 a12 a13 a14 a15 : Option D} {i m sg wn : Int}
    (e1 : F__law_next [w, .int 15] g = .ok (.int m) g1) (e2 : F__law_pick [w, .ref g1.length] (g1 ++ [.lst [.int 0, .int 1, .int 5, .int 997]]) = .ok (.int sg) g2)
    (e3 : whE [some sc, some w, some tn, some dkD, some jr, some jd, some (.ref ip), a7, a8, a9, some deeds, some (.int i), some (.int m), some (.int sg), a14, a15] g2 = .ok (.int wn) g2)
    (e4 : F_fallen [deeds, .int m, .int sg] g2 = .ok dkr g3) (e5 : F_open_journal [dkr] g3 = .ok jr2 g4) (p4 : g4[ip]? = some (.lst ps)) (pw : atI ps wn = some pj)
    (e6 : F__law_is [jr2, pj] g4 = .ok (.bl true) g5) (p5 : g5[ip]? = some (.lst ps)) (e7 : F__law_deed [w, pj] g5 = .ok dd g6) (e8 : F__law_tell [jr2, dd] g6 = .ok told g7) (p7 : g7[ip]? = some (.lst ps))
    (e9 : F__law_do [pj, dd] g7 = .ok pj' g8) (e10 : F__law_is [jr2, pj'] g8 = .ok (.bl true) g9) :
    stepS (nameT 11) blc (.int i) [some sc, some w, some tn, some dkD, some jr, some jd, some (.ref ip), a7, a8, a9, some deeds, a11, a12, a13, a14, a15] g
      = .ok .nx ([some sc, some w, some tn, some dkD, some jr, some jd, some (.ref ip), a7, some dd, a9, some deeds, some (.int i), some (.int m), some (.int sg), some (.int wn), some jr2], g9) := by
  have a1 : (4 : Nat) ≤ sizeLine := by decide
  unfold blc
  change stepS (nameT 11) (seqS _ (seqS (asgS whE (nameT 14)) _)) _ _ _ = _
  generalize whE = m at e3 ⊢
  simp [e1, e2, e3, e4, e5, e6, e7, e8, e9, e10, p4, p5, p7, pw, a1]
theorem wh_ok {sc w tn dkD jr jd a6 a7 a8 a9 a11 a14 a15 : Option D} {m sg : Nat} (hl : Ds.length = 14) (hm : m < 15) : ∃ wn : Nat, whE [sc, w, tn, dkD, jr, jd, a6, a7, a8, a9, some (.tup (dns Ds)), a11, some (.int m), some (.int sg), a14, a15] g = .ok (.int wn) g ∧ wn ≤ 14 ∧
    ∃ t, fl ((lns Ds).take m) ++ (((lns Ds)[m]?.map fr).getD []).take sg = fl (lns (Ds.take wn)) ++ t ∧ (Good Ds → Cut t) := by
  have cn0 : Cut [] := ⟨[], 0, by simp, by simp, by simp [fr_len]⟩
  have tk : ∀ n, lns (Ds.take n) = (lns Ds).take n := fun n => by simp [lns]
  have ll : (lns Ds).length = 14 := by simp [lns, hl]
  by_cases c : m < 14
  · obtain ⟨x, hx⟩ : ∃ x, (lns Ds)[m]? = some x := ⟨_, List.getElem?_eq_getElem (by omega)⟩
    have dx : (dns Ds)[m]? = some (lgD (fr x)) := by simp [dns, hx]
    have ax : atI (dns Ds) (m : Int) = some (lgD (fr x)) := DL.atI_nat dx
    have c' : (m : Int) < 14 := by omega
    by_cases q : (fr x).length ≤ sg
    · have q' : ((fr x).length : Int) ≤ sg := by omega
      refine ⟨m + 1, ?_, by omega, [], ?_, fun _ => cn0⟩
      · generalize fr x = y at ax q'
        simp [whE, ax, c', q', lgD, len_tI, -e_lenF]
      · rw [hx, tk, fl_take hx]; simp [List.take_of_length_le q]
    · have q' : ¬ ((fr x).length : Int) ≤ sg := by omega
      refine ⟨m, ?_, by omega, (fr x).take sg, ?_, fun G => ⟨x, sg, ?_, rfl, by omega⟩⟩
      · generalize fr x = y at ax q'
        simp [whE, ax, c', q', lgD, len_tI, -e_lenF]
      · rw [hx, tk]; rfl
      · have := G.lens x (List.mem_of_getElem? hx); omega
  · have hm' : m = 14 := by omega
    subst hm'
    refine ⟨14, by simp [whE], by omega, [], ?_, fun _ => cn0⟩
    have z : (lns Ds)[14]? = none := List.getElem?_eq_none_iff.mpr (by omega)
    rw [z, tk]; simp
theorem p2_step (h : P1 iw il dk ln rt dn j ip e xs Ds ps gP) (hl : Ds.length = 14) (W : WW iw il xs g) (mm : Sm (fun n => n = iw) gP g) {sc tn dkD jr jd : D} {i : Int} {a7 a8 a9 a11 a12 a13 a14 a15 : Option D} :
    ∃ b8 b12 b13 b14 b15 g', stepS (nameT 11) blc (.int i) [some sc, some (.ref iw), some tn, some dkD, some jr, some jd, some (.ref ip), a7, a8, a9, some (.tup (dns Ds)), a11, a12, a13, a14, a15] g
      = .ok .nx ([some sc, some (.ref iw), some tn, some dkD, some jr, some jd, some (.ref ip), a7, b8, a9, some (.tup (dns Ds)), some (.int i), b12, b13, b14, b15], g') ∧ WW iw il xs g' ∧ Sm (fun n => n = iw) gP g' := by
  obtain ⟨m, g1, e1, hm, W1, m1⟩ := next_ok W (m := 15) (by omega)
  have e1 : F__law_next [.ref iw, .int 15] g = .ok (.int m) g1 := e1
  have W1' : WW iw il xs (g1 ++ [.lst [.int 0, .int 1, .int 5, .int 997]]) := W1.sm (S := none_) (Sm.app _) (fun z => z) (fun z => z)
  obtain ⟨sgD, g2, e2, ms, W2, m2⟩ := pick_ok W1' (p := g1.length) (rows := [.int 0, .int 1, .int 5, .int 997]) get_new (by simp)
  obtain ⟨sg, rfl⟩ : ∃ sg : Nat, sgD = .int sg := by
    simp only [List.mem_cons, List.not_mem_nil, or_false] at ms
    rcases ms with rfl | rfl | rfl | rfl
    · exact ⟨0, rfl⟩
    · exact ⟨1, rfl⟩
    · exact ⟨5, rfl⟩
    · exact ⟨997, rfl⟩
  have mm2 : Sm (fun n => n = iw) gP g2 := mm.trans (m1.trans ((Sm.app _).trans m2))
  obtain ⟨wn, e3, hw, t, ht, hc⟩ := wh_ok (sc := some sc) (w := some (.ref iw)) (tn := some tn) (dkD := some dkD) (jr := some jr) (jd := some jd) (a6 := some (.ref ip)) (a7 := a7) (a8 := a8) (a9 := a9) (a11 := some (.int i)) (a14 := a14) (a15 := a15) (g := g2) (m := m) (sg := sg) hl hm
  have Gw := h.good.take wn
  have wl : (Ds.take wn).length = wn := by rw [List.length_take]; omega
  obtain ⟨dkr, lnr, rtr, dnr, ds', g3, e4, D3, dl, m3, k1, k2⟩ := fallen_ok (g := g2) (xs := lns Ds) (m := m) (sg := sg) h.good.frs (by simp [lns, hl])
  have e4 : F_fallen [.tup (dns Ds), .int m, .int sg] g2 = .ok (.ref dkr) g3 := e4
  rw [ht] at D3
  obtain ⟨jr2, er, ds2, g4, e5, J4, dl2, m4, k3, k4⟩ := open_ok Gw (by omega) D3 (hc h.good) (by omega)
  -- what stays
  have np := h.W.ne_of h.past (fun _ => by intro z; cases z)
  have past2 := mm2.get _ _ h.past np
  have past3 := m3.get _ _ past2 (fun z => z)
  have lt2 := get_lt past2
  have past4 := m4.get _ _ past3 (by omega)
  obtain ⟨e2', p1, p2, _, _, _⟩ := h.pk wn (by omega)
  have n2 := h.W.ne_of p2 (fun _ => by intro z; cases z)
  have q2 := mm2.get _ _ p2 n2
  have lq2 := get_lt q2
  have q4 := m4.get _ _ (m3.get _ _ q2 (fun z => z)) (by omega)
  have sm := h.good.sm wn (by omega)
  have sml := sm.small (by omega)
  have lw : iw < g2.length := by obtain ⟨a, q⟩ := W2.w; exact get_lt q
  have ll : il < g2.length := get_lt W2.l
  have W4 := (W2.sm m3 (fun z => z) (fun z => z)).sm m4 (by omega) (by omega)
  obtain ⟨g5, e6, m5⟩ := is_ok J4.jo q4 sml
  have past5 := m5.get _ _ past4 (fun z => z)
  have W5 := W4.sm m5 (fun z => z) (fun z => z)
  have q5 := m5.get _ _ q4 (fun z => z)
  have J5 := J4.sm m5 (fun z => z) (fun z => z) (fun z => z) (fun z => z)
  obtain ⟨d, g6, e7, ok, W6, m6, gr1, gr2⟩ := ldeed_ok W5 q5 (by have := sml.sum; omega)
  have l3 := m3.len
  have l4 := m4.len
  have J6 := J5.sm m6 (by omega) (by omega) (by omega) (by omega)
  have frl := fl_len Gw.frs
  have lnl : (lns (Ds.take wn)).length = wn := by simp [lns, wl]; omega
  obtain ⟨er', g7, e8, J7, m7, _⟩ := tell_ok J6 ok sml.es (by omega) (by omega)
  have far : ∀ n, n < g2.length → ¬ (n = jr2 ∨ n = er ∨ n = dkr ∨ n = dnr) := fun n hn => by omega
  have past6 := m6.get _ _ past5 np
  have past7 := m7.get _ _ past6 (far _ lt2)
  have q7 := m7.get _ _ (m6.get _ _ q5 n2) (far _ lq2)
  have W7 := W6.sm m7 (far _ lw) (far _ ll)
  obtain ⟨e3', g8, e9, q8, m8, _⟩ := ldo_ok d ok q7 sml
  have J8 := J7.sm m8 (fun z => z) (fun z => z) (fun z => z) (fun z => z)
  have sm' := sm.step ok gr1 gr2
  obtain ⟨g9, e10, m9⟩ := is_ok J8.jo q8 (sm'.small (by omega))
  have R := blc_run (sc := sc) (tn := tn) (dkD := dkD) (jr := jr) (jd := jd) (a7 := a7) (a8 := a8) (a9 := a9) (a11 := a11) (a12 := a12) (a13 := a13) (a14 := a14) (a15 := a15) (i := i) e1 e2 e3 e4 e5 past4 (DL.atI_nat p1) e6 past5 e7 e8 past7 e9 e10
  refine ⟨_, _, _, _, _, g9, R, (W7.sm m8 (fun z => z) (fun z => z)).sm m9 (fun z => z) (fun z => z), ?_⟩
  have b3 : Sm (fun n => n = iw) g2 g3 := m3.imp fun n _ z => z.elim
  have b4 := b3.sub m4 fun n hn z => by omega
  have b5 := b4.sub m5 fun n hn z => z.elim
  have b6 := b5.sub m6 fun n hn z => z
  have b7 := b6.sub m7 fun n hn z => (far n hn z).elim
  have b8 := b7.sub m8 fun n hn z => z.elim
  have b9 := b8.sub m9 fun n hn z => z.elim
  exact mm2.trans b9
end
end K70

/-! ## Kp14 -/
set_option maxHeartbeats 4000000
namespace K70
open PySem PySem.Spec PyProof.Rows L2 DL
section
variable {g g' g1 : G} {iw il j dk e ln rt dn ip : Nat} {s : St} {lg : List Int} {ds ps : List D} {Ds : List Dd} {xs : List Int}
theorem d_deeds (h : DO dk ln rt dn lg ds g) : F_Disk_deeds [.ref dk] g = .ok (.tup ds) g := by
  simp [F_Disk_deeds, defF, m_Disk_deeds, List.replicate, h.ins, h.lst]
/-- what a turn makes -/
def gA (g : G) : G := g ++ O.ins "Disk" (DF (g.length + 1) (g.length + 2) (g.length + 3) []) :: [.dic [], .lst [.tup [], .tup []], .lst []]
def gB (g : G) : G := gA g ++ O.ins "Journal" (JF g.length ((gA g).length + 1) s0) :: [.lst []]
def gC (g : G) : G := gB g ++ [.lst []]
def gD (g : G) : G := gC g ++ [.lst []]
def gE (g : G) : G := (gD g).set (gC g).length (.lst [jD s0 (gB g).length])
theorem lA : (gA g).length = g.length + 4 := by simp [gA]
theorem lB : (gB g).length = g.length + 6 := by simp [gB, lA]
theorem lC : (gC g).length = g.length + 7 := by simp [gC, lB]
theorem p1_new (W : WW iw il xs g) : P1 iw il g.length (g.length + 1) (g.length + 2) (g.length + 3) (g.length + 4) (g.length + 7) (g.length + 5) xs [] [jD s0 (g.length + 6)] (gE g) := by
  have a0 : (gA g)[g.length]? = some (.ins "Disk" (DF (g.length + 1) (g.length + 2) (g.length + 3) [])) := get_new
  have a3 : (gA g)[g.length + 3]? = some (.lst []) := by unfold gA; rw [List.getElem?_append_right (by omega)]; simp
  have b0 : (gB g)[g.length + 4]? = some (.ins "Journal" (JF g.length (g.length + 5) s0)) := by have := @get_new (gA g) (O.ins "Journal" (JF g.length ((gA g).length + 1) s0)) [.lst []]; rw [lA] at this; unfold gB; rw [lA]; exact this
  have b1 : (gB g)[g.length + 5]? = some (.lst []) := by unfold gB; rw [List.getElem?_append_right (by rw [lA]; omega), lA, show g.length + 5 - (g.length + 4) = 1 by omega]; rfl
  have c0 : (gC g)[g.length + 6]? = some (.lst []) := by have := @get_new (gB g) (.lst []) []; rw [lB] at this; exact this
  have d0 : (gD g)[g.length + 7]? = some (.lst []) := by have := @get_new (gC g) (.lst []) []; rw [lC] at this; exact this
  have sB : Sm none_ (gA g) (gB g) := Sm.app _
  have sC : Sm none_ (gB g) (gC g) := Sm.app _
  have sD : Sm none_ (gC g) (gD g) := Sm.app _
  have sE : Sm (fun n => n = g.length + 7) (gD g) (gE g) := by unfold gE; rw [lC]; exact Sm.set rfl
  have n0 : ∀ n : Nat, ¬ none_ n := fun n z => z
  have lw : iw < g.length := by obtain ⟨a, q⟩ := W.w; exact get_lt q
  have ll : il < g.length := get_lt W.l
  have WA : WW iw il xs (gA g) := W.sm (S := none_) (Sm.app _) (fun z => z) (fun z => z)
  have WE := ((((WA.sm sB (n0 _) (n0 _)).sm sC (n0 _) (n0 _)).sm sD (n0 _) (n0 _)).sm sE (by omega) (by omega))
  have a0' := sE.get _ _ (sD.get _ _ (sC.get _ _ (sB.get _ _ a0 (n0 _)) (n0 _)) (n0 _)) (by omega)
  have a3' := sE.get _ _ (sD.get _ _ (sC.get _ _ (sB.get _ _ a3 (n0 _)) (n0 _)) (n0 _)) (by omega)
  have b0' := sE.get _ _ (sD.get _ _ (sC.get _ _ b0 (n0 _)) (n0 _)) (by omega)
  have b1' := sE.get _ _ (sD.get _ _ (sC.get _ _ b1 (n0 _)) (n0 _)) (by omega)
  have c0' := sE.get _ _ (sD.get _ _ c0 (n0 _)) (by omega)
  have d0' : (gE g)[g.length + 7]? = some (.lst [jD s0 (g.length + 6)]) := by unfold gE; rw [lC, lB]; exact get_set_eq d0
  refine ⟨WE, ⟨⟨b0', b1'⟩, ⟨a0', a3'⟩, by omega⟩, Good.nil, rfl, d0', fun k hk => ?_, by omega, by omega, by omega, by omega, by omega⟩
  have hk : k = 0 := by simpa using hk
  subst hk
  exact ⟨g.length + 6, rfl, c0', by omega, by omega, by omega⟩
theorem par_ok {sc w tn : D} {a4 a5 a6 a7 a8 a9 a10 a11 a12 a13 a14 a15 : Option D} {ds : List D} (h : DO g.length (g.length + 1) (g.length + 2) (g.length + 3) [] ds (gA g)) :
    par3S 4 5 6 (consE (apE (makF "Journal" F_Journalu_initu) (consE (varE 3) (nilE))) (consE (tupE (consE (cE (.int 0)) (consE (cE (.str "")) (consE (tupE (consE (cE (.int 0)) (consE (cE (.int 0)) (consE (tupE (nilE)) (nilE))))) (consE (lstE (nilE)) (nilE)))))) (consE (lstE (nilE)) (nilE))))
      [some sc, some w, some tn, some (.ref g.length), a4, a5, a6, a7, a8, a9, a10, a11, a12, a13, a14, a15] (gA g)
      = .ok .nx ([some sc, some w, some tn, some (.ref g.length), some (.ref (gA g).length), some (jD s0 (gB g).length), some (.ref (gC g).length), a7, a8, a9, a10, a11, a12, a13, a14, a15], gD g) := by
  have k0 : makF "Journal" F_Journalu_initu [.ref g.length] (gA g) = .ok (.ref (gA g).length) (gB g) := mk_journal
  have a4 : (4 : Nat) ≤ sizeLine := by decide
  have a3 : (3 : Nat) ≤ sizeLine := by decide
  have z : gB g ++ [O.lst []] = gC g := rfl
  have z2 : gC g ++ [O.lst []] = gD g := rfl
  generalize gA g = a at k0
  simp [k0, a4, a3, z, z2, -e_makF, jD, bD, s0, Vt.s, tI]
theorem bla_run {sc w : D} {a2 a3 a4 a5 a6 a7 a8 a9 a10 a11 a12 a13 a14 a15 : Option D} {b5 b7 b8 b9 c8 c11 c12 c13 c14 c15 : Option D} {jr : Nat} {i : Int} {g2 g3 : G} {deeds : List D} {jd : D}
    (e1 : makF "Disk" F_Disku_initu [] g = .ok (.ref dk) g1)
    (e2 : par3S 4 5 6 (consE (apE (makF "Journal" F_Journalu_initu) (consE (varE 3) (nilE))) (consE (tupE (consE (cE (.int 0)) (consE (cE (.str "")) (consE (tupE (consE (cE (.int 0)) (consE (cE (.int 0)) (consE (tupE (nilE)) (nilE))))) (consE (lstE (nilE)) (nilE)))))) (consE (lstE (nilE)) (nilE))))
      [some sc, some w, some (.int i), some (.ref dk), a4, a5, a6, a7, a8, a9, a10, a11, a12, a13, a14, a15] g1 = .ok .nx ([some sc, some w, some (.int i), some (.ref dk), some (.ref jr), some jd, some (.ref ip), a7, a8, a9, a10, a11, a12, a13, a14, a15], g2))
    (e3 : g2[ip]? = some (.lst []))
    (e4 : forS (rngE1 (consE (cE (.int 14)) (nilE))) (nameT 7) blb [some sc, some w, some (.int i), some (.ref dk), some (.ref jr), some jd, some (.ref ip), a7, a8, a9, a10, a11, a12, a13, a14, a15] (g2.set ip (.lst [jd])) = .ok .nx ([some sc, some w, some (.int i), some (.ref dk), some (.ref jr), b5, some (.ref ip), b7, b8, b9, a10, a11, a12, a13, a14, a15], g3))
    (e5 : DO dk ln rt dn lg deeds g3) (e6 : deeds.length = 14)
    (e7 : forS (rngE1 (consE (cE (.int 6)) (nilE))) (nameT 11) blc [some sc, some w, some (.int i), some (.ref dk), some (.ref jr), b5, some (.ref ip), b7, b8, b9, some (.tup deeds), a11, a12, a13, a14, a15] g3 = .ok .nx ([some sc, some w, some (.int i), some (.ref dk), some (.ref jr), b5, some (.ref ip), b7, c8, b9, some (.tup deeds), c11, c12, c13, c14, c15], g')) :
    stepS (nameT 2) bla (.int i) [some sc, some w, a2, a3, a4, a5, a6, a7, a8, a9, a10, a11, a12, a13, a14, a15] g = .ok .nx ([some sc, some w, some (.int i), some (.ref dk), some (.ref jr), b5, some (.ref ip), b7, c8, b9, some (.tup deeds), c11, c12, c13, c14, c15], g') := by
  have d := d_deeds e5
  have z : (0 : Nat) < sizeLine := by decide
  unfold bla
  change stepS (nameT 2) (seqS _ (seqS (par3S 4 5 6 _) (seqS _ (seqS (forS _ _ blb) (seqS _ (seqS _ (forS _ _ blc))))))) _ _ _ = _
  generalize par3S 4 5 6 _ = w2 at e2 ⊢
  generalize forS _ _ blb = w4 at e4 ⊢
  generalize forS _ _ blc = w7 at e7 ⊢
  simp [e1, e2, e3, e4, e5.ins, e6, e7, d, z, tyD, kb1, eqB_int, -e_makF]
end
end K70

/-! ## Kp15 -/
set_option maxHeartbeats 4000000
namespace K70
open PySem PySem.Spec PyProof.Rows L2 DL
section
variable {g g' g1 : G} {iw il j dk e ln rt dn ip : Nat} {ds ps : List D} {Ds : List Dd} {xs : List Int}
theorem forS_lit {n : Nat} {tg : TM} {b : SM} {ev : Ev} (h : n < 1000000) : forS (rngE1 (consE (cE (.int n)) (nilE))) tg b ev g = forL (.rng 0 n) (stepS tg b) (n + 1) 0 ev g := by
  rw [forS_rng (j := (n : Int)) (g1 := g) (by simp) (s62 h), Int.toNat_natCast]
theorem phase1 (h : P1 iw il dk ln rt dn j ip e xs [] ps g) {sc tn : D} {jd : D} (hj : ps[0]? = some jd) {a7 a8 a9 a10 a11 a12 a13 a14 a15 : Option D} :
    ∃ Ds ps' e' b5 b7 b8 b9 g', forS (rngE1 (consE (cE (.int 14)) (nilE))) (nameT 7) blb [some sc, some (.ref iw), some tn, some (.ref dk), some (.ref j), some jd, some (.ref ip), a7, a8, a9, a10, a11, a12, a13, a14, a15] g
      = .ok .nx ([some sc, some (.ref iw), some tn, some (.ref dk), some (.ref j), b5, some (.ref ip), b7, b8, b9, a10, a11, a12, a13, a14, a15], g') ∧ Ds.length = 14 ∧ P1 iw il dk ln rt dn j ip e' xs Ds ps' g' ∧ ∃ jd', b5 = some jd' := by
  obtain ⟨ev', g', r, Ds, ps', e', b5, b7, b8, b9, hl, hp, hj', he⟩ := for_rng (lo := 0) (n := 14) (tg := nameT 7) (b := blb) (ev := [some sc, some (.ref iw), some tn, some (.ref dk), some (.ref j), some jd, some (.ref ip), a7, a8, a9, a10, a11, a12, a13, a14, a15]) (g := g)
    (fun i ev g' => ∃ Ds ps' e' b5 b7 b8 b9, Ds.length = i ∧ P1 iw il dk ln rt dn j ip e' xs Ds ps' g' ∧ ps'[Ds.length]? = b5 ∧ ev = [some sc, some (.ref iw), some tn, some (.ref dk), some (.ref j), b5, some (.ref ip), b7, b8, b9, a10, a11, a12, a13, a14, a15])
    ⟨[], ps, e, some jd, a7, a8, a9, rfl, h, hj, rfl⟩ (by
      rintro i ev g' hi ⟨Ds, ps', e', b5, b7, b8, b9, hl, hp, hj', rfl⟩
      obtain ⟨d, e2, a8', a9', jd', g2, r, hp'⟩ := p1_step hp (by omega) (sc := sc) (tn := tn) (i := 0 + i) (a7 := b7) (a8 := b8) (a9 := b9) (a10 := a10) (a11 := a11) (a12 := a12) (a13 := a13) (a14 := a14) (a15 := a15) hj'
      refine ⟨_, g2, r, Ds ++ [d], ps' ++ [jd'], e2, some jd', some (.int (0 + i)), a8', a9', by simp [hl], hp', ?_, rfl⟩
      have pl := hp.pl
      rw [List.getElem?_append_right (by simp [pl])]; simp [pl])
  subst he
  exact ⟨Ds, ps', e', b5, b7, b8, b9, g', (forS_lit (n := 14) (by omega)).trans r, hl, hp, ⟨_, hj'.symm.trans (List.getElem?_eq_getElem (by have := hp.pl; omega))⟩⟩
theorem phase2 (h : P1 iw il dk ln rt dn j ip e xs Ds ps g) (hl : Ds.length = 14) {sc tn dkD jr : D} {b5 : Option D} {jd : D} (h5 : b5 = some jd) {a7 a8 a9 a11 a12 a13 a14 a15 : Option D} :
    ∃ c8 c11 c12 c13 c14 c15 g', forS (rngE1 (consE (cE (.int 6)) (nilE))) (nameT 11) blc [some sc, some (.ref iw), some tn, some dkD, some jr, b5, some (.ref ip), a7, a8, a9, some (.tup (dns Ds)), a11, a12, a13, a14, a15] g
      = .ok .nx ([some sc, some (.ref iw), some tn, some dkD, some jr, b5, some (.ref ip), a7, c8, a9, some (.tup (dns Ds)), c11, c12, c13, c14, c15], g') ∧ WW iw il xs g' := by
  subst h5
  obtain ⟨ev', g', r, hW, _, c8, c11, c12, c13, c14, c15, he⟩ := for_rng (lo := 0) (n := 6) (tg := nameT 11) (b := blc) (ev := [some sc, some (.ref iw), some tn, some dkD, some jr, some jd, some (.ref ip), a7, a8, a9, some (.tup (dns Ds)), a11, a12, a13, a14, a15]) (g := g)
    (fun i ev g' => WW iw il xs g' ∧ Sm (fun n => n = iw) g g' ∧ ∃ c8 c11 c12 c13 c14 c15, ev = [some sc, some (.ref iw), some tn, some dkD, some jr, some jd, some (.ref ip), a7, c8, a9, some (.tup (dns Ds)), c11, c12, c13, c14, c15])
    ⟨h.W, Sm.refl, a8, a11, a12, a13, a14, a15, rfl⟩ (by
      rintro i ev g' hi ⟨hW, hm, c8, c11, c12, c13, c14, c15, rfl⟩
      obtain ⟨b8, b12, b13, b14, b15, g2, r, w, m⟩ := p2_step h hl hW hm (sc := sc) (tn := tn) (dkD := dkD) (jr := jr) (jd := jd) (i := 0 + i) (a7 := a7) (a8 := c8) (a9 := a9) (a11 := c11) (a12 := c12) (a13 := c13) (a14 := c14) (a15 := c15)
      exact ⟨_, g2, r, w, m, b8, some (.int (0 + i)), b12, b13, b14, b15, rfl⟩)
  subst he
  exact ⟨c8, c11, c12, c13, c14, c15, g', (forS_lit (n := 6) (by omega)).trans r, hW⟩
theorem turn_ok (W : WW iw il xs g) {sc : D} {i : Int} {a2 a3 a4 a5 a6 a7 a8 a9 a10 a11 a12 a13 a14 a15 : Option D} :
    ∃ b2 b3 b4 b5 b6 b7 b8 b9 b10 b11 b12 b13 b14 b15 g', stepS (nameT 2) bla (.int i) [some sc, some (.ref iw), a2, a3, a4, a5, a6, a7, a8, a9, a10, a11, a12, a13, a14, a15] g
      = .ok .nx ([some sc, some (.ref iw), b2, b3, b4, b5, b6, b7, b8, b9, b10, b11, b12, b13, b14, b15], g') ∧ WW iw il xs g' := by
  have hp := p1_new W
  have hA : DO g.length (g.length + 1) (g.length + 2) (g.length + 3) [] [] (gA g) := ⟨get_new, by unfold gA; rw [List.getElem?_append_right (by omega)]; simp⟩
  obtain ⟨Ds, ps', e', b5, b7, b8, b9, g3, r1, hl, hp3, jd, h5⟩ := phase1 hp (sc := sc) (tn := .int i) (jd := jD s0 (g.length + 6)) rfl (a7 := a7) (a8 := a8) (a9 := a9) (a10 := a10) (a11 := a11) (a12 := a12) (a13 := a13) (a14 := a14) (a15 := a15)
  have hd : (gD g)[g.length + 7]? = some (.lst []) := by have := @get_new (gC g) (.lst []) []; rw [lC] at this; exact this
  have pz := par_ok hA (sc := sc) (w := .ref iw) (tn := .int i) (a4 := a4) (a5 := a5) (a6 := a6) (a7 := a7) (a8 := a8) (a9 := a9) (a10 := a10) (a11 := a11) (a12 := a12) (a13 := a13) (a14 := a14) (a15 := a15)
  rw [lA, lB, lC] at pz
  have hE : gE g = (gD g).set (g.length + 7) (.lst [jD s0 (g.length + 6)]) := by unfold gE; rw [lC, lB]
  rw [hE] at r1
  obtain ⟨c8, c11, c12, c13, c14, c15, g', r2, W'⟩ := phase2 hp3 hl (sc := sc) (tn := .int i) (dkD := .ref g.length) (jr := .ref (g.length + 4)) h5 (a7 := b7) (a8 := b8) (a9 := b9) (a11 := a11) (a12 := a12) (a13 := a13) (a14 := a14) (a15 := a15)
  exact ⟨_, _, _, _, _, _, _, _, _, _, _, _, _, _, g', bla_run (a2 := a2) (a3 := a3) mk_disk pz hd r1 hp3.jw.do_ (by simp [dns, lns, hl]) r2, W'⟩
end
end K70

/-! ## Kp16 -/
set_option maxHeartbeats 4000000
namespace K70
open PySem PySem.Spec PyProof.Rows L2 DL
theorem em_law : m_law = seqS (asgS (dispE (pairsM [(cE (.str "draws"), apE F__law_draws (consE (varE 0) (consE (cE (.int 500)) (nilE)))), (cE (.str "at"), cE (.int 0))])) (nameT 1)) (seqS (forS (rngE1 (consE (cE (.int 3)) (nilE))) (nameT 2) bla) (retS (cE (.bl true)))) := rfl
theorem w_hm {il : Nat} : mergeD [] [(.inr "draws", D.ref il), (.inr "at", D.int 0)] = wD il 0 := by rfl
theorem w_e {ns : List Int} (hn : ns.length ≤ 63) : ∃ (xs : List Int) (n : Nat) (g' : G), F__law_draws [.fz (ns.map .int), .int 500] [.dic []] = .ok (.ref n) g' ∧ g'[n]? = some (.lst (xs.map .int)) ∧ Sm none_ [.dic []] g' ∧ 1 ≤ n := by
  have h := draws_ok (g := [.dic []]) (ns := ns) (M := 500) (by omega) hn
  rw [show ((500 : Nat) : Int) = 500 from rfl] at h
  exact h

theorem w_pz {F : HF} {sc : D} {il : Nat} {g1 : G} {r : Ev} (e : F [sc, .int 500] [.dic []] = .ok (.ref il) g1) : pairsM [(cE (.str "draws"), apE F (consE (varE 0) (consE (cE (.int 500)) (nilE)))), (cE (.str "at"), cE (.int 0))] (some sc :: r) [.dic []] = .ok [(.inr "draws", D.ref il), (.inr "at", D.int 0)] g1 := by
    simp [pairsM, e, keyD]
theorem w_disp {p : EM (List (Key × D))} {ev : Ev} {kvs : List (Key × D)} {g1 : G} (pz : p ev [.dic []] = .ok kvs g1) (d0 : g1[0]? = some (.dic [])) (hl : kvs.length ≤ 15) : dispE p ev [] = .ok (.ref 0) (g1.set 0 (.dic (mergeD [] kvs))) := by
  simp [pz, d0, hl]
theorem law_b {w1 : EM D} {w2 : SM} {sc : D} {b2 b3 b4 b5 b6 b7 b8 b9 b10 b11 b12 b13 b14 b15 : Option D} {g1 g' : G} (e1 : w1 [some sc, none, none, none, none, none, none, none, none, none, none, none, none, none, none, none] [] = .ok (.ref 0) g1)
  (r : w2 [some sc, some (.ref 0), none, none, none, none, none, none, none, none, none, none, none, none, none, none] g1 = .ok .nx ([some sc, some (.ref 0), b2, b3, b4, b5, b6, b7, b8, b9, b10, b11, b12, b13, b14, b15], g')) :
  seqS (asgS w1 (nameT 1)) (seqS w2 (retS (cE (.bl true)))) [some sc, none, none, none, none, none, none, none, none, none, none, none, none, none, none, none] [] = .ok (.ret (.bl true)) ([some sc, some (.ref 0), b2, b3, b4, b5, b6, b7, b8, b9, b10, b11, b12, b13, b14, b15], g') := by
    simp [e1, r]


theorem w_start {ns : List Int} (hn : ns.length ≤ 63) {r : Ev} : ∃ il xs g1, dispE (pairsM [(cE (.str "draws"), apE F__law_draws (consE (varE 0) (consE (cE (.int 500)) (nilE)))), (cE (.str "at"), cE (.int 0))]) (some (.fz (ns.map .int)) :: r) [] = .ok (.ref 0) g1 ∧ WW 0 il xs g1 := by
  obtain ⟨xs, il, g1, e, q, m, hl⟩ := w_e hn
  have d0 := m.get 0 (.dic []) rfl (fun z => z)
  have z := w_disp (w_pz (r := r) e) d0 (by simp)
  rw [w_hm] at z
  exact ⟨il, xs, _, z, ⟨0, get_set_eq d0⟩, get_set_ne q (by omega)⟩
theorem law_run {ns : List Int} {il : Nat} {xs : List Int} {g1 : G} (W : WW 0 il xs g1) : ∃ b2 b3 b4 b5 b6 b7 b8 b9 b10 b11 b12 b13 b14 b15 g', forS (rngE1 (consE (cE (.int 3)) (nilE))) (nameT 2) bla [some (.fz (ns.map .int)), some (.ref 0), none, none, none, none, none, none, none, none, none, none, none, none, none, none] g1 = .ok .nx ([some (.fz (ns.map .int)), some (.ref 0), b2, b3, b4, b5, b6, b7, b8, b9, b10, b11, b12, b13, b14, b15], g') := by
  obtain ⟨ev', g', r, hW, b2, b3, b4, b5, b6, b7, b8, b9, b10, b11, b12, b13, b14, b15, he⟩ := for_rng (lo := 0) (n := 3) (tg := nameT 2) (b := bla) (ev := [some (.fz (ns.map .int)), some (.ref 0), none, none, none, none, none, none, none, none, none, none, none, none, none, none]) (g := g1)
    (fun i ev g' => WW 0 il xs g' ∧ ∃ b2 b3 b4 b5 b6 b7 b8 b9 b10 b11 b12 b13 b14 b15, ev = [some (.fz (ns.map .int)), some (.ref 0), b2, b3, b4, b5, b6, b7, b8, b9, b10, b11, b12, b13, b14, b15])
    ⟨W, _, _, _, _, _, _, _, _, _, _, _, _, _, _, rfl⟩ (by
      rintro i ev g' hi ⟨hW, b2, b3, b4, b5, b6, b7, b8, b9, b10, b11, b12, b13, b14, b15, rfl⟩
      obtain ⟨c2, c3, c4, c5, c6, c7, c8, c9, c10, c11, c12, c13, c14, c15, g2, r, W2⟩ := turn_ok hW (sc := .fz (ns.map .int)) (i := 0 + i) (a2 := b2) (a3 := b3) (a4 := b4) (a5 := b5) (a6 := b6) (a7 := b7) (a8 := b8) (a9 := b9) (a10 := b10) (a11 := b11) (a12 := b12) (a13 := b13) (a14 := b14) (a15 := b15)
      exact ⟨_, g2, r, W2, _, _, _, _, _, _, _, _, _, _, _, _, _, _, rfl⟩)
  subst he
  have f := forS_lit (n := 3) (tg := nameT 2) (b := bla) (ev := [some (.fz (ns.map .int)), some (.ref 0), none, none, none, none, none, none, none, none, none, none, none, none, none, none]) (g := g1) (by omega)
  rw [show ((3 : Nat) : Int) = 3 from rfl] at f
  exact ⟨_, _, _, _, _, _, _, _, _, _, _, _, _, _, g', f.trans r⟩
theorem plain (ns : List Int) (hn : ns.length ≤ 63) : ∃ g', F_law [.fz (ns.map D.int)] [] = .ok (.bl true) g' := by
  obtain ⟨il, xs, g1, e1, W⟩ := w_start hn (r := [none, none, none, none, none, none, none, none, none, none, none, none, none, none, none])
  obtain ⟨b2, b3, b4, b5, b6, b7, b8, b9, b10, b11, b12, b13, b14, b15, g', r⟩ := law_run (ns := ns) W
  have hu := law_b e1 r
  rw [← em_law] at hu
  have h8 : [D.fz (ns.map .int)].map some ++ List.replicate (16 - [D.fz (ns.map .int)].length) none = [some (.fz (ns.map .int)), none, none, none, none, none, none, none, none, none, none, none, none, none, none, none] := by simp [List.replicate]
  have h9 := defF_ret (n := 16) (np := 1) (m := m_law) (ds := [.fz (ns.map .int)]) rfl h8 hu
  refine ⟨g', ?_⟩
  rw [F_law]
  exact h9
end K70

/-! ## K70Z -/
set_option maxHeartbeats 0
namespace DL
open PySem PySem.Spec PyProof.Rows L2
theorem SqF.of_only {K : Fg} {H : Hp} {a : Addr} {xs : List V} (ho : Only H) (h : SqL K H a xs) : SqF K H a xs := by
  rcases h with (h | ⟨o, h⟩) | h
  · rcases ho a with q | ⟨o, ys, q⟩ <;> rw [h] at q <;> cases q
  · exact .inl ⟨o, h⟩
  · exact .inr h
theorem ints_dv {K : Fg} {H : Hp} {α : List Addr} : ∀ ns : List Int, DVs K H α (ns.map D.int) (ns.map V.int)
  | [] => DVs.nil
  | n :: ns => ⟨_, _, rfl, rfl, ints_dv ns⟩
theorem sp_law {K : Fg} {F : HF} {n : Nat} (plain : ∀ ns : List Int, ns.length ≤ n → ∃ g', F [.fz (ns.map D.int)] [] = .ok (.bl true) g') (H : Hp) (a : Addr) (ns : List Int) (hl : ns.length ≤ n) (ho : Only H) (hs : SqL K H a (ns.map V.int)) :
    spF K 1 F [.ref a] H (fun v _ => v = .bl true) fun _ _ _ => False := by
  obtain ⟨g', e⟩ := plain ns hl
  refine ⟨rfl, [], [], [.fz (ns.map D.int)], ⟨rfl, .nil, fun n o e => by simp at e⟩, ⟨_, _, rfl, ⟨a, _, rfl, SqF.of_only ho hs, ints_dv ns⟩, rfl⟩, ?_⟩
  rw [e]
  exact fun α' H' _ _ v hv => hv
/-- the end: each run at a world has its own made exceptions -/
theorem walk_w {l : PySem.W.OpenLaw} {n k : Nat} {q : Program} {loose : List Str} {XP : (Str → Option Value) → Heap → Prop} {YP : World → Heap → Prop} {d : DefRec} {x : Str} {CX : World → CXT}
    (h1 : l.most = some n) (h2 : n ≤ sizeLine) (h3 : d.params.defaults = []) (h4 : Room k callerA)
    (T : ∀ (w : World) (mg : Str → Option Value) (fa : Addr) (h : Heap), YP w h → h.Ns mainGlobals mg → mg d.name = some (.ref fa) → ∃ (K : Fg) (fd : FuncData) (sp : Sp), K.In h ∧
      (∀ (s : Shared) (u : Value), BindsTo s fd ⟨[u], []⟩ [(x, u)]) ∧
      (∀ (H : Hp) (a : Addr) (ns : List Int), ns.length ≤ n → Only H → SqL K H a (ns.map V.int) → sp [.ref a] H (fun v _ => v = .bl true) fun _ _ _ => False) ∧ ∀ base : Heap, K.In base → base.Ns mainGlobals mg → FnOk l.prog w K mg base (CX w) k fa fd [x] sp)
    (h5 : ∀ (w : World) (H : Hp) (s : Shared) (e : Value) (s' : Shared), CX w [] H s (fun _ _ _ => False) e s' → False) : PySem.W.WalkO q loose XP YP l.row.toRowW d [] (fun f vs => PySem.call f vs) := by
  refine Att.attach_call h1 h3 fun w s₀ s₁ mg mb fa o pm cd doc a vs ns G Y _ _ _ hm ho hi hl hg => ?_
  obtain ⟨K, fd, sp, KX, hb, hsp, hF⟩ := T w mg fa _ Y G.T.g hm
  exact law_call KX G.T.g G.T.b G.T.builtins G.T.nolimit hg ho hi (Nat.le_trans hl h2) h4 hF hb (fun H => hsp H a ns hl) fun H => h5 w H s₁
end DL
namespace K70
open PySem PySem.Spec PyProof.Rows L2 DL
abbrev Rw : PySem.W.OpenRow := PySem.W.OpenLaw.row PySem.Challenge.rw_storesagree_k70_journals
abbrev hk : PySem.W.Hook := He.hookD 4 fas fns
def ob (s : PySem.W.SharedT) : He.AlD := He.obsDG 4 fas fns (HandSHeadRun.getT s)
theorem ob_eq (s : PySem.W.SharedT) : ob s = hk.obs s.abs := He.obsDG_eq (HandSHeadRun.getT_eq s)
def others : List Str := ["StoreError", "BadRow", "code_number", "read_number", "read_many", "code_line", "read_line", "check_of", "frame", "frame_at", "frames_in", "SIGNS", "code_ascii", "read_ascii", "Journal", "open_journal", "Disk", "fallen", "_law_draws", "_law_next", "_law_pick", "_law_says", "_law_same", "_law_do", "_law_tell", "_law_is", "_law_deed"]
theorem head_run (w : World) : HandSHeadRun.RunEq Rw (PySem.W.view Rw.prog [34]) hk ob 3000 others w := by
  intro os
  kernel_rfl
end K70

/-! ## K70Y -/
set_option maxHeartbeats 0
open PySem PySem.W PySem.Calls PyProof.Rows
theorem PySem.Challenge.cw_storesagree_k70_journals_holds : PySem.Challenge.rw_storesagree_k70_journals.Holds := by
  w_on; o_law
  refine HandSHeadRun.head_any (r := K70.Rw) (q := view K70.Rw.prog [34]) (H := K70.hk) (ob := K70.ob) (M := 3000) (loose := K70.others) (d := HandSHeadRun.topDef K70.Rw.prog 34) (kwd := []) K70.ob_eq
    (by kernel_rfl) (fun s => by kernel_rfl) K70.head_run (by kernel_rfl) (by kernel_rfl) (by kernel_rfl) (by rfl) (by first | assumption | decide +kernel) (by decide +kernel) ⟨rfl, rfl, rfl, rfl, rfl, by decide +kernel⟩ ?hw ?hc
  case hw => w_witness2
  case hc =>
    refine DL.walk_w (l := PySem.Challenge.rw_storesagree_k70_journals) (n := 63) (k := 11) (x := "script") (CX := fun w => L2.CX (PySem.Challenge.rw_storesagree_k70_journals).prog w) rfl (by decide) (by kernel_rfl) ⟨rfl, by decide, by decide⟩ ?F (fun _ _ _ _ _ z => ?_)
    · intro w mg fa h Y G hmg0
      obtain ⟨K, KX, c⟩ := Y
      have hmg : mg ("law" : PySem.Str) = some (.ref fa) := by
        have e : (HandSHeadRun.topDef K70.Rw.prog 34).name = ("law" : PySem.Str) := by kernel_rfl
        rw [← e]
        exact hmg0
      have T := K70.tx_of KX G c
      have e := hmg.symm.trans T.g_law
      cases e
      obtain ⟨fd, F⟩ := T.d_law
      have b := L2.FunD.bindsA (ps := ["script"]) F fun _ _ _ _ _ _ us hl => match us, hl with | [_], _ => rfl
      refine ⟨K, fd, _, KX, fun s v => b s [v] rfl, fun H a ns hl ho hs => DL.sp_law K70.plain H a ns hl ho hs, fun base kx gx => K70.fn_law (K70.tx_of kx gx c) F⟩
    · obtain ⟨_, _, _, _, _, _, _, _, _, _, _, _, z⟩ := z
      exact z

