import PyProof.Rows.All
import Wide.All
import OpenK.AllK
import Wide.FinOn
import HandS.ForMost
import HandS.ForExc
import HandS.Wide
import HandS.Deep
import HandS.IsInst
import HandS.Style
import HandS.TryOnly
import HandS.ExcField
import HandS.ExcIs
import HandS.ExcInit
import HandS.Defaults
import HandS.CallSlots
import KE.SortData
import PySem.Challenge.RW_onceover_k15_pass_chain
set_option Elab.async false
set_option linter.all false
set_option autoImplicit false
set_option maxRecDepth 100000
set_option maxHeartbeats 4000000
namespace Pu
open PySem L2
open TL (tl tl_append ext_tl mk_tl len_tl)
inductive D where
  | non | bl (b : Bool) | int (i : Int) | str (l : List Nat) | tup (ds : List D) | lst (ds : List D) | frl (ds : List D) | ty (n : String)
  | dic (kvs : List (D × D)) | obj (c : Nat) (fs : List (Str × D)) | exn (c : Nat) (fs : List D)
abbrev mkS (l : List Nat) : Str := ⟨l.toArray⟩
theorem mkS_inj {l m : List Nat} (h : mkS l = mkS m) : l = m := by
  have := congrArg (fun s : Str => s.cps.toList) h
  simpa using this
theorem mkS_cps (l : List Nat) : (mkS l).cps.toList = l := by simp
theorem mkS_len (l : List Nat) : (mkS l).length = l.length := by simp [Str.length]
theorem mkS_app (l m : List Nat) : mkS l ++ mkS m = mkS (l ++ m) := ext_tl (by rw [tl_append])
theorem mkS_tl (x : Str) : mkS (tl x) = x := mk_tl x
def SqF (K : PySem.W.Frag) (H : Hp) (a : Addr) (xs : List V) : Prop :=
  (∃ o, H a = some (.frz o (.lst xs))) ∨
    ∃ (o : Obj) (its : Array Value) (n : Nat), K.lookup a = some o ∧ o.cls = .type "list" ∧ o.dict = none ∧ o.data = .seq its n ∧ its.size ≤ sizeLine ∧ Vals xs its.toList
theorem SqF.sql {K : PySem.W.Frag} {H : Hp} {a : Addr} {xs : List V} (h : SqF K H a xs) : SqL K H a xs := by
  rcases h with ⟨o, h⟩ | h
  · exact .inl (.inr ⟨o, h⟩)
  · exact .inr h
mutual
inductive Rep (K : PySem.W.Frag) (H : Hp) (N : Addr → Prop) : D → V → Prop
  | non : Rep K H N .non .non
  | bl (b : Bool) : Rep K H N (.bl b) (.bl b)
  | int (i : Int) : Rep K H N (.int i) (.int i)
  | str (l : List Nat) : Rep K H N (.str l) (.str (mkS l))
  | ty (n : String) : Rep K H N (.ty n) (.ty n)
  | tup {a : Addr} {vs : List V} {ds : List D} : SqT K H a vs → Reps K H N ds vs → Rep K H N (.tup ds) (.ref a)
  | lst {a : Addr} {vs : List V} {ds : List D} : ¬ N a → H a = some (.lst vs) → Reps K H N ds vs → Rep K H N (.lst ds) (.ref a)
  | frl {a : Addr} {vs : List V} {ds : List D} : SqF K H a vs → Reps K H N ds vs → Rep K H N (.frl ds) (.ref a)
inductive Reps (K : PySem.W.Frag) (H : Hp) (N : Addr → Prop) : List D → List V → Prop
  | nil : Reps K H N [] []
  | cons {d : D} {v : V} {ds : List D} {vs : List V} : Rep K H N d v → Reps K H N ds vs → Reps K H N (d :: ds) (v :: vs)
end
section
variable {K : PySem.W.Frag} {H H' : Hp} {N N' : Addr → Prop}
theorem Reps.length : ∀ {ds : List D} {vs : List V}, Reps K H N ds vs → ds.length = vs.length
  | _, _, .nil => rfl
  | _, _, .cons _ t => by simp [Reps.length t]
theorem Reps.get : ∀ {ds : List D} {vs : List V} {i : Nat} {d : D}, Reps K H N ds vs → ds[i]? = some d → ∃ v, vs[i]? = some v ∧ Rep K H N d v
  | _, _, _, _, .nil, e => by simp at e
  | _, _, 0, _, .cons r _, e => by simp at e; subst e; exact ⟨_, rfl, r⟩
  | _, _, i + 1, d, .cons _ t, e => by
    obtain ⟨v, h1, h2⟩ := Reps.get (i := i) (d := d) t (by simpa using e)
    exact ⟨v, by simpa using h1, h2⟩
theorem Reps.getv : ∀ {ds : List D} {vs : List V} {i : Nat} {v : V}, Reps K H N ds vs → vs[i]? = some v → ∃ d, ds[i]? = some d ∧ Rep K H N d v
  | _, _, _, _, .nil, e => by simp at e
  | _, _, 0, _, .cons r _, e => by simp at e; subst e; exact ⟨_, rfl, r⟩
  | _, _, i + 1, v, .cons _ t, e => by
    obtain ⟨d, h1, h2⟩ := Reps.getv (i := i) (v := v) t (by simpa using e)
    exact ⟨d, by simpa using h1, h2⟩
theorem Reps.append : ∀ {ds es : List D} {vs ws : List V}, Reps K H N ds vs → Reps K H N es ws → Reps K H N (ds ++ es) (vs ++ ws)
  | _, _, _, _, .nil, s => s
  | _, _, _, _, .cons r t, s => .cons r (Reps.append t s)
theorem Reps.take : ∀ {ds : List D} {vs : List V} (n : Nat), Reps K H N ds vs → Reps K H N (ds.take n) (vs.take n)
  | _, _, 0, _ => by simp; exact .nil
  | _, _, _ + 1, .nil => .nil
  | _, _, n + 1, .cons r t => .cons r (Reps.take n t)
theorem Reps.drop : ∀ {ds : List D} {vs : List V} (n : Nat), Reps K H N ds vs → Reps K H N (ds.drop n) (vs.drop n)
  | _, _, 0, r => r
  | _, _, _ + 1, .nil => .nil
  | _, _, n + 1, .cons _ t => Reps.drop n t
theorem Reps.set {d : D} {v : V} (r : Rep K H N d v) : ∀ {ds : List D} {vs : List V} (i : Nat), Reps K H N ds vs → Reps K H N (ds.set i d) (vs.set i v)
  | _, _, _, .nil => .nil
  | _, _, 0, .cons _ t => .cons r t
  | _, _, i + 1, .cons q t => .cons q (Reps.set r i t)
theorem Reps.one {d : D} {v : V} (r : Rep K H N d v) : Reps K H N [d] [v] := .cons r .nil
theorem Reps.reverse : ∀ {ds : List D} {vs : List V}, Reps K H N ds vs → Reps K H N ds.reverse vs.reverse
  | _, _, .nil => .nil
  | _, _, .cons r t => by
    rw [List.reverse_cons, List.reverse_cons]
    exact (Reps.reverse t).append (.one r)
theorem Reps.dropLast {ds : List D} {vs : List V} (h : Reps K H N ds vs) : Reps K H N ds.dropLast vs.dropLast := by
  rw [List.dropLast_eq_take, List.dropLast_eq_take, h.length]
  exact h.take _
theorem Reps.rep {ds : List D} {vs : List V} (h : Reps K H N ds vs) : ∀ k : Nat, Reps K H N (List.replicate k ds).flatten (List.replicate k vs).flatten
  | 0 => .nil
  | k + 1 => by
    rw [List.replicate_succ, List.replicate_succ, List.flatten_cons, List.flatten_cons]
    exact h.append (Reps.rep h k)
theorem Reps.nth {ds : List D} {vs : List V} (h : ds.length = vs.length) (k : ∀ (i : Nat) d v, ds[i]? = some d → vs[i]? = some v → Rep K H N d v) : Reps K H N ds vs := by
  induction ds generalizing vs with
  | nil =>
    cases vs with
    | nil => exact .nil
    | cons _ _ => simp at h
  | cons d ds ih =>
    cases vs with
    | nil => simp at h
    | cons v vs => exact .cons (k 0 d v rfl rfl) (ih (by simpa using h) fun i d' v' h1 h2 => k (i + 1) d' v' (by simpa using h1) (by simpa using h2))
theorem rep_carry (hl : ∀ a vs, ¬ N a → H a = some (.lst vs) → H' a = some (.lst vs) ∧ ¬ N' a) (ht : ∀ a vs, SqT K H a vs → SqT K H' a vs) (hf : ∀ a vs, SqF K H a vs → SqF K H' a vs) {d : D} {v : V} (r : Rep K H N d v) : Rep K H' N' d v := by
  refine Rep.rec (motive_1 := fun d v _ => Rep K H' N' d v) (motive_2 := fun ds vs _ => Reps K H' N' ds vs) ?_ ?_ ?_ ?_ ?_ ?_ ?_ ?_ ?_ ?_ r
  · exact .non
  · exact .bl
  · exact .int
  · exact .str
  · exact .ty
  · exact fun h _ ih => .tup (ht _ _ h) ih
  · exact fun hn h _ ih => .lst (hl _ _ hn h).2 (hl _ _ hn h).1 ih
  · exact fun h _ ih => .frl (hf _ _ h) ih
  · exact .nil
  · exact fun _ _ h t => .cons h t
theorem reps_carry (hl : ∀ a vs, ¬ N a → H a = some (.lst vs) → H' a = some (.lst vs) ∧ ¬ N' a) (ht : ∀ a vs, SqT K H a vs → SqT K H' a vs) (hf : ∀ a vs, SqF K H a vs → SqF K H' a vs) : ∀ {ds : List D} {vs : List V}, Reps K H N ds vs → Reps K H' N' ds vs
  | _, _, .nil => .nil
  | _, _, .cons r t => .cons (rep_carry hl ht hf r) (reps_carry hl ht hf t)
theorem rep_mono (h : ∀ a, N' a → N a) {d : D} {v : V} (r : Rep K H N d v) : Rep K H N' d v := rep_carry (fun a vs hn e => ⟨e, fun z => hn (h a z)⟩) (fun _ _ h => h) (fun _ _ h => h) r
theorem reps_mono (h : ∀ a, N' a → N a) {ds : List D} {vs : List V} (r : Reps K H N ds vs) : Reps K H N' ds vs := reps_carry (fun a vs hn e => ⟨e, fun z => hn (h a z)⟩) (fun _ _ h => h) (fun _ _ h => h) r
theorem rep_new {p : Addr} (hp : H p = none) {d : D} {v : V} (r : Rep K H N d v) : Rep K H (fun a => N a ∨ a = p) d v := rep_carry (fun a vs hn e => ⟨e, fun z => z.elim hn fun q => by rw [q, hp] at e; cases e⟩) (fun _ _ h => h) (fun _ _ h => h) r
theorem reps_new {p : Addr} (hp : H p = none) {ds : List D} {vs : List V} (r : Reps K H N ds vs) : Reps K H (fun a => N a ∨ a = p) ds vs := reps_carry (fun a vs hn e => ⟨e, fun z => z.elim hn fun q => by rw [q, hp] at e; cases e⟩) (fun _ _ h => h) (fun _ _ h => h) r
structure Fr (W : Addr → Prop) (H : Hp) (W' : Addr → Prop) (H' : Hp) : Prop where
  keep : ∀ b o, H b = some o → ¬ W b → H' b = some o
  own : ∀ b, W' b → W b ∨ H b = none
  trk : ∀ b, H b ≠ none → H' b ≠ none
theorem Fr.refl {W : Addr → Prop} : Fr W H W H := ⟨fun _ _ h _ => h, fun _ h => .inl h, fun _ h => h⟩
theorem Fr.trans {W W1 W2 : Addr → Prop} {H1 H2 : Hp} (a : Fr W H W1 H1) (b : Fr W1 H1 W2 H2) : Fr W H W2 H2 where
  keep := fun c o h n => b.keep c o (a.keep c o h n) fun z => (a.own c z).elim n fun q => by rw [q] at h; cases h
  own := fun c h => by
    rcases b.own c h with h | h
    · exact a.own c h
    · refine .inr ?_
      cases q : H c with
      | none => rfl
      | some o => exact absurd h (a.trk c (by rw [q]; simp))
  trk := fun c h => b.trk c (a.trk c h)
theorem Fr.upd {W : Addr → Prop} {p : Addr} {o : HO} (hp : H p = none) : Fr W H W (L2.upd H p o) where
  keep := fun b u h _ => by rw [upd_ne (ne_of_none h hp)]; exact h
  own := fun _ h => .inl h
  trk := fun b h => by
    by_cases e : b = p
    · rw [e, upd_same]; simp
    · rw [upd_ne e]; exact h
theorem Fr.put {W : Addr → Prop} {p : Addr} {o : HO} (hp : W p) : Fr W H W (L2.upd H p o) where
  keep := fun b u h n => by rw [upd_ne (fun e => n (by rw [e]; exact hp))]; exact h
  own := fun _ h => .inl h
  trk := fun b h => by
    by_cases e : b = p
    · rw [e, upd_same]; simp
    · rw [upd_ne e]; exact h
theorem Fr.less {W W' : Addr → Prop} (h : ∀ a, W' a → W a) : Fr W H W' H := ⟨fun _ _ e _ => e, fun b z => .inl (h b z), fun _ e => e⟩
def MutO : HO → Prop
  | .lst _ => True
  | .dK _ => True
  | .dT _ => True
  | .ins _ _ _ => True
  | .set _ _ => True
  | _ => False
def OwnOk (W : Addr → Prop) (H : Hp) : Prop := ∀ a, W a → ∃ o, H a = some o ∧ MutO o
section
variable {B W W' : Addr → Prop} (f : Fr W H W' H') (ok : OwnOk W H)
include f ok
theorem Fr.nomut {a : Addr} {o : HO} (h : H a = some o) (m : ¬ MutO o) : H' a = some o := f.keep a o h fun z => by
  obtain ⟨u, e, mu⟩ := ok a z
  rw [h] at e; cases e
  exact m mu
theorem Fr.sqt {a : Addr} {vs : List V} (h : SqT K H a vs) : SqT K H' a vs := by
  rcases h with (h | ⟨o, h⟩) | h
  · exact .inl (.inl (f.nomut ok h fun z => z))
  · exact .inl (.inr ⟨o, f.nomut ok h fun z => z⟩)
  · exact .inr h
theorem Fr.sqf {a : Addr} {vs : List V} (h : SqF K H a vs) : SqF K H' a vs := by
  rcases h with ⟨o, h⟩ | h
  · exact .inl ⟨o, f.nomut ok h fun z => z⟩
  · exact .inr h
theorem Fr.rep {d : D} {v : V} (r : Rep K H (fun a => B a ∨ W a) d v) : Rep K H' (fun a => B a ∨ W' a) d v :=
  rep_carry (fun a vs hn e => ⟨f.keep a _ e fun z => hn (.inr z), fun z => z.elim (fun q => hn (.inl q)) fun q => (f.own a q).elim (fun y => hn (.inr y)) fun y => by rw [y] at e; cases e⟩) (fun _ _ h => f.sqt ok h) (fun _ _ h => f.sqf ok h) r
theorem Fr.reps {ds : List D} {vs : List V} (r : Reps K H (fun a => B a ∨ W a) ds vs) : Reps K H' (fun a => B a ∨ W' a) ds vs :=
  reps_carry (fun a vs hn e => ⟨f.keep a _ e fun z => hn (.inr z), fun z => z.elim (fun q => hn (.inl q)) fun q => (f.own a q).elim (fun y => hn (.inr y)) fun y => by rw [y] at e; cases e⟩) (fun _ _ h => f.sqt ok h) (fun _ _ h => f.sqf ok h) r
end
end
inductive Md where
  | val | own | chg | bor
  deriving DecidableEq
abbrev PSt := List (Option (Md × D))
def isOwn : Md → Bool
  | .own => true
  | .chg => true
  | _ => false
def Top (K : PySem.W.Frag) (H : Hp) (N : Addr → Prop) (d : D) (a : Addr) : Prop :=
  match d with
  | .lst ds => ∃ vs, H a = some (.lst vs) ∧ Reps K H N ds vs
  | _ => False
def RepB (K : PySem.W.Frag) (H : Hp) (N W : Addr → Prop) (d : D) (v : V) : Prop := Rep K H N d v ∨ ∃ a : Addr, v = V.ref a ∧ ¬ W a ∧ Top K H N d a
def isPar : Md → D → Bool
  | .chg, _ => true
  | .bor, .lst _ => true
  | _, _ => false
def Own (σ : PSt) (ρ : St) (a : Addr) : Prop := ∃ (i : Nat) (md : Md) (d : D), σ[i]? = some (some (md, d)) ∧ isOwn md = true ∧ ρ[i]? = some (some (.ref a))
abbrev Av (B : Addr → Prop) (σ : PSt) (ρ : St) : Addr → Prop := fun a => B a ∨ Own σ ρ a
def SlotR (K : PySem.W.Frag) (H : Hp) (B W : Addr → Prop) (md : Md) (d : D) (v : V) : Prop :=
  match md with
  | .val => Rep K H (fun a => B a ∨ W a) d v
  | .bor => RepB K H (fun a => B a ∨ W a) W d v
  | _ => ∃ a : Addr, v = V.ref a ∧ Top K H (fun a => B a ∨ W a) d a
structure RelSt (K : PySem.W.Frag) (cs : Nat → Addr → Prop) (B : Addr → Prop) (H : Hp) (σ : PSt) (ρ : St) : Prop where
  len : σ.length = ρ.length
  slot : ∀ (i : Nat) (md : Md) (d : D), σ[i]? = some (some (md, d)) → ∃ v, ρ[i]? = some (some v) ∧ SlotR K H B (Own σ ρ) md d v
  dist : ∀ (i j : Nat) (md md' : Md) (d d' : D) (a : Addr), σ[i]? = some (some (md, d)) → σ[j]? = some (some (md', d')) → isOwn md = true → isOwn md' = true → ρ[i]? = some (some (.ref a)) → ρ[j]? = some (some (.ref a)) → i = j
  bdom : ∀ a, B a → H a ≠ none
  bown : ∀ a, B a → ¬ Own σ ρ a
  chg : ∀ (i : Nat) (md : Md) (d : D) (a : Addr), σ[i]? = some (some (md, d)) → isPar md d = true → ρ[i]? = some (some (.ref a)) → cs i a
  csd : ∀ (i : Nat) (a : Addr), cs i a → H a ≠ none
  ocs : ∀ (i : Nat) (d : D) (a : Addr), σ[i]? = some (some (.own, d)) → ρ[i]? = some (some (.ref a)) → ∀ j : Nat, ¬ cs j a
structure RelF (K : PySem.W.Frag) (cs : Nat → Addr → Prop) (B : Addr → Prop) (a : Addr) (H : Hp) (σ : PSt) (ρ : St) : Prop where
  rel : RelSt K cs (fun b => B b ∨ b = a) H σ ρ
  nb : ∀ i : Nat, ¬ cs i a
  out : ¬ B a
theorem Top.muto {K : PySem.W.Frag} {H : Hp} {N : Addr → Prop} {d : D} {a : Addr} (h : Top K H N d a) : ∃ o, H a = some o ∧ MutO o := by
  cases d with
  | lst ds => obtain ⟨vs, e, _⟩ := h; exact ⟨_, e, trivial⟩
  | _ => exact h.elim
theorem Top.carry {K : PySem.W.Frag} {H H' : Hp} {N N' : Addr → Prop} {d : D} {a : Addr} (h : Top K H N d a) (k : ∀ o, H a = some o → H' a = some o) (f : ∀ {ds : List D} {vs : List V}, Reps K H N ds vs → Reps K H' N' ds vs) : Top K H' N' d a := by
  cases d with
  | lst ds => obtain ⟨vs, e, r⟩ := h; exact ⟨vs, k _ e, f r⟩
  | _ => exact h.elim
theorem Top.rep {K : PySem.W.Frag} {H : Hp} {N : Addr → Prop} {d : D} {a : Addr} (h : Top K H N d a) (n : ¬ N a) : Rep K H N d (.ref a) := by
  cases d with
  | lst ds => obtain ⟨vs, e, r⟩ := h; exact .lst n e r
  | _ => exact h.elim
theorem own_put {σ : PSt} {ρ : St} {i : Nat} {md : Md} {d d0 : D} (h : σ[i]? = some (some (md, d0))) (a : Addr) : Own (σ.set i (some (md, d))) ρ a ↔ Own σ ρ a := by
  have hlt : i < σ.length := (List.getElem?_eq_some_iff.mp h).1
  constructor
  · rintro ⟨j, md', d', h1, h2, h3⟩
    by_cases e : i = j
    · subst e
      rw [List.getElem?_set_self hlt] at h1
      have h1 := Option.some.inj (Option.some.inj h1)
      cases h1
      exact ⟨i, md, d0, h, h2, h3⟩
    · rw [List.getElem?_set_ne e] at h1
      exact ⟨j, md', d', h1, h2, h3⟩
  · rintro ⟨j, md', d', h1, h2, h3⟩
    by_cases e : i = j
    · subst e
      rw [h] at h1
      have h1 := Option.some.inj (Option.some.inj h1)
      cases h1
      exact ⟨i, md, d, by rw [List.getElem?_set_self hlt], h2, h3⟩
    · exact ⟨j, md', d', by rw [List.getElem?_set_ne e]; exact h1, h2, h3⟩
section
variable {K : PySem.W.Frag} {cs : Nat → Addr → Prop} {B : Addr → Prop} {H H' : Hp} {σ σ' : PSt} {ρ ρ' : St}
theorem RelSt.ownOk (R : RelSt K cs B H σ ρ) : OwnOk (Own σ ρ) H := by
  rintro a ⟨i, md, d, h1, h2, h3⟩
  obtain ⟨v, h4, h5⟩ := R.slot i md d h1
  rw [h3] at h4; cases h4
  cases md with
  | val => cases h2
  | bor => cases h2
  | own => obtain ⟨a', e, t⟩ := h5; cases e; exact t.muto
  | chg => obtain ⟨a', e, t⟩ := h5; cases e; exact t.muto
theorem SlotR.carry {B' W W' : Addr → Prop} {md : Md} {d : D} {v : V} (h : SlotR K H B W md d v) (cr : ∀ {ds : List D} {vs : List V}, Reps K H (fun a => B a ∨ W a) ds vs → Reps K H' (fun a => B' a ∨ W' a) ds vs)
    (kp : ∀ a o, (isOwn md = true ∨ ¬ W a) → v = .ref a → H a = some o → H' a = some o) (nb : ∀ a o, H a = some o → ¬ W a → ¬ W' a) : SlotR K H' B' W' md d v := by
  have cr1 : ∀ {d : D} {v : V}, Rep K H (fun a => B a ∨ W a) d v → Rep K H' (fun a => B' a ∨ W' a) d v := fun r => by
    cases cr (.one r) with
    | cons h _ => exact h
  cases md with
  | val => exact cr1 h
  | bor =>
    rcases h with h | ⟨a, e1, n, t⟩
    · exact .inl (cr1 h)
    · obtain ⟨o, eo, _⟩ := t.muto
      exact .inr ⟨a, e1, nb a o eo n, t.carry (fun o z => kp a o (.inr n) e1 z) cr⟩
  | own => obtain ⟨a, e1, t⟩ := h; exact ⟨a, e1, t.carry (fun o z => kp a o (.inl rfl) e1 z) cr⟩
  | chg => obtain ⟨a, e1, t⟩ := h; exact ⟨a, e1, t.carry (fun o z => kp a o (.inl rfl) e1 z) cr⟩
theorem RelSt.same (R : RelSt K cs B H σ ρ) (k : ∀ b o, H b = some o → H' b = some o) : RelSt K cs B H' σ ρ := by
  refine ⟨R.len, fun i md d e => ?_, R.dist, fun a q => ?_, R.bown, R.chg, fun i a c z => ?_, R.ocs⟩
  · obtain ⟨v, h1, h2⟩ := R.slot i md d e
    refine ⟨v, h1, h2.carry (fun r => ?_) (fun a o _ _ z => k a o z) (fun _ _ _ n => n)⟩
    exact reps_carry (fun a vs hn e => ⟨k a _ e, hn⟩) (fun a vs h => by
      rcases h with (h | ⟨o, h⟩) | h
      · exact .inl (.inl (k _ _ h))
      · exact .inl (.inr ⟨o, k _ _ h⟩)
      · exact .inr h) (fun a vs h => by
      rcases h with ⟨o, h⟩ | h
      · exact .inl ⟨o, k _ _ h⟩
      · exact .inr h) r
  · cases e : H a with
    | none => exact absurd e (R.bdom a q)
    | some o => rw [k a o e]; simp
  · cases e : H a with
    | none => exact R.csd i a c e
    | some o => rw [k a o e] at z; cases z
theorem sqt_same {a : Addr} {vs : List V} (k : ∀ b o, H b = some o → H' b = some o) (h : SqT K H a vs) : SqT K H' a vs := by
  rcases h with (h | ⟨o, h⟩) | h
  · exact .inl (.inl (k _ _ h))
  · exact .inl (.inr ⟨o, k _ _ h⟩)
  · exact .inr h
theorem sqf_same {a : Addr} {vs : List V} (k : ∀ b o, H b = some o → H' b = some o) (h : SqF K H a vs) : SqF K H' a vs := by
  rcases h with ⟨o, h⟩ | h
  · exact .inl ⟨o, k _ _ h⟩
  · exact .inr h
theorem rep_same {N : Addr → Prop} {d : D} {v : V} (k : ∀ b o, H b = some o → H' b = some o) (r : Rep K H N d v) : Rep K H' N d v := rep_carry (fun a vs hn e => ⟨k a _ e, hn⟩) (fun _ _ => sqt_same k) (fun _ _ => sqf_same k) r
theorem reps_same {N : Addr → Prop} {ds : List D} {vs : List V} (k : ∀ b o, H b = some o → H' b = some o) (r : Reps K H N ds vs) : Reps K H' N ds vs := reps_carry (fun a vs hn e => ⟨k a _ e, hn⟩) (fun _ _ => sqt_same k) (fun _ _ => sqf_same k) r
theorem reps_same1 {N : Addr → Prop} {ds : List D} {vs : List V} {p : Addr} (hp : H p = none) (k : ∀ b o, H b = some o → H' b = some o) (r : Reps K H N ds vs) : Reps K H' (fun a => N a ∨ a = p) ds vs := reps_same k (reps_new hp r)
theorem RelSt.moreB {p : Addr} (R : RelSt K cs B H σ ρ) (k : ∀ b o, H b = some o → H' b = some o) (hp : H p = none) (hp' : H' p ≠ none) : RelF K cs B p H' σ ρ := by
  refine ⟨?_, fun i c => R.csd i p c hp, fun z => R.bdom p z hp⟩
  have np : ¬ Own σ ρ p := fun z => by
    obtain ⟨u, e, _⟩ := R.ownOk p z
    rw [hp] at e; cases e
  refine ⟨R.len, fun i md d e => ?_, R.dist, fun a q => ?_, fun a q => ?_, R.chg, fun i a c z => ?_, R.ocs⟩
  · obtain ⟨v, h1, h2⟩ := R.slot i md d e
    refine ⟨v, h1, h2.carry (fun r => ?_) (fun a o _ _ z => k a o z) (fun _ _ _ n => n)⟩
    refine reps_carry (fun a vs hn e => ⟨k a _ e, fun z => ?_⟩) (fun _ _ => sqt_same k) (fun _ _ => sqf_same k) r
    rcases z with (z | z) | z
    · exact hn (.inl z)
    · rw [z, hp] at e; cases e
    · exact hn (.inr z)
  · rcases q with q | q
    · cases e : H a with
      | none => exact absurd e (R.bdom a q)
      | some o => rw [k a o e]; simp
    · rw [q]; exact hp'
  · rcases q with q | q
    · exact R.bown a q
    · rw [q]; exact np
  · cases e : H a with
    | none => exact R.csd i a c e
    | some o => rw [k a o e] at z; cases z
theorem RelSt.lessB {B' : Addr → Prop} (R : RelSt K cs B H σ ρ) (h : ∀ a, B' a → B a) : RelSt K cs B' H σ ρ := by
  have m : ∀ a, (B' a ∨ Own σ ρ a) → (B a ∨ Own σ ρ a) := fun a z => z.elim (fun q => .inl (h a q)) .inr
  refine ⟨R.len, fun i md d e => ?_, R.dist, fun a q => R.bdom a (h a q), fun a q => R.bown a (h a q), R.chg, R.csd, R.ocs⟩
  obtain ⟨v, h1, h2⟩ := R.slot i md d e
  exact ⟨v, h1, h2.carry (reps_mono m) (fun _ _ _ _ z => z) (fun _ _ _ n => n)⟩
theorem get_set {α : Type} {l : List α} {i j : Nat} {x y : α} (h : (l.set i x)[j]? = some y) : (j = i ∧ y = x ∧ i < l.length) ∨ (j ≠ i ∧ l[j]? = some y) := by
  by_cases e : i = j
  · subst e
    by_cases hl : i < l.length
    · rw [List.getElem?_set_self hl] at h
      exact .inl ⟨rfl, (Option.some.inj h).symm, hl⟩
    · rw [List.getElem?_eq_none (by simpa using hl)] at h; cases h
  · rw [List.getElem?_set_ne e] at h
    exact .inr ⟨Ne.symm e, h⟩
theorem own_set_val {i : Nat} {d : D} {v : V} {md : Md} (hmd : isOwn md = false) {a : Addr} (h : Own (σ.set i (some (md, d))) (ρ.set i (some v)) a) : Own σ ρ a := by
  obtain ⟨j, md', d', h1, h2, h3⟩ := h
  rcases get_set h1 with ⟨e1, e2, _⟩ | ⟨e1, e2⟩
  · cases e2; rw [hmd] at h2; cases h2
  · refine ⟨j, md', d', e2, h2, ?_⟩
    rwa [List.getElem?_set_ne (Ne.symm e1)] at h3
theorem RelSt.less (R : RelSt K cs B H σ ρ) (hl : σ'.length = ρ'.length) (ho : ∀ a, Own σ' ρ' a → Own σ ρ a)
    (hs : ∀ (i : Nat) (md : Md) (d : D), σ'[i]? = some (some (md, d)) → (σ[i]? = some (some (md, d)) ∧ ρ'[i]? = ρ[i]?) ∨ (md = .val ∧ ∃ v, ρ'[i]? = some (some v) ∧ SlotR K H B (Own σ' ρ') md d v)) : RelSt K cs B H σ' ρ' := by
  have m : ∀ a, (B a ∨ Own σ' ρ' a) → (B a ∨ Own σ ρ a) := fun a z => z.elim .inl fun q => .inr (ho a q)
  refine ⟨hl, fun i md d e => ?_, fun i j md md' d d' a e1 e2 o1 o2 r1 r2 => ?_, R.bdom, fun a q z => R.bown a q (ho a z), fun i md d a e ip r => ?_, R.csd, fun i d a e r => ?_⟩
  · rcases hs i md d e with ⟨h1, h2⟩ | ⟨_, h⟩
    · obtain ⟨v, h3, h4⟩ := R.slot i md d h1
      exact ⟨v, h2.trans h3, h4.carry (reps_mono m) (fun _ _ _ _ z => z) (fun a _ _ n z => n (ho a z))⟩
    · exact h
  · rcases hs i md d e1 with ⟨h1, h2⟩ | ⟨h, _⟩
    · rcases hs j md' d' e2 with ⟨h3, h4⟩ | ⟨h, _⟩
      · exact R.dist i j md md' d d' a h1 h3 o1 o2 (h2 ▸ r1) (h4 ▸ r2)
      · subst h; cases o2
    · subst h; cases o1
  · rcases hs i md d e with ⟨h1, h2⟩ | ⟨h, _⟩
    · exact R.chg i md d a h1 ip (h2 ▸ r)
    · subst h; cases ip
  · rcases hs i .own d e with ⟨h1, h2⟩ | ⟨h, _⟩
    · exact R.ocs i d a h1 (h2 ▸ r)
    · cases h
theorem RelSt.setVal (R : RelSt K cs B H σ ρ) {i : Nat} {d : D} {v : V} (r : Rep K H (Av B σ ρ) d v) : RelSt K cs B H (σ.set i (some (.val, d))) (ρ.set i (some v)) := by
  have ho : ∀ a, Own (σ.set i (some (.val, d))) (ρ.set i (some v)) a → Own σ ρ a := fun a => own_set_val rfl
  refine R.less (by simp [R.len]) ho fun j md d' e => ?_
  rcases get_set e with ⟨e1, e2, hlt⟩ | ⟨e1, e2⟩
  · cases e2
    refine .inr ⟨rfl, v, ?_, ?_⟩
    · rw [e1, List.getElem?_set_self (by rw [← R.len]; exact hlt)]
    · exact rep_mono (fun a z => z.elim .inl fun q => .inr (ho a q)) r
  · exact .inl ⟨e2, by rw [List.getElem?_set_ne (Ne.symm e1)]⟩
theorem own_forget {i : Nat} {a : Addr} (h : Own (σ.set i none) ρ a) : Own σ ρ a := by
  obtain ⟨j, md, d, h1, h2, h3⟩ := h
  rcases get_set h1 with ⟨_, e2, _⟩ | ⟨_, e2⟩
  · cases e2
  · exact ⟨j, md, d, e2, h2, h3⟩
theorem RelSt.forget (R : RelSt K cs B H σ ρ) (i : Nat) : RelSt K cs B H (σ.set i none) ρ :=
  R.less (by simp [R.len]) (fun a => own_forget) fun j md d e => by
    rcases get_set e with ⟨_, e2, _⟩ | ⟨_, e2⟩
    · cases e2
    · exact .inl ⟨e2, rfl⟩
theorem RelSt.forget2 (R : RelSt K cs B H σ ρ) (i : Nat) (x : Option V) : RelSt K cs B H (σ.set i none) (ρ.set i x) := by
  have hs : ∀ (j : Nat) (md : Md) (d : D), (σ.set i none)[j]? = some (some (md, d)) → j ≠ i ∧ σ[j]? = some (some (md, d)) := fun j md d e => by
    rcases get_set e with ⟨_, e2, _⟩ | ⟨e1, e2⟩
    · cases e2
    · exact ⟨e1, e2⟩
  refine R.less (by simp [R.len]) (fun a ⟨j, md, d, h1, h2, h3⟩ => ?_) fun j md d e => ?_
  · obtain ⟨n, e⟩ := hs j md d h1
    rw [List.getElem?_set_ne (Ne.symm n)] at h3
    exact ⟨j, md, d, e, h2, h3⟩
  · obtain ⟨n, e'⟩ := hs j md d e
    exact .inl ⟨e', by rw [List.getElem?_set_ne (Ne.symm n)]⟩
theorem RelSt.share (R : RelSt K cs B H σ ρ) {i : Nat} {d : D} (h : σ[i]? = some (some (.own, d))) : ∃ v, ρ[i]? = some (some v) ∧ RelSt K cs B H (σ.set i (some (.val, d))) ρ ∧ Rep K H (Av B (σ.set i (some (.val, d))) ρ) d v ∧ ∀ a, Own (σ.set i (some (.val, d))) ρ a → Own σ ρ a := by
  obtain ⟨v, hv, a, e, t⟩ := R.slot i .own d h
  subst e
  have hlt : i < σ.length := (List.getElem?_eq_some_iff.mp h).1
  have ho : ∀ b, Own (σ.set i (some (.val, d))) ρ b → Own σ ρ b := fun b ⟨j, md, d', h1, h2, h3⟩ => by
    rcases get_set h1 with ⟨e1, e2, _⟩ | ⟨e1, e2⟩
    · cases e2; cases h2
    · exact ⟨j, md, d', e2, h2, h3⟩
  have na : ¬ Av B (σ.set i (some (.val, d))) ρ a := fun z => by
    rcases z with z | ⟨j, md, d', h1, h2, h3⟩
    · exact R.bown a z ⟨i, .own, d, h, rfl, hv⟩
    · rcases get_set h1 with ⟨e1, e2, _⟩ | ⟨e1, e2⟩
      · cases e2; cases h2
      · exact e1 (R.dist j i md .own d' d a e2 h h2 rfl h3 hv)
  have rp : Rep K H (Av B (σ.set i (some (.val, d))) ρ) d (.ref a) := (t.carry (fun o z => z) (reps_mono fun b z => z.elim .inl fun q => .inr (ho b q))).rep na
  refine ⟨.ref a, hv, R.less (by simp [R.len]) ho fun j md d' e => ?_, rp, ho⟩
  rcases get_set e with ⟨e1, e2, _⟩ | ⟨e1, e2⟩
  · cases e2
    exact .inr ⟨rfl, _, by rw [e1]; exact hv, rp⟩
  · exact .inl ⟨e2, rfl⟩
theorem RelSt.takeOut (R : RelSt K cs B H σ ρ) {i : Nat} {d : D} (h : σ[i]? = some (some (.own, d))) : ∃ a, ρ[i]? = some (some (.ref a)) ∧ Own σ ρ a ∧ RelF K cs B a H (σ.set i none) ρ ∧ Top K H (fun b => (B b ∨ b = a) ∨ Own (σ.set i none) ρ b) d a := by
  obtain ⟨v, hv, a, e, t⟩ := R.slot i .own d h
  subst e
  have oa : Own σ ρ a := ⟨i, .own, d, h, rfl, hv⟩
  have m : ∀ b, ((B b ∨ b = a) ∨ Own (σ.set i none) ρ b) → (B b ∨ Own σ ρ b) := fun b z => by
    rcases z with (z | z) | z
    · exact .inl z
    · rw [z]; exact .inr oa
    · exact .inr (own_forget z)
  refine ⟨a, hv, oa, ⟨⟨by simp [R.len], fun j md d' e => ?_, fun j k md md' d1 d2 b e1 e2 o1 o2 r1 r2 => ?_, fun b q => ?_, fun b q z => ?_, fun j md d' b e ip r => ?_, R.csd, fun j d' b e r => ?_⟩, R.ocs i d a h hv, fun z => R.bown a z oa⟩, t.carry (fun o z => z) (reps_mono m)⟩
  · rcases get_set e with ⟨_, e2, _⟩ | ⟨e1, e2⟩
    · cases e2
    · obtain ⟨v, h1, h2⟩ := R.slot j md d' e2
      exact ⟨v, h1, h2.carry (reps_mono m) (fun _ _ _ _ z => z) (fun b _ _ n z => n (own_forget z))⟩
  · rcases get_set e1 with ⟨_, e3, _⟩ | ⟨_, e3⟩
    · cases e3
    · rcases get_set e2 with ⟨_, e4, _⟩ | ⟨_, e4⟩
      · cases e4
      · exact R.dist j k md md' d1 d2 b e3 e4 o1 o2 r1 r2
  · rcases q with q | q
    · exact R.bdom b q
    · obtain ⟨o, eo, _⟩ := R.ownOk a oa
      rw [q, eo]; simp
  · rcases q with q | q
    · exact R.bown b q (own_forget z)
    · obtain ⟨j, md, d', h1, h2, h3⟩ := z
      rcases get_set h1 with ⟨_, e2, _⟩ | ⟨e1, e2⟩
      · cases e2
      · rw [q] at h3
        exact e1 (R.dist j i md .own d' d a e2 h h2 rfl h3 hv)
  · rcases get_set e with ⟨_, e2, _⟩ | ⟨_, e2⟩
    · cases e2
    · exact R.chg j md d' b e2 ip r
  · rcases get_set e with ⟨_, e2, _⟩ | ⟨_, e2⟩
    · cases e2
    · exact R.ocs j d' b e2 r
theorem RelF.setOwn {a : Addr} (F : RelF K cs B a H σ ρ) {i : Nat} {d : D} (hi : i < σ.length) (t : Top K H (fun b => (B b ∨ b = a) ∨ Own σ ρ b) d a) :
    RelSt K cs B H (σ.set i (some (.own, d))) (ρ.set i (some (.ref a))) ∧ ∀ b, Own (σ.set i (some (.own, d))) (ρ.set i (some (.ref a))) b → Own σ ρ b ∨ b = a := by
  have R := F.rel
  have hi' : i < ρ.length := by rw [← R.len]; exact hi
  have ho : ∀ b, Own (σ.set i (some (.own, d))) (ρ.set i (some (.ref a))) b → (Own σ ρ b ∨ b = a) := fun b ⟨j, md, d', h1, h2, h3⟩ => by
    rcases get_set h1 with ⟨e1, e2, _⟩ | ⟨e1, e2⟩
    · rw [e1, List.getElem?_set_self hi'] at h3
      cases h3; exact .inr rfl
    · rw [List.getElem?_set_ne (Ne.symm e1)] at h3
      exact .inl ⟨j, md, d', e2, h2, h3⟩
  have m : ∀ b, (B b ∨ Own (σ.set i (some (.own, d))) (ρ.set i (some (.ref a))) b) → ((B b ∨ b = a) ∨ Own σ ρ b) := fun b z => by
    rcases z with z | z
    · exact .inl (.inl z)
    · exact (ho b z).elim .inr fun q => .inl (.inr q)
  have na : ¬ Own σ ρ a := R.bown a (.inr rfl)
  refine ⟨⟨by simp [R.len], fun j md d' e => ?_, fun j k md md' d1 d2 b e1 e2 o1 o2 r1 r2 => ?_, fun b q => R.bdom b (.inl q), fun b q z => ?_, fun j md d' b e ip r => ?_, R.csd, fun j d' b e r => ?_⟩, ho⟩
  · rcases get_set e with ⟨e1, e2, _⟩ | ⟨e1, e2⟩
    · cases e2
      exact ⟨_, by rw [e1, List.getElem?_set_self hi'], a, rfl, t.carry (fun o z => z) (reps_mono m)⟩
    · obtain ⟨v, h1, h2⟩ := R.slot j md d' e2
      refine ⟨v, by rw [List.getElem?_set_ne (Ne.symm e1)]; exact h1, ?_⟩
      cases md with
      | val => exact rep_mono m h2
      | bor =>
        rcases h2 with h2 | ⟨b, e3, n, t'⟩
        · exact .inl (rep_mono m h2)
        · by_cases hb : b = a
          · subst hb
            cases d' with
            | lst ds => exact absurd (R.chg j .bor _ b e2 rfl (e3 ▸ h1)) (F.nb j)
            | _ => exact t'.elim
          · exact .inr ⟨b, e3, fun z => (ho b z).elim n hb, t'.carry (fun o z => z) (reps_mono m)⟩
      | own => obtain ⟨b, e3, t'⟩ := h2; exact ⟨b, e3, t'.carry (fun o z => z) (reps_mono m)⟩
      | chg => obtain ⟨b, e3, t'⟩ := h2; exact ⟨b, e3, t'.carry (fun o z => z) (reps_mono m)⟩
  · have key : ∀ (j : Nat) (md : Md) (d' : D), (σ.set i (some (.own, d)))[j]? = some (some (md, d')) → isOwn md = true → (ρ.set i (some (V.ref a)))[j]? = some (some (.ref b)) → (j = i ∧ b = a) ∨ (j ≠ i ∧ σ[j]? = some (some (md, d')) ∧ ρ[j]? = some (some (.ref b)) ∧ b ≠ a) := fun j md d' e o r => by
      rcases get_set e with ⟨e1, _, _⟩ | ⟨e1, e2⟩
      · rw [e1, List.getElem?_set_self hi'] at r
        cases r; exact .inl ⟨e1, rfl⟩
      · rw [List.getElem?_set_ne (Ne.symm e1)] at r
        exact .inr ⟨e1, e2, r, fun z => na (z ▸ ⟨j, md, d', e2, o, r⟩)⟩
    rcases key j md d1 e1 o1 r1 with ⟨j1, b1⟩ | ⟨_, s1, t1, n1⟩
    · rcases key k md' d2 e2 o2 r2 with ⟨j2, _⟩ | ⟨_, _, _, n2⟩
      · rw [j1, j2]
      · exact absurd b1 n2
    · rcases key k md' d2 e2 o2 r2 with ⟨_, b2⟩ | ⟨_, s2, t2, _⟩
      · exact absurd b2 n1
      · exact R.dist j k md md' d1 d2 b s1 s2 o1 o2 t1 t2
  · rcases ho b z with z | z
    · exact R.bown b (.inl q) z
    · exact F.out (z ▸ q)
  · rcases get_set e with ⟨_, e2, _⟩ | ⟨e1, e2⟩
    · cases e2; cases ip
    · rw [List.getElem?_set_ne (Ne.symm e1)] at r
      exact R.chg j md d' b e2 ip r
  · rcases get_set e with ⟨e1, e2, _⟩ | ⟨e1, e2⟩
    · rw [e1, List.getElem?_set_self hi'] at r
      cases r; exact F.nb
    · rw [List.getElem?_set_ne (Ne.symm e1)] at r
      exact R.ocs j d' b e2 r
end
end Pu
namespace Pu
open PySem L2
inductive BinO where | add | sub | mul | fdv | mod | pow
  deriving DecidableEq
inductive CmpO where | eq | ne | lt | le | gt | ge | isin | nin | is | isnot
  deriving DecidableEq
inductive Bi where | len | int | min | max | isi | sorted | list | all | any | sum
  deriving DecidableEq
inductive Me where | join | upper
  deriving DecidableEq
inductive Mu where | append | pop | clear
  deriving DecidableEq
mutual
inductive Xp where
  | var (i : Nat) | int (i : Int) | str (l : List Nat) | bl (b : Bool) | non | glob (x : String) | ty (n : String)
  | bin (o : BinO) (a b : Xp) | cmp (o : CmpO) (a b : Xp) | chain (o o' : CmpO) (a b c : Xp) | neg (a : Xp)
  | idx (a b : Xp) | slc (a : Xp) (lo hi : Ox) | rev (a : Xp)
  | tup (es : Xs) | lst (es : Xs)
  | bi (b : Bi) (es : Xs) | me (m : Me) (o : Xp) (es : Xs) | mu (m : Mu) (i : Nat) (es : Xs) | call (f : String) (es : Xs)
  | and (a b : Xp) | or (a b : Xp) | not (a : Xp) | cond (c : Tp) (a b : Xp)
  | comp (i : Nat) (it : Ix) (t : Ot) (e : Xp)
inductive Xs where
  | nil | cons (e : Xp) (es : Xs)
inductive Ox where
  | no | so (e : Xp)
inductive Ix where
  | of (e : Xp) | rng1 (a : Xp) | rng2 (a b : Xp)
inductive Tp where
  | v (e : Xp) | and (a b : Tp) | or (a b : Tp) | not (a : Tp)
inductive Ot where
  | no | so (t : Tp)
end
inductive Tg where
  | slot (i : Nat) | tup (ts : List Tg)
mutual
inductive Sm where
  | expr (e : Xp) | asg (i : Nat) (e : Xp) | par (i j : Nat) (a b : Xp) | unp (t : Tg) (e : Xp) | setI (i : Nat) (k e : Xp) | aug (i : Nat) (o : BinO) (e : Xp)
  | ret (e : Xp) | retN | iff (c : Tp) (a b : Ss) | for (t : Tg) (it : Ix) (b : Ss) | while (c : Tp) (b : Ss) | brk | cont | pass
inductive Ss where
  | nil | cons (s : Sm) (ss : Ss)
end
inductive R (α : Type) where
  | ok (a : α) (σ : PSt) | exc (c : Nat) (fs : List D) (σ : PSt) | bad
def R.bind {α β : Type} (r : R α) (k : α → PSt → R β) : R β := match r with
  | .ok a σ => k a σ
  | .exc c fs σ => .exc c fs σ
  | .bad => .bad
def R.opt {α β : Type} (o : Option α) (k : α → R β) : R β := match o with
  | some a => k a
  | none => .bad
inductive Fl where
  | next | ret (f : Bool) (d : D) | brk | cont
inductive FR where
  | ok (f : Bool) (d : D) (ms : List D) | exc (c : Nat) (fs : List D) (ms : List D) | bad
structure Ev where
  call : String → List D → FR
  sig : String → Option (List Md)
  glob : String → Option D
  wf : Nat
inductive Ag where
  | tmp (d : D) | slot (i : Nat)
def slotD (σ : PSt) (i : Nat) : Option D := match σ[i]? with
  | some (some (_, d)) => some d
  | _ => none
def Ag.get (σ : PSt) : Ag → Option D
  | .tmp d => some d
  | .slot i => slotD σ i
def Ag.gets (σ : PSt) : List Ag → Option (List D)
  | [] => some []
  | a :: as => match a.get σ, Ag.gets σ as with
    | some d, some ds => some (d :: ds)
    | _, _ => none
def mulB (i j : Int) : Bool := (decide (-(2 ^ 64) < i) && decide (i < 2 ^ 64)) || (decide (-(2 ^ 64) < j) && decide (j < 2 ^ 64))
def divB (j : Int) : Bool := decide (0 < j) && decide (j < 2 ^ 200)
def powB (i j : Int) : Bool := decide (0 ≤ j) && decide (j ≤ 1000) && decide (i.natAbs < 2 ^ 200)
def szB (n : Nat) : Bool := decide (n ≤ 16777216)
def seqB (n : Nat) : Bool := decide (n < 16777216)
def semBin (o : BinO) (a b : D) : Option (Bool × D) := match o, a, b with
  | .add, .int i, .int j => some (false, .int (i + j))
  | .add, .str x, .str y => if szB (x.length + y.length) then some (false, .str (x ++ y)) else none
  | .add, .lst x, .lst y => if szB (x.length + y.length) then some (true, .lst (x ++ y)) else none
  | .sub, .int i, .int j => some (false, .int (i - j))
  | .mul, .int i, .int j => if mulB i j then some (false, .int (i * j)) else none
  | .mul, .str x, .int k => if decide (-(2 ^ 63) ≤ k) && decide (k < 2 ^ 63) && szB (x.length * k.toNat) then some (false, .str (List.replicate k.toNat x).flatten) else none
  | .mul, .lst x, .int k => if decide (-(2 ^ 63) ≤ k) && decide (k < 2 ^ 63) && szB (x.length * k.toNat) then some (true, .lst (List.replicate k.toNat x).flatten) else none
  | .fdv, .int i, .int j => if divB j then some (false, .int (i / j)) else none
  | .mod, .int i, .int j => if decide (0 < j) then some (false, .int (i % j)) else none
  | .pow, .int i, .int j => if powB i j then some (false, .int (i ^ j.toNat)) else none
  | _, _, _ => none
mutual
def toPy : D → Option PyData
  | .non => some .none
  | .bl b => some (.bool b)
  | .int i => some (.int i)
  | .str l => some (.str (mkS l))
  | .tup ds => (toPys ds).map .tuple
  | .lst ds => (toPys ds).map .list
  | _ => none
def toPys : List D → Option (List PyData)
  | [] => some []
  | d :: ds => match toPy d, toPys ds with
    | some p, some ps => some (p :: ps)
    | _, _ => none
end
mutual
def eqD : D → D → Bool
  | .non, .non => true
  | .bl a, .bl b => a == b
  | .bl a, .int j => (if a then 1 else 0) == j
  | .int i, .bl b => i == (if b then 1 else 0)
  | .int i, .int j => i == j
  | .str x, .str y => x == y
  | .lst xs, .lst ys => eqDs xs ys
  | .tup xs, .tup ys => eqDs xs ys
  | _, _ => false
def eqDs : List D → List D → Bool
  | [], [] => true
  | x :: xs, y :: ys => eqD x y && eqDs xs ys
  | _, _ => false
end
mutual
def shp : D → Nat → Bool
  | .non, _ => true
  | .bl _, _ => true
  | .int _, _ => true
  | .str l, _ => l.all (· < 1114112)
  | .tup ds, n => match n with
    | 0 => false
    | n + 1 => shps ds n
  | .lst ds, n => match n with
    | 0 => false
    | n + 1 => shps ds n
  | _, _ => false
def shps : List D → Nat → Bool
  | [], _ => true
  | d :: ds, n => shp d n && shps ds n
end
def infB (x : List Nat) : List Nat → Bool
  | [] => x.isEmpty
  | c :: r => (c :: r).take x.length == x || infB x r
def ltL : List Nat → List Nat → Bool := fun a b => decide (a < b)
def isNon : D → Bool
  | .non => true
  | _ => false
def inD (d : D) (ds : List D) : Option Bool := if shp d 60 && shps ds 59 then some (ds.any fun z => eqD z d) else none
def semCmp (o : CmpO) (a b : D) : Option Bool := match o, a, b with
  | .eq, .str x, .str y => some (x == y)
  | .ne, .str x, .str y => some (!(x == y))
  | .eq, a, b => if shp a 60 && shp b 60 then some (eqD a b) else none
  | .ne, a, b => if shp a 60 && shp b 60 then some (!(eqD a b)) else none
  | .lt, .int i, .int j => some (decide (i < j))
  | .le, .int i, .int j => some (decide (i ≤ j))
  | .gt, .int i, .int j => some (decide (j < i))
  | .ge, .int i, .int j => some (decide (j ≤ i))
  | .lt, .str x, .str y => some (ltL x y)
  | .gt, .str x, .str y => some (ltL y x)
  | .le, .str x, .str y => some (!(ltL y x))
  | .ge, .str x, .str y => some (!(ltL x y))
  | .isin, .str [c], .str y => some (decide (c ∈ y))
  | .nin, .str [c], .str y => some (!(decide (c ∈ y)))
  | .isin, d, .lst ds => inD d ds
  | .nin, d, .lst ds => (inD d ds).map (!·)
  | .is, d, .non => some (isNon d)
  | .isnot, d, .non => some (!isNon d)
  | _, _, _ => none
def truthD (d : D) : Option Bool := match d with
  | .non => some false
  | .bl b => some b
  | .int i => some (i != 0)
  | .str l => if szB l.length then some (!l.isEmpty) else none
  | .tup ds => some (!ds.isEmpty)
  | .lst ds => some (!ds.isEmpty)
  | _ => none
def ixD (n : Nat) (i : Int) : Option Nat := if 0 ≤ i then (if i < n then some i.toNat else none) else if -(n : Int) ≤ i then some (i + n).toNat else none
def semIdx (a b : D) : Option D := match a, b with
  | .lst ds, .int i => (ixD ds.length i).bind fun j => ds[j]?
  | .frl ds, .int i => (ixD ds.length i).bind fun j => ds[j]?
  | .tup ds, .int i => (ixD ds.length i).bind fun j => ds[j]?
  | .str l, .int i => if szB l.length then ((ixD l.length i).bind fun j => l[j]?).map fun c => .str [c] else none
  | _, _ => none
def bndD (n d : Nat) : Option Int → Nat
  | none => d
  | some v => if v < 0 then (v + (n : Int)).toNat else min v.toNat n
def cutD {α : Type} (l : List α) (lo hi : Option Int) : List α := (l.drop (bndD l.length 0 lo)).take (bndD l.length l.length hi - bndD l.length 0 lo)
def semSlc (a : D) (lo hi : Option Int) : Option (Bool × D) := match a with
  | .lst ds => some (true, .lst (cutD ds lo hi))
  | .frl ds => some (true, .lst (cutD ds lo hi))
  | .str l => if szB l.length then some (false, .str (cutD l lo hi)) else none
  | _ => none
def semRev (a : D) : Option (Bool × D) := match a with
  | .lst ds => some (true, .lst ds.reverse)
  | _ => none
def pyOf (d : D) : PyData := (toPy d).getD .none
def ltD (a b : D) : Bool := PySem.W.dataLt (pyOf a) (pyOf b)
def leB (a b : D) : Bool := !(ltD b a)
def sortB (ds : List D) : Bool :=
  ds.all (shp · 60) && (ds.all (fun a => ds.all fun b => PySem.W.alike (pyOf a) (pyOf b)) &&
    (ds.all (fun d => match d with | .tup (_ :: _) => true | _ => false) || ds.all (fun d => match d with | .int _ => true | .str _ => true | _ => false)))
def tyOf : D → Option String
  | .non => some "NoneType"
  | .bl _ => some "bool"
  | .int _ => some "int"
  | .str _ => some "str"
  | .tup _ => some "tuple"
  | .lst _ => some "list"
  | _ => none
def isiB (t n : String) : Option Bool :=
  if t = "bool" ∧ n = "int" then some true else if n = "bool" ∨ n = "int" ∨ n = "str" ∨ n = "list" ∨ n = "tuple" then some (decide (t = n)) else none
def allBl : List D → Option (List Bool)
  | [] => some []
  | .bl b :: ds => (allBl ds).map (b :: ·)
  | _ => none
def allInt : List D → Option (List Int)
  | [] => some []
  | .int i :: ds => (allInt ds).map (i :: ·)
  | _ => none
def allStr : List D → Option (List (List Nat))
  | [] => some []
  | .str l :: ds => (allStr ds).map (l :: ·)
  | _ => none
def semBi (b : Bi) (as : List D) : Option (Bool × D) := match b, as with
  | .len, [.str l] => if szB l.length then some (false, .int l.length) else none
  | .len, [.lst ds] => some (false, .int ds.length)
  | .len, [.tup ds] => some (false, .int ds.length)
  | .len, [.frl ds] => some (false, .int ds.length)
  | .int, [.int i] => some (false, .int i)
  | .int, [.bl b] => some (false, .int (if b then 1 else 0))
  | .min, [.int i, .int j] => some (false, .int (if j < i then j else i))
  | .max, [.int i, .int j] => some (false, .int (if j > i then j else i))
  | .isi, [d, .ty n] => match tyOf d with
    | some t => (isiB t n).map fun b => (false, .bl b)
    | none => none
  | .sorted, [.lst ds] => if sortB ds then some (true, .lst (ds.mergeSort leB)) else none
  | .list, [.lst ds] => some (true, .lst ds)
  | .list, [.tup ds] => some (true, .lst ds)
  | .all, [.lst ds] => (allBl ds).map fun bs => (false, .bl (bs.all id))
  | .any, [.lst ds] => (allBl ds).map fun bs => (false, .bl (bs.any id))
  | .sum, [.lst ds] => (allInt ds).map fun ns => (false, .int ns.sum)
  | _, _ => none
def joinN (s : List Nat) : List (List Nat) → List Nat
  | [] => []
  | [x] => x
  | x :: y :: r => x ++ s ++ joinN s (y :: r)
def semMe (m : Me) (o : D) (as : List D) : Option (Bool × D) := match m, o, as with
  | .join, .str s, [.lst ds] => match allStr ds with
    | some ls => if szB ((ls.map (·.length)).sum + ls.length * s.length) then some (false, .str (joinN s ls)) else none
    | none => none
  | _, _, _ => none
def isStrD : D → Bool
  | .str _ => true
  | _ => false
def semMu (m : Mu) (d : D) (as : List D) : Option (D × D) := match m, d, as with
  | .append, .lst ds, [x] => if seqB ds.length then some (.lst (ds ++ [x]), .non) else none
  | .pop, .lst ds, [] => match ds.getLast? with
    | some x => some (.lst ds.dropLast, x)
    | none => none
  | .clear, .lst _, [] => some (.lst [], .non)
  | _, _, _ => none
def semSet (d k x : D) : Option D := match d, k with
  | .lst ds, .int i => (ixD ds.length i).map fun j => .lst (ds.set j x)
  | _, _ => none
def isColl : D → Bool
  | .lst _ => true
  | .dic _ => true
  | .obj _ _ => true
  | _ => false
def rdVal (σ : PSt) (i : Nat) : R D := match σ[i]? with
  | some (some (.val, d)) => .ok d σ
  | some (some (.own, d)) => .ok d (σ.set i (some (.val, d)))
  | some (some (.bor, d)) => if isColl d then .bad else .ok d σ
  | _ => .bad
def setVal (σ : PSt) (i : Nat) (f : Bool) (d : D) : Option PSt := match σ[i]? with
  | some (some (.chg, _)) => none
  | some _ => some (σ.set i (some (if f then .own else .val, d)))
  | none => none
def putOwn (σ : PSt) (i : Nat) (d : D) : Option PSt := match σ[i]? with
  | some (some (.own, _)) => some (σ.set i (some (.own, d)))
  | some (some (.chg, _)) => some (σ.set i (some (.chg, d)))
  | _ => none
def ownD (σ : PSt) (i : Nat) : Option D := match σ[i]? with
  | some (some (.own, d)) => some d
  | some (some (.chg, d)) => some d
  | _ => none
def resetSlot (σ0 σ : PSt) (i : Nat) : Option PSt := match σ0[i]? with
  | some none => some (σ.set i none)
  | some (some (.val, d)) => some (σ.set i (some (.val, d)))
  | _ => none
def isChg : Md → Bool
  | .chg => true
  | _ => false
def putMs : PSt → List Md → List Ag → List D → Option PSt
  | σ, [], [], [] => some σ
  | σ, m :: ms, a :: as, d :: ds => match m, a with
    | .chg, .slot j => match putOwn σ j d with
      | some σ' => putMs σ' ms as ds
      | none => none
    | .chg, .tmp _ => none
    | _, _ => putMs σ ms as ds
  | _, _, _, _ => none
def clash (m m' : Md) (a a' : Ag) : Bool := match a, a' with
  | .slot i, .slot j => i == j && (isChg m || isChg m')
  | _, _ => false
def noClash : List Md → List Ag → Bool
  | m :: ms, a :: as => (ms.zip as).all (fun p => !clash m p.1 a p.2) && noClash ms as
  | _, _ => true
def modeOk (σ : PSt) : Md → Ag → Bool
  | .val, .tmp _ => true
  | .bor, _ => true
  | .chg, .slot j => (ownD σ j).isSome
  | _, _ => false
def argsOk (σ : PSt) (ms : List Md) (as : List Ag) : Bool := decide (ms.length = as.length) && ((ms.zip as).all (fun p => modeOk σ p.1 p.2) && noClash ms as)
def back : List Md → List D → List D → List D
  | m :: ms, d :: ds, r :: rs => (if isChg m then r else d) :: back ms ds rs
  | _, _, _ => []
mutual
def bindT : Tg → D → PSt → Option PSt
  | .slot i, d, σ => setVal σ i false d
  | .tup ts, d, σ => match d with
    | .tup ds => bindTs ts ds σ
    | _ => none
def bindTs : List Tg → List D → PSt → Option PSt
  | [], [], σ => some σ
  | t :: ts, d :: ds, σ => match bindT t d σ with
    | some σ' => bindTs ts ds σ'
    | none => none
  | _, _, _ => none
end
def rangeD : Int → Nat → List D
  | _, 0 => []
  | lo, n + 1 => .int lo :: rangeD (lo + 1) n
def itemsD : D → Option (List D)
  | .lst ds => some ds
  | .tup ds => some ds
  | .frl ds => some ds
  | .str l => some (l.map fun c => .str [c])
  | _ => none
def rngB (i : Int) : Bool := decide (-(2 ^ 62) ≤ i) && decide (i < 2 ^ 62)
def compL (i : Nat) (t : PSt → R Bool) (e : PSt → R D) : List D → PSt → R (List D)
  | [], σ => .ok [] σ
  | d :: ds, σ => (t (σ.set i (some (.val, d)))).bind fun b σ1 =>
    if b then (e σ1).bind fun x σ2 => (compL i t e ds (σ2.set i none)).bind fun xs σ3 => .ok (x :: xs) σ3
    else compL i t e ds (σ1.set i none)
def forL (bd : D → PSt → Option PSt) (body : PSt → R Fl) : List D → PSt → R Fl
  | [], σ => .ok .next σ
  | d :: ds, σ => R.opt (bd d σ) fun σ1 => (body σ1).bind fun f σ2 => match f with
    | .next => forL bd body ds σ2
    | .cont => forL bd body ds σ2
    | .brk => .ok .next σ2
    | .ret f d => .ok (.ret f d) σ2
def whileL (t : PSt → R Bool) (body : PSt → R Fl) : Nat → PSt → R Fl
  | 0, _ => .bad
  | n + 1, σ => (t σ).bind fun b σ1 => if b then (body σ1).bind fun f σ2 => match f with
    | .next => whileL t body n σ2
    | .cont => whileL t body n σ2
    | .brk => .ok .next σ2
    | .ret f d => .ok (.ret f d) σ2
    else .ok .next σ1
def R.nox {α : Type} : R α → R α
  | .exc _ _ _ => .bad
  | r => r
def toB (e : Xp) (r : PSt → R (Bool × D)) : PSt → R Ag := match e with
  | .var i => fun σ => R.opt (slotD σ i) fun _ => .ok (.slot i) σ
  | _ => fun σ => (r σ).bind fun x σ1 => .ok (.tmp x.2) σ1
def toI (e : Xp) (r : PSt → R (Bool × D)) : PSt → R D := match e with
  | .var i => fun σ => match σ[i]? with
    | some (some (.bor, d)) => .ok d σ
    | _ => (r σ).bind fun x σ1 => .ok x.2 σ1
  | _ => fun σ => (r σ).bind fun x σ1 => .ok x.2 σ1
section
variable (V : Ev)
mutual
def ev : Xp → PSt → R (Bool × D)
  | .var i, σ => (rdVal σ i).bind fun d σ => .ok (false, d) σ
  | .int i, σ => .ok (false, .int i) σ
  | .str l, σ => .ok (false, .str l) σ
  | .bl b, σ => .ok (false, .bl b) σ
  | .non, σ => .ok (false, .non) σ
  | .ty n, σ => .ok (false, .ty n) σ
  | .glob x, σ => R.opt (V.glob x) fun d => .ok (false, d) σ
  | .bin o a b, σ => (toB a (ev a) σ).bind fun x σ1 => (toB b (ev b) σ1).bind fun y σ2 => R.opt (x.get σ2) fun d1 => R.opt (y.get σ2) fun d2 => R.opt (semBin o d1 d2) fun r => .ok r σ2
  | .cmp o a b, σ => (toB a (ev a) σ).bind fun x σ1 => (toB b (ev b) σ1).bind fun y σ2 => R.opt (x.get σ2) fun d1 => R.opt (y.get σ2) fun d2 => R.opt (semCmp o d1 d2) fun r => .ok (false, .bl r) σ2
  | .chain o o' a b c, σ => (toB a (ev a) σ).bind fun x σ1 => (toB b (ev b) σ1).bind fun y σ2 => R.opt (x.get σ2) fun d1 => R.opt (y.get σ2) fun d2 => R.opt (semCmp o d1 d2) fun r =>
    if r then (toB c (ev c) σ2).bind fun z σ3 => R.opt (y.get σ3) fun d2 => R.opt (z.get σ3) fun d3 => R.opt (semCmp o' d2 d3) fun r => .ok (false, .bl r) σ3 else .ok (false, .bl false) σ2
  | .neg a, σ => (toB a (ev a) σ).bind fun x σ1 => R.opt (x.get σ1) fun d => match d with
    | .int i => .ok (false, .int (-i)) σ1
    | _ => .bad
  | .idx a b, σ => (toB a (ev a) σ).bind fun x σ1 => (toB b (ev b) σ1).bind fun y σ2 => R.opt (x.get σ2) fun d1 => R.opt (y.get σ2) fun d2 => R.opt (semIdx d1 d2) fun r => .ok (false, r) σ2
  | .slc a lo hi, σ => (toB a (ev a) σ).bind fun x σ1 => (evO lo σ1).bind fun l σ2 => (evO hi σ2).bind fun h σ3 => R.opt (x.get σ3) fun d => R.opt (semSlc d l h) fun r => .ok r σ3
  | .rev a, σ => (toB a (ev a) σ).bind fun x σ1 => R.opt (x.get σ1) fun d => R.opt (semRev d) fun r => .ok r σ1
  | .tup es, σ => (evs es σ).bind fun ds σ1 => if szB ds.length then .ok (false, .tup ds) σ1 else .bad
  | .lst es, σ => (evs es σ).bind fun ds σ1 => if szB ds.length then .ok (true, .lst ds) σ1 else .bad
  | .bi b es, σ => (evBs es σ).bind fun as σ1 => R.opt (Ag.gets σ1 as) fun ds => R.opt (semBi b ds) fun r => .ok r σ1
  | .me m o es, σ => (toB o (ev o) σ).bind fun x σ1 => R.opt (x.get σ1) fun d0 => if isStrD d0 then (evBs es σ1).bind fun as σ2 => R.opt (x.get σ2) fun d => R.opt (Ag.gets σ2 as) fun ds => R.opt (semMe m d ds) fun r => .ok r σ2 else .bad
  | .mu m i es, σ => R.opt (ownD σ i) fun _ => (evs es σ).bind fun ds σ1 => R.opt (ownD σ1 i) fun d => R.opt (semMu m d ds) fun r => R.opt (putOwn σ1 i r.1) fun σ2 => .ok (false, r.2) σ2
  | .call f es, σ => R.opt (V.sig f) fun ms => (evAs ms es σ).bind fun as σ1 => if argsOk σ1 ms as then R.opt (Ag.gets σ1 as) fun ds => match V.call f ds with
      | .ok fr d rs => R.opt (putMs σ1 ms as rs) fun σ2 => .ok (fr, d) σ2
      | .exc c fs rs => R.opt (putMs σ1 ms as rs) fun σ2 => .exc c fs σ2
      | .bad => .bad
    else .bad
  | .and a b, σ => (ev a σ).bind fun x σ1 => match x.2 with
    | .bl c => if c then ev b σ1 else .ok (false, .bl false) σ1
    | _ => .bad
  | .or a b, σ => (ev a σ).bind fun x σ1 => match x.2 with
    | .bl c => if c then .ok (false, .bl true) σ1 else ev b σ1
    | _ => .bad
  | .not a, σ => (ev a σ).bind fun x σ1 => match x.2 with
    | .bl c => .ok (false, .bl (!c)) σ1
    | _ => .bad
  | .cond c a b, σ => (evT c σ).bind fun x σ1 => if x then ev a σ1 else ev b σ1
  | .comp i it t e, σ => (evI it σ).bind fun ds σ1 =>
    (compL i (fun σ => (evOT t σ).nox) (fun σ => (ev e σ).nox.bind fun x σ => .ok x.2 σ) ds (σ1.set i none)).bind fun xs σ2 => if seqB xs.length then R.opt (resetSlot σ1 σ2 i) fun σ3 => .ok (true, .lst xs) σ3 else .bad
def evT : Tp → PSt → R Bool
  | .and a b, σ => (evT a σ).bind fun c σ1 => if c then evT b σ1 else .ok false σ1
  | .or a b, σ => (evT a σ).bind fun c σ1 => if c then .ok true σ1 else evT b σ1
  | .not a, σ => (evT a σ).bind fun c σ1 => .ok (!c) σ1
  | .v e, σ => (toB e (ev e) σ).bind fun x σ1 => R.opt (x.get σ1) fun d => R.opt (truthD d) fun b => .ok b σ1
def evs : Xs → PSt → R (List D)
  | .nil, σ => .ok [] σ
  | .cons e es, σ => (ev e σ).bind fun x σ1 => (evs es σ1).bind fun xs σ2 => .ok (x.2 :: xs) σ2
def evBs : Xs → PSt → R (List Ag)
  | .nil, σ => .ok [] σ
  | .cons e es, σ => (toB e (ev e) σ).bind fun x σ1 => (evBs es σ1).bind fun xs σ2 => .ok (x :: xs) σ2
def evAs : List Md → Xs → PSt → R (List Ag)
  | [], .nil, σ => .ok [] σ
  | m :: ms, .cons e es, σ => (match m with
      | .val => (ev e σ).bind fun x σ1 => .ok (Ag.tmp x.2) σ1
      | .chg => match e with
        | .var i => R.opt (ownD σ i) fun _ => .ok (Ag.slot i) σ
        | _ => .bad
      | _ => toB e (ev e) σ).bind fun x σ1 => (evAs ms es σ1).bind fun xs σ2 => .ok (x :: xs) σ2
  | _, _, _ => .bad
def evO : Ox → PSt → R (Option Int)
  | .no, σ => .ok none σ
  | .so e, σ => (ev e σ).bind fun x σ1 => match x.2 with
    | .int i => .ok (some i) σ1
    | _ => .bad
def evOT : Ot → PSt → R Bool
  | .no, σ => .ok true σ
  | .so e, σ => evT e σ
def evI : Ix → PSt → R (List D)
  | .of e, σ => (toI e (ev e) σ).bind fun x σ1 => R.opt (itemsD x) fun ds => .ok ds σ1
  | .rng1 a, σ => (ev a σ).bind fun x σ1 => match x.2 with
    | .int n => if rngB n then .ok (rangeD 0 n.toNat) σ1 else .bad
    | _ => .bad
  | .rng2 a b, σ => (ev a σ).bind fun x σ1 => (ev b σ1).bind fun y σ2 => match x.2, y.2 with
    | .int i, .int j => if rngB i && rngB j then .ok (rangeD i (j - i).toNat) σ2 else .bad
    | _, _ => .bad
end
mutual
def ex : Sm → PSt → R Fl
  | .expr e, σ => (ev V e σ).bind fun _ σ1 => .ok .next σ1
  | .asg i e, σ => (ev V e σ).bind fun x σ1 => R.opt (setVal σ1 i x.1 x.2) fun σ2 => .ok .next σ2
  | .par i j a b, σ => (ev V a σ).bind fun x σ1 => (ev V b σ1).bind fun y σ2 => R.opt (setVal σ2 i false x.2) fun σ3 => R.opt (setVal σ3 j false y.2) fun σ4 => .ok .next σ4
  | .unp t e, σ => (ev V e σ).bind fun x σ1 => R.opt (bindT t x.2 σ1) fun σ2 => .ok .next σ2
  | .setI i k e, σ => (ev V e σ).bind fun x σ1 => R.opt (ownD σ1 i) fun _ => (ev V k σ1).bind fun y σ2 => R.opt (ownD σ2 i) fun d => R.opt (semSet d y.2 x.2) fun d' => R.opt (putOwn σ2 i d') fun σ3 => .ok .next σ3
  | .aug i o e, σ => R.opt (slotD σ i) fun d => (ev V e σ).bind fun x σ1 => match o, d, x.2 with
    | .add, .int a, .int b => R.opt (setVal σ1 i false (.int (a + b))) fun σ2 => .ok .next σ2
    | .sub, .int a, .int b => R.opt (setVal σ1 i false (.int (a - b))) fun σ2 => .ok .next σ2
    | _, _, _ => .bad
  | .ret e, σ => match e with
    | .var i => match σ[i]? with
      | some (some (.own, d)) => .ok (.ret true d) (σ.set i none)
      | _ => (ev V e σ).bind fun x σ1 => .ok (.ret x.1 x.2) σ1
    | _ => (ev V e σ).bind fun x σ1 => .ok (.ret x.1 x.2) σ1
  | .retN, σ => .ok (.ret false .non) σ
  | .iff c a b, σ => (evT V c σ).bind fun x σ1 => if x then exs a σ1 else exs b σ1
  | .for t it b, σ => (evI V it σ).bind fun ds σ1 => forL (bindT t) (fun σ => exs b σ) ds σ1
  | .while c b, σ => whileL (fun σ => evT V c σ) (fun σ => exs b σ) V.wf σ
  | .brk, σ => .ok .brk σ
  | .cont, σ => .ok .cont σ
  | .pass, σ => .ok .next σ
def exs : Ss → PSt → R Fl
  | .nil, σ => .ok .next σ
  | .cons s ss, σ => (ex s σ).bind fun f σ1 => match f with
    | .next => exs ss σ1
    | f => .ok f σ1
end
end
structure Fn where
  ps : List String
  md : List Md
  ns : List String
  body : Ss
structure Pg where
  fn : String → Option Fn
  glob : String → Option D
  wf : Nat
def outs : List Md → PSt → Option (List D)
  | m :: ms, x :: σ => match m, x with
    | .chg, some (.chg, d) => (outs ms σ).map (d :: ·)
    | .chg, _ => none
    | _, _ => (outs ms σ).map (.non :: ·)
  | _ :: _, [] => none
  | [], _ => some []
def entry (md : List Md) (ds : List D) : PSt := (md.zip ds).map some
def runFn (V : Ev) (fn : Fn) (ds : List D) : FR :=
  if ds.length = fn.md.length ∧ fn.md.length ≤ fn.ns.length then
    match exs V fn.body (entry fn.md ds ++ List.replicate (fn.ns.length - fn.md.length) none) with
    | .ok .next σ => match outs fn.md σ with
      | some ms => .ok false .non ms
      | none => .bad
    | .ok (.ret f d) σ => match outs fn.md σ with
      | some ms => .ok f d ms
      | none => .bad
    | .exc c fs σ => match outs fn.md σ with
      | some ms => .exc c fs ms
      | none => .bad
    | _ => .bad
  else .bad
def run (P : Pg) : Nat → String → List D → FR
  | 0, _, _ => .bad
  | n + 1, f, ds => match P.fn f with
    | some fn => runFn ⟨run P n, fun g => (P.fn g).map (·.md), P.glob, P.wf⟩ fn ds
    | none => .bad
abbrev evOf (P : Pg) (n : Nat) : Ev := ⟨run P n, fun g => (P.fn g).map (·.md), P.glob, P.wf⟩
theorem run_succ (P : Pg) (n : Nat) (f : String) (ds : List D) (fn : Fn) (h : P.fn f = some fn) : run P (n + 1) f ds = runFn (evOf P n) fn ds := by
  show (match P.fn f with | some fn => runFn (evOf P n) fn ds | none => .bad) = _
  rw [h]
end Pu
namespace Pu
open PySem L2
abbrev Xc := Nat → Option (Addr × List Str)
def ExcR (K : PySem.W.Frag) (xc : Xc) (H : Hp) (N : Addr → Prop) (c : Nat) (fs : List D) (cls : Value) (dd : Option Addr) : Prop :=
  ∃ C names, xc c = some (C, names) ∧ cls = .ref C ∧ names.length = fs.length ∧
    ((names = [] ∧ dd = none) ∨ ∃ (d : Addr) (vs : List V), dd = some d ∧ Reps K H N fs vs ∧ ∃ l, H d = some (.xd l) ∧ ∀ (i : Nat) (n : Str) (v : V), names[i]? = some n → vs[i]? = some v → l.lookup n = some v)
section
variable (K : PySem.W.Frag) (xc : Xc) (W : WX)
def Dn {α : Type} (cs : Nat → Addr → Prop) (B : Addr → Prop) (ρ : St) (H : Hp) (σ : PSt) (r : R α) (P : α → PSt → Hp → Prop) : Prop := match r with
  | .ok a σ' => ∀ H', Fr (Own σ ρ) H (Own σ' ρ) H' → P a σ' H'
  | .exc c fs σ' => ∀ cls dd H', Fr (Own σ ρ) H (Own σ' ρ) H' → RelSt K cs B H' σ' ρ → ExcR K xc H' (Av B σ' ρ) c fs cls dd → W cls dd ρ H'
  | .bad => False
def VE (cs : Nat → Addr → Prop) (B : Addr → Prop) (H : Hp) (σ' : PSt) (ρ : St) (H' : Hp) (x : Bool × D) (v : V) : Prop :=
  if x.1 = true then ∃ a, v = .ref a ∧ H a = none ∧ RelF K cs B a H' σ' ρ ∧ Top K H' (fun b => (B b ∨ b = a) ∨ Own σ' ρ b) x.2 a
  else RelSt K cs B H' σ' ρ ∧ Rep K H' (Av B σ' ρ) x.2 v
def AgR (B : Addr → Prop) (H : Hp) (σ : PSt) (ρ : St) (a : Ag) (v : V) : Prop := match a with
  | .tmp d => Rep K H (Av B σ ρ) d v
  | .slot i => ρ[i]? = some (some v)
def AgRs (B : Addr → Prop) (H : Hp) (σ : PSt) (ρ : St) : List Ag → List V → Prop
  | [], [] => True
  | a :: as, v :: vs => AgR K B H σ ρ a v ∧ AgRs B H σ ρ as vs
  | _, _ => False
def RepQ (H : Hp) (N : Addr → Prop) (d : D) (v : V) : Prop := Rep K H N d v ∨ ∃ a, v = .ref a ∧ Top K H N d a
def RepQs (H : Hp) (N : Addr → Prop) : List D → List V → Prop
  | [], [] => True
  | d :: ds, v :: vs => RepQ K H N d v ∧ RepQs H N ds vs
  | _, _ => False
abbrev rdE (f : PSt → R (Bool × D)) : TE := fun ρ H Q => ∃ cs B σ, RelSt K cs B H σ ρ ∧ Dn K xc W cs B ρ H σ (f σ) fun x σ' H' => ∀ v, VE K cs B H σ' ρ H' x v → Q v H'
abbrev rdB (f : PSt → R Ag) : TE := fun ρ H Q => ∃ cs B σ, RelSt K cs B H σ ρ ∧ Dn K xc W cs B ρ H σ (f σ) fun x σ' H' => ∀ v, RelSt K cs B H' σ' ρ → AgR K B H' σ' ρ x v → Q v H'
abbrev rdT (f : PSt → R Bool) : TT := fun ρ H Q => ∃ cs B σ, RelSt K cs B H σ ρ ∧ Dn K xc W cs B ρ H σ (f σ) fun x σ' H' => RelSt K cs B H' σ' ρ → Q x H'
abbrev rdEs (f : PSt → R (List D)) : TA := fun ρ H Q => ∃ cs B σ, RelSt K cs B H σ ρ ∧ Dn K xc W cs B ρ H σ (f σ) fun x σ' H' => ∀ vs, RelSt K cs B H' σ' ρ → Reps K H' (Av B σ' ρ) x vs → Q vs H'
abbrev rdBs (f : PSt → R (List Ag)) : TA := fun ρ H Q => ∃ cs B σ, RelSt K cs B H σ ρ ∧ Dn K xc W cs B ρ H σ (f σ) fun x σ' H' => ∀ vs, RelSt K cs B H' σ' ρ → AgRs K B H' σ' ρ x vs → Q vs H'
abbrev rdO (f : PSt → R (Option Int)) : TO := fun ρ H Q => ∃ cs B σ, RelSt K cs B H σ ρ ∧ Dn K xc W cs B ρ H σ (f σ) fun x σ' H' => RelSt K cs B H' σ' ρ → Q x H'
end
section
variable {K : PySem.W.Frag} {xc : Xc} {W : WX} {cs : Nat → Addr → Prop} {B : Addr → Prop} {ρ : St} {H H' H1 : Hp} {σ σ' σ1 : PSt} {α β : Type}
theorem Dn.mono {r : R α} {P P' : α → PSt → Hp → Prop} (h : Dn K xc W cs B ρ H σ r P) (k : ∀ a σ' H', Fr (Own σ ρ) H (Own σ' ρ) H' → P a σ' H' → P' a σ' H') : Dn K xc W cs B ρ H σ r P' := by
  cases r with
  | ok a σ' => exact fun H' f => k a σ' H' f (h H' f)
  | exc c fs σ' => exact h
  | bad => exact h
theorem Dn.after {r : R α} {P : α → PSt → Hp → Prop} (h : Dn K xc W cs B ρ H σ r P) (f : Fr (Own σ ρ) H (Own σ1 ρ) H1) : Dn K xc W cs B ρ H1 σ1 r P := by
  cases r with
  | ok a σ' => exact fun H' g => h H' (f.trans g)
  | exc c fs σ' => exact fun cls dd H' g => h cls dd H' (f.trans g)
  | bad => exact h
theorem Dn.bind {r : R α} {k : α → PSt → R β} {P : β → PSt → Hp → Prop} (h : Dn K xc W cs B ρ H σ (r.bind k) P) : Dn K xc W cs B ρ H σ r fun a σ1 H1 => Dn K xc W cs B ρ H1 σ1 (k a σ1) P := by
  cases r with
  | ok a σ' => exact fun H' f => Dn.after (show Dn K xc W cs B ρ H σ (k a σ') P from h) f
  | exc c fs σ' => exact h
  | bad => exact h
theorem Dn.here {a : α} {P : α → PSt → Hp → Prop} (h : Dn K xc W cs B ρ H σ (.ok a σ) P) : P a σ H := h H .refl
theorem Dn.opt {o : Option α} {k : α → R β} {P : β → PSt → Hp → Prop} (h : Dn K xc W cs B ρ H σ (R.opt o k) P) : ∃ a, o = some a ∧ Dn K xc W cs B ρ H σ (k a) P := by
  cases o with
  | none => exact h.elim
  | some a => exact ⟨a, rfl, h⟩
theorem Dn.ite {c : Bool} {r : R α} {P : α → PSt → Hp → Prop} (h : Dn K xc W cs B ρ H σ (if c then r else .bad) P) : c = true ∧ Dn K xc W cs B ρ H σ r P := by
  cases c with
  | true => exact ⟨rfl, h⟩
  | false => exact h.elim
theorem Dn.nox {r : R α} {P : α → PSt → Hp → Prop} {W' : WX} (h : Dn K xc W cs B ρ H σ r.nox P) : Dn K xc W' cs B ρ H σ r P := by
  cases r with
  | ok a σ' => exact h
  | exc c fs σ' => exact h.elim
  | bad => exact h
theorem VE.val {x : Bool × D} {v : V} (h : VE K cs B H σ' ρ H' x v) : RelSt K cs B H' σ' ρ ∧ Rep K H' (Av B σ' ρ) x.2 v := by
  obtain ⟨f, d⟩ := x
  cases f with
  | false => exact h
  | true =>
    obtain ⟨a, e, hn, F, t⟩ := (show ∃ a, v = .ref a ∧ H a = none ∧ RelF K cs B a H' σ' ρ ∧ Top K H' (fun b => (B b ∨ b = a) ∨ Own σ' ρ b) d a from h)
    subst e
    refine ⟨F.rel.lessB fun b z => .inl z, ?_⟩
    exact (t.carry (fun o z => z) (reps_mono fun b z => z.elim (fun q => .inl (.inl q)) .inr)).rep fun z => z.elim F.out fun q => F.rel.bown a (.inr rfl) q
theorem VE.of {d : D} {v : V} (R : RelSt K cs B H' σ' ρ) (r : Rep K H' (Av B σ' ρ) d v) : VE K cs B H σ' ρ H' (false, d) v := ⟨R, r⟩
theorem AgR.mono {a : Ag} {v : V} (f : Fr (Own σ ρ) H (Own σ' ρ) H') (ok : OwnOk (Own σ ρ) H) (h : AgR K B H σ ρ a v) : AgR K B H' σ' ρ a v := by
  cases a with
  | tmp d => exact f.rep ok h
  | slot i => exact h
theorem AgRs.mono (f : Fr (Own σ ρ) H (Own σ' ρ) H') (ok : OwnOk (Own σ ρ) H) : ∀ {as : List Ag} {vs : List V}, AgRs K B H σ ρ as vs → AgRs K B H' σ' ρ as vs
  | [], [], _ => trivial
  | a :: as, v :: vs, h => ⟨h.1.mono f ok, AgRs.mono f ok h.2⟩
  | [], _ :: _, h => h.elim
  | _ :: _, [], h => h.elim
theorem AgR.repq {a : Ag} {v : V} {d : D} (R : RelSt K cs B H σ ρ) (h : AgR K B H σ ρ a v) (e : a.get σ = some d) : RepQ K H (Av B σ ρ) d v := by
  cases a with
  | tmp d' => cases e; exact .inl h
  | slot i =>
    have e' : slotD σ i = some d := e
    unfold slotD at e'
    split at e'
    · rename_i md d' hs
      cases e'
      obtain ⟨v', h1, h2⟩ := R.slot i md d hs
      have hv : ρ[i]? = some (some v) := h
      rw [hv] at h1; cases h1
      cases md with
      | val => exact .inl h2
      | bor =>
        rcases h2 with h2 | ⟨a, e, _, t⟩
        · exact .inl h2
        · exact .inr ⟨a, e, t⟩
      | own => obtain ⟨a, e, t⟩ := h2; exact .inr ⟨a, e, t⟩
      | chg => obtain ⟨a, e, t⟩ := h2; exact .inr ⟨a, e, t⟩
    · cases e'
theorem AgRs.repqs (R : RelSt K cs B H σ ρ) : ∀ {as : List Ag} {vs : List V} {ds : List D}, AgRs K B H σ ρ as vs → Ag.gets σ as = some ds → RepQs K H (Av B σ ρ) ds vs
  | [], [], ds, _, e => by cases e; trivial
  | a :: as, v :: vs, ds, h, e => by
    unfold Ag.gets at e
    split at e
    · rename_i d ds' e1 e2
      cases e
      exact ⟨h.1.repq R e1, AgRs.repqs R h.2 e2⟩
    · cases e
  | [], _ :: _, _, h, _ => h.elim
  | _ :: _, [], _, h, _ => h.elim
theorem RepQs.length : ∀ {ds : List D} {vs : List V} {N : Addr → Prop}, RepQs K H N ds vs → ds.length = vs.length
  | [], [], _, _ => rfl
  | _ :: _, _ :: _, _, h => by simp [RepQs.length h.2]
  | [], _ :: _, _, h => h.elim
  | _ :: _, [], _, h => h.elim
theorem RepQ.rep_of {N : Addr → Prop} {d : D} {v : V} (h : RepQ K H N d v) (n : ∀ ds, d ≠ .lst ds) : Rep K H N d v := by
  rcases h with h | ⟨a, e, t⟩
  · exact h
  · cases d with
    | lst ds => exact absurd rfl (n ds)
    | _ => exact t.elim
theorem RepQ.lst {N : Addr → Prop} {ds : List D} {v : V} (h : RepQ K H N (.lst ds) v) : ∃ a vs, v = .ref a ∧ H a = some (.lst vs) ∧ Reps K H N ds vs := by
  rcases h with h | ⟨a, e, vs, h1, h2⟩
  · cases h with
    | lst n e r => exact ⟨_, _, rfl, e, r⟩
  · exact ⟨a, vs, e, h1, h2⟩
def ResR (K : PySem.W.Frag) (H : Hp) (N : Addr → Prop) (H' : Hp) (x : Bool × D) (v : V) : Prop :=
  if x.1 = true then ∃ a, v = .ref a ∧ H a = none ∧ Top K H' (fun b => N b ∨ b = a) x.2 a else Rep K H' N x.2 v
def OpP (K : PySem.W.Frag) (H : Hp) (N : Addr → Prop) (x : Bool × D) (Q : VK) : Prop := ∀ v H', (∀ b o, H b = some o → H' b = some o) → ResR K H N H' x v → Q v H'
theorem OpP.val {N : Addr → Prop} {d : D} {Q : VK} {v : V} (h : OpP K H N (false, d) Q) (r : Rep K H N d v) : Q v H := h v H (fun _ _ e => e) r
theorem OpP.new {N : Addr → Prop} {ds : List D} {Q : VK} {vs : List V} (h : OpP K H N (true, .lst ds) Q) (r : Reps K H N ds vs) : ∀ p, H p = none → Q (.ref p) (upd H p (.lst vs)) := fun p hp =>
  h _ _ (fun b o e => by rw [upd_ne (ne_of_none e hp)]; exact e) ⟨p, rfl, hp, vs, upd_same, reps_same1 hp (fun b o e => by rw [upd_ne (ne_of_none e hp)]; exact e) r⟩
theorem Fr.same {A : Addr → Prop} (k : ∀ b o, H b = some o → H' b = some o) : Fr A H A H' := ⟨fun b o e _ => k b o e, fun _ z => .inl z, fun b z => by
  cases e : H b with
  | none => exact absurd e z
  | some o => rw [k b o e]; simp⟩
theorem op_end {x : Bool × D} {Q : VK} (R : RelSt K cs B H σ ρ) (h : Dn K xc W cs B ρ H σ (.ok x σ) fun x σ' H' => ∀ v, VE K cs B H1 σ' ρ H' x v → Q v H') (hf : ∀ a, H a = none → H1 a = none) : OpP K H (Av B σ ρ) x Q := by
  intro v H' k r
  refine h H' (.same k) v ?_
  obtain ⟨f, d⟩ := x
  cases f with
  | false => exact ⟨R.same k, r⟩
  | true =>
    obtain ⟨a, e, hn, t⟩ := (show ∃ a, v = .ref a ∧ H a = none ∧ Top K H' (fun b => Av B σ ρ b ∨ b = a) d a from r)
    obtain ⟨o, eo, _⟩ := t.muto
    refine ⟨a, e, hf a hn, R.moreB k hn (by rw [eo]; simp), t.carry (fun o z => z) (reps_mono fun b z => ?_)⟩
    rcases z with (z | z) | z
    · exact .inl (.inl z)
    · exact .inr z
    · exact .inl (.inr z)
theorem Fr.none {A A' : Addr → Prop} (f : Fr A H A' H') (a : Addr) (h : H' a = none) : H a = none := by
  cases e : H a with
  | none => rfl
  | some o => exact absurd h (f.trk a (by rw [e]; simp))
end
end Pu
namespace Pu
open PySem PySem.Spec PyProof.Rows L2
open TL (tl ext_tl tl_append)
def pyB : BinO → Operator
  | .add => .Add | .sub => .Sub | .mul => .Mult | .fdv => .FloorDiv | .mod => .Mod | .pow => .Pow
def pyC : CmpO → CmpOp
  | .eq => .Eq | .ne => .NotEq | .lt => .Lt | .le => .LtE | .gt => .Gt | .ge => .GtE | .isin => .In | .nin => .NotIn | .is => .Is | .isnot => .IsNot
section
variable {K : PySem.W.Frag} {H : Hp} {N : Addr → Prop}
theorem RepQ.int {i : Int} {v : V} (h : RepQ K H N (.int i) v) : v = .int i := by
  cases h.rep_of (fun _ e => by cases e)
  rfl
theorem RepQ.str {l : List Nat} {v : V} (h : RepQ K H N (.str l) v) : v = .str (mkS l) := by
  cases h.rep_of (fun _ e => by cases e)
  rfl
theorem RepQ.bl {b : Bool} {v : V} (h : RepQ K H N (.bl b) v) : v = .bl b := by
  cases h.rep_of (fun _ e => by cases e)
  rfl
theorem RepQ.non {v : V} (h : RepQ K H N .non v) : v = .non := by
  cases h.rep_of (fun _ e => by cases e)
  rfl
theorem RepQ.ty {n : String} {v : V} (h : RepQ K H N (.ty n) v) : v = .ty n := by
  cases h.rep_of (fun _ e => by cases e)
  rfl
theorem RepQ.tup {ds : List D} {v : V} (h : RepQ K H N (.tup ds) v) : ∃ a vs, v = .ref a ∧ SqT K H a vs ∧ Reps K H N ds vs := by
  cases h.rep_of (fun _ e => by cases e) with
  | tup e r => exact ⟨_, _, rfl, e, r⟩
theorem RepQ.frl {ds : List D} {v : V} (h : RepQ K H N (.frl ds) v) : ∃ a vs, v = .ref a ∧ SqF K H a vs ∧ Reps K H N ds vs := by
  cases h.rep_of (fun _ e => by cases e) with
  | frl e r => exact ⟨_, _, rfl, e, r⟩
theorem RepQ.sql {ds : List D} {v : V} (h : RepQ K H N (.lst ds) v) : ∃ a vs, v = .ref a ∧ SqL K H a vs ∧ Reps K H N ds vs := by
  obtain ⟨a, vs, e, h1, h2⟩ := h.lst
  exact ⟨a, vs, e, .of h1, h2⟩
end
theorem szB_le {n : Nat} (h : szB n = true) : n ≤ sizeLine := by rw [sizeLine_eq]; exact of_decide_eq_true h
theorem seqB_lt {n : Nat} (h : seqB n = true) : n < sizeLine := by rw [sizeLine_eq]; exact of_decide_eq_true h
section
variable {X : Cx}
theorem intBits_le {a : Int} {n : Nat} (h : a.natAbs < 2 ^ n) (hn : 0 < n) : Builtin.Int.intBits a ≤ n := by
  unfold Builtin.Int.intBits
  split
  · omega
  · rename_i h0
    have h0' : a.natAbs ≠ 0 := by
      intro z
      have : a = 0 := Int.natAbs_eq_zero.mp z
      subst this
      exact h0 rfl
    have := (Nat.log2_lt h0').mpr h
    omega
theorem op_powP : OpR X (binaryOp .Pow) (rI (fun i j => powB i j = true) fun i j => .int (i ^ j.toNat)) := opI fun i j _ _ _ _ _ hc q => by
  unfold powB at hc
  rw [Bool.and_eq_true, Bool.and_eq_true, decide_eq_true_eq, decide_eq_true_eq, decide_eq_true_eq] at hc
  obtain ⟨⟨h1, h2⟩, h3⟩ := hc
  refine pow_int h1 ?_ q
  have hb := intBits_le h3 (by decide)
  have : (Builtin.Int.intBits i : Int) * j ≤ 200 * 1000 := by
    have hb' : (Builtin.Int.intBits i : Int) ≤ 200 := by omega
    exact Int.mul_le_mul hb' h2 h1 (by decide)
  have e : (2 : Int) ^ 27 = 134217728 := by decide
  rw [e]; omega
theorem op_mulS : OpR X (binaryOp .Mult) (fun x y H Q => ∃ (z : Str) (k : Int), x = .str z ∧ y = .int k ∧ -(2 ^ 63) ≤ k ∧ k < 2 ^ 63 ∧ z.length * k.toNat ≤ sizeLine ∧ Q (.str ⟨(List.replicate k.toNat z.cps.toList).flatten.toArray⟩) H) := by
  intro pins s σ H x y v u Q I rx ry h
  obtain ⟨z, k, rfl, rfl, h1, h2, h3, q⟩ := h
  obtain ⟨t, rfl⟩ := rx
  obtain ⟨t', rfl⟩ := ry
  have hs : sizeLine = 16777216 := sizeLine_eq
  have hf : ∀ (m : Nat) (acc : Array Nat), (List.replicate m z.cps).foldl (· ++ ·) acc = acc ++ (List.replicate m z.cps.toList).flatten.toArray := fun m => by
    induction m with
    | zero => intro acc; simp
    | succ m ih =>
      intro acc
      rw [List.replicate_succ, List.foldl_cons, ih, List.replicate_succ, List.flatten_cons]
      apply Array.ext'
      simp
  refine PySem.P.mul_str ?_ (fun h0 _ => ?_) (fun h0 _ => ?_) ?_
  · rw [decide_eq_false (by omega), decide_eq_false (by omega)]; rfl
  · have hk : (0 : Int) < k := by omega
    intro hgt
    have h4 : (z.length : Int) * k ≤ 16777216 := by
      have e1 : ((z.length * k.toNat : Nat) : Int) = (z.length : Int) * k := by
        rw [Int.natCast_mul, Int.toNat_of_nonneg (by omega)]
      rw [← e1]; omega
    have h5 : (z.length : Int) ≤ (2 ^ 63 - 1) / k := (Int.le_ediv_iff_mul_le hk).mpr (Int.le_trans h4 (by decide))
    omega
  · have := notLongL h3
    unfold Builtin.List.listTooLong at this
    exact this
  · by_cases c1 : k < 1
    · rw [if_pos c1]
      have e : k.toNat = 0 := by omega
      rw [e] at q
      exact ⟨by decide, .str Str.empty, H, I.tok _, ⟨_, rfl⟩, q⟩
    · rw [if_neg c1]
      by_cases c2 : (k == 1 || z.length == 0) = true
      · rw [if_pos c2]
        have e : (⟨(List.replicate k.toNat z.cps.toList).flatten.toArray⟩ : Str) = z := by
          rw [Bool.or_eq_true] at c2
          rcases c2 with c2 | c2
          · have : k = 1 := by simpa using c2
            subst this
            simp
          · have : z.cps = #[] := by
              have : z.cps.size = 0 := by simpa [Str.length] using c2
              exact Array.eq_empty_of_size_eq_zero this
            obtain ⟨cps⟩ := z
            simp only at this
            subst this
            simp
        rw [e] at q
        exact ⟨.str z, H, I, ⟨t, rfl⟩, q⟩
      · rw [if_neg c2, hf]
        refine ⟨?_, .str _, H, I.tok _, ⟨_, rfl⟩, ?_⟩
        · show (#[] ++ (List.replicate k.toNat z.cps.toList).flatten.toArray).size ≤ sizeLine
          simp only [Array.empty_append, List.size_toArray, lm_len_rep_flat]
          rw [Nat.mul_comm]
          exact h3
        · simpa using q
def rBin (K : PySem.W.Frag) (o : BinO) : R2 := fun x y H Q => ∃ N d1 d2 r, RepQ K H N d1 x ∧ RepQ K H N d2 y ∧ semBin o d1 d2 = some r ∧ OpP K H N r Q
theorem bin_ok (o : BinO) : OpR X (binaryOp (pyB o)) (rBin X.K o) := by
  intro pins s σ H x y v u Q I rx ry ⟨N, d1, d2, r, h1, h2, e, p⟩
  unfold semBin at e
  split at e
  · cases e
    obtain rfl := h1.int; obtain rfl := h2.int
    exact op_add pins s σ H _ _ v u Q I rx ry ⟨_, _, rfl, rfl, p.val (.int _)⟩
  · split at e
    · rename_i hz
      cases e
      obtain rfl := h1.str; obtain rfl := h2.str
      refine op_add_str pins s σ H _ _ v u Q I rx ry ⟨_, _, rfl, rfl, ?_, ?_⟩
      · rw [mkS_len, mkS_len]; exact szB_le hz
      · rw [mkS_app]; exact p.val (.str _)
    · cases e
  · split at e
    · rename_i hz
      cases e
      obtain ⟨a, vs, rfl, e1, r1⟩ := h1.lst
      obtain ⟨b, ws, rfl, e2, r2⟩ := h2.lst
      refine op_cat pins s σ H _ _ v u Q I rx ry ⟨a, b, vs, ws, rfl, rfl, e1, e2, ?_, p.new (r1.append r2)⟩
      rw [← r1.length, ← r2.length]; exact szB_le hz
    · cases e
  · cases e
    obtain rfl := h1.int; obtain rfl := h2.int
    exact op_sub pins s σ H _ _ v u Q I rx ry ⟨_, _, rfl, rfl, p.val (.int _)⟩
  · split at e
    · rename_i hz
      cases e
      obtain rfl := h1.int; obtain rfl := h2.int
      refine op_mul pins s σ H _ _ v u Q I rx ry ⟨_, _, rfl, rfl, ?_, p.val (.int _)⟩
      unfold mulB at hz
      simpa [CMul, Bool.or_eq_true, Bool.and_eq_true] using hz
    · cases e
  · split at e
    · rename_i hz
      cases e
      obtain rfl := h1.str; obtain rfl := h2.int
      rw [Bool.and_eq_true, Bool.and_eq_true, decide_eq_true_eq, decide_eq_true_eq] at hz
      refine op_mulS pins s σ H _ _ v u Q I rx ry ⟨_, _, rfl, rfl, hz.1.1, hz.1.2, ?_, ?_⟩
      · rw [mkS_len]; exact szB_le hz.2
      · exact p.val (.str _)
    · cases e
  · split at e
    · rename_i hz
      cases e
      obtain ⟨a, vs, rfl, e1, r1⟩ := h1.lst
      obtain rfl := h2.int
      rw [Bool.and_eq_true, Bool.and_eq_true, decide_eq_true_eq, decide_eq_true_eq] at hz
      refine op_rep pins s σ H _ _ v u Q I rx ry ⟨a, _, vs, rfl, rfl, e1, hz.1.1, hz.1.2, ?_, p.new (r1.rep _)⟩
      rw [← r1.length]; exact szB_le hz.2
    · cases e
  · split at e
    · rename_i hz
      cases e
      obtain rfl := h1.int; obtain rfl := h2.int
      unfold divB at hz
      rw [Bool.and_eq_true, decide_eq_true_eq, decide_eq_true_eq] at hz
      refine op_fdivW pins s σ H _ _ v u Q I rx ry ⟨_, _, rfl, rfl, wide_div (b := 200) hz.1 ?_ (by decide) (by decide), p.val (.int _)⟩
      have := hz.2
      omega
    · cases e
  · split at e
    · rename_i hz
      cases e
      obtain rfl := h1.int; obtain rfl := h2.int
      exact op_mod pins s σ H _ _ v u Q I rx ry ⟨_, _, rfl, rfl, of_decide_eq_true hz, p.val (.int _)⟩
    · cases e
  · split at e
    · rename_i hz
      cases e
      obtain rfl := h1.int; obtain rfl := h2.int
      exact op_powP pins s σ H _ _ v u Q I rx ry ⟨_, _, rfl, rfl, hz, p.val (.int _)⟩
    · cases e
  · cases e
mutual
theorem shp_py : ∀ (d : D) (n : Nat), shp d n = true → ∃ p, toPy d = some p ∧ p.canLay0 = true ∧ p.depth ≤ n
  | .non, n, _ => ⟨_, rfl, rfl, by simp [PyData.depth]⟩
  | .bl b, n, _ => ⟨_, rfl, rfl, by simp [PyData.depth]⟩
  | .int i, n, _ => ⟨_, rfl, rfl, by simp [PyData.depth]⟩
  | .str l, n, h => ⟨_, rfl, by
      have h' : l.all (· < 1114112) = true := h
      simp only [PyData.canLay0, PyData.strOk]
      rw [← Array.all_toList]
      exact h', by simp [PyData.depth]⟩
  | .tup ds, 0, h => by cases h
  | .tup ds, n + 1, h => by
    obtain ⟨ps, h1, h2, h3⟩ := shps_py ds n h
    refine ⟨.tuple ps, by simp [toPy, h1], by simpa [PyData.canLay0] using h2, by simp only [PyData.depth]; omega⟩
  | .lst ds, 0, h => by cases h
  | .lst ds, n + 1, h => by
    obtain ⟨ps, h1, h2, h3⟩ := shps_py ds n h
    refine ⟨.list ps, by simp [toPy, h1], by simpa [PyData.canLay0] using h2, by simp only [PyData.depth]; omega⟩
  | .frl _, _, h => by cases h
  | .ty _, _, h => by cases h
  | .dic _, _, h => by cases h
  | .obj _ _, _, h => by cases h
  | .exn _ _, _, h => by cases h
theorem shps_py : ∀ (ds : List D) (n : Nat), shps ds n = true → ∃ ps, toPys ds = some ps ∧ PyData.canLayAll0 ps = true ∧ PyData.depthAll ps ≤ n
  | [], n, _ => ⟨[], rfl, rfl, by simp [PyData.depthAll]⟩
  | d :: ds, n, h => by
    have h' : (shp d n && shps ds n) = true := h
    rw [Bool.and_eq_true] at h'
    obtain ⟨p, h1, h2, h3⟩ := shp_py d n h'.1
    obtain ⟨ps, h4, h5, h6⟩ := shps_py ds n h'.2
    refine ⟨p :: ps, by simp [toPys, h1, h4], by simp [PyData.canLayAll0, h2, h5], by simp only [PyData.depthAll]; omega⟩
end
mutual
theorem eqD_py : ∀ (a b : D) (p q : PyData), toPy a = some p → toPy b = some q → eqD a b = PyData.eqv p q
  | .non, b, p, q, h1, h2 => by
    cases h1
    cases b with
    | non => cases h2; rfl
    | bl _ => cases h2; rfl
    | int _ => cases h2; rfl
    | str _ => cases h2; rfl
    | tup ds => obtain ⟨ps, e, rfl⟩ := Option.map_eq_some_iff.mp (show (toPys ds).map PyData.tuple = some q from h2); rfl
    | lst ds => obtain ⟨ps, e, rfl⟩ := Option.map_eq_some_iff.mp (show (toPys ds).map PyData.list = some q from h2); rfl
    | _ => cases h2
  | .bl x, b, p, q, h1, h2 => by
    cases h1
    cases b with
    | non => cases h2; rfl
    | bl _ => cases h2; rfl
    | int _ => cases h2; rfl
    | str _ => cases h2; rfl
    | tup ds => obtain ⟨ps, e, rfl⟩ := Option.map_eq_some_iff.mp (show (toPys ds).map PyData.tuple = some q from h2); rfl
    | lst ds => obtain ⟨ps, e, rfl⟩ := Option.map_eq_some_iff.mp (show (toPys ds).map PyData.list = some q from h2); rfl
    | _ => cases h2
  | .int x, b, p, q, h1, h2 => by
    cases h1
    cases b with
    | non => cases h2; rfl
    | bl _ => cases h2; rfl
    | int _ => cases h2; rfl
    | str _ => cases h2; rfl
    | tup ds => obtain ⟨ps, e, rfl⟩ := Option.map_eq_some_iff.mp (show (toPys ds).map PyData.tuple = some q from h2); rfl
    | lst ds => obtain ⟨ps, e, rfl⟩ := Option.map_eq_some_iff.mp (show (toPys ds).map PyData.list = some q from h2); rfl
    | _ => cases h2
  | .str x, b, p, q, h1, h2 => by
    cases h1
    cases b with
    | non => cases h2; rfl
    | bl _ => cases h2; rfl
    | int _ => cases h2; rfl
    | str y =>
      cases h2
      show (x == y) = (mkS x == mkS y)
      rw [Bool.eq_iff_iff, beq_iff_eq, beq_iff_eq]
      exact ⟨fun e => by rw [e], mkS_inj⟩
    | tup ds => obtain ⟨ps, e, rfl⟩ := Option.map_eq_some_iff.mp (show (toPys ds).map PyData.tuple = some q from h2); rfl
    | lst ds => obtain ⟨ps, e, rfl⟩ := Option.map_eq_some_iff.mp (show (toPys ds).map PyData.list = some q from h2); rfl
    | _ => cases h2
  | .tup xs, b, p, q, h1, h2 => by
    obtain ⟨ps, e1, rfl⟩ := Option.map_eq_some_iff.mp (show (toPys xs).map PyData.tuple = some p from h1)
    cases b with
    | non => cases h2; rfl
    | bl _ => cases h2; rfl
    | int _ => cases h2; rfl
    | str _ => cases h2; rfl
    | tup ds =>
      obtain ⟨qs, e2, rfl⟩ := Option.map_eq_some_iff.mp (show (toPys ds).map PyData.tuple = some q from h2)
      exact eqDs_py xs ds ps qs e1 e2
    | lst ds => obtain ⟨ps, e, rfl⟩ := Option.map_eq_some_iff.mp (show (toPys ds).map PyData.list = some q from h2); rfl
    | _ => cases h2
  | .lst xs, b, p, q, h1, h2 => by
    obtain ⟨ps, e1, rfl⟩ := Option.map_eq_some_iff.mp (show (toPys xs).map PyData.list = some p from h1)
    cases b with
    | non => cases h2; rfl
    | bl _ => cases h2; rfl
    | int _ => cases h2; rfl
    | str _ => cases h2; rfl
    | tup ds => obtain ⟨ps, e, rfl⟩ := Option.map_eq_some_iff.mp (show (toPys ds).map PyData.tuple = some q from h2); rfl
    | lst ds =>
      obtain ⟨qs, e2, rfl⟩ := Option.map_eq_some_iff.mp (show (toPys ds).map PyData.list = some q from h2)
      exact eqDs_py xs ds ps qs e1 e2
    | _ => cases h2
  | .frl _, _, _, _, h, _ => by cases h
  | .ty _, _, _, _, h, _ => by cases h
  | .dic _, _, _, _, h, _ => by cases h
  | .obj _ _, _, _, _, h, _ => by cases h
  | .exn _ _, _, _, _, h, _ => by cases h
theorem eqDs_py : ∀ (xs ys : List D) (ps qs : List PyData), toPys xs = some ps → toPys ys = some qs → eqDs xs ys = PyData.eqvAll ps qs
  | [], ys, ps, qs, h1, h2 => by
    cases h1
    cases ys with
    | nil => cases h2; rfl
    | cons y ys =>
      unfold toPys at h2
      split at h2
      · cases h2; rfl
      · cases h2
  | x :: xs, ys, ps, qs, h1, h2 => by
    unfold toPys at h1
    split at h1
    · rename_i p ps' e1 e2
      cases h1
      cases ys with
      | nil => cases h2; rfl
      | cons y ys =>
        unfold toPys at h2
        split at h2
        · rename_i q qs' e3 e4
          cases h2
          show (eqD x y && eqDs xs ys) = PyData.eqvAll (p :: ps') (q :: qs')
          rw [PyData.eqvAll, eqD_py x y p q e1 e3, eqDs_py xs ys ps' qs' e2 e4]
        · cases h2
    · cases h1
end
section
variable {K : PySem.W.Frag} {H : Hp} {N : Addr → Prop}
mutual
theorem Rep.dp : ∀ (d : D) (v : V) (p : PyData), Rep K H N d v → toPy d = some p → Dp K H v p
  | .non, v, p, r, h => by cases h; cases r; exact .non
  | .bl b, v, p, r, h => by cases h; cases r; exact .bl b
  | .int i, v, p, r, h => by cases h; cases r; exact .int i
  | .str l, v, p, r, h => by cases h; cases r; exact .str _
  | .tup ds, v, p, r, h => by
    obtain ⟨ps, e, rfl⟩ := Option.map_eq_some_iff.mp (show (toPys ds).map PyData.tuple = some p from h)
    cases r with
    | tup h1 h2 => exact .tup h1 (Reps.dps ds _ ps h2 e)
  | .lst ds, v, p, r, h => by
    obtain ⟨ps, e, rfl⟩ := Option.map_eq_some_iff.mp (show (toPys ds).map PyData.list = some p from h)
    cases r with
    | lst h0 h1 h2 => exact .lst (.of h1) (Reps.dps ds _ ps h2 e)
  | .frl _, _, _, _, h => by cases h
  | .ty _, _, _, _, h => by cases h
  | .dic _, _, _, _, h => by cases h
  | .obj _ _, _, _, _, h => by cases h
  | .exn _ _, _, _, _, h => by cases h
theorem Reps.dps : ∀ (ds : List D) (vs : List V) (ps : List PyData), Reps K H N ds vs → toPys ds = some ps → DpAll K H vs ps
  | [], vs, ps, r, h => by cases h; cases r; exact .nil
  | d :: ds, vs, ps, r, h => by
    unfold toPys at h
    split at h
    · rename_i p ps' e1 e2
      cases h
      cases r with
      | cons r1 r2 => exact .cons (Rep.dp d _ p r1 e1) (Reps.dps ds _ ps' r2 e2)
    · cases h
end
theorem RepQ.dp {d : D} {v : V} {p : PyData} (r : RepQ K H N d v) (h : toPy d = some p) : Dp K H v p := by
  rcases r with r | ⟨a, e, t⟩
  · exact Rep.dp d v p r h
  · cases d with
    | lst ds =>
      obtain ⟨vs, h1, h2⟩ := t
      obtain ⟨ps, e2, rfl⟩ := Option.map_eq_some_iff.mp (show (toPys ds).map PyData.list = some p from h)
      rw [e]
      exact .lst (.of h1) (Reps.dps ds _ ps h2 e2)
    | _ => exact t.elim
theorem shp_shaped {d : D} (h : shp d 60 = true) : ∃ p, toPy d = some p ∧ SeqAt.shaped p = true := by
  obtain ⟨p, h1, h2, h3⟩ := shp_py d 60 h
  refine ⟨p, h1, ?_⟩
  unfold SeqAt.shaped
  rw [h2, decide_eq_true (by omega)] <;> rfl
end
def rCmp (K : PySem.W.Frag) (o : CmpO) : R2 := fun x y H Q => ∃ N d1 d2 r, RepQ K H N d1 x ∧ RepQ K H N d2 y ∧ semCmp o d1 d2 = some r ∧ Q (.bl r) H
theorem strLt (x y : List Nat) : decide ((mkS x).cps.toList < (mkS y).cps.toList) = ltL x y := rfl
theorem any_eqv {ds : List D} {ps : List PyData} {d : D} {p : PyData} (hd : toPy d = some p) (h : toPys ds = some ps) : (ps.any fun z => PyData.eqv z p) = ds.any fun z => eqD z d := by
  induction ds generalizing ps with
  | nil => cases h; rfl
  | cons a ds ih =>
    unfold toPys at h
    split at h
    · rename_i q qs e1 e2
      cases h
      rw [List.any_cons, List.any_cons, ih e2, eqD_py a d q p e1 hd]
    · cases h
theorem inD_py {K : PySem.W.Frag} {H : Hp} {N : Addr → Prop} {d : D} {ds : List D} {x y : V} {r : Bool} (h1 : RepQ K H N d x) (h2 : RepQ K H N (.lst ds) y) (e : inD d ds = some r) :
    ∃ p ps, Dp K H x p ∧ Dp K H y (.list ps) ∧ SeqAt.shaped p = true ∧ SeqAt.shaped (.list ps) = true ∧ (ps.any fun z => PyData.eqv z p) = r := by
  unfold inD at e
  split at e
  · rename_i hz
    cases e
    rw [Bool.and_eq_true] at hz
    obtain ⟨p1, e1, s1⟩ := shp_shaped hz.1
    obtain ⟨p2, e2, s2⟩ := shp_shaped (d := .lst ds) hz.2
    obtain ⟨ps, e3, rfl⟩ := Option.map_eq_some_iff.mp (show (toPys ds).map PyData.list = some p2 from e2)
    exact ⟨p1, ps, h1.dp e1, h2.dp e2, s1, s2, any_eqv e1 e3⟩
  · cases e
theorem isNon_q {K : PySem.W.Frag} {H : Hp} {N : Addr → Prop} {d : D} {x : V} (h : RepQ K H N d x) : decide (x = .non) = isNon d := by
  rcases h with h | ⟨a, rfl, t⟩
  · cases h <;> rfl
  · cases d with
    | lst ds => rfl
    | _ => exact t.elim
theorem cmp_ok (o : CmpO) {k : Nat} (hr : Room k X.A) : OpR X (compareOp (pyC o)) (rCmp X.K o) := by
  intro pins s σ H x y v u Q I rx ry ⟨N, d1, d2, r, h1, h2, e, q⟩
  have hu : X.A.units + 64 < cLine := hr.units
  have hu2 : X.A.units + 65 < cLine := by have := hr.un; omega
  have eqs : ∀ (l m : List Nat), decide (V.str (mkS l) = V.str (mkS m)) = (l == m) := fun l m => by
    rw [Bool.eq_iff_iff, decide_eq_true_eq, beq_iff_eq]
    exact ⟨fun z => mkS_inj (V.str.inj z), fun z => by rw [z]⟩
  unfold semCmp at e
  split at e
  · cases e
    obtain rfl := h1.str; obtain rfl := h2.str
    refine op_eq pins s σ H _ _ v u Q I rx ry ⟨rfl, ?_⟩
    rw [eqs]; exact q
  · cases e
    obtain rfl := h1.str; obtain rfl := h2.str
    refine op_ne pins s σ H _ _ v u Q I rx ry ⟨rfl, ?_⟩
    rw [eqs]; exact q
  · split at e
    · rename_i hz
      cases e
      rw [Bool.and_eq_true] at hz
      obtain ⟨p1, e1, s1⟩ := shp_shaped hz.1
      obtain ⟨p2, e2, s2⟩ := shp_shaped hz.2
      refine op_eqD hu pins s σ H _ _ v u Q I rx ry ⟨p1, p2, h1.dp e1, h2.dp e2, s1, s2, ?_⟩
      rw [← eqD_py _ _ _ _ e1 e2]; exact q
    · cases e
  · split at e
    · rename_i hz
      cases e
      rw [Bool.and_eq_true] at hz
      obtain ⟨p1, e1, s1⟩ := shp_shaped hz.1
      obtain ⟨p2, e2, s2⟩ := shp_shaped hz.2
      refine op_neD hu pins s σ H _ _ v u Q I rx ry ⟨p1, p2, h1.dp e1, h2.dp e2, s1, s2, ?_⟩
      rw [← eqD_py _ _ _ _ e1 e2]; exact q
    · cases e
  · cases e
    obtain rfl := h1.int; obtain rfl := h2.int
    exact op_lt pins s σ H _ _ v u Q I rx ry ⟨_, _, rfl, rfl, q⟩
  · cases e
    obtain rfl := h1.int; obtain rfl := h2.int
    exact op_le pins s σ H _ _ v u Q I rx ry ⟨_, _, rfl, rfl, q⟩
  · cases e
    obtain rfl := h1.int; obtain rfl := h2.int
    exact op_gt pins s σ H _ _ v u Q I rx ry ⟨_, _, rfl, rfl, q⟩
  · cases e
    obtain rfl := h1.int; obtain rfl := h2.int
    exact op_ge pins s σ H _ _ v u Q I rx ry ⟨_, _, rfl, rfl, q⟩
  · cases e
    obtain rfl := h1.str; obtain rfl := h2.str
    exact op_lt_str pins s σ H _ _ v u Q I rx ry ⟨_, _, rfl, rfl, q⟩
  · cases e
    obtain rfl := h1.str; obtain rfl := h2.str
    exact op_gt_str pins s σ H _ _ v u Q I rx ry ⟨_, _, rfl, rfl, q⟩
  · cases e
    obtain rfl := h1.str; obtain rfl := h2.str
    exact op_le_str pins s σ H _ _ v u Q I rx ry ⟨_, _, rfl, rfl, q⟩
  · cases e
    obtain rfl := h1.str; obtain rfl := h2.str
    exact op_ge_str pins s σ H _ _ v u Q I rx ry ⟨_, _, rfl, rfl, q⟩
  · cases e
    obtain rfl := h1.str; obtain rfl := h2.str
    exact op_in_sign pins s σ H _ _ v u Q I rx ry ⟨_, _, rfl, rfl, q⟩
  · cases e
    obtain rfl := h1.str; obtain rfl := h2.str
    exact op_notIn_sign pins s σ H _ _ v u Q I rx ry ⟨_, _, rfl, rfl, q⟩
  · obtain ⟨p1, ps, g1, g2, s1, s2, g3⟩ := inD_py h1 h2 e
    rw [← g3] at q
    exact op_inD hu2 pins s σ H _ _ v u Q I rx ry ⟨p1, ps, g1, g2, s1, s2, q⟩
  · obtain ⟨b, e', rfl⟩ := Option.map_eq_some_iff.mp e
    obtain ⟨p1, ps, g1, g2, s1, s2, g3⟩ := inD_py h1 h2 e'
    rw [← g3] at q
    exact op_notInD hu2 pins s σ H _ _ v u Q I rx ry ⟨p1, ps, g1, g2, s1, s2, q⟩
  · cases e
    obtain rfl := h2.non
    refine op_isN pins s σ H _ _ v u Q I rx ry ⟨rfl, ?_⟩
    rw [isNon_q h1]; exact q
  · cases e
    obtain rfl := h2.non
    refine op_notN pins s σ H _ _ v u Q I rx ry ⟨rfl, ?_⟩
    rw [isNon_q h1]; exact q
  · cases e
end
end Pu
namespace Pu
open PySem PySem.Spec PyProof.Rows L2
open TL (tl ext_tl tl_append)
section
variable {X : Cx}
theorem ixD_eq (n : Nat) (i : Int) : L2.ixN n i = ixD n i := rfl
def rIdx (K : PySem.W.Frag) : R2 := fun x y H Q => ∃ N d1 d2 r, RepQ K H N d1 x ∧ RepQ K H N d2 y ∧ semIdx d1 d2 = some r ∧ ∀ v, Rep K H N r v → Q v H
theorem idx_ok : IxR X (rIdx X.K) := by
  intro value slice pins s σ H x y v u Q I rx ry ⟨N, d1, d2, r, h1, h2, e, q⟩ hs
  have at1 : ∀ {ds : List D} {vs : List V} {i : Int} {j : Nat} {w : V}, ds.length = vs.length → ixD ds.length i = some j → vs[j]? = some w → atI vs i = some w := fun hl hj hw => by
    unfold atI
    rw [ixD_eq, ← hl, hj]
    exact hw
  unfold semIdx at e
  split at e
  · obtain ⟨j, hj, hd⟩ := Option.bind_eq_some_iff.mp e
    obtain ⟨a, vs, rfl, e1, r1⟩ := h1.lst
    obtain rfl := h2.int
    obtain ⟨w, hw, rw1⟩ := r1.get hd
    exact ix_seq value slice pins s σ H _ _ v u Q I rx ry (.inl ⟨a, vs, _, w, rfl, rfl, .of e1, at1 r1.length hj hw, q w rw1⟩) hs
  · obtain ⟨j, hj, hd⟩ := Option.bind_eq_some_iff.mp e
    obtain ⟨a, vs, rfl, e1, r1⟩ := h1.frl
    obtain rfl := h2.int
    obtain ⟨w, hw, rw1⟩ := r1.get hd
    exact ix_seq value slice pins s σ H _ _ v u Q I rx ry (.inl ⟨a, vs, _, w, rfl, rfl, e1.sql, at1 r1.length hj hw, q w rw1⟩) hs
  · obtain ⟨j, hj, hd⟩ := Option.bind_eq_some_iff.mp e
    obtain ⟨a, vs, rfl, e1, r1⟩ := h1.tup
    obtain rfl := h2.int
    obtain ⟨w, hw, rw1⟩ := r1.get hd
    exact ix_seq value slice pins s σ H _ _ v u Q I rx ry (.inr (.inl ⟨a, vs, _, w, rfl, rfl, e1, at1 r1.length hj hw, q w rw1⟩)) hs
  · split at e
    · rename_i l i hz
      obtain ⟨c, hc, rfl⟩ := Option.map_eq_some_iff.mp e
      obtain ⟨j, hj, hd⟩ := Option.bind_eq_some_iff.mp hc
      obtain rfl := h1.str; obtain rfl := h2.int
      refine ix_seq value slice pins s σ H _ _ v u Q I rx ry (.inr (.inr ⟨_, _, c, rfl, rfl, ?_, ?_, q _ (.str [c])⟩)) hs
      · rw [mkS_len]; exact szB_le hz
      · unfold atI
        rw [ixD_eq, mkS_cps, hj]
        exact hd
    · cases e
  · cases e
theorem cutV_cut (vs : List V) (lo hi : Option Int) : cutV vs lo hi = cutD vs lo hi := rfl
theorem cutD_reps {K : PySem.W.Frag} {H : Hp} {N : Addr → Prop} {ds : List D} {vs : List V} (r : Reps K H N ds vs) (lo hi : Option Int) : Reps K H N (cutD ds lo hi) (cutD vs lo hi) := by
  unfold cutD
  rw [r.length]
  exact (r.drop _).take _
def rSlc (K : PySem.W.Frag) : V → Option Int → Option Int → Hp → VK → Prop := fun x lo hi H Q => ∃ N d r, RepQ K H N d x ∧ semSlc d lo hi = some r ∧ OpP K H N r Q
theorem slc_ok : SlR X (rSlc X.K) := by
  intro pins s σ H x v vl vu lo hi sl Q I rx hs pl pu ⟨N, d, r, h1, e, p⟩
  unfold semSlc at e
  split at e
  · cases e
    obtain ⟨a, vs, rfl, e1, r1⟩ := h1.sql
    exact sl_list pins s σ H _ v vl vu lo hi sl Q I rx hs pl pu ⟨a, vs, rfl, e1, p.new (cutD_reps r1 lo hi)⟩
  · cases e
    obtain ⟨a, vs, rfl, e1, r1⟩ := h1.frl
    exact sl_list pins s σ H _ v vl vu lo hi sl Q I rx hs pl pu ⟨a, vs, rfl, e1.sql, p.new (cutD_reps r1 lo hi)⟩
  · split at e
    · rename_i hz
      cases e
      obtain rfl := h1.str
      refine sl_str pins s σ H _ v vl vu lo hi sl Q I rx hs pl pu ⟨_, rfl, ?_, p.val ?_⟩
      · rw [mkS_len]; exact szB_le hz
      · show Rep _ _ _ _ (.str (cutS (mkS _) lo hi))
        unfold cutS
        rw [mkS_cps, mkS_len]
        exact .str _
    · cases e
  · cases e
theorem tru_q {K : PySem.W.Frag} {H : Hp} {N : Addr → Prop} {d : D} {x : V} {b : Bool} (h : RepQ K H N d x) (e : truthD d = some b) : TruV K x H b := by
  unfold truthD at e
  split at e
  · cases e; obtain rfl := h.non; rfl
  · cases e; obtain rfl := h.bl; rfl
  · cases e; obtain rfl := h.int; rfl
  · split at e
    · rename_i l hz
      cases e; obtain rfl := h.str
      refine ⟨by rw [mkS_len]; exact szB_le hz, ?_⟩
      rw [mkS_len]
      cases l with
      | nil => rfl
      | cons c l =>
        rw [List.isEmpty_cons, List.length_cons]
        symm
        show ((l.length + 1 : Nat) : Int) != 0
        rw [bne_iff_ne]; omega
    · cases e
  · cases e
    obtain ⟨a, vs, rfl, e1, r1⟩ := h.tup
    exact .inr (.inl ⟨vs, e1, by cases r1 <;> rfl⟩)
  · cases e
    obtain ⟨a, vs, rfl, e1, r1⟩ := h.sql
    exact .inl ⟨vs, e1, by cases r1 <;> rfl⟩
  · cases e
def biV : Bi → Value
  | .len => .builtin "len" | .int => .type "int" | .min => .builtin "min" | .max => .builtin "max" | .isi => .builtin "isinstance" | .sorted => .builtin "sorted" | .list => .type "list" | .all => .builtin "all" | .any => .builtin "any" | .sum => .builtin "sum"
def rBi (K : PySem.W.Frag) (b : Bi) : List V → Hp → VK → Prop := fun xs H Q => ∃ N ds r, RepQs K H N ds xs ∧ semBi b ds = some r ∧ OpP K H N r Q
section
variable {K : PySem.W.Frag} {H : Hp} {N : Addr → Prop}
theorem RepQs.one {d : D} {xs : List V} (h : RepQs K H N [d] xs) : ∃ x, xs = [x] ∧ RepQ K H N d x := by
  match xs, h with
  | [x], h => exact ⟨x, rfl, h.1⟩
theorem RepQs.two {d d' : D} {xs : List V} (h : RepQs K H N [d, d'] xs) : ∃ x y, xs = [x, y] ∧ RepQ K H N d x ∧ RepQ K H N d' y := by
  match xs, h with
  | [x, y], h => exact ⟨x, y, rfl, h.1, h.2.1⟩
theorem allBl_reps : ∀ {ds : List D} {bs : List Bool} {vs : List V}, allBl ds = some bs → Reps K H N ds vs → vs = bs.map V.bl
  | [], bs, vs, e, r => by cases e; cases r; rfl
  | .bl b :: ds, bs, vs, e, r => by
    obtain ⟨bs', e', rfl⟩ := Option.map_eq_some_iff.mp (show (allBl ds).map (b :: ·) = some bs from e)
    cases r with
    | cons r1 r2 =>
      cases r1
      rw [allBl_reps e' r2]; rfl
theorem allInt_reps : ∀ {ds : List D} {bs : List Int} {vs : List V}, allInt ds = some bs → Reps K H N ds vs → vs = bs.map V.int
  | [], bs, vs, e, r => by cases e; cases r; rfl
  | .int b :: ds, bs, vs, e, r => by
    obtain ⟨bs', e', rfl⟩ := Option.map_eq_some_iff.mp (show (allInt ds).map (b :: ·) = some bs from e)
    cases r with
    | cons r1 r2 =>
      cases r1
      rw [allInt_reps e' r2]; rfl
theorem allStr_reps : ∀ {ds : List D} {bs : List (List Nat)} {vs : List V}, allStr ds = some bs → Reps K H N ds vs → vs = (bs.map mkS).map V.str
  | [], bs, vs, e, r => by cases e; cases r; rfl
  | .str b :: ds, bs, vs, e, r => by
    obtain ⟨bs', e', rfl⟩ := Option.map_eq_some_iff.mp (show (allStr ds).map (b :: ·) = some bs from e)
    cases r with
    | cons r1 r2 =>
      cases r1
      rw [allStr_reps e' r2]; rfl
theorem tyOf_q {d : D} {x : V} {t : String} (h : RepQ K H N d x) (e : tyOf d = some t) : TyX K H x (.type t) := by
  unfold tyOf at e
  split at e
  · cases e; obtain rfl := h.non; exact .base .non
  · cases e; obtain rfl := h.bl; exact .base (.bl _)
  · cases e; obtain rfl := h.int; exact .base (.int _)
  · cases e; obtain rfl := h.str; exact .base (.str _)
  · cases e
    obtain ⟨a, vs, rfl, e1, r1⟩ := h.tup
    rcases e1 with (e1 | ⟨o, e1⟩) | ⟨o, its, n, h1, h2, _⟩
    · exact .base (.tup e1)
    · exact .fTuple e1
    · exact .kTuple h1 h2
  · cases e
    obtain ⟨a, vs, rfl, e1, r1⟩ := h.lst
    exact .base (.lst e1)
  · cases e
theorem isiB_kit {n t : String} {b : Bool} {d : D} (hd : tyOf d = some t) (e : isiB t n = some b) : kitB t n = some b := by
  have ht : t = "NoneType" ∨ t = "bool" ∨ t = "int" ∨ t = "str" ∨ t = "tuple" ∨ t = "list" := by
    cases d <;> first | (cases hd; done) | (cases hd; simp)
  unfold isiB at e
  split at e
  · rename_i h
    cases e
    obtain ⟨rfl, rfl⟩ := h
    decide +kernel
  · split at e
    · rename_i h1 h2
      cases e
      rcases ht with rfl | rfl | rfl | rfl | rfl | rfl <;> rcases h2 with rfl | rfl | rfl | rfl | rfl <;> first | decide +kernel | exact absurd ⟨rfl, rfl⟩ h1
    · cases e
theorem leB_le : leB = PySem.W.dataLe false pyOf := rfl
end
theorem each_vals {K : PySem.W.Frag} {H : Hp} {N : Addr → Prop} : ∀ {ds : List D} {vs : List V} {us : List Value}, Reps K H N ds vs → Vals vs us → PySem.W.EachIs (fun u d => ∃ x, RelV x u ∧ Rep K H N d x) us ds
  | _, _, _, .nil, .nil => .nil
  | _, _, _, .cons r t, .cons r' t' => .cons ⟨_, r', r⟩ (each_vals t t')
theorem vals_each {K : PySem.W.Frag} {H : Hp} {N : Addr → Prop} : ∀ {ds : List D} {us : List Value}, PySem.W.EachIs (fun u d => ∃ x, RelV x u ∧ Rep K H N d x) us ds → ∃ vs, Reps K H N ds vs ∧ Vals vs us
  | _, _, .nil => ⟨[], .nil, .nil⟩
  | _, _, .cons ⟨x, r1, r2⟩ t => by
    obtain ⟨vs, h1, h2⟩ := vals_each t
    exact ⟨x :: vs, .cons r2 h1, .cons r1 h2⟩
theorem each_mem {α β : Type} {R R' : α → β → Prop} : ∀ {as : List α} {bs : List β}, PySem.W.EachIs R as bs → (∀ a b, b ∈ bs → R a b → R' a b) → PySem.W.EachIs R' as bs
  | _, _, .nil, _ => .nil
  | _, _, .cons h t, k => .cons (k _ _ (.head _) h) (each_mem t fun a b hb => k a b (.tail _ hb))
theorem sorted_ok {k : Nat} (hr : Room k X.A) {pins : List (Addr × Obj)} {s : Shared} {σ : L2.St} {H : Hp} {us : List Value} {Q : VK} {N : Addr → Prop} {ds : List D} {a : Addr} {vs : List V} (I : Inv X pins σ H s) (r : Vals [.ref a] us) (hs : SqL X.K H a vs) (rs : Reps X.K H N ds vs)
    (hz : sortB ds = true) (p : OpP X.K H N (true, .lst (ds.mergeSort leB)) Q) : wpAny (model X.prog X.w) X.A (call (.builtin "sorted") us) (EP X pins σ Q) X.xe s := by
  obtain ⟨its, rv, hl, hsz⟩ := I.list hs
  rw [Vals.ref1 r]
  unfold sortB at hz
  rw [Bool.and_eq_true, Bool.and_eq_true, Bool.or_eq_true] at hz
  obtain ⟨h1, h2, h3⟩ := hz
  have hsh : ∀ d, d ∈ ds → ∃ q, toPy d = some q ∧ SeqAt.shaped q = true ∧ q.depth ≤ 60 := fun d hd => by
    obtain ⟨q, e1, e2⟩ := shp_shaped (List.all_eq_true.mp h1 d hd)
    obtain ⟨q', e3, _, e4⟩ := shp_py d 60 (List.all_eq_true.mp h1 d hd)
    rw [e1] at e3; cases e3
    exact ⟨q, e1, e2, e4⟩
  have hpy : ∀ d, d ∈ ds → toPy d = some (pyOf d) := fun d hd => by
    obtain ⟨q, e1, _⟩ := hsh d hd
    rw [e1]; unfold pyOf; rw [e1]; rfl
  have hsort : PySem.W.Sortable (ds.map pyOf) := by
    rcases h3 with h3 | h3
    · refine .inl fun q hq => ?_
      obtain ⟨d, hd, rfl⟩ := List.mem_map.mp hq
      have := List.all_eq_true.mp h3 d hd
      split at this
      · rename_i x ys
        have e := hpy _ hd
        obtain ⟨ps, e1, e2⟩ := Option.map_eq_some_iff.mp (show (toPys (x :: ys)).map PyData.tuple = some _ from e)
        unfold toPys at e1
        split at e1
        · cases e1
          exact ⟨_, _, e2.symm⟩
        · cases e1
      · cases this
    · refine .inr fun q hq => ?_
      obtain ⟨d, hd, rfl⟩ := List.mem_map.mp hq
      have := List.all_eq_true.mp h3 d hd
      split at this
      · exact ⟨fun e => (by cases e), fun _ e => (by cases e)⟩
      · exact ⟨fun e => (by cases e), fun _ e => (by cases e)⟩
      · cases this
  have hal : PySem.W.AllAlike (ds.map pyOf) := by
    intro q hq q' hq'
    obtain ⟨d, hd, rfl⟩ := List.mem_map.mp hq
    obtain ⟨d', hd', rfl⟩ := List.mem_map.mp hq'
    exact List.all_eq_true.mp (List.all_eq_true.mp h2 d hd) d' hd'
  have ev := each_vals rs rv
  have hlen : ds.length ≤ sizeLine := by rw [rs.length]; exact hsz
  refine PySem.W.sorted_data (enc := pyOf) (R := fun u d => ∃ x, RelV x u ∧ Rep X.K H N d x) hl.isList ev (each_mem ev fun u d hd ⟨x, r1, r2⟩ => Dp.reads I _ _ _ (Rep.dp d x _ r2 (hpy d hd)) r1) hal hsort hlen (fun d hd => ?_) fun out hl2 eo => ?_
  · obtain ⟨q, e1, _, e2⟩ := hsh d hd
    have : pyOf d = q := by unfold pyOf; rw [e1]; rfl
    rw [this]
    have := hr.un
    omega
  · obtain ⟨vs', r1, r2⟩ := vals_each eo
    obtain ⟨ep, he'⟩ := PyProof.Rows.sortedAll_at s.heap its out.toArray
    have hlen' : vs'.length ≤ sizeLine := by rw [r2.length, hl2]; exact hlen
    refine ⟨.ref _, upd H (s.heap.objs.size + 1) (.lst vs'), I.laid (t' := s.toks) (fun _ _ => PyProof.Rows.sortedAll_old) (Nat.le_succ _) ⟨hlen', out, ep, r2, he'⟩, rfl, ?_⟩
    exact p.new r1 _ (I.hok.fresh (Nat.le_succ _))
theorem bi_ok (b : Bi) {k : Nat} (hr : Room k X.A) (hc : X.calm = true) : CallR X (biV b) (rBi X.K b) := by
  intro pins s σ H xs us Q I r ⟨N, ds, res, h, e, p⟩
  unfold semBi at e
  split at e
  · split at e
    · rename_i l hz
      cases e
      obtain ⟨x, rfl, h1⟩ := h.one
      obtain rfl := h1.str
      refine call_len pins s σ H _ us Q I r ⟨_, _, rfl, ⟨?_, rfl⟩, ?_⟩
      · rw [mkS_len]; exact szB_le hz
      · rw [mkS_len]; exact p.val (.int _)
    · cases e
  · cases e
    obtain ⟨x, rfl, h1⟩ := h.one
    obtain ⟨a, vs, rfl, e1, r1⟩ := h1.sql
    refine call_len pins s σ H _ us Q I r ⟨_, _, rfl, .inl ⟨vs, e1, rfl⟩, ?_⟩
    rw [← r1.length]; exact p.val (.int _)
  · cases e
    obtain ⟨x, rfl, h1⟩ := h.one
    obtain ⟨a, vs, rfl, e1, r1⟩ := h1.tup
    refine call_len pins s σ H _ us Q I r ⟨_, _, rfl, .inr ⟨vs, e1, rfl⟩, ?_⟩
    rw [← r1.length]; exact p.val (.int _)
  · cases e
    obtain ⟨x, rfl, h1⟩ := h.one
    obtain ⟨a, vs, rfl, e1, r1⟩ := h1.frl
    refine call_len pins s σ H _ us Q I r ⟨_, _, rfl, .inl ⟨vs, e1.sql, rfl⟩, ?_⟩
    rw [← r1.length]; exact p.val (.int _)
  · cases e
    obtain ⟨x, rfl, h1⟩ := h.one
    obtain rfl := h1.int
    exact call_int1 pins s σ H _ us Q I r (.inl ⟨_, rfl, p.val (.int _)⟩)
  · cases e
    obtain ⟨x, rfl, h1⟩ := h.one
    obtain rfl := h1.bl
    exact call_int1 pins s σ H _ us Q I r (.inr ⟨_, rfl, p.val (.int _)⟩)
  · cases e
    obtain ⟨x, y, rfl, h1, h2⟩ := h.two
    obtain rfl := h1.int; obtain rfl := h2.int
    exact call_min2 hc pins s σ H _ us Q I r ⟨_, _, rfl, p.val (.int _)⟩
  · cases e
    obtain ⟨x, y, rfl, h1, h2⟩ := h.two
    obtain rfl := h1.int; obtain rfl := h2.int
    exact call_max2 hc pins s σ H _ us Q I r ⟨_, _, rfl, p.val (.int _)⟩
  · split at e
    · rename_i d n t ht
      obtain ⟨c, hk, rfl⟩ := Option.map_eq_some_iff.mp e
      obtain ⟨x, y, rfl, h1, h2⟩ := h.two
      obtain rfl := h2.ty
      exact call_isi pins s σ H _ us Q I r ⟨x, _, _, _, c, rfl, .ty _, tyOf_q h1 ht, kit_ty (isiB_kit ht hk), p.val (.bl _)⟩
    · cases e
  · split at e
    · rename_i hz
      cases e
      obtain ⟨x, rfl, h1⟩ := h.one
      obtain ⟨a, vs, rfl, e1, r1⟩ := h1.sql
      exact sorted_ok hr I r e1 r1 hz p
    · cases e
  · cases e
    obtain ⟨x, rfl, h1⟩ := h.one
    obtain ⟨a, vs, rfl, e1, r1⟩ := h1.sql
    exact call_list_of pins s σ H _ us Q I r ⟨a, vs, rfl, .inl e1, p.new r1⟩
  · cases e
    obtain ⟨x, rfl, h1⟩ := h.one
    obtain ⟨a, vs, rfl, e1, r1⟩ := h1.tup
    exact call_list_of pins s σ H _ us Q I r ⟨a, vs, rfl, .inr e1, p.new r1⟩
  · obtain ⟨bs, hb, rfl⟩ := Option.map_eq_some_iff.mp e
    obtain ⟨x, rfl, h1⟩ := h.one
    obtain ⟨a, vs, rfl, e1, r1⟩ := h1.sql
    rw [allBl_reps hb r1] at e1
    exact cr_all hc pins s σ H _ us Q I r ⟨a, bs, rfl, e1, p.val (.bl _)⟩
  · obtain ⟨bs, hb, rfl⟩ := Option.map_eq_some_iff.mp e
    obtain ⟨x, rfl, h1⟩ := h.one
    obtain ⟨a, vs, rfl, e1, r1⟩ := h1.sql
    rw [allBl_reps hb r1] at e1
    exact cr_any hc pins s σ H _ us Q I r ⟨a, bs, rfl, e1, p.val (.bl _)⟩
  · obtain ⟨bs, hb, rfl⟩ := Option.map_eq_some_iff.mp e
    obtain ⟨x, rfl, h1⟩ := h.one
    obtain ⟨a, vs, rfl, e1, r1⟩ := h1.sql
    rw [allInt_reps hb r1] at e1
    exact cr_sum hc pins s σ H _ us Q I r ⟨a, bs, rfl, e1, p.val (.int _)⟩
  · cases e
theorem joinN_eq (s : List Nat) : ∀ l : List (List Nat), TL.joinL s l = joinN s l
  | [] => rfl
  | [_] => rfl
  | x :: y :: r => by
    show x ++ (s ++ TL.joinL s (y :: r)) = x ++ s ++ joinN s (y :: r)
    rw [joinN_eq s (y :: r), List.append_assoc]
theorem map_tl_mkS (l : List (List Nat)) : (l.map mkS).map tl = l := by
  rw [List.map_map]
  exact (List.map_congr_left fun x _ => mkS_cps x).trans (List.map_id _)
theorem join_mkS (s : List Nat) (l : List (List Nat)) : Txt.join (mkS s) (l.map mkS) = mkS (joinN s l) := by
  have e := TL.tl_join (mkS s) (l.map mkS)
  rw [map_tl_mkS] at e
  refine ext_tl ((congrArg tl (TL.join_eq (mkS s) (l.map mkS))).trans (e.trans ?_))
  show TL.joinL (mkS s).cps.toList l = (mkS (joinN s l)).cps.toList
  rw [mkS_cps, mkS_cps, joinN_eq]
def rMe (K : PySem.W.Frag) (m : Me) : V → List V → Hp → VK → Prop := fun x xs H Q => ∃ N d ds r, RepQ K H N d x ∧ RepQs K H N ds xs ∧ semMe m d ds = some r ∧ OpP K H N r Q
theorem me_join : MtR X "str.join" (rMe X.K .join) := by
  intro pins s σ H x xs v us Q I rx rxs ⟨N, d, ds, r, h1, h2, e, p⟩
  unfold semMe at e
  split at e
  · split at e
    · split at e
      · rename_i y ds ls hls hz
        cases e
        obtain rfl := h1.str
        obtain ⟨z, rfl, h3⟩ := h2.one
        obtain ⟨a, vs, rfl, e1, r1⟩ := h3.sql
        rw [allStr_reps hls r1] at e1
        refine mt_join pins s σ H _ _ v us Q I rx rxs ⟨_, a, ls.map mkS, rfl, rfl, .inl e1, ?_, ?_⟩
        · rw [List.map_map, List.length_map, mkS_len]
          have : (ls.map (Str.length ∘ mkS)) = ls.map (·.length) := List.map_congr_left fun z _ => mkS_len z
          rw [this]
          exact of_decide_eq_true hz
        · rw [join_mkS]
          exact p.val (.str _)
      · cases e
    · cases e
  · cases e
theorem me_str {K : PySem.W.Frag} {H : Hp} {N : Addr → Prop} {m : Me} {d : D} {ds : List D} {r : Bool × D} {x : V} (e : semMe m d ds = some r) (h : RepQ K H N d x) : tyV K "str" x H := by
  unfold semMe at e
  split at e
  · obtain rfl := h.str
    rfl
  · cases e
theorem put_carry {K : PySem.W.Frag} {H : Hp} {N : Addr → Prop} {a : Addr} {xs : List V} {o : HO} (hN : N a) (ha : H a = some (.lst xs)) {ds : List D} {vs : List V} (r : Reps K H N ds vs) : Reps K (upd H a o) N ds vs := by
  have ne : ∀ b u, H b = some u → ¬ MutO u → b ≠ a := fun b u h1 h2 h3 => by
    rw [h3, ha] at h1; cases h1
    exact h2 trivial
  refine reps_carry (fun b us hn e => ⟨?_, hn⟩) (fun b us h => ?_) (fun b us h => ?_) r
  · rw [upd_ne (fun z => hn (by rw [z]; exact hN))]; exact e
  · rcases h with (h | ⟨o, h⟩) | h
    · exact .inl (.inl (by rw [upd_ne (ne _ _ h fun z => z)]; exact h))
    · exact .inl (.inr ⟨o, by rw [upd_ne (ne _ _ h fun z => z)]; exact h⟩)
    · exact .inr h
  · rcases h with ⟨o, h⟩ | h
    · exact .inl ⟨o, by rw [upd_ne (ne _ _ h fun z => z)]; exact h⟩
    · exact .inr h
def muN : Mu → String
  | .append => "list.append" | .pop => "list.pop" | .clear => "list.clear"
def rMu (K : PySem.W.Frag) (m : Mu) : V → List V → Hp → VK → Prop := fun x xs H Q => ∃ N a d ds r, x = .ref a ∧ N a ∧ Top K H N d a ∧ Reps K H N ds xs ∧ semMu m d ds = some r ∧
  ∀ v ys, Top K (upd H a (.lst ys)) N r.1 a → Rep K (upd H a (.lst ys)) N r.2 v → Q v (upd H a (.lst ys))
theorem mu_ok (m : Mu) : MtM X (muN m) (rMu X.K m) := by
  intro pins s σ H x xs v us Q I rx rxs hh
  obtain ⟨N, a, d, ds, r, rfl, hN, t, h, e, q⟩ := hh
  unfold semMu at e
  split at e
  · split at e
    · rename_i ds' d' hz
      cases e
      obtain ⟨vs, e1, r1⟩ := t
      cases h with
      | cons h1 h2 =>
        cases h2
        refine mt_append pins s σ H _ _ v us Q I rx rxs ⟨a, vs, _, rfl, rfl, e1, by rw [← r1.length]; exact seqB_lt hz, q _ _ ⟨_, upd_same, ?_⟩ .non⟩
        exact put_carry hN e1 (r1.append (.one h1))
    · cases e
  · split at e
    · rename_i ds' d' hd
      cases e
      obtain ⟨vs, e1, r1⟩ := t
      cases h
      rw [List.getLast?_eq_getElem?, r1.length] at hd
      obtain ⟨w, hw, rw1⟩ := r1.get hd
      refine mt_pop pins s σ H _ _ v us Q I rx rxs ⟨a, vs, w, rfl, rfl, e1, hw, q _ _ ⟨_, upd_same, ?_⟩ ?_⟩
      · exact put_carry hN e1 r1.dropLast
      · cases put_carry (o := .lst vs.dropLast) hN e1 (Reps.one rw1) with
        | cons h _ => exact h
    · cases e
  · cases e
    obtain ⟨vs, e1, r1⟩ := t
    cases h
    exact mt_clear pins s σ H _ _ v us Q I rx rxs ⟨a, vs, rfl, rfl, e1, q _ _ ⟨_, upd_same, .nil⟩ .non⟩
  · cases e
end
end Pu
namespace Pu
open PySem PySem.Spec PyProof.Rows
open L2 hiding St
abbrev St := L2.St
def FrV (x : Bool × D) (v : V) (W : Addr → Prop) : Addr → Prop := fun b => W b ∨ (x.1 = true ∧ v = .ref b)
def VR (K : PySem.W.Frag) (cs : Nat → Addr → Prop) (B : Addr → Prop) (H : Hp) (σ : PSt) (ρ : St) (x : Bool × D) (v : V) : Prop :=
  if x.1 = true then ∃ a, v = .ref a ∧ RelF K cs B a H σ ρ ∧ Top K H (fun b => (B b ∨ b = a) ∨ Own σ ρ b) x.2 a else RelSt K cs B H σ ρ ∧ Rep K H (Av B σ ρ) x.2 v
def spC (K : PySem.W.Frag) (xc : Xc) (md : List Md) (F : List D → FR) : Sp := fun vs H Q E => ∃ (cs : Nat → Addr → Prop) (B : Addr → Prop) (ds : List D), vs.length = md.length ∧ ds.length = md.length ∧ (∀ i a, cs i a ↔ vs[i]? = some (.ref a) ∧ H a ≠ none) ∧ RelSt K cs B H (entry md ds) (vs.map some) ∧
  match F ds with
  | .ok f d rs => rs.length = md.length → ∀ v H', Fr (Own (entry md ds) (vs.map some)) H (FrV (f, d) v (Own (entry md (back md ds rs)) (vs.map some))) H' → VR K cs B H' (entry md (back md ds rs)) (vs.map some) (f, d) v → Q v H'
  | .exc c fs rs => rs.length = md.length → ∀ cls dd H', Fr (Own (entry md ds) (vs.map some)) H (Own (entry md (back md ds rs)) (vs.map some)) H' → RelSt K cs B H' (entry md (back md ds rs)) (vs.map some) → ExcR K xc H' (Av B (entry md (back md ds rs)) (vs.map some)) c fs cls dd → E cls dd H'
  | .bad => False
structure EvOk (P : Program) (w : World) (K : PySem.W.Frag) (mg : Str → Option Value) (base : Heap) (A : Around) (xc : Xc) (V : Ev) : Prop where
  room : ∃ k, Room k A
  blt : ∀ g : String, g ∈ ["len", "int", "min", "max", "isinstance", "sorted", "list", "all", "any", "sum", "range", "str", "bool", "tuple"] → mg g = none
  glob : ∀ (g : String) (d : D), V.glob g = some d → ∃ v u, mg g = some u ∧ RelV v u ∧ ∀ H N, Rep K H N d v
  call : ∀ (g : String) (md : List Md), V.sig g = some md → ∃ f fd ps k, FnOk P w K mg base (L2.CX P w) k f fd ps (spC K xc md (V.call g)) ∧ Room k A ∧ mg g = some (.ref f) ∧ PySem.W.keepIn K (.ref f) = true ∧ Binds K fd ps []
structure CC where
  N : List Str
  sc : Scope
  fc : Str → Bool
abbrev CC.sub (c : CC) (sc : Scope) : CC := ⟨c.N, relS sc c.sc, fun x => sc.names.lookup x == some .cell⟩
structure CtxOk (X : Cx) (c : CC) : Prop where
  N : X.N = c.N
  nd : c.N.Nodup
  sc : X.env.scope = c.sc
  fnk : c.sc.kind = .function
  calm : X.calm = true
  fn : ∀ x, c.fc x = true → X.fn x = true
abbrev EvX (X : Cx) (xc : Xc) (V : Ev) : Prop := EvOk X.prog X.w X.K X.mg X.base X.A xc V
def okX : Expr → Bool
  | .Starred _ _ => false
  | .Set _ _ _ => false
  | .Slice _ _ _ _ => false
  | _ => true
def isLC : Expr → Bool
  | .ListComp _ _ _ _ => true
  | .SetComp _ _ _ _ => true
  | .DictComp _ _ _ _ _ => true
  | _ => false
def ncX : Expr → Bool
  | .Call _ _ _ _ => false
  | _ => true
def isCm : Expr → Bool
  | .Compare _ _ _ _ => true
  | _ => false
def isBO : Expr → Bool
  | .BoolOp _ _ _ => true
  | _ => false
def plT : Expr → Bool
  | .UnaryOp .Not _ _ => false
  | .BoolOp _ _ _ => false
  | .IfExp _ _ _ _ => false
  | .Compare _ _ _ _ => false
  | _ => true
def dbg (x : Str) : Bool := !(x == ("__debug__" : Str)) && !(x == ("__classdict__" : Str)) && decide (x ≠ "__name__")
def CC.vis (c : CC) (i : Nat) (x : Str) : Bool := decide (c.N[i]? = some x) && dbg x && (match c.sc.names.lookup x with
  | some .local => true
  | some .cell => true
  | some .free => true
  | _ => false)
def CC.loc (c : CC) (i : Nat) (x : Str) : Bool := decide (c.N[i]? = some x) && (match c.sc.names.lookup x with
  | some .local => true
  | some .cell => c.fc x
  | _ => false)
def CC.lcl (c : CC) (i : Nat) (x : Str) : Bool := decide (c.N[i]? = some x) && decide (c.sc.names.lookup x = some .local)
def CC.gl (c : CC) (x : Str) (g : String) : Bool := decide (x = (g : Str)) && dbg x && decide (c.sc.names.lookup x = some .globalImplicit)
def biN : Bi → String
  | .len => "len" | .int => "int" | .min => "min" | .max => "max" | .isi => "isinstance" | .sorted => "sorted" | .list => "list" | .all => "all" | .any => "any" | .sum => "sum"
def tyNs : List String := ["int", "str", "bool", "list", "tuple"]
def meN : Me → String
  | .join => "join" | .upper => "upper"
def mtN : Mu → String
  | .append => "append" | .pop => "pop" | .clear => "clear"
mutual
def cE (c : CC) : Xp → Expr → Bool
  | .var i, e => match e with
    | .Name x _ => c.vis i x
    | _ => false
  | .int i, e => match e with
    | .Constant (.int j) _ _ => decide (j = i)
    | _ => false
  | .str l, e => match e with
    | .Constant (.str s) _ _ => decide (s = mkS l)
    | _ => false
  | .bl b, e => match e with
    | .Constant (.bool j) _ _ => decide (j = b)
    | _ => false
  | .non, e => match e with
    | .Constant .none _ _ => true
    | _ => false
  | .glob g, e => match e with
    | .Name x _ => c.gl x g
    | _ => false
  | .ty n, e => match e with
    | .Name x _ => c.gl x n && tyNs.contains n
    | _ => false
  | .bin o a b, e => match e with
    | .BinOp l op r _ => decide (op = pyB o) && (cE c a l && cE c b r)
    | _ => false
  | .cmp o a b, e => match e with
    | .Compare l [op] [r] _ => decide (op = pyC o) && (okX r && (cE c a l && cE c b r))
    | _ => false
  | .chain o o' a b d, e => match e with
    | .Compare l [op, op'] [r, q] _ => decide (op = pyC o) && (decide (op' = pyC o') && (okX q && (cE c a l && (cE c b r && cE c d q))))
    | _ => false
  | .neg a, e => match e with
    | .UnaryOp .USub l _ => cE c a l
    | _ => false
  | .idx a b, e => match e with
    | .Subscript l r _ => okX r && (cE c a l && cE c b r)
    | _ => false
  | .slc a lo hi, e => match e with
    | .Subscript l (.Slice x y none _) _ => cE c a l && (cO c lo x && cO c hi y)
    | _ => false
  | .rev a, e => match e with
    | .Subscript l (.Slice none none (some (.UnaryOp .USub (.Constant (.int 1) _ _) _)) _) _ => cE c a l
    | _ => false
  | .tup es, e => match e with
    | .Tuple xs _ _ => cEs c es xs
    | _ => false
  | .lst es, e => match e with
    | .List xs _ => cEs c es xs
    | _ => false
  | .bi b es, e => match e with
    | .Call (.Name x _) (y :: ys) [] _ => c.gl x (biN b) && cEs c es (y :: ys)
    | _ => false
  | .me m o es, e => match e with
    | .Call (.Attribute z x p) [y] [] q => decide (x = (meN m : Str)) && (decide (m = .join) && (decide (p.endLine = q.line) && (okX z && (ncX z && (cE c o z && cEs c es [y])))))
    | _ => false
  | .mu m i es, e => match e with
    | .Call (.Attribute (.Name z _) x p) ys [] q => decide (x = (mtN m : Str)) && (decide (p.endLine = q.line) && (c.vis i z && (decide (ys.length < 2) && cEs c es ys)))
    | _ => false
  | .call f es, e => match e with
    | .Call (.Name x _) (y :: ys) [] _ => c.gl x f && cEs c es (y :: ys)
    | _ => false
  | .and a b, e => match e with
    | .BoolOp .And (x :: y :: zs) p => cE c a x && (match zs with
      | [] => cE c b y
      | _ => cE c b (.BoolOp .And (y :: zs) p))
    | _ => false
  | .or a b, e => match e with
    | .BoolOp .Or (x :: y :: zs) p => cE c a x && (match zs with
      | [] => cE c b y
      | _ => cE c b (.BoolOp .Or (y :: zs) p))
    | _ => false
  | .not a, e => match e with
    | .UnaryOp .Not x _ => cE c a x
    | _ => false
  | .cond t a b, e => match e with
    | .IfExp x y z _ => cT c t x && (cE c a y && cE c b z)
    | _ => false
  | .comp i it t e', e => match e with
    | .ListComp x [⟨.Name v _, r, ts, 0⟩] sc _ => okX r && (cI c it r && (blkC c.N c.sc sc [(v, i)] && (decide (c.N[i]? = some v) && (CC.loc (c.sub sc) i v && (cOT (c.sub sc) t ts && cE (c.sub sc) e' x)))))
    | _ => false
def cT (c : CC) : Tp → Expr → Bool
  | .v e, x => cE c e x && (isCm x || plT x)
  | .and a b, e => match e with
    | .BoolOp .And (x :: y :: zs) p => cT c a x && (match zs with
      | [] => cT c b y
      | _ => cT c b (.BoolOp .And (y :: zs) p))
    | _ => false
  | .or a b, e => match e with
    | .BoolOp .Or (x :: y :: zs) p => cT c a x && (match zs with
      | [] => cT c b y
      | _ => cT c b (.BoolOp .Or (y :: zs) p))
    | _ => false
  | .not a, e => match e with
    | .UnaryOp .Not x _ => cT c a x
    | _ => false
def cEs (c : CC) : Xs → List Expr → Bool
  | .nil, xs => xs.isEmpty
  | .cons e es, xs => match xs with
    | x :: xs => okX x && (cE c e x && cEs c es xs)
    | [] => false
def cO (c : CC) : Ox → Option Expr → Bool
  | .no, x => x.isNone
  | .so e, x => match x with
    | some x => cE c e x
    | none => false
def cOT (c : CC) : Ot → List Expr → Bool
  | .no, xs => xs.isEmpty
  | .so t, xs => match xs with
    | [x] => cT c t x
    | _ => false
def cI (c : CC) : Ix → Expr → Bool
  | .of e, x => cE c e x
  | .rng1 a, x => match x with
    | .Call (.Name r _) [y] [] _ => c.gl r "range" && (okX y && cE c a y)
    | _ => false
  | .rng2 a b, x => match x with
    | .Call (.Name r _) [y, z] [] _ => c.gl r "range" && (okX y && (okX z && (cE c a y && cE c b z)))
    | _ => false
end
mutual
def cG (c : CC) : Tg → Expr → Bool
  | .slot i, e => match e with
    | .Name x _ => c.loc i x
    | _ => false
  | .tup ts, e => match e with
    | .Tuple es _ _ => cGs c ts es
    | _ => false
def cGs (c : CC) : List Tg → List Expr → Bool
  | [], es => es.isEmpty
  | t :: ts, es => match es with
    | e :: es => okX e && (cG c t e && cGs c ts es)
    | [] => false
end
def isTu : Expr → Bool
  | .Tuple _ _ _ => true
  | .List _ _ => true
  | _ => false
def parOk (c : CC) (i j : Nat) (x y : Str) (px py : Pos) (a b : Expr) : Bool :=
  c.lcl i x && (c.lcl j y && (decide (i ≠ j) && (decide (px.line = py.line) && (!([a, b].any fun | .Starred .. => true | _ => false) && (!([a, b].all (foldedForSure 8)) && !([a, b].all (constantsAlone 8)))))))
def opA : BinO → Option Operator
  | .add => some .Add
  | .sub => some .Sub
  | _ => none
mutual
def cS (c : CC) : Sm → Stmt → Bool
  | .expr e, s => match s with
    | .Expr x _ => !isLC x && cE c e x
    | _ => false
  | .asg i e, s => match s with
    | .Assign [.Name x px] v p => c.loc i x && (okX v && cE c e v)
    | _ => false
  | .par i j a b, s => match s with
    | .Assign [.Tuple [.Name x px, .Name y py] _ _] (.Tuple [u, v] _ _) _ => parOk c i j x y px py u v && (cE c a u && cE c b v)
    | _ => false
  | .unp t e, s => match s with
    | .Assign [.Tuple ts k p] v _ => !isTu v && (!isLC v && (cG c t (.Tuple ts k p) && cE c e v))
    | _ => false
  | .setI i k e, s => match s with
    | .Assign [.Subscript (.Name x _) y _] v _ => c.vis i x && (!isLC v && (okX y && (cE c k y && cE c e v)))
    | _ => false
  | .aug i o e, s => match s with
    | .AugAssign (.Name x _) op v _ => c.loc i x && (decide (opA o = some op) && cE c e v)
    | _ => false
  | .ret e, s => match s with
    | .Return (some v) _ => cE c e v
    | _ => false
  | .retN, s => match s with
    | .Return none _ => true
    | _ => false
  | .iff t a b, s => match s with
    | .If x ys zs _ => cT c t x && (cSs c a ys && cSs c b zs)
    | _ => false
  | .for t it b, s => match s with
    | .For x y zs [] _ => okX y && (cG c t x && (cI c it y && cSs c b zs))
    | _ => false
  | .while t b, s => match s with
    | .While x ys [] _ => cT c t x && cSs c b ys
    | _ => false
  | .brk, s => match s with
    | .Break _ => true
    | _ => false
  | .cont, s => match s with
    | .Continue _ => true
    | _ => false
  | .pass, s => match s with
    | .Pass _ => true
    | _ => false
def cSs (c : CC) : Ss → List Stmt → Bool
  | .nil, ss => ss.isEmpty
  | .cons s ss, xs => match xs with
    | x :: xs => cS c s x && cSs c ss xs
    | [] => false
end
section
variable {X : Cx}
theorem star_ok {e : Expr} (es : List Expr) (env : Env) (h : okX e = true) : starEach (e :: es) env = (false, eval e env) :: starEach es env := by
  cases e <;> first | rfl | cases h
theorem marks_ok {e : Expr} (op : CmpOp) (h : okX e = true) : behindInMarks op e = false := by
  cases e <;> first | rfl | cases h
theorem plainIx_ok {e : Expr} (h : okX e = true) : PlainIx e := by
  intro o i
  cases e <;> first | rfl | cases h
theorem folded_ok {e : Expr} (env : Env) (h : okX e = true) (x : Value) : foldedSetIterable e env x = pure x := by
  cases e <;> first | rfl | cases h
theorem swaps_ok {e : Expr} (t : Option Expr) (n : Nat) (env : Env) (h : isLC e = false) : swapsWith e t n env = pure false := by
  cases e <;> first | rfl | cases h
theorem sole_ok {e t : Expr} (n : Nat) (env : Env) (h : isLC e = false) : swapsWithSole [t] e n env = pure false := swaps_ok _ _ _ h
theorem stores_ok {e t : Expr} (env : Env) (h : isTu e = false) : swappedStores [t] e env = pure none := by
  cases e with
  | Tuple _ _ _ => cases h
  | List _ _ => cases h
  | _ => cases t <;> rfl
theorem assign1_ok {e : Expr} (es : List Expr) (env : Env) (h : okX e = true) : (assignEach (e :: es) env).map (·.2) = assign e env :: (assignEach es env).map (·.2) := by
  cases e <;> first | rfl | cases h
theorem true_ok {e : Expr} (env : Env) (h : plT e = true) (whole : Sem Value) : isTrue e env whole = (do let v ← whole; standAt e.pos; holding [v] (truthy v)) := by
  cases e with
  | UnaryOp o x p => cases o <;> first | rfl | cases h
  | BoolOp _ _ _ => cases h
  | IfExp _ _ _ _ => cases h
  | Compare _ _ _ _ => cases h
  | _ => rfl
theorem base_ok {e : Expr} (a : Str) (env : Env) (m : Sem Value) (h : ncX e = true) : attributeBase e a env m = m := by
  cases e <;> first | rfl | cases h
theorem _root_.L2.PE.imp {e : Expr} {t t' : TE} (h : PE X e t) (k : ∀ ρ H Q, t' ρ H Q → t ρ H Q) : PE X e t' := ⟨fun pins s σ H Q I q => h.run pins s σ H Q I (k _ _ _ q)⟩
theorem _root_.L2.PT.imp {e : Expr} {t t' : TT} (h : PT X e t) (k : ∀ ρ H Q, t' ρ H Q → t ρ H Q) : PT X e t' := ⟨fun pins s σ H Q I q => h.run pins s σ H Q I (k _ _ _ q)⟩
theorem _root_.L2.PW.imp {e : Expr} {t t' : TT} (h : PW X e t) (k : ∀ ρ H Q, t' ρ H Q → t ρ H Q) : PW X e t' := ⟨fun wh pins s σ H Q I q => h.run wh pins s σ H Q I (k _ _ _ q)⟩
theorem _root_.L2.PA.imp {e : List Expr} {t t' : TA} (h : PA X e t) (k : ∀ ρ H Q, t' ρ H Q → t ρ H Q) : PA X e t' := ⟨fun p pins s σ H Q I q => h.run p pins s σ H Q I (k _ _ _ q)⟩
theorem _root_.L2.PO.imp {e : Option Expr} {t t' : TO} (h : PO X e t) (k : ∀ ρ H Q, t' ρ H Q → t ρ H Q) : PO X e t' := ⟨fun pins s σ H Q I q => h.run pins s σ H Q I (k _ _ _ q)⟩
theorem _root_.L2.PI.imp {tg e : Expr} {t t' : TI} (h : PI X tg e t) (k : ∀ ρ H Q, t' ρ H Q → t ρ H Q) : PI X tg e t' := ⟨fun pins s σ H Q I q => h.run pins s σ H Q I (k _ _ _ q)⟩
theorem _root_.L2.PI.or {tg e : Expr} {t t' : TI} (h : PI X tg e t) (h' : PI X tg e t') : PI X tg e (fun ρ H R => t ρ H R ∨ t' ρ H R) := ⟨fun pins s σ H Q I q => q.elim (h.run pins s σ H Q I) (h'.run pins s σ H Q I)⟩
theorem _root_.L2.PG.imp {e : Expr} {t t' : TG} (h : PG X e t) (k : ∀ v ρ H Q, t' v ρ H Q → t v ρ H Q) : PG X e t' := ⟨fun pins s σ H v u Q I r q => h.run pins s σ H v u Q I r (k _ _ _ _ q)⟩
theorem _root_.L2.PGs.imp {e : List Expr} {t t' : TGs} (h : PGs X e t) (k : ∀ v ρ H Q, t' v ρ H Q → t v ρ H Q) : PGs X e t' := ⟨fun pins s σ H v u Q I r q => h.run pins s σ H v u Q I r (k _ _ _ _ q)⟩
theorem _root_.L2.PS.imp {e : Stmt} {t t' : TS} (h : PS X e t) (k : ∀ D ρ H, t' D ρ H → t D ρ H) : PS X e t' := ⟨fun pins s σ H D I q => h.run pins s σ H D I (k _ _ _ q)⟩
theorem _root_.L2.PSs.imp {e : List Stmt} {t t' : TS} (h : PSs X e t) (k : ∀ D ρ H, t' D ρ H → t D ρ H) : PSs X e t' := ⟨fun pins s σ H D I q => h.run pins s σ H D I (k _ _ _ q)⟩
variable {c : CC}
theorem and_tt {a b : Bool} (h : (a && b) = true) : a = true ∧ b = true := Bool.and_eq_true_iff.mp h
theorem dbg_ok {x : Str} (h : dbg x = true) : (x == ("__debug__" : Str)) = false ∧ (x == ("__classdict__" : Str)) = false ∧ x ≠ "__name__" := by
  obtain ⟨h1, h2⟩ := and_tt h
  obtain ⟨h3, h4⟩ := and_tt h1
  exact ⟨by simpa using h3, by simpa using h4, of_decide_eq_true h2⟩
theorem vis_ok (C : CtxOk X c) {i : Nat} {x : Str} (h : c.vis i x = true) : X.N[i]? = some x ∧ Vis X.env.scope x ∧ (x == ("__debug__" : Str)) = false ∧ (x == ("__classdict__" : Str)) = false := by
  obtain ⟨h1, h2⟩ := and_tt h
  obtain ⟨h3, h4⟩ := and_tt h1
  obtain ⟨h5, h6, _⟩ := dbg_ok h4
  refine ⟨by rw [C.N]; exact of_decide_eq_true h3, ?_, h5, h6⟩
  rw [C.sc]
  unfold Vis
  split at h2
  · rename_i e; exact .inl e
  · rename_i e; exact .inr (.inl e)
  · rename_i e; exact .inr (.inr e)
  · cases h2
theorem loc_ok (C : CtxOk X c) {i : Nat} {x : Str} (h : c.loc i x = true) : X.N[i]? = some x ∧ L2.Loc X.env.scope x ∧ (X.fn x = true ∨ X.env.scope.names.lookup x = some .local) := by
  obtain ⟨h1, h2⟩ := and_tt h
  refine ⟨by rw [C.N]; exact of_decide_eq_true h1, ?_⟩
  rw [C.sc]
  unfold L2.Loc
  split at h2
  · rename_i e; exact ⟨.inl e, .inr e⟩
  · rename_i e; exact ⟨.inr e, .inl (C.fn x h2)⟩
  · cases h2
theorem lcl_ok (C : CtxOk X c) {i : Nat} {x : Str} (h : c.lcl i x = true) : X.N[i]? = some x ∧ X.env.scope.names.lookup x = some .local := by
  obtain ⟨h1, h2⟩ := and_tt h
  exact ⟨by rw [C.N]; exact of_decide_eq_true h1, by rw [C.sc]; exact of_decide_eq_true h2⟩
theorem gl_ok (C : CtxOk X c) {x : Str} {g : String} (h : c.gl x g = true) : x = (g : Str) ∧ Gl X x ∧ (x == ("__debug__" : Str)) = false ∧ x ≠ "__name__" := by
  obtain ⟨h1, h2⟩ := and_tt h
  obtain ⟨h3, h4⟩ := and_tt h1
  obtain ⟨h5, _, h6⟩ := dbg_ok h4
  refine ⟨of_decide_eq_true h3, ?_, h5, h6⟩
  show X.env.scope.names.lookup x = some .globalImplicit
  rw [C.sc]; exact of_decide_eq_true h2
theorem boot_bi (b : Bi) : bootBuiltins (biN b : Str) = some (biV b) := by cases b <;> decide +kernel
theorem boot_ty {n : String} (h : tyNs.contains n = true) : bootBuiltins (n : Str) = some (.type n) := by
  have : n = "int" ∨ n = "str" ∨ n = "bool" ∨ n = "list" ∨ n = "tuple" := by simpa [tyNs] using h
  rcases this with rfl | rfl | rfl | rfl | rfl <;> decide +kernel
end
end Pu
namespace Pu
open PySem PySem.Spec PyProof.Rows
open L2 hiding St
section
variable {K : PySem.W.Frag} {xc : Xc} {W : WX} {cs : Nat → Addr → Prop} {B : Addr → Prop} {ρ : St} {H H' : Hp} {σ σ' : PSt}
theorem RelSt.put (R : RelSt K cs B H σ ρ) {i : Nat} {md : Md} {d0 d : D} {a : Addr} {ys : List V} (h : σ[i]? = some (some (md, d0))) (hmd : isOwn md = true) (hv : ρ[i]? = some (some (.ref a))) (t : Top K (upd H a (.lst ys)) (Av B σ ρ) d a) :
    RelSt K cs B (upd H a (.lst ys)) (σ.set i (some (md, d))) ρ := by
  have oa : Own σ ρ a := ⟨i, md, d0, h, hmd, hv⟩
  have eq : ∀ b, Own (σ.set i (some (md, d))) ρ b ↔ Own σ ρ b := own_put h
  have hlt : i < σ.length := (List.getElem?_eq_some_iff.mp h).1
  obtain ⟨xs, hxs⟩ : ∃ xs, H a = some (.lst xs) := by
    obtain ⟨v, h1, h2⟩ := R.slot i md d0 h
    rw [hv] at h1; cases h1
    cases md with
    | own => obtain ⟨b, e, t⟩ := h2; cases e; cases d0 <;> first | exact t.elim | (obtain ⟨vs, e, _⟩ := t; exact ⟨vs, e⟩)
    | chg => obtain ⟨b, e, t⟩ := h2; cases e; cases d0 <;> first | exact t.elim | (obtain ⟨vs, e, _⟩ := t; exact ⟨vs, e⟩)
    | val => cases hmd
    | bor => cases hmd
  have cr : ∀ {ds : List D} {vs : List V}, Reps K H (fun b => B b ∨ Own σ ρ b) ds vs → Reps K (upd H a (.lst ys)) (fun b => B b ∨ Own (σ.set i (some (md, d))) ρ b) ds vs := fun r =>
    reps_mono (fun b z => z.elim .inl fun q => .inr ((eq b).mp q)) (put_carry (N := Av B σ ρ) (.inr oa) hxs r)
  refine ⟨by simp [R.len], fun j mj dj e => ?_, fun j k md' md'' d1 d2 b e1 e2 o1 o2 r1 r2 => ?_, fun b q => ?_, fun b q z => R.bown b q ((eq b).mp z), fun j m' d' b e ip r => ?_, fun j b c => ?_, fun j d' b e r => ?_⟩
  · rcases get_set e with ⟨e1, e2, _⟩ | ⟨e1, e2⟩
    · cases e2
      refine ⟨.ref a, by rw [e1]; exact hv, ?_⟩
      have t' : Top K (upd H a (.lst ys)) (fun b => B b ∨ Own (σ.set i (some (md, d))) ρ b) d a := t.carry (fun o z => z) (reps_mono fun b z => z.elim .inl fun q => .inr ((eq b).mp q))
      cases md with
      | own => exact ⟨a, rfl, t'⟩
      | chg => exact ⟨a, rfl, t'⟩
      | val => cases hmd
      | bor => cases hmd
    · obtain ⟨v, h1, h2⟩ := R.slot j mj dj e2
      refine ⟨v, h1, h2.carry cr (fun b o w ev z => ?_) (fun b _ _ n z => n ((eq b).mp z))⟩
      rw [upd_ne (fun q => ?_)]
      · exact z
      · rcases w with w | w
        · subst q; subst ev
          exact e1 (R.dist j i mj md dj d0 b e2 h w hmd h1 hv)
        · exact w (by rw [q]; exact oa)
  · have key : ∀ (j : Nat) (m' : Md) (d' : D), (σ.set i (some (md, d)))[j]? = some (some (m', d')) → ∃ d'', σ[j]? = some (some (m', d'')) := fun j m' d' e => by
      rcases get_set e with ⟨e1, e2, _⟩ | ⟨_, e2⟩
      · cases e2; exact ⟨d0, by rw [e1]; exact h⟩
      · exact ⟨d', e2⟩
    obtain ⟨c1, k1⟩ := key j md' d1 e1
    obtain ⟨c2, k2⟩ := key k md'' d2 e2
    exact R.dist j k md' md'' c1 c2 b k1 k2 o1 o2 r1 r2
  · by_cases hb : b = a
    · rw [hb, upd_same]; simp
    · rw [upd_ne hb]; exact R.bdom b q
  · rcases get_set e with ⟨e1, e2, _⟩ | ⟨_, e2⟩
    · cases e2; subst e1
      cases md with
      | chg => exact R.chg j .chg d0 b h rfl r
      | own => cases ip
      | val => cases hmd
      | bor => cases hmd
    · exact R.chg j m' d' b e2 ip r
  · by_cases hb : b = a
    · rw [hb, upd_same]; simp
    · rw [upd_ne hb]; exact R.csd j b c
  · rcases get_set e with ⟨e1, e2, _⟩ | ⟨_, e2⟩
    · cases e2; subst e1; exact R.ocs j d0 b h r
    · exact R.ocs j d' b e2 r
theorem entry_get {md : List Md} {ds : List D} {i : Nat} {m : Md} {d : D} : (entry md ds)[i]? = some (some (m, d)) ↔ md[i]? = some m ∧ ds[i]? = some d := by
  unfold entry
  rw [List.getElem?_map, Option.map_eq_some_iff]
  constructor
  · rintro ⟨p, h, e⟩
    cases e
    exact List.getElem?_zip_eq_some.mp h
  · intro h
    exact ⟨(m, d), List.getElem?_zip_eq_some.mpr h, rfl⟩
theorem own_entry {md : List Md} {ds : List D} {vs : List V} (hl : ds.length = md.length) {a : Addr} : Own (entry md ds) (vs.map some) a ↔ ∃ (i : Nat) (m : Md), md[i]? = some m ∧ isOwn m = true ∧ vs[i]? = some (V.ref a) := by
  constructor
  · rintro ⟨i, m, d, h1, h2, h3⟩
    obtain ⟨h4, h5⟩ := entry_get.mp h1
    refine ⟨i, m, h4, h2, ?_⟩
    rw [List.getElem?_map] at h3
    cases e : vs[i]? with
    | none => rw [e] at h3; cases h3
    | some w => rw [e] at h3; cases h3; rfl
  · rintro ⟨i, m, h4, h2, h3⟩
    have hlt : i < ds.length := by rw [hl]; exact (List.getElem?_eq_some_iff.mp h4).1
    exact ⟨i, m, ds[i], entry_get.mpr ⟨h4, List.getElem?_eq_getElem hlt⟩, h2, by rw [List.getElem?_map, h3]; rfl⟩
theorem agrs_len : ∀ {as : List Ag} {vs : List V}, AgRs K B H σ ρ as vs → as.length = vs.length
  | [], [], _ => rfl
  | _ :: _, _ :: _, h => by simp [agrs_len h.2]
  | [], _ :: _, h => h.elim
  | _ :: _, [], h => h.elim
theorem agrs_get : ∀ {as : List Ag} {vs : List V} {i : Nat} {a : Ag} {v : V}, AgRs K B H σ ρ as vs → as[i]? = some a → vs[i]? = some v → AgR K B H σ ρ a v
  | a :: as, v :: vs, 0, _, _, h, e1, e2 => by simp at e1 e2; subst e1; subst e2; exact h.1
  | a :: as, v :: vs, i + 1, _, _, h, e1, e2 => agrs_get (i := i) h.2 (by simpa using e1) (by simpa using e2)
  | [], _, _, _, _, _, e, _ => by simp at e
  | _ :: _, [], _, _, _, h, _, _ => h.elim
theorem gets_len : ∀ {as : List Ag} {ds : List D}, Ag.gets σ as = some ds → as.length = ds.length
  | [], ds, e => by cases e; rfl
  | a :: as, ds, e => by
    unfold Ag.gets at e
    split at e
    · rename_i d ds' e1 e2
      cases e
      simp [gets_len e2]
    · cases e
theorem gets_get : ∀ {as : List Ag} {ds : List D} {i : Nat} {a : Ag} {d : D}, Ag.gets σ as = some ds → as[i]? = some a → ds[i]? = some d → a.get σ = some d
  | [], ds, _, _, _, e, h, _ => by simp at h
  | a :: as, ds, i, b, d, e, h1, h2 => by
    unfold Ag.gets at e
    split at e
    · rename_i d' ds' e1 e2
      cases e
      cases i with
      | zero => simp at h1 h2; subst h1; subst h2; exact e1
      | succ i => exact gets_get (i := i) e2 (by simpa using h1) (by simpa using h2)
    · cases e
theorem noClash_get : ∀ {ms : List Md} {as : List Ag} {i j : Nat} {m m' : Md} {a a' : Ag}, noClash ms as = true → i < j → ms[i]? = some m → as[i]? = some a → ms[j]? = some m' → as[j]? = some a' → clash m m' a a' = false
  | m :: ms, a :: as, 0, j + 1, _, m', _, a', h, _, e1, e2, e3, e4 => by
    simp at e1 e2; subst e1; subst e2
    have h' : ((ms.zip as).all (fun p => !clash m p.1 a p.2) && noClash ms as) = true := h
    rw [Bool.and_eq_true, List.all_eq_true] at h'
    have := h'.1 (m', a') (List.mem_of_getElem? (i := j) (List.getElem?_zip_eq_some.mpr ⟨by simpa using e3, by simpa using e4⟩))
    simpa using this
  | m :: ms, a :: as, i + 1, j + 1, _, _, _, _, h, hij, e1, e2, e3, e4 => by
    have h' : ((ms.zip as).all (fun p => !clash m p.1 a p.2) && noClash ms as) = true := h
    rw [Bool.and_eq_true] at h'
    exact noClash_get (i := i) (j := j) h'.2 (by omega) (by simpa using e1) (by simpa using e2) (by simpa using e3) (by simpa using e4)
  | [], _, i, _, _, _, _, _, _, _, e, _, _, _ => by simp at e
  | _ :: _, [], i, _, _, _, _, _, _, _, _, e, _, _ => by simp at e
  | _ :: _, _ :: _, _, 0, _, _, _, _, _, h, _, _, _, _ => absurd h (by omega)
theorem clash_ne {ms : List Md} {as : List Ag} (h : noClash ms as = true) {i j k : Nat} {m m' : Md} (hij : i ≠ j) (e1 : ms[i]? = some m) (e2 : as[i]? = some (.slot k)) (e3 : ms[j]? = some m') (e4 : as[j]? = some (.slot k)) (hc : m = .chg ∨ m' = .chg) : False := by
  have : clash m m' (.slot k) (.slot k) = true ∧ clash m' m (.slot k) (.slot k) = true := by
    rcases hc with rfl | rfl
    · exact ⟨by simp [clash, isChg], by simp [clash, isChg]⟩
    · exact ⟨by simp [clash, isChg], by simp [clash, isChg]⟩
  rcases Nat.lt_or_gt_of_ne hij with q | q
  · have z := noClash_get h q e1 e2 e3 e4
    rw [this.1] at z; cases z
  · have z := noClash_get h q e3 e4 e1 e2
    rw [this.2] at z; cases z
def PutS (ms : List Md) (as : List Ag) (rs : List D) (σ σ2 : PSt) : Prop := σ2.length = σ.length ∧ (∀ ρ a, Own σ2 ρ a ↔ Own σ ρ a) ∧
    ∀ (j : Nat) (md : Md) (d : D), σ2[j]? = some (some (md, d)) → (σ[j]? = some (some (md, d)) ∧ ∀ i : Nat, ms[i]? = some Md.chg → as[i]? ≠ some (Ag.slot j)) ∨ ∃ (i : Nat) (d0 : D), ms[i]? = some .chg ∧ as[i]? = some (.slot j) ∧ rs[i]? = some d ∧ σ[j]? = some (some (md, d0)) ∧ isOwn md = true
theorem putS_skip {m : Md} {a : Ag} {r : D} {ms : List Md} {as : List Ag} {rs : List D} {σ σ2 : PSt} (hm : m ≠ .chg) (h : PutS ms as rs σ σ2) : PutS (m :: ms) (a :: as) (r :: rs) σ σ2 := by
  obtain ⟨h1, h2, h3⟩ := h
  refine ⟨h1, h2, fun j md d h => ?_⟩
  rcases h3 j md d h with ⟨h4, h5⟩ | ⟨i, d0, h4, h5, h6, h7⟩
  · refine .inl ⟨h4, fun i hi => ?_⟩
    cases i with
    | zero => rw [List.getElem?_cons_zero] at hi; exact absurd (Option.some.inj hi) hm
    | succ i => rw [List.getElem?_cons_succ] at hi ⊢; exact h5 i hi
  · exact .inr ⟨i + 1, d0, by rw [List.getElem?_cons_succ]; exact h4, by rw [List.getElem?_cons_succ]; exact h5, by rw [List.getElem?_cons_succ]; exact h6, h7⟩
theorem putS_put {k : Nat} {r : D} {ms : List Md} {as : List Ag} {rs : List D} {σ σ' σ2 : PSt} (ho : putOwn σ k r = some σ') (h : PutS ms as rs σ' σ2) : PutS (.chg :: ms) (.slot k :: as) (r :: rs) σ σ2 := by
  obtain ⟨h1, h2, h3⟩ := h
  obtain ⟨md0, dd0, hk, hmd, rfl⟩ : ∃ md0 dd0, σ[k]? = some (some (md0, dd0)) ∧ isOwn md0 = true ∧ σ' = σ.set k (some (md0, r)) := by
    unfold putOwn at ho
    split at ho
    · rename_i d0 hd; cases ho; exact ⟨_, _, hd, rfl, rfl⟩
    · rename_i d0 hd; cases ho; exact ⟨_, _, hd, rfl, rfl⟩
    · cases ho
  refine ⟨by rw [h1]; simp, fun ρ b => (h2 ρ b).trans (own_put hk b), fun j md d h => ?_⟩
  rcases h3 j md d h with ⟨h4, h5⟩ | ⟨i, d0, h4, h5, h6, h7, h8⟩
  · rcases get_set h4 with ⟨e1, e2, _⟩ | ⟨e1, e2⟩
    · cases e2
      exact .inr ⟨0, dd0, rfl, by rw [e1]; rfl, rfl, by rw [e1]; exact hk, hmd⟩
    · refine .inl ⟨e2, fun i hi => ?_⟩
      cases i with
      | zero => exact fun q => e1 (Ag.slot.inj (Option.some.inj q)).symm
      | succ i => rw [List.getElem?_cons_succ] at hi ⊢; exact h5 i hi
  · have go : ∀ dd, σ[j]? = some (some (md, dd)) → _ := fun dd hd => Or.inr (a := σ[j]? = some (some (md, d)) ∧ ∀ i : Nat, (Md.chg :: ms)[i]? = some .chg → (Ag.slot k :: as)[i]? ≠ some (.slot j))
      (⟨i + 1, dd, by rw [List.getElem?_cons_succ]; exact h4, by rw [List.getElem?_cons_succ]; exact h5, by rw [List.getElem?_cons_succ]; exact h6, hd, h8⟩ : ∃ (i : Nat) (d0 : D), (Md.chg :: ms)[i]? = some .chg ∧ (Ag.slot k :: as)[i]? = some (.slot j) ∧ (r :: rs)[i]? = some d ∧ σ[j]? = some (some (md, d0)) ∧ isOwn md = true)
    rcases get_set h7 with ⟨e1, e2, _⟩ | ⟨e1, e2⟩
    · cases e2
      exact go dd0 (by rw [e1]; exact hk)
    · exact go d0 e2
theorem putMs_spec (ms : List Md) : ∀ (as : List Ag) (rs : List D) (σ σ2 : PSt), putMs σ ms as rs = some σ2 → PutS ms as rs σ σ2 := by
  induction ms with
  | nil =>
    intro as rs σ σ2 e
    cases as with
    | nil =>
      cases rs with
      | nil =>
        cases e
        exact ⟨rfl, fun _ _ => .rfl, fun j md d h => .inl ⟨h, fun i h => by simp at h⟩⟩
      | cons _ _ => cases e
    | cons _ _ => cases e
  | cons m ms ih =>
    intro as rs σ σ2 e
    cases as with
    | nil => cases e
    | cons a as =>
      cases rs with
      | nil => cases e
      | cons r rs =>
        cases m with
        | chg =>
          cases a with
          | tmp d => cases e
          | slot k =>
            have e' : (match putOwn σ k r with | some σ' => putMs σ' ms as rs | none => none) = some σ2 := e
            cases ho : putOwn σ k r with
            | none => rw [ho] at e'; cases e'
            | some σ' =>
              rw [ho] at e'
              exact putS_put ho (ih as rs σ' σ2 e')
        | val => exact putS_skip (by simp) (ih as rs σ σ2 e)
        | own => exact putS_skip (by simp) (ih as rs σ σ2 e)
        | bor => exact putS_skip (by simp) (ih as rs σ σ2 e)
theorem back_len : ∀ {ms : List Md} {ds rs : List D}, ds.length = ms.length → rs.length = ms.length → (back ms ds rs).length = ms.length
  | [], _, _, _, _ => by simp [back]
  | m :: ms, d :: ds, r :: rs, h1, h2 => by simp [back, back_len (ms := ms) (ds := ds) (rs := rs) (by simpa using h1) (by simpa using h2)]
  | _ :: _, [], _, h, _ => by simp at h
  | _ :: _, _ :: _, [], _, h => by simp at h
theorem back_chg : ∀ {ms : List Md} {ds rs : List D} {i : Nat} {r : D}, ds.length = ms.length → ms[i]? = some .chg → rs[i]? = some r → (back ms ds rs)[i]? = some r
  | m :: ms, d :: ds, r :: rs, 0, _, _, e1, e2 => by simp at e1 e2; subst e1; subst e2; rfl
  | m :: ms, d :: ds, r :: rs, i + 1, _, h, e1, e2 => by simpa [back] using back_chg (ms := ms) (ds := ds) (rs := rs) (i := i) (by simpa using h) (by simpa using e1) (by simpa using e2)
  | [], _, _, _, _, _, e, _ => by simp at e
  | _ :: _, [], _, _, _, h, _, _ => by simp at h
  | _ :: _, _ :: _, [], _, _, _, _, e => by simp at e
theorem ownD_get {i : Nat} {d : D} (h : ownD σ i = some d) : ∃ md, σ[i]? = some (some (md, d)) ∧ isOwn md = true := by
  unfold ownD at h
  split at h
  · rename_i d' hd; cases h; exact ⟨_, hd, rfl⟩
  · rename_i d' hd; cases h; exact ⟨_, hd, rfl⟩
  · cases h
section
variable {ms : List Md} {as : List Ag} {ds : List D} {vs : List V} {F : List D → FR}
structure Args (K : PySem.W.Frag) (B : Addr → Prop) (H : Hp) (σ : PSt) (ρ : St) (ms : List Md) (as : List Ag) (ds : List D) (vs : List V) : Prop where
  l1 : as.length = ms.length
  l2 : ds.length = ms.length
  l3 : vs.length = ms.length
  at1 : ∀ (i : Nat) (m : Md), ms[i]? = some m → ∃ a d v, as[i]? = some a ∧ ds[i]? = some d ∧ vs[i]? = some v ∧ AgR K B H σ ρ a v ∧ a.get σ = some d ∧ modeOk σ m a = true
  nc : noClash ms as = true
theorem args_of (hA : AgRs K B H σ ρ as vs) (hok : argsOk σ ms as = true) (hg : Ag.gets σ as = some ds) : Args K B H σ ρ ms as ds vs := by
  unfold argsOk at hok
  rw [Bool.and_eq_true, Bool.and_eq_true, decide_eq_true_eq, List.all_eq_true] at hok
  obtain ⟨h1, h2, h3⟩ := hok
  have l2 := gets_len hg
  have l3 := agrs_len hA
  refine ⟨h1.symm, by omega, by omega, fun i m hm => ?_, h3⟩
  have hi : i < ms.length := (List.getElem?_eq_some_iff.mp hm).1
  have ha : as[i]? = some as[i] := List.getElem?_eq_getElem (by omega)
  have hd : ds[i]? = some ds[i] := List.getElem?_eq_getElem (by omega)
  have hv : vs[i]? = some vs[i] := List.getElem?_eq_getElem (by omega)
  exact ⟨_, _, _, ha, hd, hv, agrs_get hA ha hv, gets_get hg ha hd, h2 (m, as[i]) (List.mem_of_getElem? (i := i) (List.getElem?_zip_eq_some.mpr ⟨hm, ha⟩))⟩
theorem Args.chg (A : Args K B H σ ρ ms as ds vs) (R : RelSt K cs B H σ ρ) {i : Nat} {m : Md} (hm : ms[i]? = some m) (ho : isOwn m = true) : m = .chg ∧ ∃ (j : Nat) (md : Md) (d : D) (a : Addr), as[i]? = some (.slot j) ∧ ds[i]? = some d ∧ vs[i]? = some (.ref a) ∧ σ[j]? = some (some (md, d)) ∧ isOwn md = true ∧ ρ[j]? = some (some (.ref a)) ∧ Top K H (Av B σ ρ) d a := by
  obtain ⟨a, d, v, h1, h2, h3, h4, h5, h6⟩ := A.at1 i m hm
  cases m with
  | val => cases ho
  | bor => cases ho
  | own => cases a <;> cases h6
  | chg =>
    cases a with
    | tmp d' => cases h6
    | slot j =>
      refine ⟨rfl, ?_⟩
      cases ho' : ownD σ j with
      | none => rw [show modeOk σ .chg (.slot j) = (ownD σ j).isSome from rfl, ho'] at h6; cases h6
      | some d' =>
        obtain ⟨md, e1, e2⟩ := ownD_get ho'
        have e3 : slotD σ j = some d := h5
        unfold slotD at e3
        rw [e1] at e3
        cases e3
        obtain ⟨w, w1, w2⟩ := R.slot j md d e1
        have w3 : ρ[j]? = some (some v) := h4
        rw [w1] at w3; cases w3
        cases md with
        | own => obtain ⟨b, e, t⟩ := w2; subst e; exact ⟨j, .own, d, b, h1, h2, h3, e1, e2, w1, t⟩
        | chg => obtain ⟨b, e, t⟩ := w2; subst e; exact ⟨j, .chg, d, b, h1, h2, h3, e1, e2, w1, t⟩
        | val => cases e2
        | bor => cases e2
def OwnV (ms : List Md) (vs : List V) (a : Addr) : Prop := ∃ (i : Nat) (m : Md), ms[i]? = some m ∧ isOwn m = true ∧ vs[i]? = some (V.ref a)
theorem Args.sub (A : Args K B H σ ρ ms as ds vs) (R : RelSt K cs B H σ ρ) {a : Addr} (h : OwnV ms vs a) : Own σ ρ a := by
  obtain ⟨i, m, h1, h2, h3⟩ := h
  obtain ⟨_, j, md, d, b, e1, e2, e3, e4, e5, e6, _⟩ := A.chg R h1 h2
  rw [h3] at e3; cases e3
  exact ⟨j, md, d, e4, e5, e6⟩
theorem Args.free (A : Args K B H σ ρ ms as ds vs) (R : RelSt K cs B H σ ρ) {j : Nat} {md : Md} {d : D} {a : Addr} (h : σ[j]? = some (some (md, d))) (ho : isOwn md = true) (hv : ρ[j]? = some (some (.ref a))) (n : ∀ i : Nat, ms[i]? = some Md.chg → as[i]? ≠ some (Ag.slot j)) : ¬ OwnV ms vs a := by
  rintro ⟨i, m, h1, h2, h3⟩
  obtain ⟨rfl, k, md', d', b, e1, e2, e3, e4, e5, e6, _⟩ := A.chg R h1 h2
  rw [h3] at e3; cases e3
  have := R.dist j k md md' d d' a h e4 ho e5 hv e6
  subst this
  exact n i h1 e1
theorem Args.ent (A : Args K B H σ ρ ms as ds vs) (R : RelSt K cs B H σ ρ) : RelSt K (fun i a => vs[i]? = some (V.ref a) ∧ H a ≠ none) (fun a => Av B σ ρ a ∧ ¬ OwnV ms vs a) H (entry ms ds) (vs.map some) := by
  have ow : ∀ a, Own (entry ms ds) (vs.map some) a ↔ OwnV ms vs a := fun a => own_entry A.l2
  have m1 : ∀ a, ((Av B σ ρ a ∧ ¬ OwnV ms vs a) ∨ Own (entry ms ds) (vs.map some) a) → Av B σ ρ a := fun a z => z.elim (·.1) fun q => .inr (A.sub R ((ow a).mp q))
  have vget : ∀ {i : Nat} {v : V}, vs[i]? = some v → (vs.map some)[i]? = some (some v) := fun h => by rw [List.getElem?_map, h]; rfl
  have vget' : ∀ {i : Nat} {v : V}, (vs.map some)[i]? = some (some v) → vs[i]? = some v := fun {i v} h => by
    rw [List.getElem?_map] at h
    cases e : vs[i]? with
    | none => rw [e] at h; cases h
    | some w => rw [e] at h; cases h; rfl
  refine ⟨?_, fun i m d e => ?_, fun i j m m' d d' a e1 e2 o1 o2 r1 r2 => ?_, fun a q => ?_, fun a q z => q.2 ((ow a).mp z), fun i m d a e ip r => ⟨vget' r, ?_⟩, fun i a c => c.2, fun i d a e r => ?_⟩
  · unfold entry
    rw [List.length_map, List.length_map, List.length_zip, A.l2, A.l3]; omega
  · obtain ⟨hm, hd⟩ := entry_get.mp e
    obtain ⟨a, d', v, h1, h2, h3, h4, h5, h6⟩ := A.at1 i m hm
    rw [hd] at h2; cases h2
    refine ⟨v, vget h3, ?_⟩
    cases m with
    | val =>
      cases a with
      | tmp d' => cases h5; exact rep_mono m1 h4
      | slot j => cases h6
    | bor =>
      cases a with
      | tmp d' => cases h5; exact .inl (rep_mono m1 h4)
      | slot j =>
        have e3 : slotD σ j = some d := h5
        unfold slotD at e3
        split at e3
        · rename_i md d1 hs
          cases e3
          obtain ⟨w, w1, w2⟩ := R.slot j md d hs
          have w3 : ρ[j]? = some (some v) := h4
          rw [w1] at w3; cases w3
          have nn : ∀ {b : Addr}, isOwn md = true → v = V.ref b → ¬ Own (entry ms ds) (vs.map some) b := fun {b} ho ev z => by
            subst ev
            refine A.free R hs ho w1 (fun i' hi' hj' => ?_) ((ow b).mp z)
            by_cases hii : i' = i
            · subst hii; rw [hm] at hi'; cases hi'
            · exact clash_ne A.nc hii hi' hj' hm h1 (.inl rfl)
          cases md with
          | val => exact .inl (rep_mono m1 w2)
          | bor =>
            rcases w2 with w2 | ⟨b, e, n, t⟩
            · exact .inl (rep_mono m1 w2)
            · exact .inr ⟨b, e, fun z => n (A.sub R ((ow b).mp z)), t.carry (fun o z => z) (reps_mono m1)⟩
          | own => obtain ⟨b, e, t⟩ := w2; exact .inr ⟨b, e, nn rfl e, t.carry (fun o z => z) (reps_mono m1)⟩
          | chg => obtain ⟨b, e, t⟩ := w2; exact .inr ⟨b, e, nn rfl e, t.carry (fun o z => z) (reps_mono m1)⟩
        · cases e3
    | own => cases a <;> cases h6
    | chg =>
      obtain ⟨_, j, md, d1, b, e1, e2, e3, e4, e5, e6, t⟩ := A.chg R hm rfl
      rw [hd] at e2; cases e2
      rw [h3] at e3; cases e3
      exact ⟨b, rfl, t.carry (fun o z => z) (reps_mono m1)⟩
  · obtain ⟨hm, hd⟩ := entry_get.mp e1
    obtain ⟨hm', hd'⟩ := entry_get.mp e2
    obtain ⟨rfl, k, md, d1, b, a1, _, a3, a4, a5, a6, _⟩ := A.chg R hm o1
    obtain ⟨rfl, k', md', d1', b', b1, _, b3, b4, b5, b6, _⟩ := A.chg R hm' o2
    rw [vget' r1] at a3; cases a3
    rw [vget' r2] at b3; cases b3
    have := R.dist k k' md md' d1 d1' a a4 b4 a5 b5 a6 b6
    subst this
    by_cases hij : i = j
    · exact hij
    · exact (clash_ne A.nc hij hm a1 hm' b1 (.inl rfl)).elim
  · rcases q.1 with q | q
    · exact R.bdom a q
    · obtain ⟨o, eo, _⟩ := R.ownOk a q
      rw [eo]; simp
  · obtain ⟨hm, hd⟩ := entry_get.mp e
    cases m with
    | val => cases ip
    | own => cases ip
    | chg =>
      obtain ⟨o, eo, _⟩ := R.ownOk a (A.sub R ⟨i, .chg, hm, rfl, vget' r⟩)
      rw [eo]; simp
    | bor =>
      cases d with
      | lst ds1 =>
        obtain ⟨b, d', v, h1, h2, h3, h4, h5, h6⟩ := A.at1 i .bor hm
        rw [hd] at h2; cases h2
        rw [vget' r] at h3; cases h3
        obtain ⟨c, us, ec, e1, _⟩ := (AgR.repq R h4 h5).lst
        cases ec
        rw [e1]; simp
      | _ => cases ip
  · obtain ⟨hm, hd⟩ := entry_get.mp e
    obtain ⟨b, d', v, h1, h2, h3, h4, h5, h6⟩ := A.at1 i .own hm
    cases b <;> cases h6
theorem Args.after (A : Args K B H σ ρ ms as ds vs) (R : RelSt K cs B H σ ρ) {rs : List D} {σ2 : PSt} {N B2 : Addr → Prop} {cs' : Nat → Addr → Prop} (hl : rs.length = ms.length) (hp : putMs σ ms as rs = some σ2)
    (keep : ∀ b o, H b = some o → ¬ OwnV ms vs b → H' b = some o) (trk : ∀ b, H b ≠ none → H' b ≠ none) (hN : ∀ a, N a → B a ∨ H a = none) (hNd : ∀ a, N a → H' a ≠ none) (hBN : ∀ a, (N a ∨ Own σ ρ a) → (B2 a ∨ OwnV ms vs a))
    (R2 : RelSt K cs' B2 H' (entry ms (back ms ds rs)) (vs.map some)) : RelSt K cs N H' σ2 ρ := by
  obtain ⟨p1, p2, p3⟩ := putMs_spec ms as rs σ σ2 hp
  have bl := back_len (rs := rs) A.l2 hl
  have ow2 : ∀ a, Own (entry ms (back ms ds rs)) (vs.map some) a ↔ OwnV ms vs a := fun a => own_entry bl
  have ok := R.ownOk
  have m2 : ∀ a, (N a ∨ Own σ2 ρ a) → (B2 a ∨ Own (entry ms (back ms ds rs)) (vs.map some) a) := fun a z => (hBN a (z.elim .inl fun q => .inr ((p2 ρ a).mp q))).elim .inl fun q => .inr ((ow2 a).mpr q)
  have nomut : ∀ {a : Addr} {o : HO}, H a = some o → ¬ MutO o → H' a = some o := fun {a o} h nm => keep a o h fun z => by
    obtain ⟨u, e, mu⟩ := ok a (A.sub R z)
    rw [h] at e; cases e
    exact nm mu
  have cr : ∀ {ds : List D} {vs' : List V}, Reps K H (Av B σ ρ) ds vs' → Reps K H' (fun b => N b ∨ Own σ2 ρ b) ds vs' := fun r =>
    reps_carry (fun a us hn e => ⟨keep a _ e fun z => hn (.inr (A.sub R z)), fun z => z.elim (fun q => (hN a q).elim (fun y => hn (.inl y)) fun y => by rw [y] at e; cases e) fun q => hn (.inr ((p2 ρ a).mp q))⟩)
      (fun a us h => by
        rcases h with (h | ⟨o, h⟩) | h
        · exact .inl (.inl (nomut h fun z => z))
        · exact .inl (.inr ⟨o, nomut h fun z => z⟩)
        · exact .inr h)
      (fun a us h => by
        rcases h with ⟨o, h⟩ | h
        · exact .inl ⟨o, nomut h fun z => z⟩
        · exact .inr h) r
  have old : ∀ {j : Nat} {md : Md} {d : D}, σ2[j]? = some (some (md, d)) → ∃ d0, σ[j]? = some (some (md, d0)) := fun {j md d} h => by
    rcases p3 j md d h with ⟨h, _⟩ | ⟨_, d0, _, _, _, h, _⟩
    · exact ⟨_, h⟩
    · exact ⟨_, h⟩
  refine ⟨p1.trans R.len, fun j md d h => ?_, fun i j md md' d d' a e1 e2 o1 o2 r1 r2 => ?_, hNd, fun a q z => ?_, fun i md d a e ip r => ?_, fun i a c => trk a (R.csd i a c), fun i d a e r => ?_⟩
  · rcases p3 j md d h with ⟨h1, h2⟩ | ⟨i, d0, h1, h2, h3, h4, h5⟩
    · obtain ⟨v, w1, w2⟩ := R.slot j md d h1
      refine ⟨v, w1, w2.carry cr (fun a o w ev z => keep a o z ?_) (fun a o z n q => n ((p2 ρ a).mp q))⟩
      rcases w with w | w
      · subst ev
        exact A.free R h1 w w1 h2
      · exact fun q => w (A.sub R q)
    · obtain ⟨_, k, md', d1, b, e1, e2, e3, e4, e5, e6, t⟩ := A.chg R h1 rfl
      rw [h2] at e1; cases e1
      rw [h4] at e4; cases e4
      obtain ⟨w, w1, w2⟩ := R2.slot i .chg d (entry_get.mpr ⟨h1, back_chg A.l2 h1 h3⟩)
      rw [List.getElem?_map, e3] at w1
      cases w1
      obtain ⟨b', eb, t'⟩ := w2
      cases eb
      have t2 : Top K H' (fun b => N b ∨ Own σ2 ρ b) d b := t'.carry (fun o z => z) (reps_mono m2)
      refine ⟨.ref b, e6, ?_⟩
      cases md with
      | own => exact ⟨b, rfl, t2⟩
      | chg => exact ⟨b, rfl, t2⟩
      | val => cases h5
      | bor => cases h5
  · obtain ⟨c1, k1⟩ := old e1
    obtain ⟨c2, k2⟩ := old e2
    exact R.dist i j md md' c1 c2 a k1 k2 o1 o2 r1 r2
  · have zo := (p2 ρ a).mp z
    rcases hN a q with q | q
    · exact R.bown a q zo
    · obtain ⟨o, eo, _⟩ := R.ownOk a zo
      rw [q] at eo; cases eo
  · rcases p3 i md d e with ⟨h, _⟩ | ⟨_, d0, _, _, _, h, ho⟩
    · exact R.chg i md d a h ip r
    · cases md with
      | chg => exact R.chg i .chg d0 a h rfl r
      | own => cases ip
      | val => cases ho
      | bor => cases ho
  · obtain ⟨d0, e0⟩ := old e
    exact R.ocs i d0 a e0 r
theorem ExcR.mono {N N' : Addr → Prop} {c : Nat} {fs : List D} {cls : Value} {dd : Option Addr} (h : ExcR K xc H N c fs cls dd) (m : ∀ a, N' a → N a) : ExcR K xc H N' c fs cls dd := by
  obtain ⟨C, names, h1, h2, h3, h4⟩ := h
  refine ⟨C, names, h1, h2, h3, ?_⟩
  rcases h4 with h4 | ⟨d, vs, e1, r, l, e2, e3⟩
  · exact .inl h4
  · exact .inr ⟨d, vs, e1, reps_mono m r, l, e2, e3⟩
theorem call_rd {H0 : Hp} {Q : VK} (R : RelSt K cs B H σ ρ) (A : Args K B H σ ρ ms as ds vs) (hf : ∀ a, H a = none → H0 a = none)
    (h : Dn K xc W cs B ρ H σ (match F ds with
      | .ok fr d rs => Pu.R.opt (putMs σ ms as rs) fun σ2 => .ok (fr, d) σ2
      | .exc c fs rs => Pu.R.opt (putMs σ ms as rs) fun σ2 => .exc c fs σ2
      | .bad => .bad) fun x σ' H' => ∀ v, VE K cs B H0 σ' ρ H' x v → Q v H') : spC K xc ms F vs H Q (WE W ρ) := by
  classical
  have ow : ∀ ds', ds'.length = ms.length → ∀ a, Own (entry ms ds') (vs.map some) a ↔ OwnV ms vs a := fun ds' hl a => own_entry hl
  refine ⟨_, _, ds, A.l3, A.l2, fun i a => .rfl, A.ent R, ?_⟩
  cases hF : F ds with
  | bad => rw [hF] at h; exact h
  | ok fr d rs =>
    rw [hF] at h
    obtain ⟨σ2, hp, h⟩ := Dn.opt h
    intro hl v H' f vr
    obtain ⟨p1, p2, p3⟩ := putMs_spec ms as rs σ σ2 hp
    have ow1 := ow ds A.l2
    have ow2 := ow _ (back_len (rs := rs) A.l2 hl)
    have keep : ∀ b o, H b = some o → ¬ OwnV ms vs b → H' b = some o := fun b o e n => f.keep b o e fun z => n ((ow1 b).mp z)
    have fr2 : Fr (Own σ ρ) H (Own σ2 ρ) H' := ⟨fun b o e n => keep b o e fun z => n (A.sub R z), fun b z => .inl ((p2 ρ b).mp z), f.trk⟩
    refine h H' fr2 v ?_
    cases fr with
    | false =>
      obtain ⟨R2, r⟩ := (show RelSt K _ _ H' _ _ ∧ Rep K H' _ d v from vr)
      refine ⟨A.after R hl hp keep f.trk (fun a q => .inl q) (fun a q => f.trk a (R.bdom a q)) (fun a q => ?_) R2, rep_mono (fun a q => ?_) r⟩
      · by_cases ho : OwnV ms vs a
        · exact .inr ho
        · exact .inl ⟨q, ho⟩
      · by_cases ho : OwnV ms vs a
        · exact .inr ((ow2 a).mpr ho)
        · exact .inl ⟨q.elim .inl fun z => .inr ((p2 ρ a).mp z), ho⟩
    | true =>
      obtain ⟨a, ev, R2, t⟩ := (show ∃ a, v = .ref a ∧ RelF K _ _ a H' _ _ ∧ Top K H' _ d a from vr)
      subst ev
      have na : ¬ OwnV ms vs a := fun z => R2.rel.bown a (.inr rfl) ((ow2 a).mpr z)
      have hn : H a = none := (f.own a (.inr ⟨rfl, rfl⟩)).elim (fun z => absurd ((ow1 a).mp z) na) id
      refine ⟨a, rfl, hf a hn, ⟨A.after R hl hp keep f.trk (fun b q => q.elim .inl fun e => .inr (by rw [e]; exact hn)) (fun b q => ?_) (fun b q => ?_) R2.rel, fun i c => R.csd i a c hn, fun z => R.bdom a z hn⟩, t.carry (fun o z => z) (reps_mono fun b q => ?_)⟩
      · rcases q with q | q
        · exact f.trk b (R.bdom b q)
        · rw [q]; exact R2.rel.bdom a (.inr rfl)
      · by_cases ho : OwnV ms vs b
        · exact .inr ho
        · refine .inl ?_
          rcases q with (q | q) | q
          · exact .inl ⟨.inl q, ho⟩
          · exact .inr q
          · exact .inl ⟨.inr q, ho⟩
      · by_cases ho : OwnV ms vs b
        · exact .inr ((ow2 b).mpr ho)
        · refine .inl ?_
          rcases q with (q | q) | q
          · exact .inl ⟨.inl q, ho⟩
          · exact .inr q
          · exact .inl ⟨.inr ((p2 ρ b).mp q), ho⟩
  | exc c fs rs =>
    rw [hF] at h
    obtain ⟨σ2, hp, h⟩ := Dn.opt h
    intro hl cls dd H' f R2 ex
    obtain ⟨p1, p2, p3⟩ := putMs_spec ms as rs σ σ2 hp
    have ow1 := ow ds A.l2
    have ow2 := ow _ (back_len (rs := rs) A.l2 hl)
    have keep : ∀ b o, H b = some o → ¬ OwnV ms vs b → H' b = some o := fun b o e n => f.keep b o e fun z => n ((ow1 b).mp z)
    have fr2 : Fr (Own σ ρ) H (Own σ2 ρ) H' := ⟨fun b o e n => keep b o e fun z => n (A.sub R z), fun b z => .inl ((p2 ρ b).mp z), f.trk⟩
    refine h cls dd H' fr2 (A.after R hl hp keep f.trk (fun a q => .inl q) (fun a q => f.trk a (R.bdom a q)) (fun a q => ?_) R2) (ex.mono fun a q => ?_)
    · by_cases ho : OwnV ms vs a
      · exact .inr ho
      · exact .inl ⟨q, ho⟩
    · by_cases ho : OwnV ms vs a
      · exact .inr ((ow2 a).mpr ho)
      · exact .inl ⟨q.elim .inl fun z => .inr ((p2 ρ a).mp z), ho⟩
end
end
end Pu
namespace Pu
open PySem PySem.Spec PyProof.Rows
open L2 hiding St
section
variable {X : Cx} {c : CC} {xc : Xc} {W : WX} {Z : Ev}
abbrev GE (X : Cx) (xc : Xc) (W : WX) (Z : Ev) (e : Xp) (x : Expr) : Prop := PE X x (rdE X.K xc W (ev Z e))
abbrev GB (X : Cx) (xc : Xc) (W : WX) (Z : Ev) (e : Xp) (x : Expr) : Prop := PE X x (rdB X.K xc W (toB e (ev Z e)))
abbrev GT (X : Cx) (xc : Xc) (W : WX) (Z : Ev) (t : Tp) (x : Expr) : Prop := PT X x (rdT X.K xc W (evT Z t))
variable {ρ : St} {H : Hp} {Q : VK} {K : PySem.W.Frag}
theorem rd_var {i : Nat} (h : rdE K xc W (ev Z (.var i)) ρ H Q) : tVar i ρ H Q := by
  obtain ⟨cs, B, σ, R, D⟩ := h
  have D : Dn K xc W cs B ρ H σ ((rdVal σ i).bind fun d σ => .ok (false, d) σ) _ := D
  unfold rdVal at D
  split at D
  · rename_i d hs
    obtain ⟨v, h1, h2⟩ := R.slot i _ _ hs
    exact ⟨v, h1, Dn.here D v ⟨R, h2⟩⟩
  · rename_i d hs
    obtain ⟨v, h1, R', h2, ho⟩ := R.share hs
    exact ⟨v, h1, D H (.less ho) v ⟨R', h2⟩⟩
  · rename_i d hs
    cases hc : isColl d with
    | true => rw [hc] at D; exact D.elim
    | false =>
      rw [hc] at D
      obtain ⟨v, h1, h2⟩ := R.slot i _ _ hs
      refine ⟨v, h1, Dn.here D v ⟨R, ?_⟩⟩
      rcases h2 with h2 | ⟨a, _, _, t⟩
      · exact h2
      · cases d with
        | lst _ => cases hc
        | _ => exact t.elim
  · exact D.elim
theorem ge_var (C : CtxOk X c) {i : Nat} {x : Str} {p : Pos} (h : c.vis i x = true) : GE X xc W Z (.var i) (.Name x p) := by
  obtain ⟨h1, h2, h3, h4⟩ := vis_ok C h
  exact (pe_var h1 h2 h3 h4).imp fun _ _ _ => rd_var
theorem rd_con {e : Xp} {d : D} {v : V} (he : ∀ σ, ev Z e σ = .ok (false, d) σ) (hv : ∀ H N, Rep K H N d v) (h : rdE K xc W (ev Z e) ρ H Q) : tC v ρ H Q := by
  obtain ⟨cs, B, σ, R, D⟩ := h
  rw [he] at D
  exact Dn.here D v ⟨R, hv _ _⟩
theorem ge_int {i : Int} {k : Nat} {p : Pos} : GE X xc W Z (.int i) (.Constant (.int i) k p) := pe_int.imp fun _ _ _ => rd_con (fun _ => rfl) fun _ _ => .int i
theorem ge_str {l : List Nat} {k : Nat} {p : Pos} : GE X xc W Z (.str l) (.Constant (.str (mkS l)) k p) := pe_str.imp fun _ _ _ => rd_con (fun _ => rfl) fun _ _ => .str l
theorem ge_bl {b : Bool} {k : Nat} {p : Pos} : GE X xc W Z (.bl b) (.Constant (.bool b) k p) := pe_bl.imp fun _ _ _ => rd_con (fun _ => rfl) fun _ _ => .bl b
theorem ge_non {k : Nat} {p : Pos} : GE X xc W Z .non (.Constant .none k p) := pe_non.imp fun _ _ _ => rd_con (fun _ => rfl) fun _ _ => .non
theorem ge_ty (G : EvX X xc Z) (C : CtxOk X c) {n : String} {x : Str} {p : Pos} (h : c.gl x n = true) (hn : tyNs.contains n = true) : GE X xc W Z (.ty n) (.Name x p) := by
  obtain ⟨rfl, h1, h2, h3⟩ := gl_ok C h
  have : n = "int" ∨ n = "str" ∨ n = "bool" ∨ n = "list" ∨ n = "tuple" := by simpa [tyNs] using hn
  have hm : X.mg n = none := G.blt n (by rcases this with rfl | rfl | rfl | rfl | rfl <;> simp)
  exact (pe_bltn (v := .ty n) h1 hm (boot_ty hn) rfl h3 h2).imp fun _ _ _ => rd_con (fun _ => rfl) fun _ _ => .ty n
theorem ge_glob (G : EvX X xc Z) (C : CtxOk X c) {n : String} {x : Str} {p : Pos} (h : c.gl x n = true) : GE X xc W Z (.glob n) (.Name x p) := by
  obtain ⟨rfl, h1, h2, h3⟩ := gl_ok C h
  cases e : Z.glob n with
  | none =>
    refine ⟨fun pins s σ H Q I h => ?_⟩
    obtain ⟨cs, B, σ, R, D⟩ := h
    have D : Dn X.K xc W cs B _ H σ (Pu.R.opt (Z.glob n) fun d => .ok (false, d) σ) _ := D
    rw [e] at D
    exact D.elim
  | some d =>
    obtain ⟨v, u, hm, r, hv⟩ := G.glob n d e
    refine (pe_glob h1 hm r h2).imp fun _ _ _ => rd_con (d := d) (fun σ => ?_) hv
    show Pu.R.opt (Z.glob n) (fun d => Pu.R.ok (false, d) σ) = _
    rw [e]; rfl
theorem rd_bvar {i : Nat} {Q : VK} (h : rdB K xc W (toB (.var i) (ev Z (.var i))) ρ H Q) : tVar i ρ H Q := by
  obtain ⟨cs, B, σ, R, D⟩ := h
  obtain ⟨d, hd, D⟩ := Dn.opt (o := slotD σ i) D
  unfold slotD at hd
  split at hd
  · rename_i md d' hs
    obtain ⟨v, h1, h2⟩ := R.slot i md d' hs
    exact ⟨v, h1, Dn.here D v R h1⟩
  · cases hd
theorem rd_b {e : Xp} {t : TE} (k : ∀ ρ H Q, rdE K xc W (ev Z e) ρ H Q → t ρ H Q) (hn : ∀ i, e ≠ .var i) (h : rdB K xc W (toB e (ev Z e)) ρ H Q) : t ρ H Q := by
  obtain ⟨cs, B, σ, R, D⟩ := h
  have e1 : toB e (ev Z e) σ = (ev Z e σ).bind fun x σ1 => .ok (Ag.tmp x.2) σ1 := by cases e <;> first | rfl | exact absurd rfl (hn _)
  rw [e1] at D
  refine k _ _ _ ⟨cs, B, σ, R, D.bind.mono fun x σ1 H1 f D1 v hv => ?_⟩
  obtain ⟨R1, r1⟩ := hv.val
  exact Dn.here D1 v R1 r1
theorem gb_of (C : CtxOk X c) {e : Xp} {x : Expr} (hc : cE c e x = true) (h : GE X xc W Z e x) : GB X xc W Z e x := by
  by_cases hn : ∀ i, e ≠ .var i
  · exact h.imp fun _ _ _ => rd_b (fun _ _ _ q => q) hn
  · have : ∃ i, e = .var i := by
      cases e with
      | var i => exact ⟨i, rfl⟩
      | _ => exact absurd (fun i z => by cases z) hn
    obtain ⟨i, rfl⟩ := this
    cases x with
    | Name y p =>
      obtain ⟨h1, h2, h3, h4⟩ := vis_ok C (show c.vis i y = true from hc)
      exact (pe_var h1 h2 h3 h4).imp fun _ _ _ => rd_bvar
    | _ => cases hc
theorem rd2 {β : Type} {fa fb : PSt → R Ag} {k : D → D → PSt → R β} {P : β → PSt → Hp → Prop} {G : V → V → Hp → Prop} {cs : Nat → Addr → Prop} {B : Addr → Prop} {σ : PSt} (R : RelSt K cs B H σ ρ)
    (D : Dn K xc W cs B ρ H σ ((fa σ).bind fun x σ1 => (fb σ1).bind fun y σ2 => Pu.R.opt (x.get σ2) fun d1 => Pu.R.opt (y.get σ2) fun d2 => k d1 d2 σ2) P)
    (go : ∀ σ2 H2 d1 d2 v1 v2, (∀ a, H2 a = none → H a = none) → RelSt K cs B H2 σ2 ρ → RepQ K H2 (Av B σ2 ρ) d1 v1 → RepQ K H2 (Av B σ2 ρ) d2 v2 → Dn K xc W cs B ρ H2 σ2 (k d1 d2 σ2) P → G v1 v2 H2) :
    rdB K xc W fa ρ H fun x H1 => rdB K xc W fb ρ H1 fun y H2 => G x y H2 := by
  refine ⟨cs, B, σ, R, D.bind.mono fun x σ1 H1 f1 D1 v1 R1 A1 => ⟨cs, B, σ1, R1, D1.bind.mono fun y σ2 H2 f2 D2 v2 R2 A2 => ?_⟩⟩
  obtain ⟨d1, e1, D3⟩ := Dn.opt D2
  obtain ⟨d2, e2, D4⟩ := Dn.opt D3
  exact go σ2 H2 d1 d2 v1 v2 (f1.trans f2).none R2 ((A1.mono f2 R1.ownOk).repq R2 e1) (A2.repq R2 e2) D4
theorem ge_bin {o : BinO} {a b : Xp} {l r : Expr} {p : Pos} (ha : GB X xc W Z a l) (hb : GB X xc W Z b r) : GE X xc W Z (.bin o a b) (.BinOp l (pyB o) r p) := by
  refine (pe_op (bin_ok o) ha hb).imp fun ρ H Q ⟨cs, B, σ, R, D⟩ => ?_
  refine rd2 R (k := fun d1 d2 σ2 => Pu.R.opt (semBin o d1 d2) fun r => .ok r σ2) D fun σ2 H2 d1 d2 v1 v2 hf R2 q1 q2 D => ?_
  obtain ⟨r, e, D⟩ := Dn.opt D
  exact ⟨_, d1, d2, r, q1, q2, e, op_end R2 D hf⟩
theorem cmp_end {o : CmpO} {cs : Nat → Addr → Prop} {B : Addr → Prop} {σ2 : PSt} {H0 H2 : Hp} {d1 d2 : D} {v1 v2 : V} (R2 : RelSt K cs B H2 σ2 ρ) (q1 : RepQ K H2 (Av B σ2 ρ) d1 v1) (q2 : RepQ K H2 (Av B σ2 ρ) d2 v2)
    (D : Dn K xc W cs B ρ H2 σ2 (Pu.R.opt (semCmp o d1 d2) fun r => .ok (false, Pu.D.bl r) σ2) fun x σ' H' => ∀ v, VE K cs B H0 σ' ρ H' x v → Q v H') : rCmp K o v1 v2 H2 Q := by
  obtain ⟨r, e, D⟩ := Dn.opt D
  exact ⟨_, d1, d2, r, q1, q2, e, Dn.here D _ ⟨R2, .bl r⟩⟩
theorem ge_cmp (G : EvX X xc Z) {o : CmpO} {a b : Xp} {l r : Expr} {p : Pos} (hr : okX r = true) (ha : GB X xc W Z a l) (hb : GB X xc W Z b r) : GE X xc W Z (.cmp o a b) (.Compare l [pyC o] [r] p) := by
  obtain ⟨k, room⟩ := G.room
  refine (pe_cmpR (cmp_ok o room) ha hb (marks_ok _ hr)).imp fun ρ H Q ⟨cs, B, σ, R, D⟩ => ?_
  exact rd2 R (k := fun d1 d2 σ2 => Pu.R.opt (semCmp o d1 d2) fun r => .ok (false, Pu.D.bl r) σ2) D fun σ2 H2 d1 d2 v1 v2 hf R2 q1 q2 D => cmp_end R2 q1 q2 D
theorem tst_v {e : Xp} {t : TE} {QT : Bool → Hp → Prop} (k : ∀ Q, rdE K xc W (ev Z e) ρ H Q → t ρ H Q) (hn : ∀ i, e ≠ .var i) (hb : ∀ σ x σ', ev Z e σ = .ok x σ' → ∃ c, x = (false, .bl c)) (h : rdT K xc W (fun σ => evT Z (.v e) σ) ρ H QT) : t ρ H fun x H' => ∃ c, x = .bl c ∧ QT c H' := by
  obtain ⟨cs, B, σ, R, D⟩ := h
  have D : Dn K xc W cs B ρ H σ ((toB e (ev Z e) σ).bind fun x σ1 => Pu.R.opt (x.get σ1) fun d => Pu.R.opt (truthD d) fun b => .ok b σ1) _ := D
  have e1 : toB e (ev Z e) σ = (ev Z e σ).bind fun x σ1 => .ok (Ag.tmp x.2) σ1 := by cases e <;> first | rfl | exact absurd rfl (hn _)
  rw [e1] at D
  refine k _ ⟨cs, B, σ, R, ?_⟩
  cases ee : ev Z e σ with
  | ok x σ' =>
    rw [ee] at D
    obtain ⟨c, rfl⟩ := hb _ _ _ ee
    intro H' f v hv
    obtain ⟨R1, r1⟩ := hv
    cases r1
    exact ⟨c, rfl, (show ∀ H', Fr _ _ _ H' → RelSt K cs B H' σ' ρ → QT c H' from D) H' f R1⟩
  | exc c fs σ' => rw [ee] at D; exact D
  | bad => rw [ee] at D; exact D
theorem opt_ok {α β : Type} {o : Option α} {k : α → R β} {b : β} {σ' : PSt} (h : Pu.R.opt o k = .ok b σ') : ∃ a, o = some a ∧ k a = .ok b σ' := by
  cases o with
  | none => cases h
  | some a => exact ⟨a, rfl, h⟩
theorem bind_ok {α β : Type} {r : R α} {k : α → PSt → R β} {b : β} {σ' : PSt} (h : r.bind k = .ok b σ') : ∃ a σ1, r = .ok a σ1 ∧ k a σ1 = .ok b σ' := by
  cases r with
  | ok a σ1 => exact ⟨a, σ1, rfl, h⟩
  | exc _ _ _ => cases h
  | bad => cases h
theorem gt_cmp (G : EvX X xc Z) {o : CmpO} {a b : Xp} {l r : Expr} {p : Pos} (hr : okX r = true) (ha : GB X xc W Z a l) (hb : GB X xc W Z b r) : GT X xc W Z (.v (.cmp o a b)) (.Compare l [pyC o] [r] p) := by
  obtain ⟨k, room⟩ := G.room
  refine (pt_cmpR (cmp_ok o room) ha hb (marks_ok _ hr)).imp fun ρ H QT h => ?_
  have k1 : ∀ Q, rdE X.K xc W (ev Z (.cmp o a b)) ρ H Q → tOp (rCmp X.K o) (rdB X.K xc W (toB a (ev Z a))) (rdB X.K xc W (toB b (ev Z b))) ρ H Q := fun Q h => by
    obtain ⟨cs, B, σ, R, D⟩ := h
    exact rd2 R (k := fun d1 d2 σ2 => Pu.R.opt (semCmp o d1 d2) fun r => .ok (false, Pu.D.bl r) σ2) D fun σ2 H2 d1 d2 v1 v2 hf R2 q1 q2 D => cmp_end R2 q1 q2 D
  refine tst_v (e := .cmp o a b) k1 (fun i z => by cases z) (fun σ x σ' he => ?_) h
  · obtain ⟨_, _, _, he⟩ := bind_ok (show ((toB a (ev Z a) σ).bind fun x σ1 => (toB b (ev Z b) σ1).bind fun y σ2 => Pu.R.opt (x.get σ2) fun d1 => Pu.R.opt (y.get σ2) fun d2 => Pu.R.opt (semCmp o d1 d2) fun r => Pu.R.ok (false, Pu.D.bl r) σ2) = _ from he)
    obtain ⟨_, _, _, he⟩ := bind_ok he
    obtain ⟨_, _, he⟩ := opt_ok he
    obtain ⟨_, _, he⟩ := opt_ok he
    obtain ⟨c, _, he⟩ := opt_ok he
    cases he
    exact ⟨c, rfl⟩
theorem rd_chain {o o' : CmpO} {a b d : Xp} (h : rdE K xc W (ev Z (.chain o o' a b d)) ρ H Q) : tChain (rCmp K o) (rCmp K o') (rdB K xc W (toB a (ev Z a))) (rdB K xc W (toB b (ev Z b))) (rdB K xc W (toB d (ev Z d))) ρ H Q := by
  obtain ⟨cs, B, σ, R, D⟩ := h
  refine ⟨cs, B, σ, R, Dn.mono (Dn.bind (k := fun (x : Ag) σ1 => (toB b (ev Z b) σ1).bind fun y σ2 => Pu.R.opt (x.get σ2) fun d1 => Pu.R.opt (y.get σ2) fun d2 => Pu.R.opt (semCmp o d1 d2) fun r =>
    if r then (toB d (ev Z d) σ2).bind fun z σ3 => Pu.R.opt (y.get σ3) fun d2 => Pu.R.opt (z.get σ3) fun d3 => Pu.R.opt (semCmp o' d2 d3) fun r => .ok (false, Pu.D.bl r) σ3 else .ok (false, Pu.D.bl false) σ2) D) fun x σ1 H1 f1 D1 v1 R1 A1 => ⟨cs, B, σ1, R1, D1.bind.mono fun y σ2 H2 f2 D2 v2 R2 A2 => ?_⟩⟩
  obtain ⟨d1, e1, D3⟩ := Dn.opt D2
  obtain ⟨d2, e2, D4⟩ := Dn.opt D3
  obtain ⟨r, e, D5⟩ := Dn.opt D4
  refine ⟨_, d1, d2, r, (A1.mono f2 R1.ownOk).repq R2 e1, A2.repq R2 e2, e, r, rfl, ?_⟩
  cases r with
  | false =>
    rw [if_neg (by simp)]
    exact Dn.here D5 _ ⟨R2, .bl false⟩
  | true =>
    rw [if_pos rfl]
    refine ⟨cs, B, σ2, R2, Dn.mono (Dn.bind D5) fun z σ3 H3 f3 D6 v3 R3 A3 => ?_⟩
    obtain ⟨d2', e3, D7⟩ := Dn.opt D6
    obtain ⟨d3, e4, D8⟩ := Dn.opt D7
    exact cmp_end R3 ((A2.mono f3 R2.ownOk).repq R3 e3) (A3.repq R3 e4) D8
theorem ge_chain (G : EvX X xc Z) {o o' : CmpO} {a b d : Xp} {l r q : Expr} {p : Pos} (hq : okX q = true) (ha : GB X xc W Z a l) (hb : GB X xc W Z b r) (hd : GB X xc W Z d q) : GE X xc W Z (.chain o o' a b d) (.Compare l [pyC o, pyC o'] [r, q] p) := by
  obtain ⟨k, room⟩ := G.room
  exact (pe_chain (cmp_ok o room) (cmp_ok o' room) ha hb hd (marks_ok _ hq)).imp fun ρ H Q => rd_chain
theorem gt_chain (G : EvX X xc Z) {o o' : CmpO} {a b d : Xp} {l r q : Expr} {p : Pos} (hq : okX q = true) (ha : GB X xc W Z a l) (hb : GB X xc W Z b r) (hd : GB X xc W Z d q) : GT X xc W Z (.v (.chain o o' a b d)) (.Compare l [pyC o, pyC o'] [r, q] p) := by
  obtain ⟨k, room⟩ := G.room
  refine (pt_chain (cmp_ok o room) (cmp_ok o' room) ha hb hd (marks_ok _ hq)).imp fun ρ H QT h => ?_
  refine tst_v (e := .chain o o' a b d) (t := tChain (rCmp X.K o) (rCmp X.K o') (rdB X.K xc W (toB a (ev Z a))) (rdB X.K xc W (toB b (ev Z b))) (rdB X.K xc W (toB d (ev Z d)))) (fun Q => rd_chain) (fun i z => by cases z) (fun σ x σ' he => ?_) h
  obtain ⟨_, _, _, he⟩ := bind_ok (show ((toB a (ev Z a) σ).bind fun x σ1 => (toB b (ev Z b) σ1).bind fun y σ2 => Pu.R.opt (x.get σ2) fun d1 => Pu.R.opt (y.get σ2) fun d2 => Pu.R.opt (semCmp o d1 d2) fun r =>
    if r then (toB d (ev Z d) σ2).bind fun z σ3 => Pu.R.opt (y.get σ3) fun d2 => Pu.R.opt (z.get σ3) fun d3 => Pu.R.opt (semCmp o' d2 d3) fun r => Pu.R.ok (false, Pu.D.bl r) σ3 else .ok (false, Pu.D.bl false) σ2) = _ from he)
  obtain ⟨_, _, _, he⟩ := bind_ok he
  obtain ⟨_, _, he⟩ := opt_ok he
  obtain ⟨_, _, he⟩ := opt_ok he
  obtain ⟨c, _, he⟩ := opt_ok he
  cases c with
  | false => cases he; exact ⟨_, rfl⟩
  | true =>
    obtain ⟨_, _, _, he⟩ := bind_ok he
    obtain ⟨_, _, he⟩ := opt_ok he
    obtain ⟨_, _, he⟩ := opt_ok he
    obtain ⟨c, _, he⟩ := opt_ok he
    cases he
    exact ⟨c, rfl⟩
theorem ge_idx {a b : Xp} {l r : Expr} {p : Pos} (hr : okX r = true) (ha : GB X xc W Z a l) (hb : GB X xc W Z b r) : GE X xc W Z (.idx a b) (.Subscript l r p) := by
  refine (pe_ix idx_ok ha hb (plainIx_ok hr)).imp fun ρ H Q ⟨cs, B, σ, R, D⟩ => ?_
  refine rd2 R (k := fun d1 d2 σ2 => Pu.R.opt (semIdx d1 d2) fun r => .ok (false, r) σ2) D fun σ2 H2 d1 d2 v1 v2 hf R2 q1 q2 D => ?_
  obtain ⟨r, e, D⟩ := Dn.opt D
  exact ⟨_, d1, d2, r, q1, q2, e, fun v rv => Dn.here D v ⟨R2, rv⟩⟩
theorem ge_neg {a : Xp} {l : Expr} {p : Pos} (ha : GB X xc W Z a l) : GE X xc W Z (.neg a) (.UnaryOp .USub l p) := by
  refine (pe_un un_neg ha).imp fun ρ H Q ⟨cs, B, σ, R, D⟩ => ?_
  refine ⟨cs, B, σ, R, Dn.mono (Dn.bind (r := toB a (ev Z a) σ) D) fun x σ1 H1 f1 D1 v1 R1 A1 => ?_⟩
  obtain ⟨d, e1, D2⟩ := Dn.opt D1
  cases d with
  | int i =>
    obtain rfl := (A1.repq R1 e1).int
    exact ⟨i, rfl, Dn.here D2 _ ⟨R1, .int _⟩⟩
  | _ => exact D2.elim
theorem ge_rev {a : Xp} {l : Expr} {k : Nat} {p1 p2 p3 p : Pos} (ha : GB X xc W Z a l) : GE X xc W Z (.rev a) (.Subscript l (.Slice none none (some (.UnaryOp .USub (.Constant (.int 1) k p1) p2)) p3) p) := by
  refine (pe_revL ha).imp fun ρ H Q ⟨cs, B, σ, R, D⟩ => ?_
  refine ⟨cs, B, σ, R, Dn.mono (Dn.bind (r := toB a (ev Z a) σ) D) fun x σ1 H1 f1 D1 v1 R1 A1 => ?_⟩
  obtain ⟨d, e1, D2⟩ := Dn.opt D1
  obtain ⟨r, e2, D3⟩ := Dn.opt D2
  cases d with
  | lst ds =>
    cases e2
    obtain ⟨a, vs, rfl, h1, h2⟩ := (A1.repq R1 e1).sql
    exact ⟨a, vs, rfl, h1, (op_end R1 D3 f1.none).new h2.reverse⟩
  | _ => cases e2
theorem ge_slc {a : Xp} {lo hi : Ox} {l : Expr} {x y : Option Expr} {p2 p : Pos} (ha : GB X xc W Z a l) (hx : PO X x (rdO X.K xc W (evO Z lo))) (hy : PO X y (rdO X.K xc W (evO Z hi))) : GE X xc W Z (.slc a lo hi) (.Subscript l (.Slice x y none p2) p) := by
  refine (pe_slice slc_ok ha hx hy).imp fun ρ H Q ⟨cs, B, σ, R, D⟩ => ?_
  refine ⟨cs, B, σ, R, Dn.mono (Dn.bind (r := toB a (ev Z a) σ) D) fun x σ1 H1 f1 D1 v1 R1 A1 => ⟨cs, B, σ1, R1, D1.bind.mono fun l σ2 H2 f2 D2 R2 => ⟨cs, B, σ2, R2, D2.bind.mono fun h σ3 H3 f3 D3 R3 => ?_⟩⟩⟩
  obtain ⟨d, e1, D4⟩ := Dn.opt D3
  obtain ⟨r, e2, D5⟩ := Dn.opt D4
  exact ⟨_, d, r, ((A1.mono f2 R1.ownOk).mono f3 R2.ownOk).repq R3 e1, e2, op_end R3 D5 ((f1.trans f2).trans f3).none⟩
theorem go_no : PO X none (rdO X.K xc W (evO Z .no)) := po_none.imp fun ρ H Q ⟨cs, B, σ, R, D⟩ => Dn.here D R
theorem go_so {e : Xp} {x : Expr} (h : GE X xc W Z e x) : PO X (some x) (rdO X.K xc W (evO Z (.so e))) := by
  refine (po_some h).imp fun ρ H Q ⟨cs, B, σ, R, D⟩ => ?_
  refine ⟨cs, B, σ, R, Dn.mono (Dn.bind (r := ev Z e σ) D) fun x σ1 H1 f1 D1 v hv => ?_⟩
  obtain ⟨R1, r1⟩ := hv.val
  obtain ⟨f, d⟩ := x
  cases d with
  | int i =>
    cases r1
    exact ⟨i, rfl, Dn.here D1 R1⟩
  | _ => exact D1.elim
theorem ga_nil : PA X [] (rdEs X.K xc W (evs Z .nil)) := pa_nil.imp fun ρ H Q ⟨cs, B, σ, R, D⟩ => Dn.here D [] R .nil
theorem ga_cons {e : Xp} {es : Xs} {x : Expr} {xs : List Expr} (hx : okX x = true) (h : GE X xc W Z e x) (t : PA X xs (rdEs X.K xc W (evs Z es))) : PA X (x :: xs) (rdEs X.K xc W (evs Z (.cons e es))) := by
  refine (pa_cons h t (star_ok _ _ hx)).imp fun ρ H Q ⟨cs, B, σ, R, D⟩ => ?_
  refine ⟨cs, B, σ, R, Dn.mono (Dn.bind (r := ev Z e σ) D) fun x σ1 H1 f1 D1 v hv => ?_⟩
  obtain ⟨R1, r1⟩ := hv.val
  exact ⟨cs, B, σ1, R1, D1.bind.mono fun xs σ2 H2 f2 D2 vs R2 r2 => Dn.here D2 (v :: vs) R2 (.cons (f2.rep R1.ownOk r1) r2)⟩
theorem gbs_nil : PA X [] (rdBs X.K xc W (evBs Z .nil)) := pa_nil.imp fun ρ H Q ⟨cs, B, σ, R, D⟩ => Dn.here D [] R trivial
theorem gbs_cons {e : Xp} {es : Xs} {x : Expr} {xs : List Expr} (hx : okX x = true) (h : GB X xc W Z e x) (t : PA X xs (rdBs X.K xc W (evBs Z es))) : PA X (x :: xs) (rdBs X.K xc W (evBs Z (.cons e es))) := by
  refine (pa_cons h t (star_ok _ _ hx)).imp fun ρ H Q ⟨cs, B, σ, R, D⟩ => ?_
  exact ⟨cs, B, σ, R, Dn.mono (Dn.bind (r := toB e (ev Z e) σ) D) fun x σ1 H1 f1 D1 v R1 r1 => ⟨cs, B, σ1, R1, D1.bind.mono fun xs σ2 H2 f2 D2 vs R2 r2 => Dn.here D2 (v :: vs) R2 ⟨r1.mono f2 R1.ownOk, r2⟩⟩⟩
theorem gas_nil {ms : List Md} : PA X [] (rdBs X.K xc W (evAs Z ms .nil)) := pa_nil.imp fun ρ H Q ⟨cs, B, σ, R, D⟩ => by
  cases ms with
  | nil => exact Dn.here D [] R trivial
  | cons _ _ => exact D.elim
theorem gas_cons (C : CtxOk X c) {ms : List Md} {e : Xp} {es : Xs} {x : Expr} {xs : List Expr} (hx : okX x = true) (h : GE X xc W Z e x) (hb : GB X xc W Z e x) (t : ∀ ms, PA X xs (rdBs X.K xc W (evAs Z ms es))) : PA X (x :: xs) (rdBs X.K xc W (evAs Z ms (.cons e es))) := by
  cases ms with
  | nil => exact ⟨fun p pins s σ H Q I ⟨cs, B, σ', R, D⟩ => D.elim⟩
  | cons m ms =>
    have fin : ∀ (f : PSt → R Ag), PE X x (rdB X.K xc W f) → PA X (x :: xs) (rdBs X.K xc W fun σ => (f σ).bind fun x σ1 => (evAs Z ms es σ1).bind fun xs σ2 => .ok (x :: xs) σ2) := fun f hf => by
      refine (pa_cons hf (t ms) (star_ok _ _ hx)).imp fun ρ H Q ⟨cs, B, σ, R, D⟩ => ?_
      exact ⟨cs, B, σ, R, Dn.mono (Dn.bind (r := f σ) D) fun x σ1 H1 f1 D1 v R1 r1 => ⟨cs, B, σ1, R1, D1.bind.mono fun xs σ2 H2 f2 D2 vs R2 r2 => Dn.here D2 (v :: vs) R2 ⟨r1.mono f2 R1.ownOk, r2⟩⟩⟩
    cases m with
    | val =>
      refine fin (fun σ => (ev Z e σ).bind fun x σ1 => .ok (Ag.tmp x.2) σ1) (h.imp fun ρ H Q ⟨cs, B, σ, R, D⟩ => ?_)
      refine ⟨cs, B, σ, R, Dn.mono (Dn.bind D) fun x σ1 H1 f1 D1 v hv => ?_⟩
      obtain ⟨R1, r1⟩ := hv.val
      exact Dn.here D1 v R1 r1
    | chg =>
      by_cases hn : ∀ i, e ≠ .var i
      · refine ⟨fun p pins s σ H Q I ⟨cs, B, σ', R, D⟩ => ?_⟩
        exfalso
        cases e <;> first | exact D.elim | exact hn _ rfl
      · have : ∃ i, e = .var i := by
          cases e with
          | var i => exact ⟨i, rfl⟩
          | _ => exact absurd (fun i z => by cases z) hn
        obtain ⟨i, rfl⟩ := this
        refine fin (fun σ => Pu.R.opt (ownD σ i) fun _ => .ok (Ag.slot i) σ) (hb.imp fun ρ H Q ⟨cs, B, σ, R, D⟩ => ⟨cs, B, σ, R, ?_⟩)
        obtain ⟨d, e1, D1⟩ := Dn.opt D
        have e2 : slotD σ i = some d := by
          obtain ⟨md, e3, _⟩ := ownD_get e1
          unfold slotD
          rw [e3]
        show Dn X.K xc W cs B ρ H σ (Pu.R.opt (slotD σ i) fun _ => .ok (Ag.slot i) σ) _
        rw [e2]
        exact D1
    | own => exact fin _ hb
    | bor => exact fin _ hb
theorem plain_star : ∀ {es : Xs} {xs : List Expr} {pos : Pos} {env : Env}, cEs c es xs = true → (backTo pos (starEach xs env)).any (·.1) = false
  | .nil, xs, _, _, h => by
    cases xs with
    | nil => rfl
    | cons _ _ => cases h
  | .cons e es, xs, pos, env, h => by
    cases xs with
    | nil => cases h
    | cons x xs =>
      obtain ⟨h1, h2⟩ := and_tt (show (okX x && (cE c e x && cEs c es xs)) = true from h)
      rw [star_ok _ _ h1]
      show (false || (backTo pos (starEach xs env)).any (·.1)) = false
      exact plain_star (and_tt h2).2
theorem ge_tup {es : Xs} {xs : List Expr} {k : Nat} {p : Pos} (h : PA X xs (rdEs X.K xc W (evs Z es))) : GE X xc W Z (.tup es) (.Tuple xs k p) := by
  refine (pe_tup h).imp fun ρ H Q ⟨cs, B, σ, R, D⟩ => ?_
  refine ⟨cs, B, σ, R, Dn.mono (Dn.bind (r := evs Z es σ) D) fun ds σ1 H1 f1 D1 vs R1 r1 => ?_⟩
  obtain ⟨hz, D2⟩ := Dn.ite D1
  refine ⟨by rw [← r1.length]; exact szB_le hz, fun p hp => ?_⟩
  have k : ∀ b o, H1 b = some o → upd H1 p (.tup vs) b = some o := fun b o e => by rw [upd_ne (ne_of_none e hp)]; exact e
  exact D2 _ (.same k) _ ⟨R1.same k, .tup (.inl (.inl upd_same)) (reps_same k r1)⟩
theorem ge_lst {es : Xs} {xs : List Expr} {p : Pos} (h : PA X xs (rdEs X.K xc W (evs Z es))) : GE X xc W Z (.lst es) (.List xs p) := by
  refine (pe_lst h).imp fun ρ H Q ⟨cs, B, σ, R, D⟩ => ?_
  refine ⟨cs, B, σ, R, Dn.mono (Dn.bind (r := evs Z es σ) D) fun ds σ1 H1 f1 D1 vs R1 r1 => ?_⟩
  obtain ⟨hz, D2⟩ := Dn.ite D1
  exact ⟨by rw [← r1.length]; exact szB_le hz, (op_end R1 D2 f1.none).new r1⟩
theorem ge_bi (G : EvX X xc Z) (C : CtxOk X c) {b : Bi} {es : Xs} {x : Str} {y : Expr} {ys : List Expr} {p q : Pos} (h : c.gl x (biN b) = true) (hes : cEs c es (y :: ys) = true) (t : PA X (y :: ys) (rdBs X.K xc W (evBs Z es))) : GE X xc W Z (.bi b es) (.Call (.Name x p) (y :: ys) [] q) := by
  obtain ⟨rfl, h1, h2, h3⟩ := gl_ok C h
  obtain ⟨k, room⟩ := G.room
  have hm : X.mg (biN b) = none := G.blt _ (by cases b <;> simp [biN])
  have hs : okX y = true := by
    cases es with
    | nil => cases hes
    | cons e es => exact (and_tt (show (okX y && (cE c e y && cEs c es ys)) = true from hes)).1
  have hpl : (backTo q (starEach ys X.env)).any (·.1) = false := by
    have := plain_star (pos := q) (env := X.env) hes
    rw [star_ok _ _ hs] at this
    exact this
  have main : PE X (.Call (.Name (biN b : Str) p) (y :: ys) [] q) (tCB (rBi X.K b) (rdBs X.K xc W (evBs Z es))) := by
    have hv := boot_bi b
    have hb := bi_ok (X := X) b room C.calm
    cases b with
    | int => exact pe_callTy hb h1 hm hv t h3 h2 (star_ok _ _ hs) hpl
    | list => exact pe_callTy hb h1 hm hv t h3 h2 (star_ok _ _ hs) hpl
    | _ => exact pe_callB hb h1 hm hv t h3 h2 (star_ok _ _ hs) hpl
  refine main.imp fun ρ H Q ⟨cs, B, σ, R, D⟩ => ?_
  refine ⟨cs, B, σ, R, Dn.mono (Dn.bind (r := evBs Z es σ) D) fun as σ1 H1 f1 D1 vs R1 r1 => ?_⟩
  obtain ⟨ds, e1, D2⟩ := Dn.opt D1
  obtain ⟨r, e2, D3⟩ := Dn.opt D2
  exact ⟨_, ds, r, AgRs.repqs R1 r1 e1, e2, op_end R1 D3 f1.none⟩
theorem ge_me {o : Xp} {es : Xs} {z y : Expr} {p q : Pos} (hl : p.endLine = q.line) (hz : ncX z = true) (hes : cEs c es [y] = true) (ho : GB X xc W Z o z) (t : PA X [y] (rdBs X.K xc W (evBs Z es))) :
    GE X xc W Z (.me .join o es) (.Call (.Attribute z ("join" : Str) p) [y] [] q) := by
  have hy : okX y = true := by
    cases es with
    | nil => cases hes
    | cons e es => exact (and_tt (show (okX y && (cE c e y && cEs c es [])) = true from hes)).1
  have hst : starEach [y] X.env = [(false, eval y X.env)] := star_ok _ _ hy
  refine (pe_bm F.plainAttrs_str F.slot_str_join F.type_str_join me_join ho t (base_ok _ _ _ hz) (by rw [hst]; rfl) (by rw [hl]; exact beq_self_eq_true _) (star_ok _ _ hy) rfl).imp fun ρ H Q ⟨cs, B, σ, R, D⟩ => ?_
  refine ⟨cs, B, σ, R, Dn.mono (Dn.bind (r := toB o (ev Z o) σ) D) fun x σ1 H1 f1 D1 v1 R1 A1 => ?_⟩
  obtain ⟨d0, e0, D1⟩ := Dn.opt D1
  obtain ⟨hz0, D1⟩ := Dn.ite D1
  refine ⟨?_, cs, B, σ1, R1, Dn.mono (Dn.bind D1) fun as σ2 H2 f2 D2 vs R2 r2 => ?_⟩
  · cases d0 with
    | str l =>
      obtain rfl := (A1.repq R1 e0).str
      rfl
    | _ => cases hz0
  · obtain ⟨d, e1, D3⟩ := Dn.opt D2
    obtain ⟨ds, e2, D4⟩ := Dn.opt D3
    obtain ⟨r, e3, D5⟩ := Dn.opt D4
    exact ⟨_, d, ds, r, (A1.mono f2 R1.ownOk).repq R2 e1, AgRs.repqs R2 r2 e2, e3, op_end R2 D5 (f1.trans f2).none⟩
end
end Pu
namespace Pu
open PySem PySem.Spec PyProof.Rows
open L2 hiding St
section
variable {X : Cx} {c : CC} {xc : Xc} {W : WX} {Z : Ev}
variable {ρ : St} {H : Hp} {Q : VK} {K : PySem.W.Frag}
theorem mu_slot (m : Mu) : Slot "list" (mtN m : Str) (muN m) := by
  cases m
  · exact F.slot_list_append
  · exact F.slot_list_pop
  · exact F.slot_list_clear
theorem mu_type (m : Mu) : typeOf (.builtin (muN m)) = pure (.type "method_descriptor") := by
  cases m
  · exact F.type_list_append
  · exact F.type_list_pop
  · exact F.type_list_clear
theorem putOwn_eq {σ σ2 : PSt} {i : Nat} {md : Md} {d d0 : D} (h : σ[i]? = some (some (md, d0))) (e : putOwn σ i d = some σ2) : σ2 = σ.set i (some (md, d)) := by
  unfold putOwn at e
  rw [h] at e
  cases md <;> cases e <;> rfl
theorem own_ref {cs : Nat → Addr → Prop} {B : Addr → Prop} {σ : PSt} {i : Nat} {d : D} (R : RelSt K cs B H σ ρ) (h : ownD σ i = some d) : ∃ md a, σ[i]? = some (some (md, d)) ∧ isOwn md = true ∧ ρ[i]? = some (some (.ref a)) ∧ Top K H (Av B σ ρ) d a := by
  obtain ⟨md, h1, h2⟩ := ownD_get h
  obtain ⟨v, h3, h4⟩ := R.slot i md d h1
  cases md with
  | own => obtain ⟨a, e, t⟩ := h4; subst e; exact ⟨_, a, h1, h2, h3, t⟩
  | chg => obtain ⟨a, e, t⟩ := h4; subst e; exact ⟨_, a, h1, h2, h3, t⟩
  | val => cases h2
  | bor => cases h2
theorem put_fr {σ : PSt} {i : Nat} {md : Md} {d d0 : D} {a : Addr} {o : HO} (h : σ[i]? = some (some (md, d0))) (ho : isOwn md = true) (hv : ρ[i]? = some (some (.ref a))) : Fr (Own σ ρ) H (Own (σ.set i (some (md, d))) ρ) (upd H a o) :=
  (Fr.put (o := o) ⟨i, md, d0, h, ho, hv⟩).trans (.less fun b z => (own_put h b).mp z)
theorem mu_end {cs : Nat → Addr → Prop} {B : Addr → Prop} {σ : PSt} {H0 : Hp} {m : Mu} {i : Nat} {md : Md} {a : Addr} {d : D} {ds : List D} {vs : List V} (R : RelSt K cs B H σ ρ) (h : σ[i]? = some (some (md, d))) (ho : isOwn md = true) (hv : ρ[i]? = some (some (.ref a))) (t : Top K H (Av B σ ρ) d a) (r : Reps K H (Av B σ ρ) ds vs)
    (D : Dn K xc W cs B ρ H σ (Pu.R.opt (semMu m d ds) fun r => Pu.R.opt (putOwn σ i r.1) fun σ2 => .ok (false, r.2) σ2) fun x σ' H' => ∀ v, VE K cs B H0 σ' ρ H' x v → Q v H') : rMu K m (.ref a) vs H Q := by
  obtain ⟨r', e1, D⟩ := Dn.opt D
  obtain ⟨σ2, e2, D⟩ := Dn.opt D
  have := putOwn_eq h e2
  subst this
  refine ⟨_, a, d, ds, r', rfl, .inr ⟨i, md, d, h, ho, hv⟩, t, r, e1, fun v ys t' rv => ?_⟩
  exact D _ (put_fr h ho hv) v ⟨R.put h ho hv t', rep_mono (fun b z => z.elim .inl fun q => .inr ((own_put h b).mp q)) rv⟩
theorem top_lst {N : Addr → Prop} {d : D} {a : Addr} (t : Top K H N d a) : tyV K "list" (.ref a) H := by
  cases d with
  | lst ds => obtain ⟨vs, e, _⟩ := t; exact .inl ⟨rfl, vs, .of e⟩
  | _ => exact t.elim
theorem ge_mu (C : CtxOk X c) {m : Mu} {i : Nat} {es : Xs} {z : Str} {ys : List Expr} {pz p q : Pos} (hl : p.endLine = q.line) (hz : c.vis i z = true) (hlen : ys.length < 2) (hes : cEs c es ys = true) (t : PA X ys (rdEs X.K xc W (evs Z es))) :
    GE X xc W Z (.mu m i es) (.Call (.Attribute (.Name z pz) (mtN m : Str) p) ys [] q) := by
  obtain ⟨h1, h2, h3, h4⟩ := vis_ok C hz
  have hb : (p.endLine == q.line) = true := by rw [hl]; exact beq_self_eq_true _
  cases ys with
  | nil =>
    refine (pe_bm0 F.plainAttrs_list (mu_slot m) (mu_type m) (mu_ok m) (pe_var (pos := pz) h1 h2 h3 h4) (base_ok _ _ _ rfl) hb).imp fun ρ H Q ⟨cs, B, σ, R, D⟩ => ?_
    cases es with
    | cons _ _ => cases hes
    | nil =>
      obtain ⟨d0, e0, D⟩ := Dn.opt (o := ownD σ i) D
      obtain ⟨md, a, k1, k2, k3, k4⟩ := own_ref R e0
      refine ⟨_, k3, top_lst k4, ?_⟩
      obtain ⟨d, e1, D⟩ := Dn.opt (o := ownD σ i) (show Dn X.K xc W cs B ρ H σ (Pu.R.opt (ownD σ i) fun d => Pu.R.opt (semMu m d []) fun r => Pu.R.opt (putOwn σ i r.1) fun σ2 => .ok (false, r.2) σ2) _ from D)
      rw [e0] at e1; cases e1
      exact mu_end R k1 k2 k3 k4 .nil D
  | cons y ys =>
    cases ys with
    | cons _ _ =>
      exfalso
      rw [List.length_cons, List.length_cons] at hlen
      omega
    | nil =>
      have hy : okX y = true := by
        cases es with
        | nil => cases hes
        | cons e es => exact (and_tt (show (okX y && (cE c e y && cEs c es [])) = true from hes)).1
      have hst : starEach [y] X.env = [(false, eval y X.env)] := star_ok _ _ hy
      refine (pe_bm F.plainAttrs_list (mu_slot m) (mu_type m) (mu_ok m) (pe_var (pos := pz) h1 h2 h3 h4) t (base_ok _ _ _ rfl) (by rw [hst]; rfl) hb (star_ok _ _ hy) rfl).imp fun ρ H Q ⟨cs, B, σ, R, D⟩ => ?_
      obtain ⟨d0, e0, D⟩ := Dn.opt (o := ownD σ i) D
      obtain ⟨md, a, k1, k2, k3, k4⟩ := own_ref R e0
      refine ⟨_, k3, top_lst k4, cs, B, σ, R, Dn.mono (Dn.bind (r := evs Z es σ) D) fun ds σ1 H1 f1 D1 vs R1 r1 => ?_⟩
      obtain ⟨d, e1, D2⟩ := Dn.opt D1
      obtain ⟨md', a', j1, j2, j3, j4⟩ := own_ref R1 e1
      rw [k3] at j3; cases j3
      exact mu_end R1 j1 j2 k3 j4 r1 D2
theorem pe_void {x : Expr} {t : TE} (h : ∀ ρ H Q, ¬ t ρ H Q) : PE X x t := ⟨fun _ _ _ _ _ _ q => (h _ _ _ q).elim⟩
theorem ge_call (G : EvX X xc Z) (C : CtxOk X c) (tk : Takes X W) {f : String} {es : Xs} {x : Str} {y : Expr} {ys : List Expr} {p q : Pos} (h : c.gl x f = true) (hes : cEs c es (y :: ys) = true) (t : ∀ ms, PA X (y :: ys) (rdBs X.K xc W (evAs Z ms es))) : GE X xc W Z (.call f es) (.Call (.Name x p) (y :: ys) [] q) := by
  obtain ⟨rfl, h1, h2, h3⟩ := gl_ok C h
  have hs : okX y = true := by
    cases es with
    | nil => cases hes
    | cons e es => exact (and_tt (show (okX y && (cE c e y && cEs c es ys)) = true from hes)).1
  have hpl : (backTo q (starEach ys X.env)).any (·.1) = false := by
    have := plain_star (pos := q) (env := X.env) hes
    rw [star_ok _ _ hs] at this
    exact this
  cases e : Z.sig f with
  | none =>
    refine pe_void fun ρ H Q ⟨cs, B, σ, R, D⟩ => ?_
    have D : Dn X.K xc W cs B ρ H σ (Pu.R.opt (Z.sig f) _) _ := D
    rw [e] at D
    exact D.elim
  | some ms =>
    obtain ⟨fa, fd, ps, k, FF, hr, hm, hk, hb⟩ := G.call f ms e
    refine (pe_callS FF hr h1 hm hk hb (fun σ => passAt tk σ) (t ms) h2 (star_ok _ _ hs) hpl).imp fun ρ H Q ⟨cs, B, σ, R, D⟩ => ?_
    have D : Dn X.K xc W cs B ρ H σ (Pu.R.opt (Z.sig f) fun ms => (evAs Z ms es σ).bind fun as σ1 => if argsOk σ1 ms as then Pu.R.opt (Ag.gets σ1 as) fun ds => match Z.call f ds with
      | .ok fr d rs => Pu.R.opt (putMs σ1 ms as rs) fun σ2 => .ok (fr, d) σ2
      | .exc c fs rs => Pu.R.opt (putMs σ1 ms as rs) fun σ2 => .exc c fs σ2
      | .bad => .bad
      else .bad) _ := D
    rw [e] at D
    refine ⟨cs, B, σ, R, Dn.mono (Dn.bind (r := evAs Z ms es σ) D) fun as σ1 H1 f1 D1 vs R1 r1 => ?_⟩
    obtain ⟨ha, D2⟩ := Dn.ite D1
    obtain ⟨ds, e2, D3⟩ := Dn.opt D2
    exact call_rd R1 (args_of r1 ha e2) f1.none D3
theorem bl_of {cs : Nat → Addr → Prop} {B : Addr → Prop} {σ : PSt} {H0 : Hp} {x : Bool × D} {v : V} {b : Bool} (h : VE K cs B H0 σ ρ H x v) (e : x.2 = .bl b) : v = .bl b ∧ RelSt K cs B H σ ρ := by
  obtain ⟨R, r⟩ := h.val
  rw [e] at r
  cases r
  exact ⟨rfl, R⟩
theorem rd_and {a b : Xp} (h : rdE K xc W (ev Z (.and a b)) ρ H Q) : tAndV (rdE K xc W (ev Z a)) (rdE K xc W (ev Z b)) ρ H Q := by
  obtain ⟨cs, B, σ, R, D⟩ := h
  refine ⟨cs, B, σ, R, Dn.mono (Dn.bind (r := ev Z a σ) D) fun x σ1 H1 f1 D1 v hv => ?_⟩
  obtain ⟨f, d⟩ := x
  cases d with
  | bl k =>
    obtain ⟨rfl, R1⟩ := bl_of hv rfl
    refine ⟨k, rfl, ?_⟩
    cases k with
    | true => exact ⟨cs, B, σ1, R1, Dn.mono (show Dn K xc W cs B ρ H1 σ1 (ev Z b σ1) _ from D1) fun x σ2 H2 f2 q v hv => q v (by
        obtain ⟨g, d⟩ := x
        cases g with
        | false => exact hv
        | true =>
          obtain ⟨p, e, hn, F, t⟩ := hv
          exact ⟨p, e, f1.none _ hn, F, t⟩)⟩
    | false => exact Dn.here D1 _ ⟨R1, .bl false⟩
  | _ => exact D1.elim
theorem rd_or {a b : Xp} (h : rdE K xc W (ev Z (.or a b)) ρ H Q) : tOrV (rdE K xc W (ev Z a)) (rdE K xc W (ev Z b)) ρ H Q := by
  obtain ⟨cs, B, σ, R, D⟩ := h
  refine ⟨cs, B, σ, R, Dn.mono (Dn.bind (r := ev Z a σ) D) fun x σ1 H1 f1 D1 v hv => ?_⟩
  obtain ⟨f, d⟩ := x
  cases d with
  | bl k =>
    obtain ⟨rfl, R1⟩ := bl_of hv rfl
    refine ⟨k, rfl, ?_⟩
    cases k with
    | false => exact ⟨cs, B, σ1, R1, Dn.mono (show Dn K xc W cs B ρ H1 σ1 (ev Z b σ1) _ from D1) fun x σ2 H2 f2 q v hv => q v (by
        obtain ⟨g, d⟩ := x
        cases g with
        | false => exact hv
        | true =>
          obtain ⟨p, e, hn, F, t⟩ := hv
          exact ⟨p, e, f1.none _ hn, F, t⟩)⟩
    | true => exact Dn.here D1 _ ⟨R1, .bl true⟩
  | _ => exact D1.elim
theorem ge_not {a : Xp} {x : Expr} {p : Pos} (ha : GE X xc W Z a x) : GE X xc W Z (.not a) (.UnaryOp .Not x p) := by
  refine (pe_not ha).imp fun ρ H Q ⟨cs, B, σ, R, D⟩ => ?_
  refine ⟨cs, B, σ, R, Dn.mono (Dn.bind (r := ev Z a σ) D) fun x σ1 H1 f1 D1 v hv => ?_⟩
  obtain ⟨f, d⟩ := x
  cases d with
  | bl k =>
    obtain ⟨rfl, R1⟩ := bl_of hv rfl
    exact ⟨k, rfl, Dn.here D1 _ ⟨R1, .bl _⟩⟩
  | _ => exact D1.elim
theorem ge_cond {t : Tp} {a b : Xp} {x y z : Expr} {p : Pos} (ht : GT X xc W Z t x) (ha : GE X xc W Z a y) (hb : GE X xc W Z b z) : GE X xc W Z (.cond t a b) (.IfExp x y z p) := by
  refine (pe_ifExp ht ha hb).imp fun ρ H Q ⟨cs, B, σ, R, D⟩ => ?_
  refine ⟨cs, B, σ, R, Dn.mono (Dn.bind (r := evT Z t σ) D) fun k σ1 H1 f1 D1 R1 => ?_⟩
  have tr : ∀ {e : Xp}, Dn X.K xc W cs B ρ H1 σ1 (ev Z e σ1) (fun x σ' H' => ∀ v, VE X.K cs B H σ' ρ H' x v → Q v H') → rdE X.K xc W (ev Z e) ρ H1 Q := fun D1 => ⟨cs, B, σ1, R1, Dn.mono D1 fun x σ2 H2 f2 q v hv => q v (by
        obtain ⟨g, d⟩ := x
        cases g with
        | false => exact hv
        | true =>
          obtain ⟨p, e, hn, F, t⟩ := hv
          exact ⟨p, e, f1.none _ hn, F, t⟩)⟩
  cases k with
  | true => exact tr D1
  | false => exact tr D1
theorem gt_v (C : CtxOk X c) {e : Xp} {x : Expr} (hp : plT x = true) (hb : GB X xc W Z e x) : GT X xc W Z (.v e) x := by
  refine (pt_truth hb (true_ok _ hp)).imp fun ρ H Q ⟨cs, B, σ, R, D⟩ => ?_
  refine ⟨cs, B, σ, R, Dn.mono (Dn.bind (r := toB e (ev Z e) σ) D) fun x σ1 H1 f1 D1 v R1 A1 => ?_⟩
  obtain ⟨d, e1, D2⟩ := Dn.opt D1
  obtain ⟨k, e2, D3⟩ := Dn.opt D2
  exact ⟨k, tru_q (A1.repq R1 e1) e2, Dn.here D3 R1⟩
theorem rt_and {a b : Tp} {QT : Bool → Hp → Prop} (h : rdT K xc W (evT Z (.and a b)) ρ H QT) : tAnd (rdT K xc W (evT Z a)) (rdT K xc W (evT Z b)) ρ H QT := by
  obtain ⟨cs, B, σ, R, D⟩ := h
  refine ⟨cs, B, σ, R, Dn.mono (Dn.bind (r := evT Z a σ) D) fun k σ1 H1 f1 D1 R1 => ?_⟩
  cases k with
  | true => exact ⟨cs, B, σ1, R1, D1⟩
  | false => exact Dn.here D1 R1
theorem rt_or {a b : Tp} {QT : Bool → Hp → Prop} (h : rdT K xc W (evT Z (.or a b)) ρ H QT) : tOr (rdT K xc W (evT Z a)) (rdT K xc W (evT Z b)) ρ H QT := by
  obtain ⟨cs, B, σ, R, D⟩ := h
  refine ⟨cs, B, σ, R, Dn.mono (Dn.bind (r := evT Z a σ) D) fun k σ1 H1 f1 D1 R1 => ?_⟩
  cases k with
  | false => exact ⟨cs, B, σ1, R1, D1⟩
  | true => exact Dn.here D1 R1
theorem gt_not {a : Tp} {x : Expr} {p : Pos} (ha : GT X xc W Z a x) : GT X xc W Z (.not a) (.UnaryOp .Not x p) := by
  refine (pt_not ha).imp fun ρ H Q ⟨cs, B, σ, R, D⟩ => ?_
  exact ⟨cs, B, σ, R, Dn.mono (Dn.bind (r := evT Z a σ) D) fun k σ1 H1 f1 D1 R1 => Dn.here D1 R1⟩
def ItR (K : PySem.W.Frag) (H : Hp) (W N : Addr → Prop) (J : It) (ds : List D) : Prop := ∃ vs, Reps K H N ds vs ∧ ∀ H2 : Hp, (∀ b o, H b = some o → ¬ W b → H2 b = some o) →
  (∀ i, i < vs.length → J.go i H2) ∧ (∀ i x H3, J.yld i H2 x H3 → H3 = H2 ∧ (i < vs.length → vs[i]? = some x)) ∧ ∀ i, vs.length ≤ i → J.stop i H2
abbrev rdI (K : PySem.W.Frag) (xc : Xc) (W : WX) (f : PSt → R (List D)) : TI := fun ρ H Q => ∃ cs B σ, RelSt K cs B H σ ρ ∧ Dn K xc W cs B ρ H σ (f σ) fun ds σ' H' => ∀ J, RelSt K cs B H' σ' ρ → ItR K H' (Own σ' ρ) (Av B σ' ρ) J ds → Q J H'
theorem itr_list {N A : Addr → Prop} {ds : List D} {a : Addr} {vs : List V} (h : H a = some (.lst vs) ∧ ¬ A a ∨ SqF K H a vs) (ok : OwnOk A H) (r : Reps K H N ds vs) : ItR K H A N (Itl K a) ds := by
  refine ⟨vs, r, fun H2 k => ?_⟩
  have q : SqL K H2 a vs := by
    rcases h with ⟨h, n⟩ | ⟨o, h⟩ | h
    · exact .of (k _ _ h n)
    · refine .inl (.inr ⟨o, k _ _ h fun z => ?_⟩)
      obtain ⟨u, e, m⟩ := ok a z
      rw [h] at e; cases e; exact m
    · exact .inr h
  refine ⟨fun i hi => ⟨vs, vs[i], q, by simp [hi]⟩, fun i x H3 y => ⟨y.1, fun _ => y.2 vs q⟩, fun i hi => ⟨vs, q, hi⟩⟩
theorem itr_tup {N A : Addr → Prop} {ds : List D} {a : Addr} {vs : List V} (h : SqT K H a vs) (ok : OwnOk A H) (r : Reps K H N ds vs) : ItR K H A N (Itt K a) ds := by
  refine ⟨vs, r, fun H2 k => ?_⟩
  have q : SqT K H2 a vs := by
    rcases h with (h | ⟨o, h⟩) | h
    · refine .inl (.inl (k _ _ h fun z => ?_))
      obtain ⟨u, e, m⟩ := ok a z
      rw [h] at e; cases e; exact m
    · refine .inl (.inr ⟨o, k _ _ h fun z => ?_⟩)
      obtain ⟨u, e, m⟩ := ok a z
      rw [h] at e; cases e; exact m
    · exact .inr h
  exact ⟨fun i hi => ⟨vs, vs[i], q, by simp [hi]⟩, fun i x H3 y => ⟨y.1, fun _ => y.2 vs q⟩, fun i hi => ⟨vs, q, hi⟩⟩
theorem reps_str {N : Addr → Prop} : ∀ l : List Nat, Reps K H N (l.map fun c => D.str [c]) (l.map fun c => V.str ⟨#[c]⟩)
  | [] => .nil
  | c :: l => .cons (.str [c]) (reps_str l)
theorem itr_str {N A : Addr → Prop} (l : List Nat) : ItR K H A N (Its (mkS l)) (l.map fun c => D.str [c]) := by
  refine ⟨_, reps_str l, fun H2 k => ⟨fun i hi => ?_, fun i x H3 y => ⟨y.1, fun hi => ?_⟩, fun i hi => ?_⟩⟩
  · show i < (mkS l).cps.size
    simpa using hi
  · obtain ⟨_, d, h1, rfl⟩ := y
    rw [List.getElem?_map]
    have : l[i]? = some d := by simpa using h1
    rw [this]; rfl
  · show (mkS l).cps.size ≤ i
    simpa using hi
theorem rangeD_get : ∀ (n : Nat) (lo : Int) (i : Nat), i < n → (rangeD lo n)[i]? = some (.int (lo + i))
  | 0, _, _, h => by omega
  | n + 1, lo, 0, _ => by simp [rangeD]
  | n + 1, lo, i + 1, h => by
    rw [rangeD, List.getElem?_cons_succ, rangeD_get n (lo + 1) i (by omega)]
    congr 2
    omega
theorem rangeD_len : ∀ (n : Nat) (lo : Int), (rangeD lo n).length = n
  | 0, _ => rfl
  | n + 1, lo => by rw [rangeD, List.length_cons, rangeD_len]
def rangeV : Int → Nat → List V
  | _, 0 => []
  | lo, n + 1 => .int lo :: rangeV (lo + 1) n
theorem rangeV_get : ∀ (n : Nat) (lo : Int) (i : Nat), i < n → (rangeV lo n)[i]? = some (.int (lo + i))
  | 0, _, _, h => by omega
  | n + 1, lo, 0, _ => by simp [rangeV]
  | n + 1, lo, i + 1, h => by
    rw [rangeV, List.getElem?_cons_succ, rangeV_get n (lo + 1) i (by omega)]
    congr 2
    omega
theorem rangeV_len : ∀ (n : Nat) (lo : Int), (rangeV lo n).length = n
  | 0, _ => rfl
  | n + 1, lo => by rw [rangeV, List.length_cons, rangeV_len]
theorem reps_range {N : Addr → Prop} : ∀ (n : Nat) (lo : Int), Reps K H N (rangeD lo n) (rangeV lo n)
  | 0, _ => .nil
  | n + 1, lo => .cons (.int lo) (reps_range n (lo + 1))
theorem itr_range {N A : Addr → Prop} (lo : Int) (n : Nat) : ItR K H A N (Itr lo n) (rangeD lo n) := by
  refine ⟨_, reps_range n lo, fun H2 k => ⟨fun i hi => ?_, fun i x H3 y => ⟨y.1, fun hi => ?_⟩, fun i hi => ?_⟩⟩
  · rw [rangeV_len] at hi; exact hi
  · rw [rangeV_len] at hi
    obtain ⟨_, rfl⟩ := y
    exact rangeV_get n lo i hi
  · rw [rangeV_len] at hi; exact hi
theorem rd_it {cs : Nat → Addr → Prop} {B : Addr → Prop} {σ : PSt} {d : D} {v : V} (R : RelSt K cs B H σ ρ) (h : RepB K H (Av B σ ρ) (Own σ ρ) d v) {ds : List D} (e : itemsD d = some ds) :
    (∃ a, v = .ref a ∧ (∃ xs, SqL K H a xs) ∧ ItR K H (Own σ ρ) (Av B σ ρ) (Itl K a) ds ∧ ((∃ l, d = .lst l) ∨ ∃ l, d = .frl l)) ∨
      (∃ a, v = .ref a ∧ (∃ xs, SqT K H a xs) ∧ ItR K H (Own σ ρ) (Av B σ ρ) (Itt K a) ds ∧ ∃ l, d = .tup l) ∨ ∃ l, v = .str (mkS l) ∧ ItR K H (Own σ ρ) (Av B σ ρ) (Its (mkS l)) ds ∧ d = .str l := by
  cases d with
  | lst l =>
    cases e
    rcases h with h | ⟨a, e, n, vs, t1, t2⟩
    · cases h with
      | lst n e r => exact .inl ⟨_, rfl, ⟨_, .of e⟩, itr_list (.inl ⟨e, fun z => n (.inr z)⟩) R.ownOk r, .inl ⟨_, rfl⟩⟩
    · exact .inl ⟨a, e, ⟨_, .of t1⟩, itr_list (.inl ⟨t1, n⟩) R.ownOk t2, .inl ⟨_, rfl⟩⟩
  | frl l =>
    cases e
    rcases h with h | ⟨a, e, n, t⟩
    · cases h with
      | frl e r => exact .inl ⟨_, rfl, ⟨_, e.sql⟩, itr_list (.inr e) R.ownOk r, .inr ⟨_, rfl⟩⟩
    · exact t.elim
  | tup l =>
    cases e
    rcases h with h | ⟨a, e, n, t⟩
    · cases h with
      | tup e r => exact .inr (.inl ⟨_, rfl, ⟨_, e⟩, itr_tup e R.ownOk r, _, rfl⟩)
    · exact t.elim
  | str l =>
    cases e
    rcases h with h | ⟨a, e, n, t⟩
    · cases h
      exact .inr (.inr ⟨l, rfl, itr_str l, rfl⟩)
    · exact t.elim
  | _ => cases e
abbrev rdW (K : PySem.W.Frag) (xc : Xc) (W : WX) (f : PSt → R D) : TE := fun ρ H Q => ∃ cs B σ, RelSt K cs B H σ ρ ∧ Dn K xc W cs B ρ H σ (f σ) fun d σ' H' => ∀ v, RelSt K cs B H' σ' ρ → RepB K H' (Av B σ' ρ) (Own σ' ρ) d v → Q v H'
theorem gw_of (C : CtxOk X c) {e : Xp} {x : Expr} (hc : cE c e x = true) (h : GE X xc W Z e x) : PE X x (rdW X.K xc W (toI e (ev Z e))) := by
  have main : ∀ ρ H Q, (∃ cs B σ, RelSt X.K cs B H σ ρ ∧ Dn X.K xc W cs B ρ H σ ((ev Z e σ).bind fun x σ1 => .ok x.2 σ1) fun d σ' H' => ∀ v, RelSt X.K cs B H' σ' ρ → RepB X.K H' (Av B σ' ρ) (Own σ' ρ) d v → Q v H') → rdE X.K xc W (ev Z e) ρ H Q := fun ρ H Q ⟨cs, B, σ, R, D⟩ =>
    ⟨cs, B, σ, R, D.bind.mono fun x σ1 H1 f1 D1 v hv => by
      obtain ⟨R1, r1⟩ := hv.val
      exact Dn.here D1 v R1 (.inl r1)⟩
  by_cases hn : ∀ i, e ≠ .var i
  · refine h.imp fun ρ H Q ⟨cs, B, σ, R, D⟩ => main ρ H Q ⟨cs, B, σ, R, ?_⟩
    have e1 : toI e (ev Z e) σ = (ev Z e σ).bind fun x σ1 => .ok x.2 σ1 := by cases e <;> first | rfl | exact absurd rfl (hn _)
    rw [e1] at D
    exact D
  · have : ∃ i, e = .var i := by
      cases e with
      | var i => exact ⟨i, rfl⟩
      | _ => exact absurd (fun i z => by cases z) hn
    obtain ⟨i, rfl⟩ := this
    cases x with
    | Name y p =>
      obtain ⟨h1, h2, h3, h4⟩ := vis_ok C (show c.vis i y = true from hc)
      refine (pe_var h1 h2 h3 h4).imp fun ρ H Q ⟨cs, B, σ, R, D⟩ => ?_
      have D : Dn X.K xc W cs B ρ H σ (match σ[i]? with
        | some (some (.bor, d)) => .ok d σ
        | _ => (ev Z (.var i) σ).bind fun x σ1 => .ok x.2 σ1) _ := D
      split at D
      · rename_i d hs
        obtain ⟨v, w1, w2⟩ := R.slot i _ _ hs
        exact ⟨v, w1, Dn.here D v R w2⟩
      · exact rd_var (main ρ H Q ⟨cs, B, σ, R, D⟩)
    | _ => cases hc
theorem gi_of {tg : Expr} {e : Xp} {x : Expr} (h : PE X x (rdW X.K xc W (toI e (ev Z e)))) : PI X tg x (rdI X.K xc W (evI Z (.of e))) := by
  refine ((pi_list h).or ((pi_tup h).or (pi_str h))).imp fun ρ H Q ⟨cs, B, σ, R, D⟩ => ?_
  have D : Dn X.K xc W cs B ρ H σ ((toI e (ev Z e) σ).bind fun x σ1 => Pu.R.opt (itemsD x) fun ds => .ok ds σ1) _ := D
  have one : ∀ (P : Pu.D → Prop), (∀ d σ', toI e (ev Z e) σ = .ok d σ' → P d) → ∀ (Q' : VK), (∀ d σ' H' v, P d → RelSt X.K cs B H' σ' ρ → RepB X.K H' (Av B σ' ρ) (Own σ' ρ) d v → Dn X.K xc W cs B ρ H' σ' (Pu.R.opt (itemsD d) fun ds => .ok ds σ') (fun ds σ' H' => ∀ J, RelSt X.K cs B H' σ' ρ → ItR X.K H' (Own σ' ρ) (Av B σ' ρ) J ds → Q J H') → Q' v H') → rdW X.K xc W (toI e (ev Z e)) ρ H Q' := fun P hP Q' k => by
    refine ⟨cs, B, σ, R, ?_⟩
    cases ee : toI e (ev Z e) σ with
    | ok d σ' =>
      have D2 := D.bind
      rw [ee] at D2
      exact fun H' f v R1 r1 => k d σ' H' v (hP d σ' ee) R1 r1 (D2 H' f)
    | exc c fs σ' => rw [ee] at D; exact D
    | bad => rw [ee] at D; exact D
  cases ee : toI e (ev Z e) σ with
  | bad => rw [ee] at D; exact D.elim
  | exc c fs σ' =>
    refine .inl (one (fun _ => False) (fun d σ' h => ?_) _ fun d σ' H' v h => h.elim)
    rw [ee] at h; cases h
  | ok d0 σ0 =>
    have it : ∃ ds, itemsD d0 = some ds := by
      rw [ee] at D
      cases hi : itemsD d0 with
      | some ds => exact ⟨ds, rfl⟩
      | none =>
        have D2 : Dn X.K xc W cs B ρ H σ (Pu.R.opt (itemsD d0) fun ds => .ok ds σ0) _ := D
        rw [hi] at D2
        exact D2.elim
    have P0 : ∀ d σ', toI e (ev Z e) σ = .ok d σ' → d = d0 := fun d σ' h => by rw [ee] at h; cases h; rfl
    cases d0 with
    | lst l =>
      refine .inl (one (· = .lst l) P0 _ fun d σ' H' v hd R1 r1 D3 => ?_)
      subst hd
      obtain ⟨ds, e1, D4⟩ := Dn.opt D3
      rcases rd_it R1 r1 e1 with ⟨a, ev, hq, ir, _⟩ | ⟨_, _, _, _, l', z⟩ | ⟨_, _, _, z⟩
      · exact ⟨a, ev, hq, Dn.here D4 _ R1 ir⟩
      · cases z
      · cases z
    | frl l =>
      refine .inl (one (· = .frl l) P0 _ fun d σ' H' v hd R1 r1 D3 => ?_)
      subst hd
      obtain ⟨ds, e1, D4⟩ := Dn.opt D3
      rcases rd_it R1 r1 e1 with ⟨a, ev, hq, ir, _⟩ | ⟨_, _, _, _, l', z⟩ | ⟨_, _, _, z⟩
      · exact ⟨a, ev, hq, Dn.here D4 _ R1 ir⟩
      · cases z
      · cases z
    | tup l =>
      refine .inr (.inl (one (· = .tup l) P0 _ fun d σ' H' v hd R1 r1 D3 => ?_))
      subst hd
      obtain ⟨ds, e1, D4⟩ := Dn.opt D3
      rcases rd_it R1 r1 e1 with ⟨_, _, _, _, ⟨_, z⟩ | ⟨_, z⟩⟩ | ⟨a, ev, hq, ir, _⟩ | ⟨_, _, _, z⟩
      · cases z
      · cases z
      · exact ⟨a, ev, hq, Dn.here D4 _ R1 ir⟩
      · cases z
    | str l =>
      refine .inr (.inr (one (· = .str l) P0 _ fun d σ' H' v hd R1 r1 D3 => ?_))
      subst hd
      obtain ⟨ds, e1, D4⟩ := Dn.opt D3
      rcases rd_it R1 r1 e1 with ⟨_, _, _, _, ⟨_, z⟩ | ⟨_, z⟩⟩ | ⟨_, _, _, _, _, z⟩ | ⟨l', ev, ir, _⟩
      · cases z
      · cases z
      · cases z
      · exact ⟨_, ev, Dn.here D4 _ R1 ir⟩
    | _ => obtain ⟨_, z⟩ := it; cases z
theorem boot_mg (G : EvX X xc Z) : X.mg ("range" : Str) = none := G.blt "range" (by simp)
theorem gi_rng1 (G : EvX X xc Z) (C : CtxOk X c) {tg : Expr} {a : Xp} {r : Str} {y : Expr} {p q : Pos} (h : c.gl r "range" = true) (hy : okX y = true) (ha : GE X xc W Z a y) : PI X tg (.Call (.Name r p) [y] [] q) (rdI X.K xc W (evI Z (.rng1 a))) := by
  obtain ⟨rfl, h1, _, _⟩ := gl_ok C h
  refine (pi_range1 h1 (boot_mg G) (pa_cons ha pa_nil (star_ok _ _ hy)) (star_ok _ _ hy)).imp fun ρ H Q ⟨cs, B, σ, R, D⟩ => ?_
  refine ⟨cs, B, σ, R, Dn.mono (Dn.bind (r := ev Z a σ) D) fun x σ1 H1 f1 D1 v hv => ?_⟩
  obtain ⟨R1, r1⟩ := hv.val
  obtain ⟨f, d⟩ := x
  cases d with
  | int n =>
    obtain ⟨hz, D2⟩ := Dn.ite (c := rngB n) (r := .ok (rangeD 0 n.toNat) σ1) D1
    cases r1
    unfold rngB at hz
    rw [Bool.and_eq_true, decide_eq_true_eq, decide_eq_true_eq] at hz
    exact ⟨n, rfl, hz.1, hz.2, Dn.here D2 _ R1 (itr_range 0 n.toNat)⟩
  | _ => exact D1.elim
theorem gi_rng2 (G : EvX X xc Z) (C : CtxOk X c) {tg : Expr} {a b : Xp} {r : Str} {y z : Expr} {p q : Pos} (h : c.gl r "range" = true) (hy : okX y = true) (hz : okX z = true) (ha : GE X xc W Z a y) (hb : GE X xc W Z b z) : PI X tg (.Call (.Name r p) [y, z] [] q) (rdI X.K xc W (evI Z (.rng2 a b))) := by
  obtain ⟨rfl, h1, _, _⟩ := gl_ok C h
  have s2 : starEach [z] X.env = [(false, eval z X.env)] := star_ok _ _ hz
  refine (pi_range2 h1 (boot_mg G) (pa_cons ha (pa_cons hb pa_nil s2) (star_ok _ _ hy)) (by rw [star_ok _ _ hy, s2]) s2).imp fun ρ H Q ⟨cs, B, σ, R, D⟩ => ?_
  refine ⟨cs, B, σ, R, Dn.mono (Dn.bind (r := ev Z a σ) D) fun x σ1 H1 f1 D1 v hv => ?_⟩
  obtain ⟨R1, r1⟩ := hv.val
  refine ⟨cs, B, σ1, R1, Dn.mono (Dn.bind (r := ev Z b σ1) D1) fun y σ2 H2 f2 D2 v2 hv2 => ?_⟩
  obtain ⟨R2, r2⟩ := hv2.val
  obtain ⟨f, d⟩ := x
  obtain ⟨g, d2⟩ := y
  cases d with
  | int i =>
    cases d2 with
    | int j =>
      obtain ⟨hz, D3⟩ := Dn.ite (c := rngB i && rngB j) (r := .ok (rangeD i (j - i).toNat) σ2) D2
      cases r1
      cases r2
      unfold rngB at hz
      rw [Bool.and_eq_true, Bool.and_eq_true, Bool.and_eq_true, decide_eq_true_eq, decide_eq_true_eq, decide_eq_true_eq, decide_eq_true_eq] at hz
      exact ⟨i, j, rfl, ⟨hz.1.1, hz.1.2, hz.2.1, hz.2.2⟩, Dn.here D3 _ R2 (itr_range _ _)⟩
    | _ => exact D2.elim
  | _ => exact D2.elim
end
end Pu
namespace Pu
open PySem PySem.Spec PyProof.Rows
open L2 hiding St
section
variable {X : Cx} {c : CC} {xc : Xc} {W : WX} {Z : Ev}
variable {ρ : St} {H : Hp} {Q : VK} {K : PySem.W.Frag} {cs : Nat → Addr → Prop} {B : Addr → Prop} {σ : PSt}
theorem set_back {i : Nat} {x : Option V} (h : ρ[i]? = some x) : (ρ.set i none).set i x = ρ := by
  rw [List.set_set]
  apply List.ext_getElem?
  intro j
  by_cases e : i = j
  · subst e
    have hlt : i < ρ.length := (List.getElem?_eq_some_iff.mp h).1
    rw [List.getElem?_set_self hlt, h]
  · rw [List.getElem?_set_ne e]
theorem own_forget2 {i : Nat} {x : Option V} {a : Addr} (h : Own (σ.set i none) (ρ.set i x) a) : Own σ ρ a := by
  obtain ⟨j, md, d, h1, h2, h3⟩ := h
  rcases get_set h1 with ⟨_, e2, _⟩ | ⟨e1, e2⟩
  · cases e2
  · rw [List.getElem?_set_ne (Ne.symm e1)] at h3
    exact ⟨j, md, d, e2, h2, h3⟩
theorem RelSt.putB (R : RelSt K cs B H σ ρ) {A : Addr} {xs ys : List V} (hA : B A) (nc : ∀ j : Nat, ¬ cs j A) (h : H A = some (.lst xs)) : RelSt K cs B (upd H A (.lst ys)) σ ρ := by
  have nA := R.bown A hA
  have cr : ∀ {ds : List D} {vs : List V}, Reps K H (fun b => B b ∨ Own σ ρ b) ds vs → Reps K (upd H A (.lst ys)) (fun b => B b ∨ Own σ ρ b) ds vs := fun r => put_carry (N := Av B σ ρ) (.inl hA) h r
  have cr1 : ∀ {d : D} {v : V}, Rep K H (fun b => B b ∨ Own σ ρ b) d v → Rep K (upd H A (.lst ys)) (fun b => B b ∨ Own σ ρ b) d v := fun r => by
    cases cr (.one r) with
    | cons h _ => exact h
  have tp : ∀ {d : D} {a : Addr}, a ≠ A → Top K H (fun b => B b ∨ Own σ ρ b) d a → Top K (upd H A (.lst ys)) (fun b => B b ∨ Own σ ρ b) d a := fun n t => t.carry (fun o z => by rw [upd_ne n]; exact z) cr
  refine ⟨R.len, fun j mj dj e => ?_, R.dist, fun b q => ?_, R.bown, R.chg, fun j b q => ?_, R.ocs⟩
  · obtain ⟨v, h1, h2⟩ := R.slot j mj dj e
    refine ⟨v, h1, ?_⟩
    cases mj with
    | val => exact cr1 h2
    | bor =>
      rcases h2 with h2 | ⟨a, ev, n, t⟩
      · exact .inl (cr1 h2)
      · subst ev
        refine .inr ⟨a, rfl, n, tp (fun q => ?_) t⟩
        cases dj with
        | lst ds => exact nc j (q ▸ R.chg j .bor _ a e rfl h1)
        | _ => exact t.elim
    | own =>
      obtain ⟨a, ev, t⟩ := h2
      subst ev
      exact ⟨a, rfl, tp (fun q => nA (q ▸ ⟨j, .own, dj, e, rfl, h1⟩)) t⟩
    | chg =>
      obtain ⟨a, ev, t⟩ := h2
      subst ev
      exact ⟨a, rfl, tp (fun q => nA (q ▸ ⟨j, .chg, dj, e, rfl, h1⟩)) t⟩
  · by_cases hb : b = A
    · rw [hb, upd_same]; simp
    · rw [upd_ne hb]; exact R.bdom b q
  · by_cases hb : b = A
    · rw [hb, upd_same]; simp
    · rw [upd_ne hb]; exact R.csd j b q
theorem Fr.updNew {A' A2 : Addr → Prop} {H2 : Hp} {a : Addr} {o : HO} (f : Fr A' H A2 H2) (hn : H a = Option.none) : Fr A' H A2 (L2.upd H2 a o) := ⟨fun b u e n => by rw [upd_ne (ne_of_none e hn)]; exact f.keep b u e n, f.own, fun b e => by
  by_cases hb : b = a
  · rw [hb, upd_same]; simp
  · rw [upd_ne hb]; exact f.trk b e⟩
theorem nox_ok {α : Type} {r : R α} {a : α} {σ' : PSt} (h : r.nox = .ok a σ') : r = .ok a σ' := by
  cases r with
  | ok _ _ => exact h
  | exc _ _ _ => cases h
  | bad => cases h
theorem Dn.okE {α : Type} {r : R α} {a : α} {σ' : PSt} {P : α → PSt → Hp → Prop} (e : r = .ok a σ') (h : ∀ H', Fr (Own σ ρ) H (Own σ' ρ) H' → P a σ' H') : Dn K xc W cs B ρ H σ r P := by
  rw [e]; exact h
def NoX {α : Type} (r : Pu.R α) : Prop := ∀ c fs σ, r ≠ .exc c fs σ
theorem noX_nox {α : Type} (r : Pu.R α) : NoX r.nox := fun c fs σ h => by cases r <;> cases h
theorem noX_bind {α β : Type} {r : Pu.R α} {k : α → PSt → Pu.R β} (h : NoX r) (h2 : ∀ a σ, NoX (k a σ)) : NoX (r.bind k) := fun c fs σ e => by
  cases r with
  | ok a σ' => exact h2 a σ' c fs σ e
  | exc c' fs' σ' => exact h c' fs' σ' rfl
  | bad => cases e
theorem compL_noX {i : Nat} {ft : PSt → Pu.R Bool} {fe : PSt → Pu.R Pu.D} (h1 : ∀ σ, NoX (ft σ)) (h2 : ∀ σ, NoX (fe σ)) : ∀ (l : List Pu.D) (σ : PSt), NoX (compL i ft fe l σ)
  | [], σ => fun _ _ _ e => by cases e
  | d :: l, σ => noX_bind (h1 _) fun b σ1 => by
    cases b with
    | false => exact compL_noX h1 h2 l _
    | true => exact noX_bind (h2 _) fun x σ2 => noX_bind (compL_noX h1 h2 l _) fun _ _ _ _ _ e => by cases e
abbrev W0 : WX := fun _ _ _ _ => False
theorem rd_comp {i : Nat} {it : Ix} {t : Ot} {e : Xp} (h : rdE K xc W (ev Z (.comp i it t e)) ρ H Q) : tLc (rdI K xc W (evI Z it)) (gName i) (rdT K xc W0 (evOT Z t)) (rdE K xc W0 (ev Z e)) [i] ρ H Q := by
  obtain ⟨cs, B, σ, R, D⟩ := h
  refine ⟨cs, B, σ, R, Dn.mono (Dn.bind (r := evI Z it σ) D) fun ds σ1 H1 f1 D1 J R1 IR A hA => ?_⟩
  have D1 : Dn K xc W cs B ρ H1 σ1 ((compL i (fun σ => (evOT Z t σ).nox) (fun σ => (ev Z e σ).nox.bind fun x σ => .ok x.2 σ) ds (σ1.set i none)).bind fun xs σ2 => if seqB xs.length then Pu.R.opt (resetSlot σ1 σ2 i) fun σ3 => .ok (true, Pu.D.lst xs) σ3 else .bad) _ := D1
  generalize hft : (fun σ => (evOT Z t σ).nox) = ft at D1
  generalize hfe : (fun σ => (ev Z e σ).nox.bind fun x σ => (Pu.R.ok x.2 σ : Pu.R Pu.D)) = fe at D1
  have n1 : ∀ σ0, NoX (ft σ0) := fun σ0 => by rw [← hft]; exact noX_nox _
  have n2 : ∀ σ0, NoX (fe σ0) := fun σ0 => by rw [← hfe]; exact noX_bind (noX_nox _) fun _ _ _ _ _ z => by cases z
  have ne : ∀ (l : List Pu.D) (σ0 : PSt), (∃ xs σ2, compL i ft fe l σ0 = .ok xs σ2) ∨ compL i ft fe l σ0 = .bad := fun l σ0 => by
    have q := compL_noX n1 n2 l σ0 (i := i)
    cases e : compL i ft fe l σ0 with
    | ok xs σ2 => exact .inl ⟨xs, σ2, rfl⟩
    | exc c fs σ2 => exact absurd e (q c fs σ2)
    | bad => exact .inr rfl
  rcases ne ds (σ1.set i none) with ⟨xs, σ2, hc⟩ | hc
  rotate_left
  · rw [hc] at D1; exact D1.elim
  rw [hc] at D1
  obtain ⟨hz, D1⟩ := Dn.ite (c := seqB xs.length) (r := Pu.R.opt (resetSlot σ1 σ2 i) fun σ3 => .ok (true, Pu.D.lst xs) σ3) D1
  obtain ⟨σ3, hr, D1⟩ := Dn.opt D1
  have hsz := seqB_lt hz
  have hi : i < σ1.length := by
    unfold resetSlot at hr
    split at hr
    · rename_i h; exact (List.getElem?_eq_some_iff.mp h).1
    · rename_i h; exact (List.getElem?_eq_some_iff.mp h).1
    · cases hr
  have hi' : i < ρ.length := by rw [← R1.len]; exact hi
  obtain ⟨vs, rvs, IR⟩ := IR
  have w0 : wipe ρ [i] = ρ.set i none := rfl
  have wx : ∀ x : V, wipe ((ρ.set i none).set i (some x)) [i] = ρ.set i none := fun x => by
    show ((ρ.set i none).set i (some x)).set i none = ρ.set i none
    rw [List.set_set, List.set_set]
  have rx : ∀ x : V, ((ρ.set i none).set i (some x)).set i none = ρ.set i none := fun x => wx x
  have F0 := R1.moreB (p := A) (H' := upd H1 A (.lst [])) (fun b o eo => by rw [upd_ne (ne_of_none eo hA)]; exact eo) hA (by rw [upd_same]; simp)
  let Inv (k : Nat) (H : Hp) : Prop := ∃ σk acc accD xk, RelSt K cs (fun b => B b ∨ b = A) H σk (ρ.set i none) ∧ H A = some (.lst acc) ∧ Reps K H (fun b => (B b ∨ b = A) ∨ Own σk (ρ.set i none) b) accD acc ∧
    Fr (Own σ1 ρ) H1 (Own σk (ρ.set i none)) H ∧ compL i ft fe (ds.drop k) σk = .ok xk σ2 ∧ xs = accD ++ xk
  refine ⟨fun k m H => m = ds.length - k ∧ Inv k H, ⟨_, rfl, σ1.set i none, [], [], xs, F0.rel.forget2 i none, upd_same, .nil, ?_, hc, rfl⟩, ?_⟩
  · exact (Fr.less fun b z => own_forget2 z).updNew hA
  rintro k m H2 ⟨rfl, σk, acc, accD, xk, Rk, hacc, racc, fk, hck, exs⟩
  have nc : ∀ j : Nat, ¬ cs j A := F0.nb
  have lenv : ds.length = vs.length := rvs.length
  obtain ⟨ig, iy, ist⟩ := IR H2 fk.keep
  by_cases hk : k < ds.length
  rotate_left
  · 
    refine .inl ⟨ist k (by omega), ?_⟩
    have hd : ds.drop k = [] := List.drop_eq_nil_of_le (by omega)
    rw [hd] at hck
    cases hck
    rw [List.append_nil] at exs
    subst exs
    have ow3 : ∀ b, Own σ3 ρ b → Own σ2 (ρ.set i none) b := fun b z => by
      unfold resetSlot at hr
      split at hr
      · cases hr
        obtain ⟨j, md, d, h1, h2, h3⟩ := z
        rcases get_set h1 with ⟨_, e2, _⟩ | ⟨e1, e2⟩
        · cases e2
        · exact ⟨j, md, d, e2, h2, by rw [List.getElem?_set_ne (Ne.symm e1)]; exact h3⟩
      · rename_i d0 hd0
        cases hr
        obtain ⟨j, md, d, h1, h2, h3⟩ := z
        rcases get_set h1 with ⟨_, e2, _⟩ | ⟨e1, e2⟩
        · cases e2; cases h2
        · exact ⟨j, md, d, e2, h2, by rw [List.getElem?_set_ne (Ne.symm e1)]; exact h3⟩
      · cases hr
    have R3 : RelSt K cs (fun b => B b ∨ b = A) H2 σ3 ρ := by
      unfold resetSlot at hr
      split at hr
      · cases hr
        have q := Rk.forget2 i (ρ[i])
        rw [set_back (by rw [List.getElem?_eq_getElem hi'])] at q
        exact q
      · rename_i d0 hd0
        cases hr
        obtain ⟨v0, w1, w2⟩ := R1.slot i .val d0 hd0
        have w3 : Rep K H2 (Av (fun b => B b ∨ b = A) σ2 (ρ.set i none)) d0 v0 := by
          have := fk.rep (B := fun b => B b ∨ b = A) R1.ownOk (rep_mono (fun b z => ?_) (rep_new hA w2))
          · exact this
          · rcases z with (z | z) | z
            · exact .inl (.inl z)
            · exact .inr z
            · exact .inl (.inr z)
        have q := Rk.setVal (i := i) w3
        rw [set_back w1] at q
        exact q
      · cases hr
    refine D1 H2 (fk.trans (.less ow3)) _ ⟨A, rfl, f1.none _ hA, ⟨R3, nc, fun z => R1.bdom A z hA⟩, acc, hacc, reps_mono (fun b z => z.elim .inl fun q => .inr (ow3 b q)) racc⟩
  · 
    have hkv : k < vs.length := by omega
    have hd : ds.drop k = ds[k] :: ds.drop (k + 1) := List.drop_eq_getElem_cons hk
    rw [hd] at hck
    have hck : ((ft (σk.set i (some (.val, ds[k])))).bind fun b σ1 => if b then (fe σ1).bind fun x σ2 => (compL i ft fe (ds.drop (k + 1)) (σ2.set i none)).bind fun xs σ3 => .ok (x :: xs) σ3 else compL i ft fe (ds.drop (k + 1)) (σ1.set i none)) = .ok xk σ2 := hck
    obtain ⟨b, σt, ht, hck⟩ := bind_ok hck
    rw [← hft] at ht
    have ht := nox_ok ht
    refine .inr ⟨ig k hkv, Inv (k + 1), fun H' q => ⟨ds.length - (k + 1), by omega, rfl, q⟩, fun x H3 y => ?_⟩
    obtain ⟨e3, hx⟩ := iy k x H3 y
    subst e3
    have hx := hx hkv
    obtain ⟨d', hd', rd'⟩ := rvs.getv hx
    rw [List.getElem?_eq_getElem hk] at hd'
    cases hd'
    have rx1 : Rep K H3 (Av (fun b => B b ∨ b = A) σk (ρ.set i none)) ds[k] x := by
      have := fk.rep (B := fun b => B b ∨ b = A) R1.ownOk (rep_mono (fun b z => ?_) (rep_new hA rd'))
      · exact this
      · rcases z with (z | z) | z
        · exact .inl (.inl z)
        · exact .inr z
        · exact .inl (.inr z)
    have Rx := Rk.setVal (i := i) rx1
    have ox : ∀ b, Own (σk.set i (some (.val, ds[k]))) ((ρ.set i none).set i (some x)) b → Own σk (ρ.set i none) b := fun b => own_set_val rfl
    show wipe ((ρ.set i none).set i (some x)) [i] = wipe ρ [i] ∧ _
    refine ⟨(wx x).trans w0.symm, cs, _, σk.set i (some (.val, ds[k])), Rx, Dn.okE ht fun H4 f4 R4 => ?_⟩
    have R4 : RelSt K cs (fun b => B b ∨ b = A) H4 σt ((ρ.set i none).set i (some x)) := R4
    have fx4 := (fk.trans (.less ox)).trans f4
    have hacc4 : H4 A = some (.lst acc) := f4.keep A _ hacc (Rx.bown A (.inr rfl))
    have racc4 : Reps K H4 (fun b => (B b ∨ b = A) ∨ Own σt ((ρ.set i none).set i (some x)) b) accD acc := f4.reps (B := fun b => B b ∨ b = A) Rx.ownOk (reps_mono (fun b z => z.elim .inl fun q => .inr (ox b q)) racc)
    cases b with
    | false =>
      show Inv (k + 1) H4
      have hck : compL i ft fe (ds.drop (k + 1)) (σt.set i none) = .ok xk σ2 := hck
      have q := R4.forget2 i none
      rw [rx x] at q
      have om : ∀ b, Own (σt.set i none) (ρ.set i none) b → Own σt ((ρ.set i none).set i (some x)) b := fun b z => by
        rw [← rx x] at z
        exact own_forget2 z
      exact ⟨σt.set i none, acc, accD, xk, q, hacc4, reps_mono (fun b z => z.elim .inl fun q => .inr (om b q)) racc4, fx4.trans (.less om), hck, exs⟩
    | true =>
      obtain ⟨xe, σe, he, hck⟩ := bind_ok (show ((fe σt).bind fun x σ2 => (compL i ft fe (ds.drop (k + 1)) (σ2.set i none)).bind fun xs σ3 => .ok (x :: xs) σ3) = .ok xk σ2 from hck)
      rw [← hfe] at he
      obtain ⟨xd, σe', he, he2⟩ := bind_ok he
      cases he2
      have he := nox_ok he
      obtain ⟨xk', σ2', hck, he2⟩ := bind_ok hck
      cases he2
      refine ⟨cs, _, σt, R4, Dn.okE he fun H5 f5 v hv => ?_⟩
      obtain ⟨R5, r5⟩ := hv.val
      have R5 : RelSt K cs (fun b => B b ∨ b = A) H5 σe ((ρ.set i none).set i (some x)) := R5
      have hacc5 : H5 A = some (.lst acc) := f5.keep A _ hacc4 (R4.bown A (.inr rfl))
      have racc5 := f5.reps (B := fun b => B b ∨ b = A) R4.ownOk racc4
      have q := R5.forget2 i none
      rw [rx x] at q
      have om : ∀ b, Own (σe.set i none) (ρ.set i none) b → Own σe ((ρ.set i none).set i (some x)) b := fun b z => by
        rw [← rx x] at z
        exact own_forget2 z
      have hl : acc.length < sizeLine := by
        rw [← racc.length]
        have := congrArg List.length exs
        rw [List.length_append, List.length_cons] at this
        omega
      refine ⟨acc, hacc5, hl, σe.set i none, acc ++ [v], accD ++ [xd.2], xk', q.putB (.inr rfl) nc hacc5, upd_same, ?_, ((fx4.trans f5).trans (.less om)).updNew hA, hck, ?_⟩
      · exact put_carry (.inl (.inr rfl)) hacc5 (reps_mono (fun b z => z.elim .inl fun q => .inr (om b q)) (racc5.append (.one r5)))
      · rw [exs, List.append_assoc]; rfl
end
end Pu
namespace Pu
open PySem PySem.Spec PyProof.Rows
open L2 hiding St
structure EOk (X : Cx) (xc : Xc) (W : WX) (Z : Ev) (e : Xp) (x : Expr) : Prop where
  pe : GE X xc W Z e x
  cm : isCm x = true → GT X xc W Z (.v e) x
  lc : ∀ (i : Nat) (y : Str) (py spos : Pos), isLC x = true → X.N[i]? = some y → X.env.scope.names.lookup y = some .local → swapsWith x (some (.Name y py)) spos.line X.env = pure true → PS X (.Assign [.Name y py] x spos) (tAsg (rdE X.K xc W (ev Z e)) (gName i))
structure TOk (X : Cx) (xc : Xc) (W : WX) (Z : Ev) (t : Tp) (x : Expr) : Prop where
  pt : GT X xc W Z t x
  pw : isBO x = true → PW X x (rdT X.K xc W (evT Z t))
section
variable {X : Cx} {c : CC} {xc : Xc} {W : WX} {Z : Ev}
theorem ctx_blk (C : CtxOk X c) {s : Shared} {H : Hp} {sc : Scope} {cl : List (Str × Addr)} {a : Addr} {fp : List Addr} {own : List (Str × Nat)} (hb : blkC c.N c.sc sc own = true) : CtxOk (X.blk s H sc (compEnvC sc cl a X.env) fp) (c.sub sc) := by
  refine ⟨C.N, C.nd, ?_, (blkOk_by hb).kind, C.calm, fun x h => h⟩
  show relabel sc X.env = relS sc c.sc
  rw [← C.sc]
  rfl
theorem pts_of {t : Ot} {ts : List Expr} {X' : Cx} (h : cOT c t ts = true) (k : ∀ (u : Tp) (x : Expr), t = .so u → ts = [x] → GT X' xc W0 Z u x) : PTs X' ts (rdT X'.K xc W0 (evOT Z t)) := by
  cases t with
  | no =>
    cases ts with
    | cons _ _ => cases h
    | nil => exact ⟨fun pins s σ H Q I ⟨cs, B, σ', R, D⟩ => pts_nil.run pins s σ H Q I (Dn.here D R)⟩
  | so u =>
    cases ts with
    | nil => cases h
    | cons x ts =>
      cases ts with
      | cons _ _ => cases h
      | nil => exact pts_one (k u x rfl rfl)
theorem ge_comp (C : CtxOk X c) {i : Nat} {it : Ix} {t : Ot} {e : Xp} {v : Str} {x r : Expr} {ts : List Expr} {sc : Scope} {pv p : Pos} (hr : okX r = true) (hI : PI X (.Name v pv) r (rdI X.K xc W (evI Z it))) (hb : blkC c.N c.sc sc [(v, i)] = true) (hN : c.N[i]? = some v) (hl : CC.loc (c.sub sc) i v = true)
    (hT : ∀ X' : Cx, CtxOk X' (c.sub sc) → X'.prog = X.prog → (X'.K = X.K) → EvX X' xc Z → PTs X' ts (rdT X'.K xc W0 (evOT Z t))) (hE : ∀ X' : Cx, CtxOk X' (c.sub sc) → EvX X' xc Z → GE X' xc W0 Z e x) (G : EvX X xc Z) : EOk X xc W Z (.comp i it t e) (.ListComp x [⟨.Name v pv, r, ts, 0⟩] sc p) := by
  have ok : BlkOk X.N X.env.scope sc [(v, i)] := by rw [C.N, C.sc]; exact blkOk_by hb
  have nd : X.N.Nodup := by rw [C.N]; exact C.nd
  have hg : ∀ (s : Shared) (H : Hp) (a : Addr) (cl : List (Str × Addr)) (fp : List Addr), PG (X.blk s H sc (compEnvC sc cl a X.env) fp) (.Name v pv) (gName i) := fun s H a cl fp => by
    have C' := ctx_blk C (s := s) (H := H) (cl := cl) (a := a) (fp := fp) hb
    obtain ⟨h1, h2, h3⟩ := loc_ok C' hl
    exact pg_name nd h1 h2 h3
  have ht : ∀ (s : Shared) (H : Hp) (a : Addr) (cl : List (Str × Addr)) (fp : List Addr), PTs (X.blk s H sc (compEnvC sc cl a X.env) fp) ts (rdT X.K xc W0 (evOT Z t)) := fun s H a cl fp => hT _ (ctx_blk C hb) rfl rfl G
  have he : ∀ (s : Shared) (H : Hp) (a : Addr) (cl : List (Str × Addr)) (fp : List Addr), PE (X.blk s H sc (compEnvC sc cl a X.env) fp) x (rdE X.K xc W0 (ev Z e)) := fun s H a cl fp => hE _ (ctx_blk C hb) G
  refine ⟨(pe_lc C.calm nd hI ok hg ht he (folded_ok _ hr)).imp fun ρ H Q h => rd_comp h, fun h => (by cases h), fun j y py spos _ h1 h2 h3 => ?_⟩
  exact (ps_setLc C.calm nd h1 h2 h3 hI ok hg ht he (folded_ok _ hr)).imp fun D ρ H h => rd_comp h
theorem eok {e : Xp} {x : Expr} (h : GE X xc W Z e x) (h1 : isCm x = false) (h2 : isLC x = false) : EOk X xc W Z e x := ⟨h, fun z => absurd z (by rw [h1]; exact Bool.noConfusion), fun _ _ _ _ z => absurd z (by rw [h2]; exact Bool.noConfusion)⟩
theorem EOk.gb (C : CtxOk X c) {e : Xp} {x : Expr} (h : EOk X xc W Z e x) (hc : cE c e x = true) : GB X xc W Z e x := gb_of C hc h.pe
theorem ge_and {a b : Xp} {x y : Expr} {zs : List Expr} {p : Pos} (ha : GE X xc W Z a x) (hb : GE X xc W Z b (.BoolOp .And (y :: zs) p)) : GE X xc W Z (.and a b) (.BoolOp .And (x :: y :: zs) p) := (pe_and ha hb).imp fun ρ H Q => rd_and
theorem ge_or {a b : Xp} {x y : Expr} {zs : List Expr} {p : Pos} (ha : GE X xc W Z a x) (hb : GE X xc W Z b (.BoolOp .Or (y :: zs) p)) : GE X xc W Z (.or a b) (.BoolOp .Or (x :: y :: zs) p) := (pe_or ha hb).imp fun ρ H Q => rd_or
theorem tw_and {a b : Tp} {x y : Expr} {zs : List Expr} {p : Pos} (ha : GT X xc W Z a x) (hb : PW X (.BoolOp .And (y :: zs) p) (rdT X.K xc W (evT Z b))) : TOk X xc W Z (.and a b) (.BoolOp .And (x :: y :: zs) p) :=
  have w := (pw_and ha hb).imp (t' := rdT X.K xc W (evT Z (.and a b))) fun ρ H Q => rt_and
  ⟨w.pt, fun _ => w⟩
theorem tw_or {a b : Tp} {x y : Expr} {zs : List Expr} {p : Pos} (ha : GT X xc W Z a x) (hb : PW X (.BoolOp .Or (y :: zs) p) (rdT X.K xc W (evT Z b))) : TOk X xc W Z (.or a b) (.BoolOp .Or (x :: y :: zs) p) :=
  have w := (pw_or ha hb).imp (t' := rdT X.K xc W (evT Z (.or a b))) fun ρ H Q => rt_or
  ⟨w.pt, fun _ => w⟩
end
section
variable (xc : Xc) (Z : Ev)
def ME (e : Xp) : Prop := ∀ (X : Cx) (c : CC) (W : WX) (x : Expr), EvX X xc Z → CtxOk X c → Takes X W → cE c e x = true → EOk X xc W Z e x
def MT (t : Tp) : Prop := ∀ (X : Cx) (c : CC) (W : WX) (x : Expr), EvX X xc Z → CtxOk X c → Takes X W → cT c t x = true → TOk X xc W Z t x
def MEs (es : Xs) : Prop := ∀ (X : Cx) (c : CC) (W : WX) (xs : List Expr), EvX X xc Z → CtxOk X c → Takes X W → cEs c es xs = true → PA X xs (rdEs X.K xc W (evs Z es)) ∧ PA X xs (rdBs X.K xc W (evBs Z es)) ∧ ∀ ms, PA X xs (rdBs X.K xc W (evAs Z ms es))
def MO (o : Ox) : Prop := ∀ (X : Cx) (c : CC) (W : WX) (x : Option Expr), EvX X xc Z → CtxOk X c → Takes X W → cO c o x = true → PO X x (rdO X.K xc W (evO Z o))
def MOT (t : Ot) : Prop := ∀ (X : Cx) (c : CC) (ts : List Expr), EvX X xc Z → CtxOk X c → cOT c t ts = true → PTs X ts (rdT X.K xc W0 (evOT Z t))
def MI (i : Ix) : Prop := ∀ (X : Cx) (c : CC) (W : WX) (x tg : Expr), EvX X xc Z → CtxOk X c → Takes X W → cI c i x = true → PI X tg x (rdI X.K xc W (evI Z i))
end
section
variable {xc : Xc} {Z : Ev}
theorem cE_ok_var {i : Nat}  : ME xc Z (.var i) := fun X c W x G C tk h => by
    cases x with
    | Name y p => exact eok (ge_var C h) rfl rfl
    | _ => cases h
theorem cE_ok_int {i : Int}  : ME xc Z (.int i) := fun X c W x G C tk h => by
    cases x with
    | Constant k _ _ =>
      cases k with
      | int j => obtain rfl := of_decide_eq_true h; exact eok ge_int rfl rfl
      | _ => cases h
    | _ => cases h
theorem cE_ok_str {l : List Nat}  : ME xc Z (.str l) := fun X c W x G C tk h => by
    cases x with
    | Constant k _ _ =>
      cases k with
      | str j => obtain rfl := of_decide_eq_true h; exact eok ge_str rfl rfl
      | _ => cases h
    | _ => cases h
theorem cE_ok_bl {b : Bool}  : ME xc Z (.bl b) := fun X c W x G C tk h => by
    cases x with
    | Constant k _ _ =>
      cases k with
      | bool j => obtain rfl := of_decide_eq_true h; exact eok ge_bl rfl rfl
      | _ => cases h
    | _ => cases h
theorem cE_ok_non   : ME xc Z (.non) := fun X c W x G C tk h => by
    cases x with
    | Constant k _ _ =>
      cases k with
      | none => exact eok ge_non rfl rfl
      | _ => cases h
    | _ => cases h
theorem cE_ok_glob {g : String}  : ME xc Z (.glob g) := fun X c W x G C tk h => by
    cases x with
    | Name y p => exact eok (ge_glob G C h) rfl rfl
    | _ => cases h
theorem cE_ok_ty {n : String}  : ME xc Z (.ty n) := fun X c W x G C tk h => by
    cases x with
    | Name y p => exact eok (ge_ty G C (and_tt h).1 (and_tt h).2) rfl rfl
    | _ => cases h
theorem cE_ok_bin {o : BinO} {a : Xp} {b : Xp} (Ia : ME xc Z a) (Ib : ME xc Z b) : ME xc Z (.bin o a b) := fun X c W x G C tk h => by
    cases x with
    | BinOp l op r p =>
      obtain ⟨h1, h2⟩ := and_tt (show (decide (op = pyB o) && (cE c a l && cE c b r)) = true from h)
      obtain ⟨h3, h4⟩ := and_tt h2
      obtain rfl := of_decide_eq_true h1
      exact eok (ge_bin ((Ia X c W l G C tk h3).gb C h3) ((Ib X c W r G C tk h4).gb C h4)) rfl rfl
    | _ => cases h
theorem cE_ok_cmp {o : CmpO} {a : Xp} {b : Xp} (Ia : ME xc Z a) (Ib : ME xc Z b) : ME xc Z (.cmp o a b) := fun X c W x G C tk h => by
    cases x with
    | Compare l ops rs p =>
      match ops, rs, h with
      | [op], [r], h =>
        obtain ⟨h1, h2⟩ := and_tt (show (decide (op = pyC o) && (okX r && (cE c a l && cE c b r))) = true from h)
        obtain ⟨h5, h6⟩ := and_tt h2
        obtain ⟨h3, h4⟩ := and_tt h6
        obtain rfl := of_decide_eq_true h1
        have ga := (Ia X c W l G C tk h3).gb C h3
        have gb := (Ib X c W r G C tk h4).gb C h4
        exact ⟨ge_cmp G h5 ga gb, fun _ => gt_cmp G h5 ga gb, fun _ _ _ _ z => by cases z⟩
    | _ => cases h
theorem cE_ok_chain {o : CmpO} {o' : CmpO} {a : Xp} {b : Xp} {d : Xp} (Ia : ME xc Z a) (Ib : ME xc Z b) (Id : ME xc Z d) : ME xc Z (.chain o o' a b d) := fun X c W x G C tk h => by
    cases x with
    | Compare l ops rs p =>
      match ops, rs, h with
      | [op, op'], [r, q], h =>
        obtain ⟨h1, h2⟩ := and_tt (show (decide (op = pyC o) && (decide (op' = pyC o') && (okX q && (cE c a l && (cE c b r && cE c d q))))) = true from h)
        obtain ⟨h3, h4⟩ := and_tt h2
        obtain ⟨h5, h6⟩ := and_tt h4
        obtain ⟨h7, h8⟩ := and_tt h6
        obtain ⟨h9, h10⟩ := and_tt h8
        obtain rfl := of_decide_eq_true h1
        obtain rfl := of_decide_eq_true h3
        have ga := (Ia X c W l G C tk h7).gb C h7
        have gb := (Ib X c W r G C tk h9).gb C h9
        have gd := (Id X c W q G C tk h10).gb C h10
        exact ⟨ge_chain G h5 ga gb gd, fun _ => gt_chain G h5 ga gb gd, fun _ _ _ _ z => by cases z⟩
    | _ => cases h
theorem cE_ok_neg {a : Xp} (Ia : ME xc Z a) : ME xc Z (.neg a) := fun X c W x G C tk h => by
    cases x with
    | UnaryOp o l p =>
      cases o with
      | USub => exact eok (ge_neg ((Ia X c W l G C tk h).gb C h)) rfl rfl
      | _ => cases h
    | _ => cases h
theorem cE_ok_idx {a : Xp} {b : Xp} (Ia : ME xc Z a) (Ib : ME xc Z b) : ME xc Z (.idx a b) := fun X c W x G C tk h => by
    cases x with
    | Subscript l r p =>
      obtain ⟨h1, h2⟩ := and_tt (show (okX r && (cE c a l && cE c b r)) = true from h)
      obtain ⟨h3, h4⟩ := and_tt h2
      exact eok (ge_idx h1 ((Ia X c W l G C tk h3).gb C h3) ((Ib X c W r G C tk h4).gb C h4)) rfl rfl
    | _ => cases h
theorem cE_ok_slc {a : Xp} {lo : Ox} {hi : Ox} (Ia : ME xc Z a) (Ilo : MO xc Z lo) (Ihi : MO xc Z hi) : ME xc Z (.slc a lo hi) := fun X c W x G C tk h => by
    cases x with
    | Subscript l r p =>
      cases r with
      | Slice y z st p2 =>
        cases st with
        | some _ => cases h
        | none =>
          obtain ⟨h1, h2⟩ := and_tt (show (cE c a l && (cO c lo y && cO c hi z)) = true from h)
          obtain ⟨h3, h4⟩ := and_tt h2
          exact eok (ge_slc ((Ia X c W l G C tk h1).gb C h1) (Ilo X c W y G C tk h3) (Ihi X c W z G C tk h4)) rfl rfl
      | _ => cases h
    | _ => cases h
theorem cE_ok_rev {a : Xp} (Ia : ME xc Z a) : ME xc Z (.rev a) := fun X c W x G C tk h => by
    cases x with
    | Subscript l r p =>
      cases r with
      | Slice lo hi st p3 =>
        cases lo with
        | some _ => cases h
        | none =>
          cases hi with
          | some _ => cases h
          | none =>
            cases st with
            | none => cases h
            | some u =>
              cases u with
              | UnaryOp o k p2 =>
                cases o with
                | USub =>
                  cases k with
                  | Constant k k1 p1 =>
                    cases k with
                    | int n =>
                      by_cases hn : n = 1
                      · subst hn
                        exact eok (ge_rev ((Ia X c W l G C tk h).gb C h)) rfl rfl
                      · exfalso
                        revert h
                        unfold cE
                        split
                        · rename_i e
                          cases e
                          exact absurd rfl hn
                        · intro h; cases h
                    | _ => cases h
                  | _ => cases h
                | _ => cases h
              | _ => cases h
      | _ => cases h
    | _ => cases h
theorem cE_ok_tup {es : Xs} (Ies : MEs xc Z es) : ME xc Z (.tup es) := fun X c W x G C tk h => by
    cases x with
    | Tuple xs k p => exact eok (ge_tup (Ies X c W xs G C tk h).1) rfl rfl
    | _ => cases h
theorem cE_ok_lst {es : Xs} (Ies : MEs xc Z es) : ME xc Z (.lst es) := fun X c W x G C tk h => by
    cases x with
    | List xs p => exact eok (ge_lst (Ies X c W xs G C tk h).1) rfl rfl
    | _ => cases h
theorem cE_ok_bi {b : Bi} {es : Xs} (Ies : MEs xc Z es) : ME xc Z (.bi b es) := fun X c W x G C tk h => by
    cases x with
    | Call fn args kws q =>
      cases fn with
      | Name f p =>
        cases args with
        | nil => cases h
        | cons y ys =>
          cases kws with
          | cons _ _ => cases h
          | nil =>
              obtain ⟨h1, h2⟩ := and_tt (show (c.gl f (biN b) && cEs c es (y :: ys)) = true from h)
              exact eok (ge_bi G C h1 h2 (Ies X c W _ G C tk h2).2.1) rfl rfl
      | _ => cases h
    | _ => cases h
theorem cE_ok_me {m : Me} {o : Xp} {es : Xs} (Io : ME xc Z o) (Ies : MEs xc Z es) : ME xc Z (.me m o es) := fun X c W x G C tk h => by
    cases x with
    | Call fn args kws q =>
      cases fn with
      | Attribute z f p =>
        cases args with
        | nil => cases h
        | cons y ys =>
          cases ys with
          | cons _ _ => cases h
          | nil =>
            cases kws with
            | cons _ _ => cases h
            | nil =>
                obtain ⟨h1, h2⟩ := and_tt (show (decide (f = (meN m : Str)) && (decide (m = .join) && (decide (p.endLine = q.line) && (okX z && (ncX z && (cE c o z && cEs c es [y])))))) = true from h)
                obtain ⟨h3, h4⟩ := and_tt h2
                obtain ⟨h5, h6⟩ := and_tt h4
                obtain ⟨h7, h8⟩ := and_tt h6
                obtain ⟨h9, h10⟩ := and_tt h8
                obtain ⟨h11, h12⟩ := and_tt h10
                obtain rfl := of_decide_eq_true h1
                obtain rfl := of_decide_eq_true h3
                exact eok (ge_me (of_decide_eq_true h5) h9 h12 ((Io X c W z G C tk h11).gb C h11) (Ies X c W _ G C tk h12).2.1) rfl rfl
      | _ => cases h
    | _ => cases h
theorem cE_ok_mu {m : Mu} {i : Nat} {es : Xs} (Ies : MEs xc Z es) : ME xc Z (.mu m i es) := fun X c W x G C tk h => by
    cases x with
    | Call fn ys kws q =>
      cases fn with
      | Attribute zz f p =>
        cases zz with
        | Name z pz =>
          cases kws with
          | cons _ _ => cases h
          | nil =>
              obtain ⟨h1, h2⟩ := and_tt (show (decide (f = (mtN m : Str)) && (decide (p.endLine = q.line) && (c.vis i z && (decide (ys.length < 2) && cEs c es ys)))) = true from h)
              obtain ⟨h3, h4⟩ := and_tt h2
              obtain ⟨h5, h6⟩ := and_tt h4
              obtain ⟨h7, h8⟩ := and_tt h6
              obtain rfl := of_decide_eq_true h1
              exact eok (ge_mu C (of_decide_eq_true h3) h5 (of_decide_eq_true h7) h8 (Ies X c W _ G C tk h8).1) rfl rfl
        | _ => cases h
      | _ => cases h
    | _ => cases h
theorem cE_ok_call {f : String} {es : Xs} (Ies : MEs xc Z es) : ME xc Z (.call f es) := fun X c W x G C tk h => by
    cases x with
    | Call fn args kws q =>
      cases fn with
      | Name f' p =>
        cases args with
        | nil => cases h
        | cons y ys =>
          cases kws with
          | cons _ _ => cases h
          | nil =>
              obtain ⟨h1, h2⟩ := and_tt (show (c.gl f' f && cEs c es (y :: ys)) = true from h)
              exact eok (ge_call G C tk h1 h2 (Ies X c W _ G C tk h2).2.2) rfl rfl
      | _ => cases h
    | _ => cases h
theorem cE_ok_and {a : Xp} {b : Xp} (Ia : ME xc Z a) (Ib : ME xc Z b) : ME xc Z (.and a b) := fun X c W x G C tk h => by
    cases x with
    | BoolOp o es p =>
      cases o with
      | Or => cases h
      | And =>
        cases es with
        | nil => cases h
        | cons x es =>
          cases es with
          | nil => cases h
          | cons y es =>
            cases es with
            | nil =>
              obtain ⟨h1, h2⟩ := and_tt (show (cE c a x && cE c b y) = true from h)
              exact eok (ge_and (Ia X c W x G C tk h1).pe (pe_one (Ib X c W y G C tk h2).pe)) rfl rfl
            | cons z zs =>
              obtain ⟨h1, h2⟩ := and_tt (show (cE c a x && cE c b (.BoolOp .And (y :: z :: zs) p)) = true from h)
              exact eok (ge_and (Ia X c W x G C tk h1).pe (Ib X c W _ G C tk h2).pe) rfl rfl
    | _ => cases h
theorem cE_ok_or {a : Xp} {b : Xp} (Ia : ME xc Z a) (Ib : ME xc Z b) : ME xc Z (.or a b) := fun X c W x G C tk h => by
    cases x with
    | BoolOp o es p =>
      cases o with
      | And => cases h
      | Or =>
        cases es with
        | nil => cases h
        | cons x es =>
          cases es with
          | nil => cases h
          | cons y es =>
            cases es with
            | nil =>
              obtain ⟨h1, h2⟩ := and_tt (show (cE c a x && cE c b y) = true from h)
              exact eok (ge_or (Ia X c W x G C tk h1).pe (pe_one (Ib X c W y G C tk h2).pe)) rfl rfl
            | cons z zs =>
              obtain ⟨h1, h2⟩ := and_tt (show (cE c a x && cE c b (.BoolOp .Or (y :: z :: zs) p)) = true from h)
              exact eok (ge_or (Ia X c W x G C tk h1).pe (Ib X c W _ G C tk h2).pe) rfl rfl
    | _ => cases h
theorem cE_ok_not {a : Xp} (Ia : ME xc Z a) : ME xc Z (.not a) := fun X c W x G C tk h => by
    cases x with
    | UnaryOp o l p =>
      cases o with
      | Not => exact eok (ge_not (Ia X c W l G C tk h).pe) rfl rfl
      | _ => cases h
    | _ => cases h
theorem cE_ok_cond {t : Tp} {a : Xp} {b : Xp} (It : MT xc Z t) (Ia : ME xc Z a) (Ib : ME xc Z b) : ME xc Z (.cond t a b) := fun X c W x G C tk h => by
    cases x with
    | IfExp x y z p =>
      obtain ⟨h1, h2⟩ := and_tt (show (cT c t x && (cE c a y && cE c b z)) = true from h)
      obtain ⟨h3, h4⟩ := and_tt h2
      exact eok (ge_cond (It X c W x G C tk h1).pt (Ia X c W y G C tk h3).pe (Ib X c W z G C tk h4).pe) rfl rfl
    | _ => cases h
theorem cE_ok_comp {i : Nat} {it : Ix} {t : Ot} {e : Xp} (Iit : MI xc Z it) (It : MOT xc Z t) (Ie : ME xc Z e) : ME xc Z (.comp i it t e) := fun X c W x G C tk h => by
    cases x with
    | ListComp x gs sc p =>
      cases gs with
      | nil => cases h
      | cons g gs =>
        cases gs with
        | cons _ _ =>
          exfalso
          revert h
          unfold cE
          split
          · rename_i e
            cases e
          · intro h; cases h
        | nil =>
          obtain ⟨tg, r, ts, k⟩ := g
          cases tg with
          | Name v pv =>
            by_cases hk : k = 0
            · subst hk
              obtain ⟨h1, h2⟩ := and_tt (show (okX r && (cI c it r && (blkC c.N c.sc sc [(v, i)] && (decide (c.N[i]? = some v) && (CC.loc (c.sub sc) i v && (cOT (c.sub sc) t ts && cE (c.sub sc) e x)))))) = true from h)
              obtain ⟨h3, h4⟩ := and_tt h2
              obtain ⟨h5, h6⟩ := and_tt h4
              obtain ⟨h7, h8⟩ := and_tt h6
              obtain ⟨h9, h10⟩ := and_tt h8
              obtain ⟨h11, h12⟩ := and_tt h10
              exact ge_comp C h1 (Iit X c W r _ G C tk h3) h5 (of_decide_eq_true h7) h9 (fun X' C' _ _ G' => It X' _ ts G' C' h11) (fun X' C' G' => (Ie X' _ W0 x G' C' takes0 h12).pe) G
            · exfalso
              revert h
              unfold cE
              split
              · rename_i e
                cases e
                exact absurd rfl hk
              · intro h; cases h
          | _ => cases h
    | _ => cases h
theorem cT_ok_v {e : Xp} (Ie : ME xc Z e) : MT xc Z (.v e) := fun X c W x G C tk h => by
    obtain ⟨h1, h2⟩ := and_tt (show (cE c e x && (isCm x || plT x)) = true from h)
    have q := Ie X c W x G C tk h1
    cases hc : isCm x with
    | true => exact ⟨q.cm hc, fun z => by cases x <;> first | (cases z; done) | (cases hc; done)⟩
    | false =>
      rw [hc] at h2
      exact ⟨gt_v C h2 (q.gb C h1), fun z => by cases x <;> first | (cases z; done) | (cases h2; done)⟩
theorem cT_ok_and {a : Tp} {b : Tp} (Ia : MT xc Z a) (Ib : MT xc Z b) : MT xc Z (.and a b) := fun X c W x G C tk h => by
    cases x with
    | BoolOp o es p =>
      cases o with
      | Or => cases h
      | And =>
        cases es with
        | nil => cases h
        | cons x es =>
          cases es with
          | nil => cases h
          | cons y es =>
            cases es with
            | nil =>
              obtain ⟨h1, h2⟩ := and_tt (show (cT c a x && cT c b y) = true from h)
              exact tw_and (Ia X c W x G C tk h1).pt (pw_and1 (Ib X c W y G C tk h2).pt)
            | cons z zs =>
              obtain ⟨h1, h2⟩ := and_tt (show (cT c a x && cT c b (.BoolOp .And (y :: z :: zs) p)) = true from h)
              exact tw_and (Ia X c W x G C tk h1).pt ((Ib X c W _ G C tk h2).pw rfl)
    | _ => cases h
theorem cT_ok_or {a : Tp} {b : Tp} (Ia : MT xc Z a) (Ib : MT xc Z b) : MT xc Z (.or a b) := fun X c W x G C tk h => by
    cases x with
    | BoolOp o es p =>
      cases o with
      | And => cases h
      | Or =>
        cases es with
        | nil => cases h
        | cons x es =>
          cases es with
          | nil => cases h
          | cons y es =>
            cases es with
            | nil =>
              obtain ⟨h1, h2⟩ := and_tt (show (cT c a x && cT c b y) = true from h)
              exact tw_or (Ia X c W x G C tk h1).pt (pw_or1 (Ib X c W y G C tk h2).pt)
            | cons z zs =>
              obtain ⟨h1, h2⟩ := and_tt (show (cT c a x && cT c b (.BoolOp .Or (y :: z :: zs) p)) = true from h)
              exact tw_or (Ia X c W x G C tk h1).pt ((Ib X c W _ G C tk h2).pw rfl)
    | _ => cases h
theorem cT_ok_not {a : Tp} (Ia : MT xc Z a) : MT xc Z (.not a) := fun X c W x G C tk h => by
    cases x with
    | UnaryOp o l p =>
      cases o with
      | Not => exact ⟨gt_not (Ia X c W l G C tk h).pt, fun z => by cases z⟩
      | _ => cases h
    | _ => cases h
theorem cEs_ok_nil   : MEs xc Z (.nil) := fun X c W xs G C tk h => by
    cases xs with
    | nil => exact ⟨ga_nil, gbs_nil, fun ms => gas_nil⟩
    | cons _ _ => cases h
theorem cEs_ok_cons {e : Xp} {es : Xs} (Ie : ME xc Z e) (Ies : MEs xc Z es) : MEs xc Z (.cons e es) := fun X c W xs G C tk h => by
    cases xs with
    | nil => cases h
    | cons x xs =>
      obtain ⟨h1, h2⟩ := and_tt (show (okX x && (cE c e x && cEs c es xs)) = true from h)
      obtain ⟨h3, h4⟩ := and_tt h2
      have q := Ie X c W x G C tk h3
      obtain ⟨t1, t2, t3⟩ := Ies X c W xs G C tk h4
      exact ⟨ga_cons h1 q.pe t1, gbs_cons h1 (q.gb C h3) t2, fun ms => gas_cons C h1 q.pe (q.gb C h3) t3⟩
theorem cO_ok_no   : MO xc Z (.no) := fun X c W x G C tk h => by
    cases x with
    | none => exact go_no
    | some _ => cases h
theorem cO_ok_so {e : Xp} (Ie : ME xc Z e) : MO xc Z (.so e) := fun X c W x G C tk h => by
    cases x with
    | none => cases h
    | some x => exact go_so (Ie X c W x G C tk h).pe
theorem cOT_ok_no   : MOT xc Z (.no) := fun X c ts G C h => pts_of h fun u x z => by cases z
theorem cOT_ok_so {u : Tp} (Iu : MT xc Z u) : MOT xc Z (.so u) := fun X c ts G C h => pts_of h fun u' x z1 z2 => by
    cases z1
    subst z2
    exact (Iu X c W0 x G C takes0 h).pt
theorem cI_ok_of {e : Xp} (Ie : ME xc Z e) : MI xc Z (.of e) := fun X c W x tg G C tk h => gi_of (gw_of C h (Ie X c W x G C tk h).pe)
theorem cI_ok_rng1 {a : Xp} (Ia : ME xc Z a) : MI xc Z (.rng1 a) := fun X c W x tg G C tk h => by
    cases x with
    | Call fn args kws q =>
      cases fn with
      | Name r p =>
        cases args with
        | nil => cases h
        | cons y ys =>
          cases ys with
          | cons _ _ => cases h
          | nil =>
            cases kws with
            | cons _ _ => cases h
            | nil =>
                obtain ⟨h1, h2⟩ := and_tt (show (c.gl r "range" && (okX y && cE c a y)) = true from h)
                obtain ⟨h3, h4⟩ := and_tt h2
                exact gi_rng1 G C h1 h3 (Ia X c W y G C tk h4).pe
      | _ => cases h
    | _ => cases h
theorem cI_ok_rng2 {a : Xp} {b : Xp} (Ia : ME xc Z a) (Ib : ME xc Z b) : MI xc Z (.rng2 a b) := fun X c W x tg G C tk h => by
    cases x with
    | Call fn args kws q =>
      cases fn with
      | Name r p =>
        cases args with
        | nil => cases h
        | cons y ys =>
          cases ys with
          | nil => cases h
          | cons z ys =>
            cases ys with
            | cons _ _ => cases h
            | nil =>
              cases kws with
              | cons _ _ => cases h
              | nil =>
                  obtain ⟨h1, h2⟩ := and_tt (show (c.gl r "range" && (okX y && (okX z && (cE c a y && cE c b z)))) = true from h)
                  obtain ⟨h3, h4⟩ := and_tt h2
                  obtain ⟨h5, h6⟩ := and_tt h4
                  obtain ⟨h7, h8⟩ := and_tt h6
                  exact gi_rng2 G C h1 h3 h5 (Ia X c W y G C tk h7).pe (Ib X c W z G C tk h8).pe
      | _ => cases h
    | _ => cases h
theorem ME_all (e : Xp) : ME xc Z e := Xp.rec (motive_1 := ME xc Z) (motive_2 := MEs xc Z) (motive_3 := MO xc Z) (motive_4 := MI xc Z) (motive_5 := MT xc Z) (motive_6 := MOT xc Z)
  (fun _ => cE_ok_var)
  (fun _ => cE_ok_int)
  (fun _ => cE_ok_str)
  (fun _ => cE_ok_bl)
  cE_ok_non
  (fun _ => cE_ok_glob)
  (fun _ => cE_ok_ty)
  (fun _ _ _ h0 h1 => cE_ok_bin h0 h1)
  (fun _ _ _ h0 h1 => cE_ok_cmp h0 h1)
  (fun _ _ _ _ _ h0 h1 h2 => cE_ok_chain h0 h1 h2)
  (fun _ h0 => cE_ok_neg h0)
  (fun _ _ h0 h1 => cE_ok_idx h0 h1)
  (fun _ _ _ h0 h1 h2 => cE_ok_slc h0 h1 h2)
  (fun _ h0 => cE_ok_rev h0)
  (fun _ h0 => cE_ok_tup h0)
  (fun _ h0 => cE_ok_lst h0)
  (fun _ _ h0 => cE_ok_bi h0)
  (fun _ _ _ h0 h1 => cE_ok_me h0 h1)
  (fun _ _ _ h0 => cE_ok_mu h0)
  (fun _ _ h0 => cE_ok_call h0)
  (fun _ _ h0 h1 => cE_ok_and h0 h1)
  (fun _ _ h0 h1 => cE_ok_or h0 h1)
  (fun _ h0 => cE_ok_not h0)
  (fun _ _ _ h0 h1 h2 => cE_ok_cond h0 h1 h2)
  (fun _ _ _ _ h0 h1 h2 => cE_ok_comp h0 h1 h2)
  cEs_ok_nil
  (fun _ _ h0 h1 => cEs_ok_cons h0 h1)
  cO_ok_no
  (fun _ h0 => cO_ok_so h0)
  (fun _ h0 => cI_ok_of h0)
  (fun _ h0 => cI_ok_rng1 h0)
  (fun _ _ h0 h1 => cI_ok_rng2 h0 h1)
  (fun _ h0 => cT_ok_v h0)
  (fun _ _ h0 h1 => cT_ok_and h0 h1)
  (fun _ _ h0 h1 => cT_ok_or h0 h1)
  (fun _ h0 => cT_ok_not h0)
  cOT_ok_no
  (fun _ h0 => cOT_ok_so h0) e
theorem MEs_all (e : Xs) : MEs xc Z e := Xs.rec (motive_1 := ME xc Z) (motive_2 := MEs xc Z) (motive_3 := MO xc Z) (motive_4 := MI xc Z) (motive_5 := MT xc Z) (motive_6 := MOT xc Z)
  (fun _ => cE_ok_var)
  (fun _ => cE_ok_int)
  (fun _ => cE_ok_str)
  (fun _ => cE_ok_bl)
  cE_ok_non
  (fun _ => cE_ok_glob)
  (fun _ => cE_ok_ty)
  (fun _ _ _ h0 h1 => cE_ok_bin h0 h1)
  (fun _ _ _ h0 h1 => cE_ok_cmp h0 h1)
  (fun _ _ _ _ _ h0 h1 h2 => cE_ok_chain h0 h1 h2)
  (fun _ h0 => cE_ok_neg h0)
  (fun _ _ h0 h1 => cE_ok_idx h0 h1)
  (fun _ _ _ h0 h1 h2 => cE_ok_slc h0 h1 h2)
  (fun _ h0 => cE_ok_rev h0)
  (fun _ h0 => cE_ok_tup h0)
  (fun _ h0 => cE_ok_lst h0)
  (fun _ _ h0 => cE_ok_bi h0)
  (fun _ _ _ h0 h1 => cE_ok_me h0 h1)
  (fun _ _ _ h0 => cE_ok_mu h0)
  (fun _ _ h0 => cE_ok_call h0)
  (fun _ _ h0 h1 => cE_ok_and h0 h1)
  (fun _ _ h0 h1 => cE_ok_or h0 h1)
  (fun _ h0 => cE_ok_not h0)
  (fun _ _ _ h0 h1 h2 => cE_ok_cond h0 h1 h2)
  (fun _ _ _ _ h0 h1 h2 => cE_ok_comp h0 h1 h2)
  cEs_ok_nil
  (fun _ _ h0 h1 => cEs_ok_cons h0 h1)
  cO_ok_no
  (fun _ h0 => cO_ok_so h0)
  (fun _ h0 => cI_ok_of h0)
  (fun _ h0 => cI_ok_rng1 h0)
  (fun _ _ h0 h1 => cI_ok_rng2 h0 h1)
  (fun _ h0 => cT_ok_v h0)
  (fun _ _ h0 h1 => cT_ok_and h0 h1)
  (fun _ _ h0 h1 => cT_ok_or h0 h1)
  (fun _ h0 => cT_ok_not h0)
  cOT_ok_no
  (fun _ h0 => cOT_ok_so h0) e
theorem MO_all (e : Ox) : MO xc Z e := Ox.rec (motive_1 := ME xc Z) (motive_2 := MEs xc Z) (motive_3 := MO xc Z) (motive_4 := MI xc Z) (motive_5 := MT xc Z) (motive_6 := MOT xc Z)
  (fun _ => cE_ok_var)
  (fun _ => cE_ok_int)
  (fun _ => cE_ok_str)
  (fun _ => cE_ok_bl)
  cE_ok_non
  (fun _ => cE_ok_glob)
  (fun _ => cE_ok_ty)
  (fun _ _ _ h0 h1 => cE_ok_bin h0 h1)
  (fun _ _ _ h0 h1 => cE_ok_cmp h0 h1)
  (fun _ _ _ _ _ h0 h1 h2 => cE_ok_chain h0 h1 h2)
  (fun _ h0 => cE_ok_neg h0)
  (fun _ _ h0 h1 => cE_ok_idx h0 h1)
  (fun _ _ _ h0 h1 h2 => cE_ok_slc h0 h1 h2)
  (fun _ h0 => cE_ok_rev h0)
  (fun _ h0 => cE_ok_tup h0)
  (fun _ h0 => cE_ok_lst h0)
  (fun _ _ h0 => cE_ok_bi h0)
  (fun _ _ _ h0 h1 => cE_ok_me h0 h1)
  (fun _ _ _ h0 => cE_ok_mu h0)
  (fun _ _ h0 => cE_ok_call h0)
  (fun _ _ h0 h1 => cE_ok_and h0 h1)
  (fun _ _ h0 h1 => cE_ok_or h0 h1)
  (fun _ h0 => cE_ok_not h0)
  (fun _ _ _ h0 h1 h2 => cE_ok_cond h0 h1 h2)
  (fun _ _ _ _ h0 h1 h2 => cE_ok_comp h0 h1 h2)
  cEs_ok_nil
  (fun _ _ h0 h1 => cEs_ok_cons h0 h1)
  cO_ok_no
  (fun _ h0 => cO_ok_so h0)
  (fun _ h0 => cI_ok_of h0)
  (fun _ h0 => cI_ok_rng1 h0)
  (fun _ _ h0 h1 => cI_ok_rng2 h0 h1)
  (fun _ h0 => cT_ok_v h0)
  (fun _ _ h0 h1 => cT_ok_and h0 h1)
  (fun _ _ h0 h1 => cT_ok_or h0 h1)
  (fun _ h0 => cT_ok_not h0)
  cOT_ok_no
  (fun _ h0 => cOT_ok_so h0) e
theorem MI_all (e : Ix) : MI xc Z e := Ix.rec (motive_1 := ME xc Z) (motive_2 := MEs xc Z) (motive_3 := MO xc Z) (motive_4 := MI xc Z) (motive_5 := MT xc Z) (motive_6 := MOT xc Z)
  (fun _ => cE_ok_var)
  (fun _ => cE_ok_int)
  (fun _ => cE_ok_str)
  (fun _ => cE_ok_bl)
  cE_ok_non
  (fun _ => cE_ok_glob)
  (fun _ => cE_ok_ty)
  (fun _ _ _ h0 h1 => cE_ok_bin h0 h1)
  (fun _ _ _ h0 h1 => cE_ok_cmp h0 h1)
  (fun _ _ _ _ _ h0 h1 h2 => cE_ok_chain h0 h1 h2)
  (fun _ h0 => cE_ok_neg h0)
  (fun _ _ h0 h1 => cE_ok_idx h0 h1)
  (fun _ _ _ h0 h1 h2 => cE_ok_slc h0 h1 h2)
  (fun _ h0 => cE_ok_rev h0)
  (fun _ h0 => cE_ok_tup h0)
  (fun _ h0 => cE_ok_lst h0)
  (fun _ _ h0 => cE_ok_bi h0)
  (fun _ _ _ h0 h1 => cE_ok_me h0 h1)
  (fun _ _ _ h0 => cE_ok_mu h0)
  (fun _ _ h0 => cE_ok_call h0)
  (fun _ _ h0 h1 => cE_ok_and h0 h1)
  (fun _ _ h0 h1 => cE_ok_or h0 h1)
  (fun _ h0 => cE_ok_not h0)
  (fun _ _ _ h0 h1 h2 => cE_ok_cond h0 h1 h2)
  (fun _ _ _ _ h0 h1 h2 => cE_ok_comp h0 h1 h2)
  cEs_ok_nil
  (fun _ _ h0 h1 => cEs_ok_cons h0 h1)
  cO_ok_no
  (fun _ h0 => cO_ok_so h0)
  (fun _ h0 => cI_ok_of h0)
  (fun _ h0 => cI_ok_rng1 h0)
  (fun _ _ h0 h1 => cI_ok_rng2 h0 h1)
  (fun _ h0 => cT_ok_v h0)
  (fun _ _ h0 h1 => cT_ok_and h0 h1)
  (fun _ _ h0 h1 => cT_ok_or h0 h1)
  (fun _ h0 => cT_ok_not h0)
  cOT_ok_no
  (fun _ h0 => cOT_ok_so h0) e
theorem MT_all (e : Tp) : MT xc Z e := Tp.rec (motive_1 := ME xc Z) (motive_2 := MEs xc Z) (motive_3 := MO xc Z) (motive_4 := MI xc Z) (motive_5 := MT xc Z) (motive_6 := MOT xc Z)
  (fun _ => cE_ok_var)
  (fun _ => cE_ok_int)
  (fun _ => cE_ok_str)
  (fun _ => cE_ok_bl)
  cE_ok_non
  (fun _ => cE_ok_glob)
  (fun _ => cE_ok_ty)
  (fun _ _ _ h0 h1 => cE_ok_bin h0 h1)
  (fun _ _ _ h0 h1 => cE_ok_cmp h0 h1)
  (fun _ _ _ _ _ h0 h1 h2 => cE_ok_chain h0 h1 h2)
  (fun _ h0 => cE_ok_neg h0)
  (fun _ _ h0 h1 => cE_ok_idx h0 h1)
  (fun _ _ _ h0 h1 h2 => cE_ok_slc h0 h1 h2)
  (fun _ h0 => cE_ok_rev h0)
  (fun _ h0 => cE_ok_tup h0)
  (fun _ h0 => cE_ok_lst h0)
  (fun _ _ h0 => cE_ok_bi h0)
  (fun _ _ _ h0 h1 => cE_ok_me h0 h1)
  (fun _ _ _ h0 => cE_ok_mu h0)
  (fun _ _ h0 => cE_ok_call h0)
  (fun _ _ h0 h1 => cE_ok_and h0 h1)
  (fun _ _ h0 h1 => cE_ok_or h0 h1)
  (fun _ h0 => cE_ok_not h0)
  (fun _ _ _ h0 h1 h2 => cE_ok_cond h0 h1 h2)
  (fun _ _ _ _ h0 h1 h2 => cE_ok_comp h0 h1 h2)
  cEs_ok_nil
  (fun _ _ h0 h1 => cEs_ok_cons h0 h1)
  cO_ok_no
  (fun _ h0 => cO_ok_so h0)
  (fun _ h0 => cI_ok_of h0)
  (fun _ h0 => cI_ok_rng1 h0)
  (fun _ _ h0 h1 => cI_ok_rng2 h0 h1)
  (fun _ h0 => cT_ok_v h0)
  (fun _ _ h0 h1 => cT_ok_and h0 h1)
  (fun _ _ h0 h1 => cT_ok_or h0 h1)
  (fun _ h0 => cT_ok_not h0)
  cOT_ok_no
  (fun _ h0 => cOT_ok_so h0) e
theorem MOT_all (e : Ot) : MOT xc Z e := Ot.rec (motive_1 := ME xc Z) (motive_2 := MEs xc Z) (motive_3 := MO xc Z) (motive_4 := MI xc Z) (motive_5 := MT xc Z) (motive_6 := MOT xc Z)
  (fun _ => cE_ok_var)
  (fun _ => cE_ok_int)
  (fun _ => cE_ok_str)
  (fun _ => cE_ok_bl)
  cE_ok_non
  (fun _ => cE_ok_glob)
  (fun _ => cE_ok_ty)
  (fun _ _ _ h0 h1 => cE_ok_bin h0 h1)
  (fun _ _ _ h0 h1 => cE_ok_cmp h0 h1)
  (fun _ _ _ _ _ h0 h1 h2 => cE_ok_chain h0 h1 h2)
  (fun _ h0 => cE_ok_neg h0)
  (fun _ _ h0 h1 => cE_ok_idx h0 h1)
  (fun _ _ _ h0 h1 h2 => cE_ok_slc h0 h1 h2)
  (fun _ h0 => cE_ok_rev h0)
  (fun _ h0 => cE_ok_tup h0)
  (fun _ h0 => cE_ok_lst h0)
  (fun _ _ h0 => cE_ok_bi h0)
  (fun _ _ _ h0 h1 => cE_ok_me h0 h1)
  (fun _ _ _ h0 => cE_ok_mu h0)
  (fun _ _ h0 => cE_ok_call h0)
  (fun _ _ h0 h1 => cE_ok_and h0 h1)
  (fun _ _ h0 h1 => cE_ok_or h0 h1)
  (fun _ h0 => cE_ok_not h0)
  (fun _ _ _ h0 h1 h2 => cE_ok_cond h0 h1 h2)
  (fun _ _ _ _ h0 h1 h2 => cE_ok_comp h0 h1 h2)
  cEs_ok_nil
  (fun _ _ h0 h1 => cEs_ok_cons h0 h1)
  cO_ok_no
  (fun _ h0 => cO_ok_so h0)
  (fun _ h0 => cI_ok_of h0)
  (fun _ h0 => cI_ok_rng1 h0)
  (fun _ _ h0 h1 => cI_ok_rng2 h0 h1)
  (fun _ h0 => cT_ok_v h0)
  (fun _ _ h0 h1 => cT_ok_and h0 h1)
  (fun _ _ h0 h1 => cT_ok_or h0 h1)
  (fun _ h0 => cT_ok_not h0)
  cOT_ok_no
  (fun _ h0 => cOT_ok_so h0) e
end
end Pu
namespace Pu
open PySem PySem.Spec PyProof.Rows
open L2 hiding St
def DnS (K : PySem.W.Frag) (xc : Xc) (W : WX) (cs : Nat → Addr → Prop) (B : Addr → Prop) (ρ : St) (H : Hp) (σ : PSt) (r : Pu.R Fl) (Ed : Ends) : Prop := match r with
  | .ok .next σ' => ∀ ρ' H', Fr (Own σ ρ) H (Own σ' ρ') H' → RelSt K cs B H' σ' ρ' → Ed.nx ρ' H'
  | .ok .brk σ' => ∀ ρ' H', Fr (Own σ ρ) H (Own σ' ρ') H' → RelSt K cs B H' σ' ρ' → Ed.bk ρ' H'
  | .ok .cont σ' => ∀ ρ' H', Fr (Own σ ρ) H (Own σ' ρ') H' → RelSt K cs B H' σ' ρ' → Ed.ct ρ' H'
  | .ok (.ret f d) σ' => ∀ v ρ' H', Fr (Own σ ρ) H (FrV (f, d) v (Own σ' ρ')) H' → VR K cs B H' σ' ρ' (f, d) v → Ed.rt v H'
  | .exc c fs σ' => ∀ cls dd ρ' H', Fr (Own σ ρ) H (Own σ' ρ') H' → RelSt K cs B H' σ' ρ' → ExcR K xc H' (Av B σ' ρ') c fs cls dd → W cls dd ρ' H'
  | .bad => False
abbrev rdS (K : PySem.W.Frag) (xc : Xc) (W : WX) (f : PSt → Pu.R Fl) : TS := fun Ed ρ H => ∃ cs B σ, RelSt K cs B H σ ρ ∧ DnS K xc W cs B ρ H σ (f σ) Ed
section
variable {K : PySem.W.Frag} {xc : Xc} {W : WX} {cs : Nat → Addr → Prop} {B : Addr → Prop} {ρ ρ1 : St} {H H1 : Hp} {σ σ1 : PSt} {Ed Ed' : Ends}
theorem DnS.after {r : Pu.R Fl} (h : DnS K xc W cs B ρ H σ r Ed) (f : Fr (Own σ ρ) H (Own σ1 ρ1) H1) : DnS K xc W cs B ρ1 H1 σ1 r Ed := by
  cases r with
  | ok fl σ' =>
    cases fl with
    | next => exact fun ρ' H' g => h ρ' H' (f.trans g)
    | brk => exact fun ρ' H' g => h ρ' H' (f.trans g)
    | cont => exact fun ρ' H' g => h ρ' H' (f.trans g)
    | ret f' d => exact fun v ρ' H' g => h v ρ' H' (f.trans g)
  | exc c fs σ' => exact fun cls dd ρ' H' g => h cls dd ρ' H' (f.trans g)
  | bad => exact h
theorem DnS.bindE {α : Type} {r : Pu.R α} {k : α → PSt → Pu.R Fl} (h : DnS K xc W cs B ρ H σ (r.bind k) Ed) : Dn K xc W cs B ρ H σ r fun x σ1 H1 => DnS K xc W cs B ρ H1 σ1 (k x σ1) Ed := by
  cases r with
  | ok x σ' => exact fun H' f => DnS.after (show DnS K xc W cs B ρ H σ (k x σ') Ed from h) f
  | exc c fs σ' => exact fun cls dd H' => h cls dd ρ H'
  | bad => exact h
theorem DnS.bindE0 {α : Type} {r : Pu.R α} {k : α → PSt → Pu.R Fl} (h : DnS K xc W cs B ρ H σ (r.bind k) Ed) : Dn K xc W cs B ρ H σ r fun x σ1 H1 => DnS K xc W cs B ρ H σ (k x σ1) Ed := by
  cases r with
  | ok x σ' => exact fun H' f => h
  | exc c fs σ' => exact fun cls dd H' => h cls dd ρ H'
  | bad => exact h
theorem DnS.opt {α : Type} {o : Option α} {k : α → Pu.R Fl} (h : DnS K xc W cs B ρ H σ (Pu.R.opt o k) Ed) : ∃ a, o = some a ∧ DnS K xc W cs B ρ H σ (k a) Ed := by
  cases o with
  | none => exact h.elim
  | some a => exact ⟨a, rfl, h⟩
theorem DnS.bindS {r : Pu.R Fl} {k : Fl → PSt → Pu.R Fl} (h : DnS K xc W cs B ρ H σ (r.bind k) Ed)
    (kn : ∀ σ' ρ' H', Fr (Own σ ρ) H (Own σ' ρ') H' → RelSt K cs B H' σ' ρ' → DnS K xc W cs B ρ' H' σ' (k .next σ') Ed → Ed'.nx ρ' H')
    (kb : ∀ σ' ρ' H', Fr (Own σ ρ) H (Own σ' ρ') H' → RelSt K cs B H' σ' ρ' → DnS K xc W cs B ρ' H' σ' (k .brk σ') Ed → Ed'.bk ρ' H')
    (kc : ∀ σ' ρ' H', Fr (Own σ ρ) H (Own σ' ρ') H' → RelSt K cs B H' σ' ρ' → DnS K xc W cs B ρ' H' σ' (k .cont σ') Ed → Ed'.ct ρ' H')
    (kr : ∀ f d σ', k (.ret f d) σ' = .ok (.ret f d) σ') (hr : Ed'.rt = Ed.rt) : DnS K xc W cs B ρ H σ r Ed' := by
  cases r with
  | ok fl σ' =>
    cases fl with
    | next => exact fun ρ' H' g R => kn σ' ρ' H' g R (DnS.after (show DnS K xc W cs B ρ H σ (k .next σ') Ed from h) g)
    | brk => exact fun ρ' H' g R => kb σ' ρ' H' g R (DnS.after (show DnS K xc W cs B ρ H σ (k .brk σ') Ed from h) g)
    | cont => exact fun ρ' H' g R => kc σ' ρ' H' g R (DnS.after (show DnS K xc W cs B ρ H σ (k .cont σ') Ed from h) g)
    | ret f' d =>
      have h : DnS K xc W cs B ρ H σ (k (.ret f' d) σ') Ed := h
      rw [kr] at h
      intro v ρ' H' g q
      rw [hr]
      exact h v ρ' H' g q
  | exc c fs σ' => exact h
  | bad => exact h
theorem DnS.next {σ' : PSt} {ρ' : St} {H' : Hp} (h : DnS K xc W cs B ρ H σ (.ok .next σ') Ed) (f : Fr (Own σ ρ) H (Own σ' ρ') H') (R : RelSt K cs B H' σ' ρ') : Ed.nx ρ' H' := h ρ' H' f R
theorem set_val {i : Nat} {x : Bool × D} {v : V} {σ2 : PSt} {H0 : Hp} (h : VE K cs B H0 σ ρ H x v) (hf : ∀ a, H0 a = none → True) (e : setVal σ i x.1 x.2 = some σ2) : RelSt K cs B H σ2 (ρ.set i (some v)) ∧ ∀ b, Own σ2 (ρ.set i (some v)) b → Own σ ρ b ∨ (H0 b = none ∧ x.1 = true ∧ v = .ref b) := by
  obtain ⟨f, d⟩ := x
  obtain ⟨e2, hi⟩ : σ2 = σ.set i (some (if f then .own else .val, d)) ∧ i < σ.length := by
    unfold setVal at e
    split at e
    · cases e
    · rename_i h0 _
      cases e
      exact ⟨rfl, (List.getElem?_eq_some_iff.mp ‹σ[i]? = some _›).1⟩
    · cases e
  subst e2
  cases f with
  | false =>
    obtain ⟨R, r⟩ := h
    exact ⟨R.setVal r, fun b z => .inl (own_set_val rfl z)⟩
  | true =>
    obtain ⟨a, ev, hn, F, t⟩ := h
    subst ev
    obtain ⟨R, ho⟩ := F.setOwn hi t
    exact ⟨R, fun b z => (ho b z).elim .inl fun q => .inr ⟨by rw [q]; exact hn, rfl, by rw [q]⟩⟩
end
def okX' : Expr → Bool
  | .Starred _ _ => false
  | _ => true
theorem bindTs_len : ∀ {ts : List Tg} {ds : List D} {σ σ' : PSt}, bindTs ts ds σ = some σ' → ts.length = ds.length
  | [], [], _, _, _ => rfl
  | [], _ :: _, _, _, e => by unfold bindTs at e; cases e
  | _ :: _, [], _, _, e => by unfold bindTs at e; cases e
  | t :: ts, d :: ds, σ, σ', e => by
    unfold bindTs at e
    split at e
    · rw [List.length_cons, List.length_cons, bindTs_len e]
    · cases e
section
variable {X : Cx} {c : CC} {xc : Xc} {W : WX} {Z : Ev}
abbrev GS (X : Cx) (xc : Xc) (W : WX) (Z : Ev) (s : Sm) (t : Stmt) : Prop := PS X t (rdS X.K xc W (ex Z s))
abbrev GSs (X : Cx) (xc : Xc) (W : WX) (Z : Ev) (s : Ss) (t : List Stmt) : Prop := PSs X t (rdS X.K xc W (exs Z s))
theorem gs_expr {e : Xp} {x : Expr} {p : Pos} (hl : isLC x = false) (h : GE X xc W Z e x) : GS X xc W Z (.expr e) (.Expr x p) := by
  refine (ps_expr h (swaps_ok _ _ _ hl)).imp fun Ed ρ H ⟨cs, B, σ, R, D⟩ => ⟨cs, B, σ, R, Dn.mono (DnS.bindE (r := ev Z e σ) D) fun x σ1 H1 f1 D1 v hv => ?_⟩
  exact D1.next .refl hv.val.1
theorem rd_asg {e : Xp} {i : Nat} {K : PySem.W.Frag} {Ed : Ends} {ρ : St} {H : Hp} (h : rdS K xc W (ex Z (.asg i e)) Ed ρ H) : tAsg (rdE K xc W (ev Z e)) (gName i) Ed ρ H := by
  obtain ⟨cs, B, σ, R, D⟩ := h
  refine ⟨cs, B, σ, R, Dn.mono (DnS.bindE0 (r := ev Z e σ) D) fun x σ1 H1 f1 D1 v hv => ?_⟩
  obtain ⟨σ2, e2, D2⟩ := DnS.opt D1
  obtain ⟨R2, ho⟩ := set_val hv (fun _ _ => trivial) e2
  exact D2.next ⟨f1.keep, fun b z => (ho b z).elim (f1.own b) fun q => .inr q.1, f1.trk⟩ R2
theorem gs_asg (C : CtxOk X c) {e : Xp} {i : Nat} {x : Str} {v : Expr} {px p : Pos} (hx : c.loc i x = true) (hv : okX v = true) (h : EOk X xc W Z e v) : GS X xc W Z (.asg i e) (.Assign [.Name x px] v p) := by
  obtain ⟨h1, h2, h3⟩ := loc_ok C hx
  have nd : X.N.Nodup := by rw [C.N]; exact C.nd
  cases hl : isLC v with
  | false => exact (ps_set nd h1 h2 h.pe (swaps_ok _ _ _ hl) h3).imp fun Ed ρ H => rd_asg
  | true =>
    by_cases hs : swapsWith v (some (.Name x px)) p.line X.env = pure false
    · exact (ps_set nd h1 h2 h.pe hs h3).imp fun Ed ρ H => rd_asg
    · have hb : X.env.blockKind = .function := by
        unfold Env.blockKind
        rw [C.sc, C.fnk]; rfl
      have key : swapsWith v (some (.Name x px)) p.line X.env = pure true ∧ X.env.scope.names.lookup x = some .local := by
        have gen : ∀ sc : Scope, swapsWith v (some (.Name x px)) p.line X.env = pure (X.env.blockKind == .function && X.env.kindOf x == some .local && px.line == v.pos.line && !(sc.names.any fun (n, k) => n == x && (k == .local || k == .cell))) →
            swapsWith v (some (.Name x px)) p.line X.env = pure true ∧ X.env.scope.names.lookup x = some .local := fun sc e => by
          cases q : (X.env.blockKind == .function && X.env.kindOf x == some .local && px.line == v.pos.line && !(sc.names.any fun (n, k) => n == x && (k == .local || k == .cell))) with
          | false => rw [q] at e; exact absurd e hs
          | true =>
            rw [q] at e
            refine ⟨e, ?_⟩
            obtain ⟨q1, _⟩ := and_tt q
            obtain ⟨q2, _⟩ := and_tt q1
            obtain ⟨_, q3⟩ := and_tt q2
            have q4 : X.env.kindOf x = some .local := eq_of_beq q3
            exact q4
        cases v with
        | ListComp _ _ sc _ => exact gen sc rfl
        | SetComp _ _ sc _ => exact gen sc rfl
        | DictComp _ _ _ sc _ => exact gen sc rfl
        | _ => cases hl
      exact (h.lc i x px p hl h1 key.2 key.1).imp fun Ed ρ H => rd_asg
theorem gs_ret {e : Xp} {v : Expr} {p : Pos} (h : GE X xc W Z e v) (hc : ∀ i, e = .var i → PE X v (tVar i)) : GS X xc W Z (.ret e) (.Return (some v) p) := by
  have gen : ∀ Ed ρ H cs B σ, RelSt X.K cs B H σ ρ → DnS X.K xc W cs B ρ H σ ((ev Z e σ).bind fun x σ1 => .ok (.ret x.1 x.2) σ1) Ed → rdE X.K xc W (ev Z e) ρ H Ed.rt := fun Ed ρ H cs B σ R D => by
    refine ⟨cs, B, σ, R, Dn.mono (DnS.bindE0 D) fun x σ1 H1 f1 D1 w hv => ?_⟩
    obtain ⟨f, d⟩ := x
    cases f with
    | false => exact D1 w ρ H1 ⟨f1.keep, fun b z => z.elim (f1.own b) fun q => (by cases q.1), f1.trk⟩ hv
    | true =>
      obtain ⟨a, ev, hn, F, t⟩ := hv
      subst ev
      exact D1 _ ρ H1 ⟨f1.keep, fun b z => z.elim (f1.own b) fun q => .inr (by have := q.2; cases this; exact hn), f1.trk⟩ ⟨a, rfl, F, t⟩
  by_cases hn : ∀ i, e ≠ .var i
  · refine (ps_ret h).imp fun Ed ρ H ⟨cs, B, σ, R, D⟩ => gen Ed ρ H cs B σ R ?_
    have e1 : ex Z (.ret e) σ = (ev Z e σ).bind fun x σ1 => .ok (.ret x.1 x.2) σ1 := by
      unfold ex
      cases e <;> first | rfl | exact absurd rfl (hn _)
    rw [e1] at D
    exact D
  · have : ∃ i, e = .var i := by
      cases e with
      | var i => exact ⟨i, rfl⟩
      | _ => exact absurd (fun i z => by cases z) hn
    obtain ⟨i, rfl⟩ := this
    refine (ps_ret (hc i rfl)).imp fun Ed ρ H ⟨cs, B, σ, R, D⟩ => ?_
    have e1 : ex Z (.ret (.var i)) σ = (match σ[i]? with
      | some (some (.own, d)) => .ok (.ret true d) (σ.set i none)
      | _ => (ev Z (.var i) σ).bind fun x σ1 => .ok (.ret x.1 x.2) σ1) := by unfold ex; rfl
    rw [e1] at D
    split at D
    · rename_i d hd
      obtain ⟨a, ha, oa, F, t⟩ := R.takeOut hd
      exact ⟨_, ha, D _ ρ H ⟨fun _ _ e _ => e, fun b z => .inl (z.elim own_forget fun q => by have := q.2; cases this; exact oa), fun _ e => e⟩ ⟨a, rfl, F, t⟩⟩
    · exact rd_var (gen Ed ρ H cs B σ R D)
theorem gs_retN {p : Pos} : GS X xc W Z .retN (.Return none p) := ps_retN.imp fun Ed ρ H ⟨cs, B, σ, R, D⟩ => D .non ρ H ⟨fun _ _ e _ => e, fun b z => .inl (z.elim id fun q => by cases q.1), fun _ e => e⟩ ⟨R, .non⟩
theorem gs_pass {p : Pos} : GS X xc W Z .pass (.Pass p) := ps_pass.imp fun Ed ρ H ⟨cs, B, σ, R, D⟩ => D.next .refl R
theorem gs_brk {p : Pos} : GS X xc W Z .brk (.Break p) := ps_break.imp fun Ed ρ H ⟨cs, B, σ, R, D⟩ => D ρ H .refl R
theorem gs_cont {p : Pos} : GS X xc W Z .cont (.Continue p) := ps_continue.imp fun Ed ρ H ⟨cs, B, σ, R, D⟩ => D ρ H .refl R
theorem gss_nil : GSs X xc W Z .nil [] := pss_nil.imp fun Ed ρ H ⟨cs, B, σ, R, D⟩ => DnS.next (σ' := σ) (by unfold exs at D; exact D) .refl R
theorem gss_cons {s : Sm} {ss : Ss} {t : Stmt} {ts : List Stmt} (h : GS X xc W Z s t) (hs : GSs X xc W Z ss ts) : GSs X xc W Z (.cons s ss) (t :: ts) := by
  refine (pss_cons h hs).imp fun Ed ρ H ⟨cs, B, σ, R, D⟩ => ⟨cs, B, σ, R, ?_⟩
  unfold exs at D
  exact D.bindS (fun σ' ρ' H' f R' D' => ⟨cs, B, σ', R', D'⟩) (fun σ' ρ' H' f R' D' => D' ρ' H' .refl R') (fun σ' ρ' H' f R' D' => D' ρ' H' .refl R') (fun _ _ _ => rfl) rfl
theorem gs_if {t : Tp} {a b : Ss} {x : Expr} {ys zs : List Stmt} {p : Pos} (ht : GT X xc W Z t x) (ha : GSs X xc W Z a ys) (hb : GSs X xc W Z b zs) : GS X xc W Z (.iff t a b) (.If x ys zs p) := by
  refine (ps_if ht ha hb).imp fun Ed ρ H ⟨cs, B, σ, R, D⟩ => ?_
  unfold ex at D
  refine ⟨cs, B, σ, R, Dn.mono (DnS.bindE D) fun k σ1 H1 f1 D1 R1 => ?_⟩
  cases k with
  | true => exact ⟨cs, B, σ1, R1, D1⟩
  | false => exact ⟨cs, B, σ1, R1, D1⟩
theorem gs_while (hp : PassesOwn (model X.prog X.w) X.A X.env X.xe) {t : Tp} {b : Ss} {x : Expr} {ys : List Stmt} {p : Pos} (ht : GT X xc W Z t x) (hb : GSs X xc W Z b ys) : GS X xc W Z (.while t b) (.While x ys [] p) := by
  refine (ps_while hp ht hb).imp fun Ed ρ H ⟨cs, B, σ, R, D⟩ => ?_
  unfold ex at D
  refine ⟨fun m ρ H => ∃ σ, RelSt X.K cs B H σ ρ ∧ DnS X.K xc W cs B ρ H σ (whileL (fun σ => evT Z t σ) (fun σ => exs Z b σ) m σ) Ed, ⟨Z.wf, σ, R, D⟩, ?_⟩
  rintro m ρ1 H1 ⟨σ1, R1, D1⟩
  cases m with
  | zero => exact D1.elim
  | succ m =>
    refine ⟨cs, B, σ1, R1, Dn.mono (DnS.bindE (r := evT Z t σ1) D1) fun k σ2 H2 f2 D2 R2 => ?_⟩
    cases k with
    | false => exact D2.next .refl R2
    | true =>
      refine ⟨fun ρ H => ∃ σ, RelSt X.K cs B H σ ρ ∧ DnS X.K xc W cs B ρ H σ (whileL (fun σ => evT Z t σ) (fun σ => exs Z b σ) m σ) Ed, fun ρ' H' q => ⟨m, Nat.lt_succ_self _, q⟩, cs, B, σ2, R2, ?_⟩
      exact DnS.bindS (r := exs Z b σ2) D2 (fun σ' ρ' H' f R' D' => ⟨σ', R', D'⟩) (fun σ' ρ' H' f R' D' => D'.next .refl R') (fun σ' ρ' H' f R' D' => ⟨σ', R', D'⟩) (fun _ _ _ => rfl) rfl
abbrev rdG (K : PySem.W.Frag) (g : PSt → D → Option PSt) : TG := fun v ρ H Q => ∃ cs B σ d σ', RelSt K cs B H σ ρ ∧ Rep K H (Av B σ ρ) d v ∧ g σ d = some σ' ∧ ∀ ρ', RelSt K cs B H σ' ρ' → (∀ a, Own σ' ρ' a → Own σ ρ a) → Q ρ' H
abbrev rdGs (K : PySem.W.Frag) (g : PSt → List D → Option PSt) : TGs := fun vs ρ H Q => ∃ cs B σ ds σ', RelSt K cs B H σ ρ ∧ Reps K H (Av B σ ρ) ds vs ∧ g σ ds = some σ' ∧ ∀ ρ', RelSt K cs B H σ' ρ' → (∀ a, Own σ' ρ' a → Own σ ρ a) → Q ρ' H
theorem gg_slot (C : CtxOk X c) {i : Nat} {x : Str} {p : Pos} (h : c.loc i x = true) : PG X (.Name x p) (rdG X.K fun σ d => bindT (.slot i) d σ) := by
  obtain ⟨h1, h2, h3⟩ := loc_ok C h
  have nd : X.N.Nodup := by rw [C.N]; exact C.nd
  refine (pg_name nd h1 h2 h3).imp fun v ρ H Q ⟨cs, B, σ, d, σ', R, r, e, k⟩ => ?_
  obtain ⟨R2, ho⟩ := set_val (x := (false, d)) (H0 := H) (VE.of R r) (fun _ _ => trivial) (by unfold bindT at e; exact e)
  exact k _ R2 fun b z => (ho b z).elim id fun q => by cases q.2.1
theorem cGs_len : ∀ {ts : List Tg} {es : List Expr}, cGs c ts es = true → ts.length = es.length ∧ (assignEach es X.env).length = es.length ∧ (assignEach es X.env).findIdx? (·.1) = none
  | [], es, h => by
    cases es with
    | nil => exact ⟨rfl, rfl, rfl⟩
    | cons _ _ => unfold cGs at h; cases h
  | t :: ts, es, h => by
    cases es with
    | nil => unfold cGs at h; cases h
    | cons e es =>
      unfold cGs at h
      obtain ⟨h1, h2⟩ := and_tt h
      obtain ⟨h3, h4, h5⟩ := cGs_len (and_tt h2).2
      have e1 : assignEach (e :: es) X.env = (false, assign e X.env) :: assignEach es X.env := by cases e <;> first | rfl | cases h1
      refine ⟨by rw [List.length_cons, List.length_cons, h3], by rw [e1, List.length_cons, List.length_cons, h4], ?_⟩
      rw [e1, List.findIdx?_cons, h5]
      rfl
mutual
theorem cG_ok (C : CtxOk X c) : ∀ (t : Tg) (e : Expr), cG c t e = true → PG X e (rdG X.K fun σ d => bindT t d σ)
  | .slot i, e, h => by
    unfold cG at h
    cases e with
    | Name x p => exact gg_slot C h
    | _ => cases h
  | .tup ts, e, h => by
    unfold cG at h
    cases e with
    | Tuple es k p =>
      have h : cGs c ts es = true := h
      obtain ⟨l1, l2, l3⟩ := cGs_len (X := X) h
      refine (pg_tup C.calm (cGs_ok C ts es h) l2 l3).imp fun v ρ H Q ⟨cs, B, σ, d, σ', R, r, e, k⟩ => ?_
      unfold bindT at e
      cases d with
      | tup ds =>
        cases r with
        | tup r1 r2 =>
          have e : bindTs ts ds σ = some σ' := e
          refine ⟨_, _, rfl, r1, ?_, cs, B, σ, ds, σ', R, r2, e, k⟩
          rw [← r2.length, ← l1]
          exact (bindTs_len e).symm
      | _ => cases e
    | _ => cases h
theorem cGs_ok (C : CtxOk X c) : ∀ (ts : List Tg) (es : List Expr), cGs c ts es = true → PGs X es (rdGs X.K fun σ ds => bindTs ts ds σ)
  | [], es, h => by
    unfold cGs at h
    cases es with
    | nil =>
      refine pgs_nil.imp fun vs ρ H Q ⟨cs, B, σ, ds, σ', R, r, e, k⟩ => ?_
      unfold bindTs at e
      cases ds with
      | nil => cases e; cases r; exact ⟨rfl, k _ R fun _ z => z⟩
      | cons _ _ => cases e
    | cons _ _ => cases h
  | t :: ts, es, h => by
    unfold cGs at h
    cases es with
    | nil => cases h
    | cons e es =>
      obtain ⟨h1, h2⟩ := and_tt h
      obtain ⟨h3, h4⟩ := and_tt h2
      refine (pgs_cons (cG_ok C t e h3) (cGs_ok C ts es h4) (assign1_ok _ _ h1)).imp fun vs ρ H Q ⟨cs, B, σ, ds, σ', R, r, e, k⟩ => ?_
      unfold bindTs at e
      cases ds with
      | nil => cases e
      | cons d ds =>
        have e : (match bindT t d σ with | some σ' => bindTs ts ds σ' | none => none) = some σ' := e
        cases e1 : bindT t d σ with
        | none => rw [e1] at e; cases e
        | some σ1 =>
          rw [e1] at e
          cases r with
          | cons r1 r2 =>
            exact ⟨_, _, rfl, cs, B, σ, d, σ1, R, r1, e1, fun ρ1 R1 o1 => ⟨cs, B, σ1, ds, σ', R1, reps_mono (fun b z => z.elim .inl fun q => .inr (o1 b q)) r2, e, fun ρ2 R2 o2 => k ρ2 R2 fun b z => o1 b (o2 b z)⟩⟩
end
theorem gs_unp (C : CtxOk X c) {t : Tg} {e : Xp} {tg v : Expr} {p : Pos} (ht : isTu v = false) (hl : isLC v = false) (hg : cG c t tg = true) (ho : okX tg = true) (h : GE X xc W Z e v) : GS X xc W Z (.unp t e) (.Assign [tg] v p) := by
  refine (ps_asg h (cG_ok C t tg hg) (sole_ok _ _ hl) (stores_ok _ ht) (by rw [assign1_ok _ _ ho]; rfl)).imp fun Ed ρ H ⟨cs, B, σ, R, D⟩ => ?_
  unfold ex at D
  refine ⟨cs, B, σ, R, Dn.mono (DnS.bindE D) fun x σ1 H1 f1 D1 w hv => ?_⟩
  obtain ⟨σ2, e2, D2⟩ := DnS.opt D1
  obtain ⟨R1, r1⟩ := hv.val
  exact ⟨cs, B, σ1, x.2, σ2, R1, r1, e2, fun ρ2 R2 o2 => D2.next (.less o2) R2⟩
theorem setVal_eq {σ σ2 : PSt} {i : Nat} {d : D} (e : setVal σ i false d = some σ2) : σ2 = σ.set i (some (.val, d)) := by
  unfold setVal at e
  split at e
  · cases e
  · cases e; rfl
  · cases e
theorem swp (X : Cx) (x y : Str) (px py pt pt2 : Pos) (kt k2 : Nat) (u v : Expr) (hln : px.line = py.line) (hbk : X.env.blockKind = .function) (l1 : X.env.scope.names.lookup x = some .local) (l2 : X.env.scope.names.lookup y = some .local) (hxy : x ≠ y)
  (h5 : (!(([u, v].any fun | .Starred .. => true | _ => false))) = true) (h6 : (!([u, v].all (foldedForSure 8))) = true) (h7 : (!([u, v].all (constantsAlone 8))) = true) : swappedStores [.Tuple [.Name x px, .Name y py] kt pt] (.Tuple [u, v] k2 pt2) X.env = pure (some [x, y]) := by
  have k1 : X.env.kindOf x = some .local := l1
  have k2 : X.env.kindOf y = some .local := l2
  have e5 : ([u, v].any fun | .Starred .. => true | _ => false) = false := Bool.not_eq_true' _ |>.mp h5
  have e6 : ([u, v].all (foldedForSure 8)) = false := Bool.not_eq_true' _ |>.mp h6
  have e7 : ([u, v].all (constantsAlone 8)) = false := Bool.not_eq_true' _ |>.mp h7
  have nm : ([Expr.Name x px, Expr.Name y py].filterMap fun
    | .Name id pos => if X.env.kindOf id == some .local && pos.line == px.line then some id else none
    | _ => none) = [x, y] := by
    simp [k1, k2, hln]
  have ed : ([x, y] : List Str).eraseDups = [x, y] := by
    simp [List.eraseDups_cons, hxy, Ne.symm hxy]
  unfold swappedStores
  simp only [hbk, e6, e7]
  generalize hg : List.filterMap _ [Expr.Name x px, Expr.Name y py] = L
  have hL : L = [x, y] := hg.symm.trans nm
  subst hL
  rw [if_neg (by simp)]
  split
  · rename_i q
    exact absurd (q.symm.trans e5) (by simp)
  · rw [if_neg (by rw [ed]; simp)]
    rfl
theorem gs_par (C : CtxOk X c) {i j : Nat} {a b : Xp} {x y : Str} {px py pt pt2 p : Pos} {kt k2 : Nat} {u v : Expr} (hp : parOk c i j x y px py u v = true) (ha : GE X xc W Z a u) (hb : GE X xc W Z b v) :
    GS X xc W Z (.par i j a b) (.Assign [.Tuple [.Name x px, .Name y py] kt pt] (.Tuple [u, v] k2 pt2) p) := by
  obtain ⟨h1, hp⟩ := and_tt hp
  obtain ⟨h2, hp⟩ := and_tt hp
  obtain ⟨h3, hp⟩ := and_tt hp
  obtain ⟨h4, hp⟩ := and_tt hp
  obtain ⟨h5, hp⟩ := and_tt hp
  obtain ⟨h6, h7⟩ := and_tt hp
  obtain ⟨n1, l1⟩ := lcl_ok C h1
  obtain ⟨n2, l2⟩ := lcl_ok C h2
  have hij := of_decide_eq_true h3
  have hln := of_decide_eq_true h4
  have nd : X.N.Nodup := by rw [C.N]; exact C.nd
  have hxy : x ≠ y := fun e => by
    subst e
    have i1 := List.getElem?_eq_some_iff.mp n1
    have i2 := List.getElem?_eq_some_iff.mp n2
    obtain ⟨q1, q2⟩ := i1
    obtain ⟨q3, q4⟩ := i2
    exact hij ((List.getElem_inj nd).mp (q2.trans q4.symm))
  have hbk : X.env.blockKind = .function := by
    unfold Env.blockKind
    rw [C.sc, C.fnk]; rfl
  have su : okX' u = true ∧ okX' v = true := by
    have h5 : (!(([u, v].any fun | .Starred .. => true | _ => false))) = true := h5
    constructor
    · cases u <;> first | rfl | (exfalso; cases h5)
    · cases v <;> first | rfl | (exfalso; cases u <;> cases h5)
  have hw : swappedStores [.Tuple [.Name x px, .Name y py] kt pt] (.Tuple [u, v] k2 pt2) X.env = pure (some [x, y]) :=
     swp X x y px py pt pt2 kt k2 u v hln hbk l1 l2 hxy h5 h6 h7
  have hst : starEach [v] X.env = [(false, eval v X.env)] := by cases v <;> first | rfl | cases su.2
  have hst2 : starEach [u, v] X.env = (false, eval u X.env) :: starEach [v] X.env := by cases u <;> first | rfl | cases su.1
  refine (ps_par C.calm nd n1 n2 hij l1 l2 (pa_cons ha (pa_cons hb pa_nil hst) hst2) hw).imp fun Ed ρ H ⟨cs, B, σ, R, D⟩ => ?_
  unfold ex at D
  refine ⟨cs, B, σ, R, Dn.mono (DnS.bindE D) fun xd σ1 H1 f1 D1 w1 hv1 => ?_⟩
  obtain ⟨R1, r1⟩ := hv1.val
  refine ⟨cs, B, σ1, R1, Dn.mono (DnS.bindE D1) fun yd σ2 H2 f2 D2 w2 hv2 => ?_⟩
  obtain ⟨R2, r2⟩ := hv2.val
  obtain ⟨σ3, e3, D3⟩ := DnS.opt D2
  obtain ⟨σ4, e4, D4⟩ := DnS.opt D3
  have q3 := setVal_eq e3
  have q4 := setVal_eq e4
  subst q3
  subst q4
  refine ⟨w1, w2, rfl, ?_⟩
  have m := R2.setVal (i := i) (f2.rep R1.ownOk r1)
  have o1 : ∀ b, Own (σ2.set i (some (.val, xd.2))) (ρ.set i (some w1)) b → Own σ2 ρ b := fun b => own_set_val rfl
  have m2 := m.setVal (i := j) (rep_mono (fun b z => z.elim .inl fun q => .inr (o1 b q)) r2)
  exact D4.next (.less fun b z => o1 b (own_set_val rfl z)) m2
theorem gs_setI (C : CtxOk X c) {i : Nat} {k e : Xp} {x : Str} {px pp p : Pos} {y v : Expr} (hx : c.vis i x = true) (hl : isLC v = false) (hy : okX y = true) (hk : GE X xc W Z k y) (he : GE X xc W Z e v) :
    GS X xc W Z (.setI i k e) (.Assign [.Subscript (.Name x px) y pp] v p) := by
  obtain ⟨h1, h2, h3, h4⟩ := vis_ok C hx
  have hstores : swappedStores [.Subscript (.Name x px) y pp] v X.env = pure none := by cases v <;> rfl
  have has : ∀ w, assign (.Subscript (.Name x px) y pp) X.env w = (do
      let ov ← holding [w] (eval (.Name x px) X.env)
      let iv ← holding [w, ov] (eval y X.env)
      standAt pp
      holding [w, ov, iv] (setItem ov iv w)
      release [w, ov, iv] []) := fun w => by cases y <;> first | rfl | cases hy
  refine (ps_asg he (pg_sub (pe_var (pos := px) h1 h2 h3 h4) hk set_list has) (sole_ok _ _ hl) hstores rfl).imp fun Ed ρ H ⟨cs, B, σ, R, D⟩ => ?_
  unfold ex at D
  refine ⟨cs, B, σ, R, Dn.mono (DnS.bindE D) fun xd σ1 H1 f1 D1 w hv => ?_⟩
  obtain ⟨R1, r1⟩ := hv.val
  obtain ⟨d0, e0, D2⟩ := DnS.opt D1
  obtain ⟨md, a, k1, k2, k3, k4⟩ := own_ref R1 e0
  refine ⟨_, k3, cs, B, σ1, R1, Dn.mono (DnS.bindE D2) fun yd σ2 H2 f2 D3 w2 hv2 => ?_⟩
  obtain ⟨R2, r2⟩ := hv2.val
  obtain ⟨d, e1, D4⟩ := DnS.opt D3
  obtain ⟨d', e2, D5⟩ := DnS.opt D4
  obtain ⟨σ3, e3, D6⟩ := DnS.opt D5
  obtain ⟨md', a', j1, j2, j3, t⟩ := own_ref R2 e1
  rw [k3] at j3; cases j3
  have r1' := f2.rep R1.ownOk r1
  unfold semSet at e2
  split at e2
  · rename_i ds n hn
    obtain ⟨m, hm, rfl⟩ := Option.map_eq_some_iff.mp e2
    obtain ⟨xs, t1, t2⟩ := t
    obtain ⟨f', yd2⟩ := yd
    have hn : yd2 = .int n := hn
    subst hn
    cases r2
    have q3 := putOwn_eq j1 e3
    subst q3
    refine ⟨a, xs, n, m, rfl, rfl, t1, by rw [ixD_eq, ← t2.length]; exact hm, ?_⟩
    refine D6.next (put_fr j1 j2 k3) (R2.put j1 j2 k3 ⟨_, upd_same, ?_⟩)
    exact put_carry (.inr ⟨i, md', _, j1, j2, k3⟩) t1 (t2.set r1' m)
  · cases e2
theorem gs_aug (C : CtxOk X c) {i : Nat} {o : BinO} {op : Operator} {e : Xp} {x : Str} {px p : Pos} {v : Expr} (hx : c.loc i x = true) (ho : opA o = some op) (he : GE X xc W Z e v) : GS X xc W Z (.aug i o e) (.AugAssign (.Name x px) op v p) := by
  obtain ⟨h1, h2, h3⟩ := loc_ok C hx
  have nd : X.N.Nodup := by rw [C.N]; exact C.nd
  have fin : ∀ (g : Int → Int → Int), PIp X op (ipI g) → (∀ σ, ex Z (.aug i o e) σ = Pu.R.opt (slotD σ i) fun d => (ev Z e σ).bind fun x σ1 => match d, x.2 with
      | .int a, .int b => Pu.R.opt (setVal σ1 i false (.int (g a b))) fun σ2 => .ok .next σ2
      | _, _ => .bad) → GS X xc W Z (.aug i o e) (.AugAssign (.Name x px) op v p) := fun g hg hq => by
    refine (ps_aug nd h1 h2 he hg h3).imp fun Ed ρ H ⟨cs, B, σ, R, D⟩ => ?_
    rw [hq] at D
    obtain ⟨d, e1, D⟩ := DnS.opt D
    unfold slotD at e1
    split at e1
    · rename_i md d' hs
      cases e1
      obtain ⟨w, w1, w2⟩ := R.slot i md d hs
      refine ⟨w, w1, cs, B, σ, R, Dn.mono (DnS.bindE D) fun xd σ1 H1 f1 D1 w3 hv => ?_⟩
      obtain ⟨R1, r1⟩ := hv.val
      obtain ⟨f, xd⟩ := xd
      cases d with
      | int a =>
        cases xd with
        | int b =>
          cases r1
          have ew : w = .int a := by
            cases md with
            | val => cases w2; rfl
            | bor =>
              rcases w2 with w2 | ⟨_, _, _, t⟩
              · cases w2; rfl
              · exact t.elim
            | own => obtain ⟨_, _, t⟩ := w2; exact t.elim
            | chg => obtain ⟨_, _, t⟩ := w2; exact t.elim
          subst ew
          obtain ⟨σ2, e2, D2⟩ := DnS.opt (o := setVal σ1 i false (.int (g a b))) D1
          have q2 := setVal_eq e2
          subst q2
          exact ⟨a, b, rfl, rfl, D2.next (.less fun b z => own_set_val rfl z) (R1.setVal (.int _))⟩
        | _ => exact D1.elim
      | _ => exact D1.elim
    · cases e1
  cases o with
  | add =>
    cases ho
    refine fin (fun a b => a + b) ip_add fun σ => ?_
    unfold ex
    congr 1; funext d; congr 1; funext x σ1
    cases d <;> first | rfl | (cases x.2 <;> rfl)
  | sub =>
    cases ho
    refine fin (fun a b => a - b) ip_sub fun σ => ?_
    unfold ex
    congr 1; funext d; congr 1; funext x σ1
    cases d <;> first | rfl | (cases x.2 <;> rfl)
  | _ => cases ho
theorem gs_for (C : CtxOk X c) (hp : PassesOwn (model X.prog X.w) X.A X.env X.xe) {t : Tg} {it : Ix} {b : Ss} {tg y : Expr} {zs : List Stmt} {p : Pos} (hy : okX y = true) (hg : cG c t tg = true) (hi : PI X tg y (rdI X.K xc W (evI Z it))) (hb : GSs X xc W Z b zs) :
    GS X xc W Z (.for t it b) (.For tg y zs [] p) := by
  refine (ps_for hp C.calm hi (cG_ok C t tg hg) hb (folded_ok _ hy)).imp fun Ed ρ H ⟨cs, B, σ, R, D⟩ => ?_
  unfold ex at D
  refine ⟨cs, B, σ, R, Dn.mono (DnS.bindE D) fun ds σ1 H1 f1 D1 J R1 IR => ?_⟩
  obtain ⟨vs, rvs, IR⟩ := IR
  have lenv := rvs.length
  let St (k : Nat) (ρ' : St) (H' : Hp) : Prop := ∃ σ', RelSt X.K cs B H' σ' ρ' ∧ Fr (Own σ1 ρ) H1 (Own σ' ρ') H' ∧ DnS X.K xc W cs B ρ' H' σ' (forL (bindT t) (fun σ => exs Z b σ) (ds.drop k) σ') Ed
  refine ⟨fun k m ρ' H' => m = ds.length - k ∧ St k ρ' H', ⟨_, rfl, σ1, R1, .refl, D1⟩, ?_⟩
  rintro k m ρ2 H2 ⟨rfl, σ2, R2, f2, D2⟩
  obtain ⟨ig, iy, ist⟩ := IR H2 f2.keep
  by_cases hk : k < ds.length
  rotate_left
  · refine .inl ⟨ist k (by omega), ?_⟩
    rw [List.drop_eq_nil_of_le (by omega)] at D2
    exact DnS.next (show DnS X.K xc W cs B ρ2 H2 σ2 (.ok .next σ2) Ed from D2) .refl R2
  · have hkv : k < vs.length := by omega
    refine .inr ⟨ig k hkv, St (k + 1), fun ρ' H' q => ⟨ds.length - (k + 1), by omega, rfl, q⟩, fun x H3 y => ?_⟩
    obtain ⟨e3, hx⟩ := iy k x H3 y
    subst e3
    have hx := hx hkv
    obtain ⟨d', hd', rd'⟩ := rvs.getv hx
    rw [List.getElem?_eq_getElem hk] at hd'
    cases hd'
    rw [List.drop_eq_getElem_cons hk] at D2
    have D2 : DnS X.K xc W cs B ρ2 H3 σ2 (Pu.R.opt (bindT t ds[k] σ2) fun σ1 => (exs Z b σ1).bind fun f σ2 => match f with
      | .next => forL (bindT t) (fun σ => exs Z b σ) (ds.drop (k + 1)) σ2
      | .cont => forL (bindT t) (fun σ => exs Z b σ) (ds.drop (k + 1)) σ2
      | .brk => .ok .next σ2
      | .ret f d => .ok (.ret f d) σ2) Ed := D2
    obtain ⟨σ3, e3, D3⟩ := DnS.opt D2
    refine ⟨cs, B, σ2, ds[k], σ3, R2, f2.rep R1.ownOk rd', e3, fun ρ3 R3 o3 => ⟨cs, B, σ3, R3, ?_⟩⟩
    have D3 := D3.after (Fr.less (H := H3) o3)
    have f3 : Fr (Own σ1 ρ) H1 (Own σ3 ρ3) H3 := f2.trans (.less o3)
    exact D3.bindS (fun σ' ρ' H' f R' D' => ⟨σ', R', f3.trans f, D'⟩) (fun σ' ρ' H' f R' D' => D'.next .refl R') (fun σ' ρ' H' f R' D' => ⟨σ', R', f3.trans f, D'⟩) (fun _ _ _ => rfl) rfl
end
section
variable {xc : Xc} {Z : Ev}
def PSm (xc : Xc) (Z : Ev) (s : Sm) : Prop := ∀ (X : Cx) (c : CC) (W : WX) (x : Stmt), EvX X xc Z → CtxOk X c → Takes X W → PassesOwn (model X.prog X.w) X.A X.env X.xe → cS c s x = true → GS X xc W Z s x
def PSsm (xc : Xc) (Z : Ev) (ss : Ss) : Prop := ∀ (X : Cx) (c : CC) (W : WX) (xs : List Stmt), EvX X xc Z → CtxOk X c → Takes X W → PassesOwn (model X.prog X.w) X.A X.env X.xe → cSs c ss xs = true → GSs X xc W Z ss xs
theorem cS_expr {e : Xp} : PSm xc Z (.expr e) := fun X c W x G C tk hp h => by
  cases x with
  | Expr y p =>
    obtain ⟨h1, h2⟩ := and_tt (show (!isLC y && cE c e y) = true from h)
    exact gs_expr (by simpa using h1) (ME_all e X c W y G C tk h2).pe
  | _ => cases h
theorem cS_asg {i : Nat} {e : Xp} : PSm xc Z (.asg i e) := fun X c W x G C tk hp h => by
  cases x with
  | Assign ts v p =>
    cases ts with
    | nil => cases h
    | cons t ts =>
      cases ts with
      | cons _ _ => cases t <;> cases h
      | nil =>
        cases t with
        | Name y py =>
          obtain ⟨h1, h2⟩ := and_tt (show (c.loc i y && (okX v && cE c e v)) = true from h)
          obtain ⟨h3, h4⟩ := and_tt h2
          exact gs_asg C h1 h3 (ME_all e X c W v G C tk h4)
        | _ => cases h
  | _ => cases h
theorem cS_par {i j : Nat} {a b : Xp} : PSm xc Z (.par i j a b) := fun X c W x G C tk hp h => by
  unfold cS at h
  split at h
  · obtain ⟨h1, h2⟩ := and_tt h
    obtain ⟨h3, h4⟩ := and_tt h2
    exact gs_par C h1 (ME_all a X c W _ G C tk h3).pe (ME_all b X c W _ G C tk h4).pe
  · cases h
theorem cS_unp {t : Tg} {e : Xp} : PSm xc Z (.unp t e) := fun X c W x G C tk hp h => by
  cases x with
  | Assign ts v p =>
    cases ts with
    | nil => cases h
    | cons tt ts =>
      cases ts with
      | cons _ _ => cases tt <;> cases h
      | nil =>
        cases tt with
        | Tuple es k pt =>
          obtain ⟨h1, h2⟩ := and_tt (show (!isTu v && (!isLC v && (cG c t (.Tuple es k pt) && cE c e v))) = true from h)
          obtain ⟨h3, h4⟩ := and_tt h2
          obtain ⟨h5, h6⟩ := and_tt h4
          exact gs_unp C (by simpa using h1) (by simpa using h3) h5 rfl (ME_all e X c W v G C tk h6).pe
        | _ => cases h
  | _ => cases h
theorem cS_setI {i : Nat} {k e : Xp} : PSm xc Z (.setI i k e) := fun X c W x G C tk hp h => by
  cases x with
  | Assign ts v p =>
    cases ts with
    | nil => cases h
    | cons tt ts =>
      cases ts with
      | cons _ _ =>
        cases tt with
        | Subscript z _ _ => cases z <;> cases h
        | _ => cases h
      | nil =>
        cases tt with
        | Subscript z y pt =>
          cases z with
          | Name n pn =>
            obtain ⟨h1, h2⟩ := and_tt (show (c.vis i n && (!isLC v && (okX y && (cE c k y && cE c e v)))) = true from h)
            obtain ⟨h3, h4⟩ := and_tt h2
            obtain ⟨h5, h6⟩ := and_tt h4
            obtain ⟨h7, h8⟩ := and_tt h6
            exact gs_setI C h1 (by simpa using h3) h5 (ME_all k X c W y G C tk h7).pe (ME_all e X c W v G C tk h8).pe
          | _ => cases h
        | _ => cases h
  | _ => cases h
theorem cS_aug {i : Nat} {o : BinO} {e : Xp} : PSm xc Z (.aug i o e) := fun X c W x G C tk hp h => by
  cases x with
  | AugAssign t op v p =>
    cases t with
    | Name y py =>
      obtain ⟨h1, h2⟩ := and_tt (show (c.loc i y && (decide (opA o = some op) && cE c e v)) = true from h)
      obtain ⟨h3, h4⟩ := and_tt h2
      exact gs_aug C h1 (of_decide_eq_true h3) (ME_all e X c W v G C tk h4).pe
    | _ => cases h
  | _ => cases h
theorem cS_ret {e : Xp} : PSm xc Z (.ret e) := fun X c W x G C tk hp h => by
  cases x with
  | Return v p =>
    cases v with
    | none => cases h
    | some v =>
      refine gs_ret (ME_all e X c W v G C tk h).pe fun i he => ?_
      subst he
      cases v with
      | Name y py =>
        obtain ⟨h1, h2, h3, h4⟩ := vis_ok C (show c.vis i y = true from h)
        exact pe_var h1 h2 h3 h4
      | _ => cases h
  | _ => cases h
theorem cS_retN : PSm xc Z .retN := fun X c W x G C tk hp h => by
  cases x with
  | Return v p =>
    cases v with
    | none => exact gs_retN
    | some v => cases h
  | _ => cases h
theorem cS_iff {t : Tp} {a b : Ss} (Ia : PSsm xc Z a) (Ib : PSsm xc Z b) : PSm xc Z (.iff t a b) := fun X c W x G C tk hp h => by
  cases x with
  | If y ys zs p =>
    obtain ⟨h1, h2⟩ := and_tt (show (cT c t y && (cSs c a ys && cSs c b zs)) = true from h)
    obtain ⟨h3, h4⟩ := and_tt h2
    exact gs_if (MT_all t X c W y G C tk h1).pt (Ia X c W ys G C tk hp h3) (Ib X c W zs G C tk hp h4)
  | _ => cases h
theorem cS_for {t : Tg} {it : Ix} {b : Ss} (Ib : PSsm xc Z b) : PSm xc Z (.for t it b) := fun X c W x G C tk hp h => by
  cases x with
  | For tg y zs os p =>
    cases os with
    | cons _ _ => cases h
    | nil =>
      obtain ⟨h1, h2⟩ := and_tt (show (okX y && (cG c t tg && (cI c it y && cSs c b zs))) = true from h)
      obtain ⟨h3, h4⟩ := and_tt h2
      obtain ⟨h5, h6⟩ := and_tt h4
      exact gs_for C hp h1 h3 (MI_all it X c W y tg G C tk h5) (Ib X c W zs G C tk hp h6)
  | _ => cases h
theorem cS_while {t : Tp} {b : Ss} (Ib : PSsm xc Z b) : PSm xc Z (.while t b) := fun X c W x G C tk hp h => by
  cases x with
  | While y ys os p =>
    cases os with
    | cons _ _ => cases h
    | nil =>
      obtain ⟨h1, h2⟩ := and_tt (show (cT c t y && cSs c b ys) = true from h)
      exact gs_while hp (MT_all t X c W y G C tk h1).pt (Ib X c W ys G C tk hp h2)
  | _ => cases h
theorem cS_brk : PSm xc Z .brk := fun X c W x G C tk hp h => by
  cases x with
  | Break p => exact gs_brk
  | _ => cases h
theorem cS_cont : PSm xc Z .cont := fun X c W x G C tk hp h => by
  cases x with
  | Continue p => exact gs_cont
  | _ => cases h
theorem cS_pass : PSm xc Z .pass := fun X c W x G C tk hp h => by
  cases x with
  | Pass p => exact gs_pass
  | _ => cases h
theorem cSs_nil : PSsm xc Z .nil := fun X c W xs G C tk hp h => by
  cases xs with
  | nil => exact gss_nil
  | cons _ _ => cases h
theorem cSs_cons {s : Sm} {ss : Ss} (I1 : PSm xc Z s) (I2 : PSsm xc Z ss) : PSsm xc Z (.cons s ss) := fun X c W xs G C tk hp h => by
  cases xs with
  | nil => cases h
  | cons x xs =>
    obtain ⟨h1, h2⟩ := and_tt (show (cS c s x && cSs c ss xs) = true from h)
    exact gss_cons (I1 X c W x G C tk hp h1) (I2 X c W xs G C tk hp h2)
theorem cSs_all (ss : Ss) : PSsm xc Z ss := Ss.rec (motive_1 := PSm xc Z) (motive_2 := PSsm xc Z)
  (fun _ => cS_expr) (fun _ _ => cS_asg) (fun _ _ _ _ => cS_par) (fun _ _ => cS_unp) (fun _ _ _ => cS_setI) (fun _ _ _ => cS_aug) (fun _ => cS_ret) cS_retN (fun _ _ _ h0 h1 => cS_iff h0 h1) (fun _ _ _ h0 => cS_for h0) (fun _ _ h0 => cS_while h0) cS_brk cS_cont cS_pass
  cSs_nil (fun _ _ h0 h1 => cSs_cons h0 h1) ss
end
end Pu
namespace Pu
open PySem PySem.Spec PyProof.Rows
open L2 hiding St
section
variable {K : PySem.W.Frag} {xc : Xc} {cs : Nat → Addr → Prop} {B : Addr → Prop} {ρ : St} {H H' : Hp} {σ : PSt}
theorem get_ext {α : Type} {l : List (Option α)} {m i : Nat} {p : α} (h : (l ++ List.replicate m none)[i]? = some (some p)) : l[i]? = some (some p) := by
  by_cases hi : i < l.length
  · rwa [List.getElem?_append_left hi] at h
  · rw [List.getElem?_append_right (by omega), List.getElem?_replicate] at h
    split at h <;> cases h
theorem ext_get {α : Type} {l : List (Option α)} {m i : Nat} {p : α} (h : l[i]? = some (some p)) : (l ++ List.replicate m none)[i]? = some (some p) := by
  rw [List.getElem?_append_left (List.getElem?_eq_some_iff.mp h).1]; exact h
theorem own_ext {m m' : Nat} {a : Addr} : Own (σ ++ List.replicate m none) (ρ ++ List.replicate m' none) a ↔ Own σ ρ a :=
  ⟨fun ⟨i, md, d, h1, h2, h3⟩ => ⟨i, md, d, get_ext h1, h2, get_ext h3⟩, fun ⟨i, md, d, h1, h2, h3⟩ => ⟨i, md, d, ext_get h1, h2, ext_get h3⟩⟩
theorem RelSt.ext (R : RelSt K cs B H σ ρ) (m : Nat) : RelSt K cs B H (σ ++ List.replicate m none) (ρ ++ List.replicate m none) := by
  have mo : ∀ a, (B a ∨ Own (σ ++ List.replicate m none) (ρ ++ List.replicate m none) a) → (B a ∨ Own σ ρ a) := fun a z => z.elim .inl fun q => .inr (own_ext.mp q)
  refine ⟨by simp [R.len], fun i md d h => ?_, fun i j md md' d d' a e1 e2 o1 o2 r1 r2 => R.dist i j md md' d d' a (get_ext e1) (get_ext e2) o1 o2 (get_ext r1) (get_ext r2), R.bdom, fun a q z => R.bown a q (own_ext.mp z), fun i md d a e ip r => R.chg i md d a (get_ext e) ip (get_ext r), R.csd, fun i d a e r => R.ocs i d a (get_ext e) (get_ext r)⟩
  obtain ⟨v, h1, h2⟩ := R.slot i md d (get_ext h)
  exact ⟨v, ext_get h1, h2.carry (reps_mono mo) (fun _ _ _ _ z => z) (fun _ _ _ n z => n (own_ext.mp z))⟩
theorem outs_spec : ∀ {md : List Md} {σ : PSt} {rs : List D}, outs md σ = some rs → rs.length = md.length ∧ ∀ i : Nat, md[i]? = some Md.chg → ∃ d, rs[i]? = some d ∧ σ[i]? = some (some (.chg, d))
  | [], σ, rs, h => by
    unfold outs at h
    cases h
    exact ⟨rfl, fun i h => by simp at h⟩
  | m :: ms, [], rs, h => by unfold outs at h; cases h
  | m :: ms, x :: σ, rs, h => by
    have key : ∃ d rs', outs ms σ = some rs' ∧ rs = d :: rs' ∧ (m = .chg → x = some (.chg, d)) := by
      cases m with
      | chg =>
        cases x with
        | none => cases h
        | some p =>
          obtain ⟨pm, d⟩ := p
          cases pm with
          | chg =>
            obtain ⟨rs', e, rfl⟩ := Option.map_eq_some_iff.mp (show (outs ms σ).map (d :: ·) = some rs from h)
            exact ⟨d, rs', e, rfl, fun _ => rfl⟩
          | _ => cases h
      | _ =>
        obtain ⟨rs', e, rfl⟩ := Option.map_eq_some_iff.mp (show (outs ms σ).map (Pu.D.non :: ·) = some rs from h)
        exact ⟨.non, rs', e, rfl, fun z => by cases z⟩
    obtain ⟨d, rs', e, rfl, hx⟩ := key
    obtain ⟨l1, l2⟩ := outs_spec e
    refine ⟨by simp [l1], fun i hi => ?_⟩
    cases i with
    | zero =>
      rw [List.getElem?_cons_zero] at hi
      exact ⟨d, rfl, by rw [List.getElem?_cons_zero, hx (Option.some.inj hi)]⟩
    | succ i =>
      rw [List.getElem?_cons_succ] at hi
      obtain ⟨d', h1, h2⟩ := l2 i hi
      exact ⟨d', by rw [List.getElem?_cons_succ]; exact h1, by rw [List.getElem?_cons_succ]; exact h2⟩
theorem back_old : ∀ {ms : List Md} {ds rs : List D} {i : Nat} {m : Md} {d : D}, ms[i]? = some m → m ≠ .chg → (back ms ds rs)[i]? = some d → ds[i]? = some d
  | m :: ms, d :: ds, r :: rs, 0, _, _, e1, e2, e3 => by
    rw [List.getElem?_cons_zero] at e1
    cases e1
    have e4 : (if isChg m then r else d) = _ := Option.some.inj (show some (if isChg m then r else d) = _ from e3)
    have : isChg m = false := by cases m <;> first | rfl | exact absurd rfl e2
    rw [this] at e4
    rw [List.getElem?_cons_zero, ← e4]; rfl
  | m :: ms, d :: ds, r :: rs, i + 1, _, _, e1, e2, e3 => by
    rw [List.getElem?_cons_succ] at e1 ⊢
    exact back_old (ms := ms) (rs := rs) e1 e2 (by simpa [back] using e3)
  | [], _, _, _, _, _, e, _, _ => by simp at e
  | _ :: _, [], _, _, _, _, _, _, e => by simp [back] at e
  | _ :: _, _ :: _, [], _, _, _, _, _, e => by simp [back] at e
section
variable {md : List Md} {ds rs : List D} {vs : List V} {σ' : PSt} {ρ' : St} {A' B' : Addr → Prop}
theorem fin_rel (hno : ∀ m ∈ md, m ≠ .own) (l1 : vs.length = md.length) (l2 : ds.length = md.length) (hcs : ∀ i a, cs i a ↔ vs[i]? = some (.ref a) ∧ H a ≠ none) (R0 : RelSt K cs B H (entry md ds) (vs.map some))
    (keep : ∀ b o, H b = some o → ¬ Own (entry md ds) (vs.map some) b → H' b = some o) (hB : ∀ a, B' a → B a ∨ H a = none) (hB2 : ∀ a, B a → B' a) (R' : RelSt K cs B' H' σ' ρ') (ho : outs md σ' = some rs) :
    rs.length = md.length ∧ (∀ a, Own (entry md (back md ds rs)) (vs.map some) a ↔ Own (entry md ds) (vs.map some) a) ∧ (∀ a, Own (entry md (back md ds rs)) (vs.map some) a → Own σ' ρ' a) ∧ RelSt K cs B' H' (entry md (back md ds rs)) (vs.map some) := by
  obtain ⟨lr, hr⟩ := outs_spec ho
  have lb := back_len (rs := rs) l2 lr
  have ow1 : ∀ a, Own (entry md ds) (vs.map some) a ↔ OwnV md vs a := fun a => own_entry l2
  have ow2 : ∀ a, Own (entry md (back md ds rs)) (vs.map some) a ↔ OwnV md vs a := fun a => own_entry lb
  have vget : ∀ {i : Nat} {v : V}, (vs.map some)[i]? = some (some v) → vs[i]? = some v := fun {i v} h => by
    rw [List.getElem?_map] at h
    cases e : vs[i]? with
    | none => rw [e] at h; cases h
    | some w => rw [e] at h; cases h; rfl
  have chg : ∀ {i : Nat} {m : Md}, md[i]? = some m → isOwn m = true → m = .chg := fun {i m} h o => by
    cases m with
    | chg => rfl
    | own => exact absurd rfl (hno _ (List.mem_of_getElem? h))
    | val => cases o
    | bor => cases o
  have at1 : ∀ {i : Nat}, md[i]? = some .chg → ∃ d a, rs[i]? = some d ∧ σ'[i]? = some (some (.chg, d)) ∧ ρ'[i]? = some (some (.ref a)) ∧ vs[i]? = some (.ref a) ∧ Top K H' (Av B' σ' ρ') d a := fun {i} h => by
    obtain ⟨d, h1, h2⟩ := hr i h
    obtain ⟨v, h3, a, rfl, t⟩ := R'.slot i .chg d h2
    exact ⟨d, a, h1, h2, h3, ((hcs i a).mp (R'.chg i .chg d a h2 rfl h3)).1, t⟩
  have sub : ∀ a, OwnV md vs a → Own σ' ρ' a := fun a ⟨i, m, h1, h2, h3⟩ => by
    have := chg h1 h2
    subst this
    obtain ⟨d, b, _, e2, e3, e4, _⟩ := at1 h1
    rw [h3] at e4; cases e4
    exact ⟨i, .chg, d, e2, rfl, e3⟩
  have nomut : ∀ {a : Addr} {o : HO}, H a = some o → ¬ MutO o → H' a = some o := fun {a o} h nm => keep a o h fun z => by
    obtain ⟨u, e, mu⟩ := R0.ownOk a z
    rw [h] at e; cases e
    exact nm mu
  have cr : ∀ {ds1 : List D} {vs1 : List V}, Reps K H (fun b => B b ∨ Own (entry md ds) (vs.map some) b) ds1 vs1 → Reps K H' (fun b => B' b ∨ Own (entry md (back md ds rs)) (vs.map some) b) ds1 vs1 := fun r =>
    reps_carry (fun a us hn e => ⟨keep a _ e fun z => hn (.inr z), fun z => z.elim (fun q => (hB a q).elim (fun y => hn (.inl y)) fun y => by rw [y] at e; cases e) fun q => hn (.inr ((ow1 a).mpr ((ow2 a).mp q)))⟩)
      (fun a us h => by
        rcases h with (h | ⟨o, h⟩) | h
        · exact .inl (.inl (nomut h fun z => z))
        · exact .inl (.inr ⟨o, nomut h fun z => z⟩)
        · exact .inr h)
      (fun a us h => by
        rcases h with ⟨o, h⟩ | h
        · exact .inl ⟨o, nomut h fun z => z⟩
        · exact .inr h) r
  have back1 : ∀ {i : Nat} {m : Md} {d : D}, (entry md (back md ds rs))[i]? = some (some (m, d)) → ∃ d0, (entry md ds)[i]? = some (some (m, d0)) ∧ (m ≠ .chg → d0 = d) := fun {i m d} h => by
    obtain ⟨h1, h2⟩ := entry_get.mp h
    by_cases hm : m = .chg
    · have hi : i < ds.length := by rw [l2]; exact (List.getElem?_eq_some_iff.mp h1).1
      exact ⟨ds[i], entry_get.mpr ⟨h1, List.getElem?_eq_getElem hi⟩, fun z => absurd hm z⟩
    · exact ⟨d, entry_get.mpr ⟨h1, back_old h1 hm h2⟩, fun _ => rfl⟩
  refine ⟨lr, fun a => (ow2 a).trans (ow1 a).symm, fun a z => sub a ((ow2 a).mp z), ?_, fun i m d h => ?_, fun i j m m' d d' a e1 e2 o1 o2 r1 r2 => ?_, R'.bdom, fun a q z => R'.bown a q (sub a ((ow2 a).mp z)), fun i m d a e ip r => ?_, R'.csd, fun i d a e r => ?_⟩
  · unfold entry
    rw [List.length_map, List.length_map, List.length_zip, lb, l1]; omega
  · obtain ⟨d0, h0, hd⟩ := back1 h
    obtain ⟨v, h1, h2⟩ := R0.slot i m d0 h0
    refine ⟨v, h1, ?_⟩
    by_cases hm : m = .chg
    · subst hm
      obtain ⟨k1, k2⟩ := entry_get.mp h
      obtain ⟨d', a, e1, e2, e3, e4, t⟩ := at1 k1
      rw [vget h1] at e4; cases e4
      have := back_chg l2 k1 e1
      rw [this] at k2; cases k2
      exact ⟨a, rfl, t.carry (fun o z => z) (reps_mono fun b z => z.elim .inl fun q => .inr (sub b ((ow2 b).mp q)))⟩
    · have := hd hm
      subst this
      refine h2.carry cr (fun a o w ev z => keep a o z ?_) (fun a o z n q => n ((ow1 a).mpr ((ow2 a).mp q)))
      rcases w with w | w
      · exact absurd (chg (entry_get.mp h).1 w) hm
      · exact w
  · obtain ⟨c1, k1, _⟩ := back1 e1
    obtain ⟨c2, k2, _⟩ := back1 e2
    exact R0.dist i j m m' c1 c2 a k1 k2 o1 o2 r1 r2
  · obtain ⟨d0, h0, hd⟩ := back1 e
    by_cases hm : m = .chg
    · subst hm
      exact R0.chg i .chg d0 a h0 rfl r
    · have := hd hm
      subst this
      exact R0.chg i m d0 a h0 ip r
  · exact absurd rfl (hno _ (List.mem_of_getElem? (entry_get.mp e).1))
end
end
theorem fn_ok {P : Program} {w : World} {K : PySem.W.Frag} {mg : Str → Option Value} {base : Heap} {xc : Xc} {Z : Ev} {x qual : Str} {st : Stmt} {f : Addr} {fd : FuncData} {fn : Fn} {N ps : List Str} {k : Nat} (F : L2.Fun K x qual st f fd) (S : FnScope N ps (defScope st)) (hl : ps.length = fn.md.length) (hn : N.length = fn.ns.length)
    (hno : ∀ m ∈ fn.md, m ≠ .own) (hc : cSs ⟨N, defScope st, fun _ => true⟩ fn.body (defBody st) = true) (G : ∀ A, Room k A → EvOk P w K mg base A xc Z) : FnOk P w K mg base (L2.CX P w) (k + 1) f fd ps (spC K xc fn.md (runFn Z fn)) := by
  refine F.okX S (fun vs H Q E ⟨cs, B, ds, h1, _⟩ => h1.trans hl.symm) fun cdv A outer s H vs Q E hr hsp => ?_
  refine ⟨rdS K xc (fun cls d _ H => E cls d H) (exs Z fn.body), cSs_all fn.body _ ⟨N, defScope st, fun _ => true⟩ (fun cls d _ H => E cls d H) (defBody st) (G _ hr) ⟨rfl, S.nd, rfl, S.kind, rfl, fun _ _ => rfl⟩ (takes_of rfl rfl rfl rfl) (passes_of rfl) hc, ?_⟩
  obtain ⟨cs, B, ds, l1, l2, hcs, R0, hm⟩ := hsp
  have hcond : ds.length = fn.md.length ∧ fn.md.length ≤ fn.ns.length := by
    refine ⟨l2, ?_⟩
    have := congrArg List.length S.pre
    rw [List.length_take] at this
    omega
  have e0 : runFn Z fn ds = match exs Z fn.body (entry fn.md ds ++ List.replicate (fn.ns.length - fn.md.length) none) with
    | .ok .next σ => match outs fn.md σ with
      | some ms => .ok false .non ms
      | none => .bad
    | .ok (.ret f d) σ => match outs fn.md σ with
      | some ms => .ok f d ms
      | none => .bad
    | .exc c fs σ => match outs fn.md σ with
      | some ms => .exc c fs ms
      | none => .bad
    | _ => .bad := by
    unfold runFn
    rw [if_pos hcond]
    try rfl
  rw [e0] at hm
  have Rx := R0.ext (fn.ns.length - fn.md.length)
  have est : L2.start N vs = vs.map some ++ List.replicate (fn.ns.length - fn.md.length) none := by
    unfold L2.start
    rw [hn, l1]
  rw [est]
  refine ⟨cs, B, _, Rx, ?_⟩
  cases er : exs Z fn.body (entry fn.md ds ++ List.replicate (fn.ns.length - fn.md.length) none) with
  | bad => rw [er] at hm; exact hm.elim
  | exc c fs σ' =>
    rw [er] at hm
    intro cls dd ρ' H' f R' ex
    dsimp only at hm
    cases eo : outs fn.md σ' with
    | none => rw [eo] at hm; exact hm.elim
    | some rs =>
      rw [eo] at hm
      obtain ⟨q1, q2, q3, q4⟩ := fin_rel hno l1 l2 hcs R0 (fun b o e n => f.keep b o e fun z => n (own_ext.mp z)) (fun a z => .inl z) (fun a z => z) R' eo
      exact hm q1 cls dd H' ⟨fun b o e n => f.keep b o e fun z => n (own_ext.mp z), fun b z => (f.own b (q3 b z)).imp (fun y => own_ext.mp y) id, f.trk⟩ q4 (ex.mono fun a z => z.elim .inl fun y => .inr (q3 a y))
  | ok fl σ' =>
    rw [er] at hm
    cases fl with
    | brk => exact hm.elim
    | cont => exact hm.elim
    | next =>
      intro ρ' H' f R'
      dsimp only at hm
      cases eo : outs fn.md σ' with
      | none => rw [eo] at hm; exact hm.elim
      | some rs =>
        rw [eo] at hm
        obtain ⟨q1, q2, q3, q4⟩ := fin_rel hno l1 l2 hcs R0 (fun b o e n => f.keep b o e fun z => n (own_ext.mp z)) (fun a z => .inl z) (fun a z => z) R' eo
        exact hm q1 .non H' ⟨fun b o e n => f.keep b o e fun z => n (own_ext.mp z), fun b z => z.elim (fun y => (f.own b (q3 b y)).imp (fun y => own_ext.mp y) id) fun y => (by cases y.1), f.trk⟩ ⟨q4, .non⟩
    | ret fr d =>
      intro v ρ' H' f vr
      dsimp only at hm
      cases eo : outs fn.md σ' with
      | none => rw [eo] at hm; exact hm.elim
      | some rs =>
        rw [eo] at hm
        have keep : ∀ b o, H b = some o → ¬ Own (entry fn.md ds) (vs.map some) b → H' b = some o := fun b o e n => f.keep b o e fun z => n (own_ext.mp z)
        cases fr with
        | false =>
          obtain ⟨R', r⟩ := (show RelSt K cs B H' σ' ρ' ∧ Rep K H' (Av B σ' ρ') d v from vr)
          obtain ⟨q1, q2, q3, q4⟩ := fin_rel hno l1 l2 hcs R0 keep (fun a z => .inl z) (fun a z => z) R' eo
          exact hm q1 v H' ⟨keep, fun b z => z.elim (fun y => (f.own b (.inl (q3 b y))).imp (fun y => own_ext.mp y) id) fun y => (by cases y.1), f.trk⟩ ⟨q4, rep_mono (fun a z => z.elim .inl fun y => .inr (q3 a y)) r⟩
        | true =>
          obtain ⟨a, ev, R', t⟩ := (show ∃ a, v = .ref a ∧ RelF K cs B a H' σ' ρ' ∧ Top K H' (fun b => (B b ∨ b = a) ∨ Own σ' ρ' b) d a from vr)
          subst ev
          have na : ¬ Own (entry fn.md ds) (vs.map some) a := fun z => by
            obtain ⟨i, m, h1, h2, h3⟩ := (own_entry l2).mp z
            have hc : m = .chg := by
              cases m with
              | chg => rfl
              | own => exact absurd rfl (hno _ (List.mem_of_getElem? h1))
              | val => cases h2
              | bor => cases h2
            subst hc
            refine R'.nb i ((hcs i a).mpr ⟨h3, ?_⟩)
            obtain ⟨o, eo, _⟩ := R0.ownOk a z
            rw [eo]; simp
          have hna : H a = none := (f.own a (.inr ⟨rfl, rfl⟩)).elim (fun z => absurd (own_ext.mp z) na) id
          obtain ⟨q1, q2, q3, q4⟩ := fin_rel hno l1 l2 hcs R0 keep (fun b z => z.elim .inl fun q => .inr (by rw [q]; exact hna)) (fun b z => .inl z) R'.rel eo
          refine hm q1 _ H' ⟨keep, fun b z => z.elim (fun y => (f.own b (.inl (q3 b y))).imp (fun y => own_ext.mp y) id) fun y => .inr (by have := y.2; cases this; exact hna), f.trk⟩ ⟨a, rfl, ⟨q4, R'.nb, R'.out⟩, t.carry (fun o z => z) (reps_mono fun b z => z.elim .inl fun y => .inr (q3 b y))⟩
structure PgOk (w : World) (K : PySem.W.Frag) (mg : Str → Option Value) (G : Pg) : Prop where
  blt : ∀ g : String, g ∈ ["len", "int", "min", "max", "isinstance", "sorted", "list", "all", "any", "sum", "range", "str", "bool", "tuple"] → mg g = none
  glob : ∀ (g : String) (d : D), G.glob g = some d → ∃ v u, mg g = some u ∧ RelV v u ∧ ∀ H N, Rep K H N d v
  fn : ∀ (g : String) (fn : Fn), G.fn g = some fn → ∃ (qual : Str) (st : Stmt) (f : Addr) (fd : FuncData) (N ps : List Str), L2.Fun K (g : Str) qual st f fd ∧ FnScope N ps (defScope st) ∧ ps.length = fn.md.length ∧ N.length = fn.ns.length ∧ (∀ m ∈ fn.md, m ≠ .own) ∧
    cSs ⟨N, defScope st, fun _ => true⟩ fn.body (defBody st) = true ∧ mg g = some (.ref f) ∧ ∀ us : List Value, us.length = ps.length → bindArgs fd ⟨us, []⟩ = pure (ps.zip us)
theorem lev {P : Program} {w : World} {K : PySem.W.Frag} {mg : Str → Option Value} {base : Heap} {xc : Xc} {G : Pg} (ok : PgOk w K mg G) : ∀ (n : Nat) (g : String) (fn : Fn), G.fn g = some fn →
    ∃ f fd ps, FnOk P w K mg base (L2.CX P w) n f fd ps (spC K xc fn.md (run G n g)) ∧ mg g = some (.ref f) ∧ PySem.W.keepIn K (.ref f) = true ∧ Binds K fd ps []
  | 0, g, fn, h => by
    obtain ⟨qual, st, f, fd, N, ps, F, S, hl, hn, hno, hc, hm, hb⟩ := ok.fn g fn h
    exact ⟨f, fd, ps, ⟨fun vs H Q E ⟨_, _, _, h1, _⟩ => h1.trans hl.symm, fun A outer s H args us vs Q E _ _ _ _ ⟨_, _, _, _, _, _, _, z⟩ => z.elim⟩, hm, F.kp, .all hb⟩
  | n + 1, g, fn, h => by
    obtain ⟨qual, st, f, fd, N, ps, F, S, hl, hn, hno, hc, hm, hb⟩ := ok.fn g fn h
    refine ⟨f, fd, ps, ?_, hm, F.kp, .all hb⟩
    have e : run G (n + 1) g = runFn (evOf G n) fn := funext fun ds => run_succ G n g ds fn h
    rw [e]
    refine fn_ok F S hl hn hno hc fun A hr => ⟨⟨n, hr⟩, ok.blt, ok.glob, fun g' md hs => ?_⟩
    have hs : (G.fn g').map (·.md) = some md := hs
    obtain ⟨fn', h', rfl⟩ := Option.map_eq_some_iff.mp hs
    obtain ⟨f', fd', ps', F', hm', hk', hb'⟩ := lev ok n g' fn' h'
    exact ⟨f', fd', ps', n, F', hr, hm', hk', hb'⟩
structure DefIn (K : PySem.W.Frag) (x : Str) (st : Stmt) : Prop where
  ex : ∃ (f : Addr) (oc : Value) (od an : Option Addr) (kV dc pm cd ct : Value) (osl : Array (Option Value)), PySem.W.nsIn K mainGlobals x = some (some (.ref f)) ∧
    K.lookup f = some ⟨oc, od, .func (PySem.W.fnOf x x (defArgs st) (defBody st) (defScope st) .none kV dc pm an cd ct), osl⟩ ∧ PySem.W.codeIn K cd x = true ∧ PySem.W.keepIn K (.ref f) = true
theorem def_in {K : PySem.W.Frag} {x : Str} {st : Stmt} {f : Addr} {oc : Value} {od an : Option Addr} {kV dc pm cd ct : Value} {osl : Array (Option Value)} (a : PySem.W.nsIn K mainGlobals x = some (some (.ref f)))
    (l : K.lookup f = some ⟨oc, od, .func (PySem.W.fnOf x x (defArgs st) (defBody st) (defScope st) .none kV dc pm an cd ct), osl⟩) (c : PySem.W.codeIn K cd x = true) (k : PySem.W.keepIn K (.ref f) = true) : DefIn K x st := ⟨f, oc, od, an, kV, dc, pm, cd, ct, osl, a, l, c, k⟩
def FnFact (K : PySem.W.Frag) (mg : Str → Option Value) (g : String) (fn : Fn) : Prop := ∃ (qual : Str) (st : Stmt) (f : Addr) (fd : FuncData) (N ps : List Str), L2.Fun K (g : Str) qual st f fd ∧ FnScope N ps (defScope st) ∧ ps.length = fn.md.length ∧ N.length = fn.ns.length ∧ (∀ m ∈ fn.md, m ≠ .own) ∧
    cSs ⟨N, defScope st, fun _ => true⟩ fn.body (defBody st) = true ∧ mg g = some (.ref f) ∧ ∀ us : List Value, us.length = ps.length → bindArgs fd ⟨us, []⟩ = pure (ps.zip us)
theorem fn_fact {K : PySem.W.Frag} {mg : Str → Option Value} {h : Heap} {g : String} {fn : Fn} {st : Stmt} {N ps : List Str} (KX : K.In h) (G : h.Ns mainGlobals mg) (d : DefIn K (g : Str) st) (S : FnScope N ps (defScope st)) (hl : ps.length = fn.md.length) (hn : N.length = fn.ns.length) (hno : fn.md.all (· ≠ .own) = true)
    (hc : cSs ⟨N, defScope st, fun _ => true⟩ fn.body (defBody st) = true) (hb : ∀ (kV dc pm cd ct : Value) (an : Option Addr) (us : List Value), us.length = ps.length → bindArgs (PySem.W.fnOf (g : Str) (g : Str) (defArgs st) (defBody st) (defScope st) .none kV dc pm an cd ct) ⟨us, []⟩ = pure (ps.zip us)) : FnFact K mg g fn := by
  obtain ⟨f, oc, od, an, kV, dc, pm, cd, ct, osl, a, l, c, k⟩ := d.ex
  refine ⟨_, st, f, _, N, ps, fun_mk l c k, S, hl, hn, fun m hm e => ?_, hc, PySem.W.mg_of KX G a, hb kV dc pm cd ct an⟩
  have := List.all_eq_true.mp hno m hm
  subst e
  simp at this
theorem all_nil {α : Type} {P : α → Prop} : ∀ p ∈ ([] : List α), P p := fun _ h => by cases h
theorem all_cons {α : Type} {P : α → Prop} {a : α} {l : List α} (h : P a) (t : ∀ p ∈ l, P p) : ∀ p ∈ a :: l, P p := fun p hp => by
  rcases List.mem_cons.mp hp with rfl | hp
  · exact h
  · exact t p hp
theorem lookup_mem {β : Type} {l : List (String × β)} {g : String} {b : β} (h : l.lookup g = some b) : (g, b) ∈ l := by
  induction l with
  | nil => cases h
  | cons p l ih =>
    obtain ⟨k, v⟩ := p
    rw [List.lookup_cons] at h
    split at h
    · rename_i e
      cases h
      have := eq_of_beq e
      subst this
      exact List.mem_cons_self
    · exact List.mem_cons_of_mem _ (ih h)
abbrev pgOf (fns : List (String × Fn)) (gs : List (String × D)) (wf : Nat) : Pg := ⟨fun g => fns.lookup g, fun g => gs.lookup g, wf⟩
theorem pg_ok {w : World} {K : PySem.W.Frag} {mg : Str → Option Value} {h : Heap} {fns : List (String × Fn)} {gs : List (String × D)} {wf : Nat} (KX : K.In h) (G : h.Ns mainGlobals mg)
    (hz : ∀ g ∈ ["len", "int", "min", "max", "isinstance", "sorted", "list", "all", "any", "sum", "range", "str", "bool", "tuple"], PySem.W.nsIn K mainGlobals (g : String) = some none)
    (hg : ∀ p ∈ gs, ∃ v u, PySem.W.nsIn K mainGlobals (p.1 : String) = some (some u) ∧ RelV v u ∧ ∀ H N, Rep K H N p.2 v) (hf : ∀ p ∈ fns, FnFact K mg p.1 p.2) : PgOk w K mg (pgOf fns gs wf) :=
  ⟨fun g hgm => PySem.W.mg_none_of KX G (hz g hgm), fun g d e => by
    obtain ⟨v, u, h1, h2, h3⟩ := hg (g, d) (lookup_mem e)
    exact ⟨v, u, PySem.W.mg_of KX G h1, h2, h3⟩, fun g fn e => hf (g, fn) (lookup_mem e)⟩
theorem only_sqf {K : PySem.W.Frag} {H : Hp} {a : Addr} {xs : List V} (o : Only H) (h : SqL K H a xs) : SqF K H a xs := by
  rcases h with (h | ⟨ob, h⟩) | h
  · rcases o a with z | ⟨ob, ys, z⟩
    · rw [h] at z; cases z
    · rw [h] at z; cases z
  · exact .inl ⟨ob, h⟩
  · exact .inr h
theorem reps_ints {K : PySem.W.Frag} {H : Hp} {N : Addr → Prop} : ∀ ns : List Int, Reps K H N (ns.map D.int) (ns.map V.int)
  | [] => .nil
  | n :: ns => .cons (.int n) (reps_ints ns)
theorem walk_pg {l : PySem.W.OpenLaw} {q : Program} {loose : List Str} {XP : (Str → Option Value) → Heap → Prop} {YP : World → Heap → Prop} {d : DefRec} {K : Params → PySem.W.Frag} {G : Pg} {n : Nat} {fl : Fn}
    (hn : l.most = some 63) (hdf : d.params.defaults = []) (hd : d.name = ("law" : Str)) (hr : Room (n + 1) callerA) (hfl : G.fn "law" = some fl) (hmd : fl.md = [.bor])
    (hY : ∀ (w : World) (h : Heap), YP w h → (K w.params).In h)
    (F : ∀ (w : World) (mg : Str → Option Value) (h : Heap), (K w.params).In h → h.Ns mainGlobals mg → PgOk w (K w.params) mg G ∧ ∃ (st : Stmt) (f : Addr) (fd : FuncData) (N : List Str), L2.Fun (K w.params) "law" "law" st f fd ∧ FnScope N ["script"] (defScope st) ∧ N.length = fl.ns.length ∧
      cSs ⟨N, defScope st, fun _ => true⟩ fl.body (defBody st) = true ∧ mg "law" = some (.ref f) ∧ ∀ us : List Value, us.length = 1 → bindArgs fd ⟨us, []⟩ = pure ((["script"] : List Str).zip us))
    (law : ∀ ns : List Int, ns.length ≤ 63 → ∃ rs, run G (n + 1) "law" [.frl (ns.map D.int)] = .ok false (.bl true) rs) : PySem.W.WalkO q loose XP YP l.row.toRowW d [] (fun f vs => PySem.call f vs) := by
  refine L2.walk_of (n := 63) (k := n + 1) (x := "script") (CX := fun w => L2.CX l.prog w) (sp := fun w => spC (K w.params) (fun _ => none) fl.md (run G (n + 1) "law")) hn (by decide) hdf hr hY (fun w mg fa h KX Gn hmg => ?_) (fun w H a ns hl ho hs => ?_) fun w H s e s' z => ?_
  · obtain ⟨ok, st, f, fd, N, FF, S, hN, hc, hm, hb⟩ := F w mg h KX Gn
    rw [hd, hm] at hmg
    cases hmg
    refine ⟨fd, fun s v => .of_eq (hb [v] rfl), fun base _ _ => ?_⟩
    have e : run G (n + 1) "law" = runFn (evOf G n) fl := funext fun ds => run_succ G n "law" ds fl hfl
    rw [e]
    refine fn_ok FF S (by rw [hmd]; rfl) hN (by rw [hmd]; intro m hm; cases hm with | head => simp | tail _ h => cases h) hc fun A hr => ⟨⟨n, hr⟩, ok.blt, ok.glob, fun g' md hs => ?_⟩
    have hs : (G.fn g').map (·.md) = some md := hs
    obtain ⟨fn', h', rfl⟩ := Option.map_eq_some_iff.mp hs
    obtain ⟨f', fd', ps', F', hm', hk', hb'⟩ := lev ok n g' fn' h'
    exact ⟨f', fd', ps', n, F', hr, hm', hk', hb'⟩
  · show spC (K w.params) (fun _ => none) fl.md (run G (n + 1) "law") [.ref a] H _ _
    rw [hmd]
    have r : Rep (K w.params) H (fun b => False ∨ False) (.frl (ns.map D.int)) (.ref a) := .frl (only_sqf ho hs) (reps_ints ns)
    have no : ∀ b, ¬ Own (entry [.bor] [D.frl (ns.map D.int)]) [some (V.ref a)] b := fun b ⟨i, m, d, h1, h2, h3⟩ => by
      obtain ⟨h4, _⟩ := entry_get.mp h1
      cases i with
      | zero => cases h4; cases h2
      | succ i => simp at h4
    refine ⟨fun i b => ([V.ref a])[i]? = some (V.ref b) ∧ H b ≠ none, fun _ => False, [.frl (ns.map D.int)], rfl, rfl, fun i b => .rfl, ⟨rfl, fun i m d h => ?_, fun i j md md' d d' b e1 e2 o1 o2 r1 r2 => ?_, fun _ z => z.elim, fun _ z => z.elim, fun i m d b e ip r => ?_, fun i b c => c.2, fun i d b e r => ?_⟩, ?_⟩
    · obtain ⟨h1, h2⟩ := entry_get.mp h
      cases i with
      | zero =>
        cases h1; cases h2
        exact ⟨_, rfl, .inl (rep_mono (fun b z => z.elim False.elim fun q => absurd q (no b)) r)⟩
      | succ i => simp at h1
    · exact absurd ⟨i, md, d, e1, o1, r1⟩ (no b)
    · obtain ⟨h1, h2⟩ := entry_get.mp e
      cases i with
      | zero => cases h1; cases h2; cases ip
      | succ i => simp at h1
    · exact absurd ⟨i, .own, d, e, rfl, r⟩ (no b)
    · obtain ⟨rs, e⟩ := law ns hl
      rw [e]
      intro _ v H' f vr
      obtain ⟨_, r'⟩ := vr
      cases r'
      rfl
  · obtain ⟨_, _, _, _, _, _, _, _, _, _, _, _, z⟩ := z
    exact z.elim
theorem glob_at {K : PySem.W.Frag} {x : Str} {f : Tok → Value} {u : Value} (h : PySem.W.nsIn K mainGlobals x = some (some u)) (e : ∃ t, u = f t) : ∃ t, PySem.W.nsIn K mainGlobals x = some (some (f t)) := by
  obtain ⟨t, rfl⟩ := e
  exact ⟨t, h⟩
end Pu
namespace K15
open Pu PySem
def fn_group_of : Fn := ⟨["piece"], [.bor], ["piece"],
  .cons (.iff (.v (.cmp .lt (.bi .len (.cons (.idx (.var 0) (.int 1)) .nil)) (.bi .len (.cons (.idx (.var 0) (.int 0)) .nil)))) (.cons (.ret (.glob "SHORTER")) .nil) .nil) (.cons (.iff (.v (.cmp .eq (.bi .len (.cons (.idx (.var 0) (.int 1)) .nil)) (.bi .len (.cons (.idx (.var 0) (.int 0)) .nil)))) (.cons (.ret (.glob "EQUAL")) .nil) .nil) (.cons (.ret (.glob "LONGER")) .nil))⟩
def pass_chain_b0 : Ss := .cons (.par 5 6 (.idx (.var 4) (.int 0)) (.idx (.var 4) (.int 1))) (.cons (.asg 7 (.call "group_of" (.cons (.var 4) .nil))) (.cons (.iff (.and (.v (.cmp .eq (.var 7) (.var 2))) (.v (.cmp .ne (.var 5) (.var 6)))) (.cons (.expr (.mu .append 1 (.cons (.tup (.cons (.var 3) (.cons (.var 5) (.cons (.var 6) .nil)))) .nil))) .nil) .nil) (.cons (.iff (.v (.cmp .le (.var 7) (.var 2))) (.cons (.aug 3 .add (.bi .len (.cons (.var 6) .nil))) .nil) (.cons (.aug 3 .add (.bi .len (.cons (.var 5) .nil))) .nil)) .nil)))
def pass_chain_b1 : Ss := .cons (.asg 3 (.int 0)) (.cons (.for (.slot 4) (.of (.var 0)) pass_chain_b0) .nil)
def fn_pass_chain : Fn := ⟨["pieces"], [.bor], ["pieces", "chain", "group", "place", "piece", "used", "made", "own"],
  .cons (.asg 1 (.lst .nil)) (.cons (.for (.slot 2) (.of (.tup (.cons (.glob "SHORTER") (.cons (.glob "EQUAL") (.cons (.glob "LONGER") .nil))))) pass_chain_b1) (.cons (.ret (.var 1)) .nil))⟩
def fn__law_mix : Fn := ⟨["number", "turn"], [.bor, .bor], ["number", "turn", "first", "second"],
  .cons (.asg 2 (.bin .mul (.bin .mod (.bi .int (.cons (.var 0) .nil)) (.int 2305843009213693951)) (.int 6364136223846793005))) (.cons (.asg 2 (.bin .mod (.bi .int (.cons (.bin .add (.bin .add (.var 2) (.bin .mul (.var 1) (.int 1442695040888963407))) (.int 69621)) .nil)) (.int 2305843009213693951))) (.cons (.asg 3 (.bin .mod (.bi .int (.cons (.bin .add (.bin .add (.bin .mul (.var 2) (.var 2)) (.bin .mul (.var 1) (.int 48271))) (.int 7)) .nil)) (.int 1000000000000000003))) (.cons (.ret (.bin .mod (.bi .int (.cons (.bin .add (.bin .add (.bin .mul (.var 3) (.var 3)) (.bin .mul (.var 2) (.int 3))) (.int 11)) .nil)) (.int 1000000000000000009))) .nil)))⟩
def _law_store_e0 : Xp := .bi .int (.cons (.var 2) .nil)
def fn__law_store : Fn := ⟨["script"], [.bor], ["script", "cells", "cell"],
  .cons (.asg 1 (.comp 2 (.of (.slc (.var 0) .no (.so (.int 63)))) .no _law_store_e0)) (.cons (.ret (.lst (.cons (.var 1) (.cons (.int 0) (.cons (.int 0) (.cons (.int 0) (.cons (.int 7) (.cons (.int 0) .nil)))))))) .nil)⟩
def _law_take_b0 : Ss := .cons (.iff (.or (.v (.cmp .gt (.idx (.var 0) (.int 2)) (.int 0))) (.or (.v (.cmp .gt (.idx (.var 0) (.int 3)) (.int 0))) (.v (.cmp .ge (.idx (.var 0) (.int 1)) (.bi .len (.cons (.idx (.var 0) (.int 0)) .nil)))))) (.cons .brk .nil) .nil) (.cons (.asg 3 (.idx (.var 0) (.int 0))) (.cons (.asg 4 (.idx (.var 3) (.idx (.var 0) (.int 1)))) (.cons (.setI 0 (.int 1) (.bin .add (.idx (.var 0) (.int 1)) (.int 1))) (.cons (.iff (.v (.cmp .ge (.var 4) (.int 1000000000000000000))) (.cons (.setI 0 (.int 2) (.bin .mod (.bi .int (.cons (.var 4) .nil)) (.bin .pow (.bin .pow (.int 10) (.int 60)) (.int 8)))) .nil) (.cons (.setI 0 (.int 3) (.int 3)) (.cons (.setI 0 (.int 4) (.call "_law_mix" (.cons (.bin .add (.idx (.var 0) (.int 4)) (.bin .mod (.bi .int (.cons (.var 4) .nil)) (.int 2305843009213693951))) (.cons (.idx (.var 0) (.int 1)) .nil)))) .nil))) .nil))))
def fn__law_take : Fn := ⟨["store", "many"], [.chg, .bor], ["store", "many", "k", "cells", "cell", "number"],
  .cons (.iff (.v (.cmp .lt (.var 1) (.int 2))) (.cons (.ret (.int 0)) .nil) .nil) (.cons (.setI 0 (.int 5) (.bin .add (.idx (.var 0) (.int 5)) (.int 1))) (.cons (.for (.slot 2) (.rng1 (.int 64)) _law_take_b0) (.cons (.iff (.v (.cmp .gt (.idx (.var 0) (.int 2)) (.int 0))) (.cons (.asg 5 (.idx (.var 0) (.int 2))) (.cons (.setI 0 (.int 2) (.bin .fdv (.var 5) (.var 1))) (.cons (.ret (.bin .mod (.bi .int (.cons (.var 5) .nil)) (.var 1))) .nil))) .nil) (.cons (.iff (.v (.cmp .gt (.idx (.var 0) (.int 3)) (.int 0))) (.cons (.setI 0 (.int 3) (.bin .sub (.idx (.var 0) (.int 3)) (.int 1))) .nil) .nil) (.cons (.ret (.bin .mod (.bi .int (.cons (.call "_law_mix" (.cons (.idx (.var 0) (.int 4)) (.cons (.idx (.var 0) (.int 5)) .nil))) .nil)) (.var 1))) .nil)))))⟩
def fn__law_pick : Fn := ⟨["store", "items"], [.chg, .bor], ["store", "items"],
  .cons (.ret (.idx (.var 1) (.call "_law_take" (.cons (.var 0) (.cons (.bi .len (.cons (.var 1) .nil)) .nil))))) .nil⟩
def fn__law_size : Fn := ⟨["store", "top"], [.chg, .val], ["store", "top", "edge"],
  .cons (.asg 2 (.call "_law_take" (.cons (.var 0) (.cons (.int 9) .nil)))) (.cons (.iff (.v (.cmp .eq (.var 2) (.int 0))) (.cons (.ret (.int 0)) .nil) .nil) (.cons (.iff (.v (.cmp .eq (.var 2) (.int 1))) (.cons (.ret (.var 1)) .nil) .nil) (.cons (.iff (.v (.cmp .eq (.var 2) (.int 2))) (.cons (.ret (.bi .min (.cons (.int 1) (.cons (.var 1) .nil)))) .nil) .nil) (.cons (.ret (.call "_law_take" (.cons (.var 0) (.cons (.bin .add (.var 1) (.int 1)) .nil)))) .nil))))⟩
def _law_alphabet_b0 : Ss := .cons (.asg 9 (.bin .add (.var 7) (.call "_law_take" (.cons (.var 0) (.cons (.bin .sub (.bin .add (.bin .sub (.int 27) (.var 4)) (.var 8)) (.var 7)) .nil))))) (.cons (.asg 6 (.bin .add (.var 6) (.idx (.var 2) (.var 9)))) (.cons (.asg 7 (.bin .add (.var 9) (.int 1))) .nil))
def _law_alphabet_s1 : List Nat := [97, 98, 99, 100, 101, 102, 103, 104, 105, 106, 107, 108, 109, 110, 111, 112, 113, 114, 115, 116, 117, 118, 119, 120, 121, 122]
def fn__law_alphabet : Fn := ⟨["store", "top"], [.chg, .val], ["store", "top", "letters", "sizes", "size", "kind", "text", "low", "k", "at"],
  .cons (.asg 2 (.str _law_alphabet_s1)) (.cons (.asg 3 (.lst (.cons (.int 2) (.cons (.int 3) (.cons (.int 2) (.cons (.int 1) (.cons (.int 3) (.cons (.int 2) (.cons (.int 3) (.cons (.var 1) .nil)))))))))) (.cons (.asg 4 (.bi .min (.cons (.var 1) (.cons (.idx (.var 3) (.call "_law_take" (.cons (.var 0) (.cons (.int 8) .nil)))) .nil)))) (.cons (.asg 5 (.call "_law_take" (.cons (.var 0) (.cons (.int 4) .nil)))) (.cons (.iff (.v (.cmp .lt (.var 5) (.int 2))) (.cons (.ret (.slc (.var 2) .no (.so (.var 4)))) .nil) .nil) (.cons (.iff (.v (.cmp .eq (.var 5) (.int 2))) (.cons (.ret (.slc (.var 2) (.so (.bin .sub (.int 26) (.var 4))) .no)) .nil) .nil) (.cons (.asg 6 (.str [])) (.cons (.asg 7 (.int 0)) (.cons (.for (.slot 8) (.rng1 (.var 4)) _law_alphabet_b0) (.cons (.ret (.var 6)) .nil)))))))))⟩
def _law_word_e0 : Xp := .call "_law_pick" (.cons (.var 0) (.cons (.var 1) .nil))
def fn__law_word : Fn := ⟨["store", "alpha", "top"], [.chg, .bor, .val], ["store", "alpha", "top", "size", "shape", "pair", "k"],
  .cons (.asg 3 (.call "_law_size" (.cons (.var 0) (.cons (.var 2) .nil)))) (.cons (.asg 4 (.call "_law_take" (.cons (.var 0) (.cons (.int 4) .nil)))) (.cons (.iff (.v (.cmp .eq (.var 4) (.int 0))) (.cons (.ret (.bin .mul (.call "_law_pick" (.cons (.var 0) (.cons (.var 1) .nil))) (.var 3))) .nil) .nil) (.cons (.iff (.v (.cmp .eq (.var 4) (.int 1))) (.cons (.asg 5 (.bin .add (.call "_law_pick" (.cons (.var 0) (.cons (.var 1) .nil))) (.call "_law_pick" (.cons (.var 0) (.cons (.var 1) .nil))))) (.cons (.ret (.slc (.bin .mul (.var 5) (.var 3)) .no (.so (.var 3)))) .nil)) .nil) (.cons (.ret (.me .join (.str []) (.cons (.comp 6 (.rng1 (.var 3)) .no _law_word_e0) .nil))) .nil))))⟩
def fn__law_price : Fn := ⟨["store"], [.chg], ["store", "kind", "wide"],
  .cons (.asg 1 (.call "_law_take" (.cons (.var 0) (.cons (.int 6) .nil)))) (.cons (.iff (.v (.cmp .eq (.var 1) (.int 0))) (.cons (.ret (.call "_law_take" (.cons (.var 0) (.cons (.int 2) .nil)))) .nil) .nil) (.cons (.iff (.v (.cmp .eq (.var 1) (.int 1))) (.cons (.asg 2 (.lst (.cons (.int 1000000) (.cons (.int 999999) (.cons (.call "_law_take" (.cons (.var 0) (.cons (.int 1000001) .nil))) (.cons (.bin .add (.int 10) (.call "_law_take" (.cons (.var 0) (.cons (.int 990) .nil)))) .nil)))))) (.cons (.ret (.idx (.var 2) (.call "_law_take" (.cons (.var 0) (.cons (.int 4) .nil))))) .nil)) .nil) (.cons (.ret (.call "_law_take" (.cons (.var 0) (.cons (.int 10) .nil)))) .nil)))⟩
def fn__law_unlike : Fn := ⟨["store", "alpha", "u", "v", "top"], [.chg, .bor, .val, .val, .bor], ["store", "alpha", "u", "v", "top"],
  .cons (.iff (.and (.v (.cmp .eq (.var 2) (.var 3))) (.v (.cmp .lt (.bi .len (.cons (.var 3) .nil)) (.var 4)))) (.cons (.asg 3 (.bin .add (.var 3) (.call "_law_pick" (.cons (.var 0) (.cons (.var 1) .nil))))) .nil) (.cons (.iff (.v (.cmp .eq (.var 2) (.var 3))) (.cons (.asg 3 (.slc (.var 3) (.so (.int 1)) .no)) .nil) .nil) .nil)) (.cons (.ret (.tup (.cons (.var 2) (.cons (.var 3) .nil)))) .nil)⟩
def _law_linked_b0 : Ss := .cons (.asg 7 (.call "_law_word" (.cons (.var 0) (.cons (.var 1) (.cons (.var 3) .nil))))) (.cons (.asg 8 (.call "_law_take" (.cons (.var 0) (.cons (.int 6) .nil)))) (.cons (.iff (.and (.v (.cmp .gt (.bi .len (.cons (.var 4) .nil)) (.int 0))) (.v (.cmp .lt (.var 8) (.int 4)))) (.cons (.asg 9 (.idx (.var 4) (.call "_law_take" (.cons (.var 0) (.cons (.bi .len (.cons (.var 4) .nil)) .nil))))) (.cons (.asg 10 (.call "_law_pick" (.cons (.var 0) (.cons (.var 1) .nil)))) (.cons (.asg 11 (.lst (.cons (.idx (.var 9) (.int 1)) (.cons (.slc (.idx (.var 9) (.int 1)) .no (.so (.int 1))) (.cons (.bin .add (.var 10) (.idx (.var 9) (.int 1))) (.cons (.bin .add (.idx (.var 9) (.int 1)) (.var 10)) .nil)))))) (.cons (.asg 7 (.slc (.idx (.var 11) (.var 8)) .no (.so (.var 3)))) .nil)))) .nil) (.cons (.asg 12 (.call "_law_unlike" (.cons (.var 0) (.cons (.var 1) (.cons (.var 7) (.cons (.call "_law_word" (.cons (.var 0) (.cons (.var 1) (.cons (.var 3) .nil)))) (.cons (.var 3) .nil))))))) (.cons (.iff (.v (.cmp .nin (.var 12) (.var 5))) (.cons (.expr (.mu .append 4 (.cons (.tup (.cons (.idx (.var 12) (.int 0)) (.cons (.idx (.var 12) (.int 1)) (.cons (.call "_law_price" (.cons (.var 0) .nil)) .nil)))) .nil))) (.cons (.expr (.mu .append 5 (.cons (.var 12) .nil))) .nil)) .nil) .nil))))
def fn__law_linked : Fn := ⟨["store", "alpha", "count", "top"], [.chg, .bor, .bor, .val], ["store", "alpha", "count", "top", "rules", "pairs", "k", "u", "kind", "earlier", "sign", "forms", "pair"],
  .cons (.asg 4 (.lst .nil)) (.cons (.asg 5 (.lst .nil)) (.cons (.for (.slot 6) (.rng1 (.var 2)) _law_linked_b0) (.cons (.ret (.var 4)) .nil)))⟩
def _law_stock_e0 : Xp := .tup (.cons (.var 2) (.cons (.var 2) (.cons (.int 0) .nil)))
def fn__law_stock : Fn := ⟨["alpha", "rules"], [.bor, .bor], ["alpha", "rules", "sign"],
  .cons (.ret (.bin .add (.comp 2 (.of (.var 0)) .no _law_stock_e0) (.bi .sorted (.cons (.var 1) .nil)))) .nil⟩
def _law_used_e0 : Xp := .idx (.var 1) (.int 0)
def fn__law_used : Fn := ⟨["pieces"], [.bor], ["pieces", "piece"],
  .cons (.ret (.me .join (.str []) (.cons (.comp 1 (.of (.var 0)) .no _law_used_e0) .nil))) .nil⟩
def _law_made_e0 : Xp := .idx (.var 1) (.int 1)
def fn__law_made : Fn := ⟨["pieces"], [.bor], ["pieces", "piece"],
  .cons (.ret (.me .join (.str []) (.cons (.comp 1 (.of (.var 0)) .no _law_made_e0) .nil))) .nil⟩
def _law_pieces_b0 : Ss := .cons (.iff (.not (.v (.var 6))) (.cons (.asg 7 (.call "_law_pick" (.cons (.var 0) (.cons (.var 1) .nil)))) .nil) .nil) (.cons (.asg 9 (.bin .add (.bi .len (.cons (.call "_law_used" (.cons (.var 4) .nil)) .nil)) (.bi .len (.cons (.idx (.var 7) (.int 0)) .nil)))) (.cons (.asg 10 (.bin .add (.bi .len (.cons (.call "_law_made" (.cons (.var 4) .nil)) .nil)) (.bi .len (.cons (.idx (.var 7) (.int 1)) .nil)))) (.cons (.iff (.and (.v (.cmp .le (.var 9) (.var 3))) (.v (.cmp .le (.var 10) (.var 3)))) (.cons (.expr (.mu .append 4 (.cons (.var 7) .nil))) .nil) .nil) .nil)))
def fn__law_pieces : Fn := ⟨["store", "stock", "count", "top"], [.chg, .bor, .val, .bor], ["store", "stock", "count", "top", "pieces", "size", "same", "piece", "k", "used", "made"],
  .cons (.asg 4 (.lst .nil)) (.cons (.asg 5 (.call "_law_size" (.cons (.var 0) (.cons (.var 2) .nil)))) (.cons (.asg 6 (.cmp .eq (.call "_law_take" (.cons (.var 0) (.cons (.int 6) .nil))) (.int 0))) (.cons (.asg 7 (.call "_law_pick" (.cons (.var 0) (.cons (.var 1) .nil)))) (.cons (.for (.slot 8) (.rng1 (.var 5)) _law_pieces_b0) (.cons (.ret (.var 4)) .nil)))))⟩
def _law_equal_t0 : Ot := .so (.not (.v (.call "_law_equal" (.cons (.idx (.var 0) (.var 2)) (.cons (.idx (.var 1) (.var 2)) .nil)))))
def _law_equal_e1 : Xp := .var 2
def fn__law_equal : Fn := ⟨["told", "due"], [.bor, .bor], ["told", "due", "k"],
  .cons (.iff (.or (.v (.bi .isi (.cons (.var 1) (.cons (.ty "list") .nil)))) (.v (.bi .isi (.cons (.var 1) (.cons (.ty "tuple") .nil))))) (.cons (.iff (.and (.not (.v (.bi .isi (.cons (.var 0) (.cons (.ty "list") .nil))))) (.not (.v (.bi .isi (.cons (.var 0) (.cons (.ty "tuple") .nil)))))) (.cons (.ret (.bl false)) .nil) .nil) (.cons (.iff (.or (.v (.cmp .ne (.bi .isi (.cons (.var 0) (.cons (.ty "list") .nil))) (.bi .isi (.cons (.var 1) (.cons (.ty "list") .nil))))) (.v (.cmp .ne (.bi .len (.cons (.var 0) .nil)) (.bi .len (.cons (.var 1) .nil))))) (.cons (.ret (.bl false)) .nil) .nil) (.cons (.ret (.cmp .eq (.bi .len (.cons (.comp 2 (.rng1 (.bi .len (.cons (.var 1) .nil))) _law_equal_t0 _law_equal_e1) .nil)) (.int 0))) .nil))) .nil) (.cons (.iff (.v (.cmp .is (.var 1) .non)) (.cons (.ret (.cmp .is (.var 0) .non)) .nil) .nil) (.cons (.iff (.or (.v (.bi .isi (.cons (.var 0) (.cons (.ty "bool") .nil)))) (.v (.bi .isi (.cons (.var 1) (.cons (.ty "bool") .nil))))) (.cons (.ret (.and (.bi .isi (.cons (.var 0) (.cons (.ty "bool") .nil))) (.and (.bi .isi (.cons (.var 1) (.cons (.ty "bool") .nil))) (.cmp .eq (.var 0) (.var 1))))) .nil) .nil) (.cons (.iff (.v (.bi .isi (.cons (.var 1) (.cons (.ty "int") .nil)))) (.cons (.ret (.and (.bi .isi (.cons (.var 0) (.cons (.ty "int") .nil))) (.cmp .eq (.var 0) (.var 1)))) .nil) .nil) (.cons (.ret (.and (.bi .isi (.cons (.var 0) (.cons (.ty "str") .nil))) (.cmp .eq (.var 0) (.var 1)))) .nil))))⟩
def fn__law_group : Fn := ⟨["piece"], [.bor], ["piece", "growth"],
  .cons (.asg 1 (.bin .sub (.bi .len (.cons (.idx (.var 0) (.int 1)) .nil)) (.bi .len (.cons (.idx (.var 0) (.int 0)) .nil)))) (.cons (.ret (.bin .add (.bi .int (.cons (.cmp .eq (.var 1) (.int 0)) .nil)) (.bin .mul (.int 2) (.bi .int (.cons (.cmp .gt (.var 1) (.int 0)) .nil))))) .nil)⟩
def _law_place_b0 : Ss := .cons (.iff (.or (.v (.cmp .eq (.idx (.var 4) (.int 0)) (.idx (.var 4) (.int 1)))) (.v (.cmp .le (.call "_law_group" (.cons (.var 4) .nil)) (.var 2)))) (.cons (.asg 3 (.bin .add (.var 3) (.bi .len (.cons (.idx (.var 4) (.int 1)) .nil)))) .nil) (.cons (.asg 3 (.bin .add (.var 3) (.bi .len (.cons (.idx (.var 4) (.int 0)) .nil)))) .nil)) .nil
def fn__law_place : Fn := ⟨["pieces", "k"], [.bor, .bor], ["pieces", "k", "group", "place", "piece"],
  .cons (.asg 2 (.call "_law_group" (.cons (.idx (.var 0) (.var 1)) .nil))) (.cons (.asg 3 (.int 0)) (.cons (.for (.slot 4) (.of (.slc (.var 0) .no (.so (.var 1)))) _law_place_b0) (.cons (.ret (.var 3)) .nil)))⟩
def _law_due_e0 : Xp := .idx (.var 4) (.int 2)
def _law_due_b1 : Ss := .cons (.asg 3 (.idx (.var 0) (.var 2))) (.cons (.iff (.v (.cmp .ne (.idx (.var 3) (.int 0)) (.idx (.var 3) (.int 1)))) (.cons (.expr (.mu .append 1 (.cons (.tup (.cons (.call "_law_group" (.cons (.var 3) .nil)) (.cons (.var 2) (.cons (.tup (.cons (.call "_law_place" (.cons (.var 0) (.cons (.var 2) .nil))) (.cons (.idx (.var 3) (.int 0)) (.cons (.idx (.var 3) (.int 1)) .nil)))) .nil)))) .nil))) .nil) .nil) .nil)
def fn__law_due : Fn := ⟨["pieces"], [.bor], ["pieces", "rows", "k", "piece", "row"],
  .cons (.asg 1 (.lst .nil)) (.cons (.for (.slot 2) (.rng1 (.bi .len (.cons (.var 0) .nil))) _law_due_b1) (.cons (.ret (.comp 4 (.of (.bi .sorted (.cons (.var 1) .nil))) .no _law_due_e0)) .nil))⟩
def fn__law_some_pass : Fn := ⟨["store"], [.chg], ["store", "alpha", "one", "pair", "rules"],
  .cons (.asg 1 (.call "_law_alphabet" (.cons (.var 0) (.cons (.int 8) .nil)))) (.cons (.iff (.v (.cmp .eq (.call "_law_take" (.cons (.var 0) (.cons (.int 16) .nil))) (.int 0))) (.cons (.asg 2 (.call "_law_pick" (.cons (.var 0) (.cons (.var 1) .nil)))) (.cons (.asg 3 (.lst (.cons (.tup (.cons (.var 2) (.cons (.str []) (.cons (.call "_law_price" (.cons (.var 0) .nil)) .nil)))) (.cons (.tup (.cons (.str []) (.cons (.call "_law_pick" (.cons (.var 0) (.cons (.var 1) .nil))) (.cons (.call "_law_price" (.cons (.var 0) .nil)) .nil)))) .nil)))) (.cons (.ret (.slc (.bin .mul (.var 3) (.int 64)) .no (.so (.bin .add (.int 64) (.call "_law_take" (.cons (.var 0) (.cons (.int 65) .nil))))))) .nil))) .nil) (.cons (.asg 4 (.call "_law_linked" (.cons (.var 0) (.cons (.var 1) (.cons (.bin .add (.int 1) (.call "_law_take" (.cons (.var 0) (.cons (.int 6) .nil)))) (.cons (.idx (.lst (.cons (.int 1) (.cons (.int 2) (.cons (.int 3) (.cons (.int 8) .nil))))) (.call "_law_take" (.cons (.var 0) (.cons (.int 4) .nil)))) .nil)))))) (.cons (.ret (.call "_law_pieces" (.cons (.var 0) (.cons (.call "_law_stock" (.cons (.var 1) (.cons (.var 4) .nil))) (.cons (.idx (.lst (.cons (.int 6) (.cons (.int 12) (.cons (.int 40) (.cons (.int 128) .nil))))) (.call "_law_take" (.cons (.var 0) (.cons (.int 4) .nil)))) (.cons (.int 64) .nil)))))) .nil)))⟩
def law_b0 : Ss := .cons (.asg 5 (.idx (.var 2) (.bin .mod (.bi .int (.cons (.var 3) .nil)) (.int 4)))) (.cons (.asg 6 (.bi .list (.cons (.var 5) .nil))) (.cons (.asg 7 (.call "pass_chain" (.cons (.var 6) .nil))) (.cons (.iff (.or (.not (.v (.call "_law_equal" (.cons (.var 7) (.cons (.idx (.var 4) (.bin .mod (.bi .int (.cons (.var 3) .nil)) (.int 4))) .nil))))) (.not (.v (.call "_law_equal" (.cons (.var 6) (.cons (.var 5) .nil)))))) (.cons (.ret (.bl false)) .nil) .nil) (.cons (.expr (.mu .append 7 (.cons (.tup (.cons (.int 0) (.cons (.str []) (.cons (.str [97]) .nil)))) .nil))) (.cons (.expr (.mu .clear 6 .nil)) .nil)))))
def law_e1 : Xp := .call "_law_due" (.cons (.var 5) .nil)
def law_b2 : Ss := .cons (.expr (.mu .append 2 (.cons (.call "_law_some_pass" (.cons (.var 1) .nil)) .nil))) .nil
def fn_law : Fn := ⟨["script"], [.bor], ["script", "store", "passes", "k", "dues", "pieces", "handed", "told"],
  .cons (.asg 1 (.call "_law_store" (.cons (.var 0) .nil))) (.cons (.asg 2 (.lst .nil)) (.cons (.for (.slot 3) (.rng1 (.int 3)) law_b2) (.cons (.expr (.mu .append 2 (.cons (.rev (.idx (.var 2) (.int 0))) .nil))) (.cons (.asg 4 (.comp 5 (.of (.var 2)) .no law_e1)) (.cons (.for (.slot 3) (.rng1 (.int 8)) law_b0) (.cons (.ret (.bl true)) .nil))))))⟩
def fns : List (String × Fn) := [("group_of", fn_group_of), ("pass_chain", fn_pass_chain), ("_law_mix", fn__law_mix), ("_law_store", fn__law_store), ("_law_take", fn__law_take), ("_law_pick", fn__law_pick), ("_law_size", fn__law_size), ("_law_alphabet", fn__law_alphabet), ("_law_word", fn__law_word), ("_law_price", fn__law_price), ("_law_unlike", fn__law_unlike), ("_law_linked", fn__law_linked), ("_law_stock", fn__law_stock), ("_law_used", fn__law_used), ("_law_made", fn__law_made), ("_law_pieces", fn__law_pieces), ("_law_equal", fn__law_equal), ("_law_group", fn__law_group), ("_law_place", fn__law_place), ("_law_due", fn__law_due), ("_law_some_pass", fn__law_some_pass), ("law", fn_law)]
def gs : List (String × D) := [("SHORTER", .int 0), ("EQUAL", .int 1), ("LONGER", .int 2)]
abbrev pg : Pg := pgOf fns gs 0
end K15
namespace Pu
open PySem
theorem bnd_ok {α β : Type} (a : α) (σ : PSt) (k : α → PSt → R β) : (R.ok a σ).bind k = k a σ := rfl
theorem bnd_bad {α β : Type} (k : α → PSt → R β) : (R.bad : R α).bind k = .bad := rfl
theorem bnd_exc {α β : Type} (c : Nat) (fs : List D) (σ : PSt) (k : α → PSt → R β) : (R.exc c fs σ : R α).bind k = .exc c fs σ := rfl
theorem opt_some {α β : Type} (a : α) (k : α → R β) : R.opt (some a) k = k a := rfl
theorem opt_none {α β : Type} (k : α → R β) : R.opt (none : Option α) k = .bad := rfl
theorem nox_of {α : Type} (a : α) (σ : PSt) : (R.ok a σ).nox = .ok a σ := rfl
theorem bnd_assoc {α β γ : Type} (r : R α) (k : α → PSt → R β) (k' : β → PSt → R γ) : (r.bind k).bind k' = r.bind fun a σ => (k a σ).bind k' := by cases r <;> rfl
theorem mulB_r (i : Int) {j : Int} (h1 : -(2 ^ 64) < j) (h2 : j < 2 ^ 64) : mulB i j = true := by
  unfold mulB
  rw [decide_eq_true h1, decide_eq_true h2]; simp
theorem mulB_l {i : Int} (j : Int) (h1 : -(2 ^ 64) < i) (h2 : i < 2 ^ 64) : mulB i j = true := by
  unfold mulB
  rw [decide_eq_true h1, decide_eq_true h2]; simp
theorem mul_ok {i j : Int} (h : mulB i j = true) : semBin .mul (.int i) (.int j) = some (false, .int (i * j)) := by
  show (if mulB i j then some (false, D.int (i * j)) else none) = _
  rw [if_pos h]
theorem mod_ok {i j : Int} (h : 0 < j) : semBin .mod (.int i) (.int j) = some (false, .int (i % j)) := by
  show (if decide (0 < j) then some (false, D.int (i % j)) else none) = _
  rw [if_pos (by simpa using h)]
theorem fdv_ok {i j : Int} (h : divB j = true) : semBin .fdv (.int i) (.int j) = some (false, .int (i / j)) := by
  show (if divB j then some (false, D.int (i / j)) else none) = _
  rw [if_pos h]
theorem add_ok {i j : Int} : semBin .add (.int i) (.int j) = some (false, .int (i + j)) := rfl
theorem sub_ok {i j : Int} : semBin .sub (.int i) (.int j) = some (false, .int (i - j)) := rfl
def fr (o : Option D) : Option (Md × D) := o.map fun d => (.val, d)
@[simp] theorem fr_some {d : D} : fr (some d) = some (.val, d) := id rfl
@[simp] theorem fr_none : fr none = none := id rfl
def isChgS : Option (Md × D) → Bool
  | some (.chg, _) => true
  | _ => false
theorem isChgS_fr (o : Option D) : isChgS (fr o) = false := by cases o <;> rfl
theorem setVal_alt (σ : PSt) (i : Nat) (f : Bool) (d : D) : setVal σ i f d = match σ[i]? with
    | some x => if isChgS x then none else some (σ.set i (some (if f then .own else .val, d)))
    | none => none := by
  unfold setVal
  cases h : σ[i]? with
  | none => rfl
  | some x =>
    cases x with
    | none => rfl
    | some p =>
      obtain ⟨m, d'⟩ := p
      cases m <;> rfl
theorem forL_run {bd : D → PSt → Option PSt} {body : PSt → R Fl} (I : Nat → PSt → Prop) (ds : List D) (k0 : Nat)
    (h : ∀ k d σ, ds[k]? = some d → I (k0 + k) σ → ∃ σ1 f σ2, bd d σ = some σ1 ∧ body σ1 = .ok f σ2 ∧ ((f = .next ∨ f = .cont) ∧ I (k0 + k + 1) σ2)) : ∀ σ, I k0 σ → ∃ σ', forL bd body ds σ = .ok .next σ' ∧ I (k0 + ds.length) σ' := by
  induction ds generalizing k0 with
  | nil => exact fun σ hI => ⟨σ, rfl, hI⟩
  | cons d ds ih =>
    intro σ hI
    obtain ⟨σ1, f, σ2, h1, h2, h3, h4⟩ := h 0 d σ rfl hI
    obtain ⟨σ', e1, e2⟩ := ih (k0 + 1) (fun k d' σ hk hI => by
      have := h (k + 1) d' σ (by simpa using hk) (by rwa [show k0 + (k + 1) = k0 + 1 + k by omega])
      rwa [show k0 + (k + 1) = k0 + 1 + k by omega] at this) σ2 h4
    refine ⟨σ', ?_, by rw [List.length_cons, show k0 + (ds.length + 1) = k0 + 1 + ds.length by omega]; exact e2⟩
    show (R.opt (bd d σ) fun σ1 => (body σ1).bind fun f σ2 => match f with
      | .next => forL bd body ds σ2
      | .cont => forL bd body ds σ2
      | .brk => .ok .next σ2
      | .ret f d => .ok (.ret f d) σ2) = _
    rw [h1, opt_some, h2, bnd_ok]
    rcases h3 with rfl | rfl <;> exact e1
theorem forL_brk {bd : D → PSt → Option PSt} {body : PSt → R Fl} (I : PSt → Prop) (ds : List D)
    (h : ∀ d σ, d ∈ ds → I σ → ∃ σ1 f σ2, bd d σ = some σ1 ∧ body σ1 = .ok f σ2 ∧ ((f = .next ∨ f = .cont ∨ f = .brk) ∧ I σ2)) : ∀ σ, I σ → ∃ σ', forL bd body ds σ = .ok .next σ' ∧ I σ' := by
  induction ds with
  | nil => exact fun σ hI => ⟨σ, rfl, hI⟩
  | cons d ds ih =>
    intro σ hI
    obtain ⟨σ1, f, σ2, h1, h2, h3, h4⟩ := h d σ (.head _) hI
    obtain ⟨σ', e1, e2⟩ := ih (fun d' σ hd => h d' σ (.tail _ hd)) σ2 h4
    have e0 : forL bd body (d :: ds) σ = (R.opt (bd d σ) fun σ1 => (body σ1).bind fun f σ2 => match f with
      | .next => forL bd body ds σ2
      | .cont => forL bd body ds σ2
      | .brk => .ok .next σ2
      | .ret f d => .ok (.ret f d) σ2) := rfl
    rw [e0, h1, opt_some, h2, bnd_ok]
    rcases h3 with rfl | rfl | rfl
    · exact ⟨σ', e1, e2⟩
    · exact ⟨σ', e1, e2⟩
    · exact ⟨σ2, rfl, h4⟩
theorem ixD_nat {n k : Nat} (h : k < n) : ixD n (k : Int) = some k := by
  unfold ixD
  rw [if_pos (by omega), if_pos (by omega)]; rfl
theorem ixD_int {n : Nat} {i : Int} (h0 : 0 ≤ i) (h : i < n) : ixD n i = some i.toNat := by
  unfold ixD
  rw [if_pos h0, if_pos h]
def callK (r : FR) (k : List D → Option PSt) : R (Bool × D) := match r with
  | .ok fr d rs => R.opt (k rs) fun σ2 => .ok (fr, d) σ2
  | .exc c fs rs => R.opt (k rs) fun σ2 => .exc c fs σ2
  | .bad => .bad
@[simp] theorem callK_ok {f : Bool} {d : D} {rs : List D} {k : List D → Option PSt} : callK (.ok f d rs) k = R.opt (k rs) fun σ2 => .ok (f, d) σ2 := id rfl
def andK (d : D) (r : R (Bool × D)) (σ : PSt) : R (Bool × D) := match d with
  | .bl c => if c then r else .ok (false, .bl false) σ
  | _ => .bad
@[simp] theorem andK_bl {c : Bool} {r : R (Bool × D)} {σ : PSt} : andK (.bl c) r σ = if c then r else .ok (false, .bl false) σ := id rfl
def orK (d : D) (r : R (Bool × D)) (σ : PSt) : R (Bool × D) := match d with
  | .bl c => if c then .ok (false, .bl true) σ else r
  | _ => .bad
@[simp] theorem orK_bl {c : Bool} {r : R (Bool × D)} {σ : PSt} : orK (.bl c) r σ = if c then .ok (false, .bl true) σ else r := id rfl
def notK (d : D) (σ : PSt) : R (Bool × D) := match d with
  | .bl c => .ok (false, .bl (!c)) σ
  | _ => .bad
@[simp] theorem notK_bl {c : Bool} {σ : PSt} : notK (.bl c) σ = .ok (false, .bl (!c)) σ := id rfl
def intK (d : D) (σ : PSt) : R (Option Int) := match d with
  | .int i => .ok (some i) σ
  | _ => .bad
@[simp] theorem intK_int {i : Int} {σ : PSt} : intK (.int i) σ = .ok (some i) σ := id rfl
def rngK (d : D) (σ : PSt) : R (List D) := match d with
  | .int n => if rngB n then .ok (rangeD 0 n.toNat) σ else .bad
  | _ => .bad
@[simp] theorem rngK_int {n : Int} {σ : PSt} : rngK (.int n) σ = if rngB n then .ok (rangeD 0 n.toNat) σ else .bad := id rfl
def rngK2 (a b : D) (σ : PSt) : R (List D) := match a, b with
  | .int i, .int j => if rngB i && rngB j then .ok (rangeD i (j - i).toNat) σ else .bad
  | _, _ => .bad
@[simp] theorem rngK2_int {i j : Int} {σ : PSt} : rngK2 (.int i) (.int j) σ = if rngB i && rngB j then .ok (rangeD i (j - i).toNat) σ else .bad := id rfl
def augK (g : Int → Int → Int) (i : Nat) (a b : D) (σ : PSt) : R Fl := match a, b with
  | .int x, .int y => R.opt (setVal σ i false (.int (g x y))) fun σ2 => .ok .next σ2
  | _, _ => .bad
@[simp] theorem augK_int {g : Int → Int → Int} {i : Nat} {x y : Int} {σ : PSt} : augK g i (.int x) (.int y) σ = R.opt (setVal σ i false (.int (g x y))) fun σ2 => .ok .next σ2 := id rfl
def retK (V : Ev) (i : Nat) (x : Option (Option (Md × D))) (σ : PSt) : R Fl := match x with
  | some (some (.own, d)) => .ok (.ret true d) (σ.set i none)
  | _ => (ev V (.var i) σ).bind fun x σ1 => .ok (.ret x.1 x.2) σ1
@[simp] theorem retK_own {V : Ev} {i : Nat} {d : D} {σ : PSt} : retK V i (some (some (.own, d))) σ = .ok (.ret true d) (σ.set i none) := id rfl
@[simp] theorem retK_val {V : Ev} {i : Nat} {d : D} {σ : PSt} : retK V i (some (some (.val, d))) σ = (ev V (.var i) σ).bind fun x σ1 => .ok (.ret x.1 x.2) σ1 := id rfl
@[simp] theorem retK_bor {V : Ev} {i : Nat} {d : D} {σ : PSt} : retK V i (some (some (.bor, d))) σ = (ev V (.var i) σ).bind fun x σ1 => .ok (.ret x.1 x.2) σ1 := id rfl
def seqK (f : Fl) (r : R Fl) (σ : PSt) : R Fl := match f with
  | .next => r
  | f => .ok f σ
@[simp] theorem seqK_next {r : R Fl} {σ : PSt} : seqK .next r σ = r := id rfl
@[simp] theorem seqK_brk {r : R Fl} {σ : PSt} : seqK .brk r σ = .ok .brk σ := id rfl
@[simp] theorem seqK_cont {r : R Fl} {σ : PSt} : seqK .cont r σ = .ok .cont σ := id rfl
@[simp] theorem seqK_ret {f : Bool} {d : D} {r : R Fl} {σ : PSt} : seqK (.ret f d) r σ = .ok (.ret f d) σ := id rfl
def compK (V : Ev) (i : Nat) (t : Ot) (e : Xp) (ds : List D) (σ : PSt) : R (List D) := compL i (fun σ => (evOT V t σ).nox) (fun σ => (ev V e σ).nox.bind fun x σ => .ok x.2 σ) ds σ
@[simp] theorem bnd_okS {α β : Type} (a : α) (σ : PSt) (k : α → PSt → R β) : (R.ok a σ).bind k = k a σ := id rfl
@[simp] theorem opt_someS {α β : Type} (a : α) (k : α → R β) : R.opt (some a) k = k a := id rfl
@[simp] theorem get_tmp {σ : PSt} {d : D} : (Ag.tmp d).get σ = some d := id rfl
@[simp] theorem get_slot {σ : PSt} {i : Nat} : (Ag.slot i).get σ = slotD σ i := id rfl
@[simp] theorem gets_nil {σ : PSt} : Ag.gets σ [] = some [] := id rfl
def consO (a : Option D) (b : Option (List D)) : Option (List D) := match a, b with
  | some d, some ds => some (d :: ds)
  | _, _ => none
@[simp] theorem consO_some {d : D} {ds : List D} : consO (some d) (some ds) = some (d :: ds) := id rfl
@[simp] theorem gets_cons {σ : PSt} {a : Ag} {as : List Ag} : Ag.gets σ (a :: as) = consO (a.get σ) (Ag.gets σ as) := id rfl
def slK : Option (Option (Md × D)) → Option D
  | some (some (_, d)) => some d
  | _ => none
@[simp] theorem slK_some {m : Md} {d : D} : slK (some (some (m, d))) = some d := id rfl
@[simp] theorem slotD_c {σ : PSt} {i : Nat} : slotD σ i = slK σ[i]? := id rfl
def rdK (σ : PSt) (i : Nat) (x : Option (Option (Md × D))) : R D := match x with
  | some (some (.val, d)) => .ok d σ
  | some (some (.own, d)) => .ok d (σ.set i (some (.val, d)))
  | some (some (.bor, d)) => if isColl d then .bad else .ok d σ
  | _ => .bad
@[simp] theorem rdVal_c {σ : PSt} {i : Nat} : rdVal σ i = rdK σ i σ[i]? := by unfold rdVal rdK; rfl
@[simp] theorem rdK_val {σ : PSt} {i : Nat} {d : D} : rdK σ i (some (some (.val, d))) = .ok d σ := id rfl
@[simp] theorem rdK_own {σ : PSt} {i : Nat} {d : D} : rdK σ i (some (some (.own, d))) = .ok d (σ.set i (some (.val, d))) := id rfl
@[simp] theorem rdK_bor {σ : PSt} {i : Nat} {d : D} : rdK σ i (some (some (.bor, d))) = if isColl d then .bad else .ok d σ := id rfl
def ownK : Option (Option (Md × D)) → Option D
  | some (some (.own, d)) => some d
  | some (some (.chg, d)) => some d
  | _ => none
@[simp] theorem ownD_c {σ : PSt} {i : Nat} : ownD σ i = ownK σ[i]? := by unfold ownD ownK; rfl
@[simp] theorem ownK_own {d : D} : ownK (some (some (.own, d))) = some d := id rfl
@[simp] theorem ownK_chg {d : D} : ownK (some (some (.chg, d))) = some d := id rfl
def putK (σ : PSt) (i : Nat) (d : D) (x : Option (Option (Md × D))) : Option PSt := match x with
  | some (some (.own, _)) => some (σ.set i (some (.own, d)))
  | some (some (.chg, _)) => some (σ.set i (some (.chg, d)))
  | _ => none
@[simp] theorem putOwn_c {σ : PSt} {i : Nat} {d : D} : putOwn σ i d = putK σ i d σ[i]? := by unfold putOwn putK; rfl
@[simp] theorem putK_own {σ : PSt} {i : Nat} {d d0 : D} : putK σ i d (some (some (.own, d0))) = some (σ.set i (some (.own, d))) := id rfl
@[simp] theorem putK_chg {σ : PSt} {i : Nat} {d d0 : D} : putK σ i d (some (some (.chg, d0))) = some (σ.set i (some (.chg, d))) := id rfl
def setK (σ : PSt) (i : Nat) (f : Bool) (d : D) (x : Option (Option (Md × D))) : Option PSt := match x with
  | some x => if isChgS x then none else some (σ.set i (some (if f then .own else .val, d)))
  | none => none
@[simp] theorem setVal_c {σ : PSt} {i : Nat} {f : Bool} {d : D} : setVal σ i f d = setK σ i f d σ[i]? := setVal_alt σ i f d
@[simp] theorem setK_some {σ : PSt} {i : Nat} {f : Bool} {d : D} {x : Option (Md × D)} : setK σ i f d (some x) = if isChgS x then none else some (σ.set i (some (if f then .own else .val, d))) := id rfl
@[simp] theorem isChgS_none : isChgS none = false := id rfl
@[simp] theorem isChgS_val {d : D} : isChgS (some (.val, d)) = false := id rfl
@[simp] theorem isChgS_own {d : D} : isChgS (some (.own, d)) = false := id rfl
@[simp] theorem isChgS_bor {d : D} : isChgS (some (.bor, d)) = false := id rfl
@[simp] theorem isChgS_frS {o : Option D} : isChgS (fr o) = false := isChgS_fr o
@[simp] theorem bindT_slot {i : Nat} {d : D} {σ : PSt} : bindT (.slot i) d σ = setVal σ i false d := id rfl
def rsK (σ : PSt) (i : Nat) (x : Option (Option (Md × D))) : Option PSt := match x with
  | some none => some (σ.set i none)
  | some (some (.val, d)) => some (σ.set i (some (.val, d)))
  | _ => none
@[simp] theorem resetSlot_c {σ0 σ : PSt} {i : Nat} : resetSlot σ0 σ i = rsK σ i σ0[i]? := by unfold resetSlot rsK; rfl
@[simp] theorem rsK_none {σ : PSt} {i : Nat} : rsK σ i (some none) = some (σ.set i none) := id rfl
@[simp] theorem rsK_val {σ : PSt} {i : Nat} {d : D} : rsK σ i (some (some (.val, d))) = some (σ.set i (some (.val, d))) := id rfl
@[simp] theorem rsK_fr {σ : PSt} {i : Nat} {o : Option D} : rsK σ i (some (fr o)) = some (σ.set i (fr o)) := by cases o <;> rfl
@[simp] theorem c_var {V : Ev} {σ : PSt} {i : Nat} : ev V (.var i) σ = (rdVal σ i).bind fun d σ => .ok (false, d) σ := id rfl
@[simp] theorem c_int {V : Ev} {σ : PSt} {i : Int} : ev V (.int i) σ = .ok (false, .int i) σ := id rfl
@[simp] theorem c_str {V : Ev} {σ : PSt} {l : List Nat} : ev V (.str l) σ = .ok (false, .str l) σ := id rfl
@[simp] theorem c_bl {V : Ev} {σ : PSt} {b : Bool} : ev V (.bl b) σ = .ok (false, .bl b) σ := id rfl
@[simp] theorem c_non {V : Ev} {σ : PSt} : ev V .non σ = .ok (false, .non) σ := id rfl
@[simp] theorem c_ty {V : Ev} {σ : PSt} {n : String} : ev V (.ty n) σ = .ok (false, .ty n) σ := id rfl
@[simp] theorem c_glob {V : Ev} {σ : PSt} {x : String} : ev V (.glob x) σ = R.opt (V.glob x) fun d => .ok (false, d) σ := id rfl
@[simp] theorem c_bin {V : Ev} {σ : PSt} {o : BinO} {a b : Xp} : ev V (.bin o a b) σ = (toB a (ev V a) σ).bind fun x σ1 => (toB b (ev V b) σ1).bind fun y σ2 => R.opt (x.get σ2) fun d1 => R.opt (y.get σ2) fun d2 => R.opt (semBin o d1 d2) fun r => .ok r σ2 := id rfl
@[simp] theorem c_cmp {V : Ev} {σ : PSt} {o : CmpO} {a b : Xp} : ev V (.cmp o a b) σ = (toB a (ev V a) σ).bind fun x σ1 => (toB b (ev V b) σ1).bind fun y σ2 => R.opt (x.get σ2) fun d1 => R.opt (y.get σ2) fun d2 => R.opt (semCmp o d1 d2) fun r => .ok (false, .bl r) σ2 := id rfl
@[simp] theorem c_chain {V : Ev} {σ : PSt} {o o' : CmpO} {a b c : Xp} : ev V (.chain o o' a b c) σ = (toB a (ev V a) σ).bind fun x σ1 => (toB b (ev V b) σ1).bind fun y σ2 => R.opt (x.get σ2) fun d1 => R.opt (y.get σ2) fun d2 => R.opt (semCmp o d1 d2) fun r => if r then (toB c (ev V c) σ2).bind fun z σ3 => R.opt (y.get σ3) fun d2 => R.opt (z.get σ3) fun d3 => R.opt (semCmp o' d2 d3) fun r => .ok (false, .bl r) σ3 else .ok (false, .bl false) σ2 := id rfl
@[simp] theorem c_neg {V : Ev} {σ : PSt} {i : Int} : ev V (.neg (.int i)) σ = .ok (false, .int (-i)) σ := id rfl
@[simp] theorem c_idx {V : Ev} {σ : PSt} {a b : Xp} : ev V (.idx a b) σ = (toB a (ev V a) σ).bind fun x σ1 => (toB b (ev V b) σ1).bind fun y σ2 => R.opt (x.get σ2) fun d1 => R.opt (y.get σ2) fun d2 => R.opt (semIdx d1 d2) fun r => .ok (false, r) σ2 := id rfl
@[simp] theorem c_slc {V : Ev} {σ : PSt} {a : Xp} {lo hi : Ox} : ev V (.slc a lo hi) σ = (toB a (ev V a) σ).bind fun x σ1 => (evO V lo σ1).bind fun l σ2 => (evO V hi σ2).bind fun h σ3 => R.opt (x.get σ3) fun d => R.opt (semSlc d l h) fun r => .ok r σ3 := id rfl
@[simp] theorem c_rev {V : Ev} {σ : PSt} {a : Xp} : ev V (.rev a) σ = (toB a (ev V a) σ).bind fun x σ1 => R.opt (x.get σ1) fun d => R.opt (semRev d) fun r => .ok r σ1 := id rfl
@[simp] theorem c_tup {V : Ev} {σ : PSt} {es : Xs} : ev V (.tup es) σ = (evs V es σ).bind fun ds σ1 => if szB ds.length then .ok (false, .tup ds) σ1 else .bad := id rfl
@[simp] theorem c_lst {V : Ev} {σ : PSt} {es : Xs} : ev V (.lst es) σ = (evs V es σ).bind fun ds σ1 => if szB ds.length then .ok (true, .lst ds) σ1 else .bad := id rfl
@[simp] theorem c_bi {V : Ev} {σ : PSt} {b : Bi} {es : Xs} : ev V (.bi b es) σ = (evBs V es σ).bind fun as σ1 => R.opt (Ag.gets σ1 as) fun ds => R.opt (semBi b ds) fun r => .ok r σ1 := id rfl
@[simp] theorem c_me {V : Ev} {σ : PSt} {m : Me} {o : Xp} {es : Xs} : ev V (.me m o es) σ = (toB o (ev V o) σ).bind fun x σ1 => R.opt (x.get σ1) fun d0 => if isStrD d0 then (evBs V es σ1).bind fun as σ2 => R.opt (x.get σ2) fun d => R.opt (Ag.gets σ2 as) fun ds => R.opt (semMe m d ds) fun r => .ok r σ2 else .bad := id rfl
@[simp] theorem c_mu {V : Ev} {σ : PSt} {m : Mu} {i : Nat} {es : Xs} : ev V (.mu m i es) σ = R.opt (ownD σ i) fun _ => (evs V es σ).bind fun ds σ1 => R.opt (ownD σ1 i) fun d => R.opt (semMu m d ds) fun r => R.opt (putOwn σ1 i r.1) fun σ2 => .ok (false, r.2) σ2 := id rfl
@[simp] theorem c_call {V : Ev} {σ : PSt} {f : String} {es : Xs} : ev V (.call f es) σ = R.opt (V.sig f) fun ms => (evAs V ms es σ).bind fun as σ1 => if argsOk σ1 ms as then R.opt (Ag.gets σ1 as) fun ds => callK (V.call f ds) fun rs => putMs σ1 ms as rs else .bad := id rfl
@[simp] theorem c_and {V : Ev} {σ : PSt} {a b : Xp} : ev V (.and a b) σ = (ev V a σ).bind fun x σ1 => andK x.2 (ev V b σ1) σ1 := id rfl
@[simp] theorem c_or {V : Ev} {σ : PSt} {a b : Xp} : ev V (.or a b) σ = (ev V a σ).bind fun x σ1 => orK x.2 (ev V b σ1) σ1 := id rfl
@[simp] theorem c_not {V : Ev} {σ : PSt} {a : Xp} : ev V (.not a) σ = (ev V a σ).bind fun x σ1 => notK x.2 σ1 := id rfl
@[simp] theorem c_cond {V : Ev} {σ : PSt} {c : Tp} {a b : Xp} : ev V (.cond c a b) σ = (evT V c σ).bind fun x σ1 => if x then ev V a σ1 else ev V b σ1 := id rfl
@[simp] theorem c_comp {V : Ev} {σ : PSt} {i : Nat} {it : Ix} {t : Ot} {e : Xp} : ev V (.comp i it t e) σ = (evI V it σ).bind fun ds σ1 => (compK V i t e ds (σ1.set i none)).bind fun xs σ2 => if seqB xs.length then R.opt (resetSlot σ1 σ2 i) fun σ3 => .ok (true, .lst xs) σ3 else .bad := id rfl
@[simp] theorem c_tand {V : Ev} {σ : PSt} {a b : Tp} : evT V (.and a b) σ = (evT V a σ).bind fun c σ1 => if c then evT V b σ1 else .ok false σ1 := id rfl
@[simp] theorem c_tor {V : Ev} {σ : PSt} {a b : Tp} : evT V (.or a b) σ = (evT V a σ).bind fun c σ1 => if c then .ok true σ1 else evT V b σ1 := id rfl
@[simp] theorem c_tnot {V : Ev} {σ : PSt} {a : Tp} : evT V (.not a) σ = (evT V a σ).bind fun c σ1 => .ok (!c) σ1 := id rfl
@[simp] theorem c_tv {V : Ev} {σ : PSt} {e : Xp} : evT V (.v e) σ = (toB e (ev V e) σ).bind fun x σ1 => R.opt (x.get σ1) fun d => R.opt (truthD d) fun b => .ok b σ1 := id rfl
@[simp] theorem c_evs0 {V : Ev} {σ : PSt} : evs V .nil σ = .ok [] σ := id rfl
@[simp] theorem c_evs1 {V : Ev} {σ : PSt} {e : Xp} {es : Xs} : evs V (.cons e es) σ = (ev V e σ).bind fun x σ1 => (evs V es σ1).bind fun xs σ2 => .ok (x.2 :: xs) σ2 := id rfl
@[simp] theorem c_evb0 {V : Ev} {σ : PSt} : evBs V .nil σ = .ok [] σ := id rfl
@[simp] theorem c_evb1 {V : Ev} {σ : PSt} {e : Xp} {es : Xs} : evBs V (.cons e es) σ = (toB e (ev V e) σ).bind fun x σ1 => (evBs V es σ1).bind fun xs σ2 => .ok (x :: xs) σ2 := id rfl
@[simp] theorem c_eva0 {V : Ev} {σ : PSt} : evAs V [] .nil σ = .ok [] σ := id rfl
@[simp] theorem c_evav {V : Ev} {σ : PSt} {ms : List Md} {e : Xp} {es : Xs} : evAs V (.val :: ms) (.cons e es) σ = ((ev V e σ).bind fun x σ1 => .ok (Ag.tmp x.2) σ1).bind fun x σ1 => (evAs V ms es σ1).bind fun xs σ2 => .ok (x :: xs) σ2 := id rfl
@[simp] theorem c_evac {V : Ev} {σ : PSt} {ms : List Md} {i : Nat} {es : Xs} : evAs V (.chg :: ms) (.cons (.var i) es) σ = (R.opt (ownD σ i) fun _ => .ok (Ag.slot i) σ).bind fun x σ1 => (evAs V ms es σ1).bind fun xs σ2 => .ok (x :: xs) σ2 := id rfl
@[simp] theorem c_evab {V : Ev} {σ : PSt} {ms : List Md} {e : Xp} {es : Xs} : evAs V (.bor :: ms) (.cons e es) σ = (toB e (ev V e) σ).bind fun x σ1 => (evAs V ms es σ1).bind fun xs σ2 => .ok (x :: xs) σ2 := id rfl
@[simp] theorem c_evo0 {V : Ev} {σ : PSt} : evO V .no σ = .ok none σ := id rfl
@[simp] theorem c_evo1 {V : Ev} {σ : PSt} {e : Xp} : evO V (.so e) σ = (ev V e σ).bind fun x σ1 => intK x.2 σ1 := id rfl
@[simp] theorem c_evot0 {V : Ev} {σ : PSt} : evOT V .no σ = .ok true σ := id rfl
@[simp] theorem c_evot1 {V : Ev} {σ : PSt} {t : Tp} : evOT V (.so t) σ = evT V t σ := id rfl
@[simp] theorem c_evi0 {V : Ev} {σ : PSt} {e : Xp} : evI V (.of e) σ = (toI e (ev V e) σ).bind fun x σ1 => R.opt (itemsD x) fun ds => .ok ds σ1 := id rfl
@[simp] theorem c_evi1 {V : Ev} {σ : PSt} {a : Xp} : evI V (.rng1 a) σ = (ev V a σ).bind fun x σ1 => rngK x.2 σ1 := id rfl
@[simp] theorem c_evi2 {V : Ev} {σ : PSt} {a b : Xp} : evI V (.rng2 a b) σ = (ev V a σ).bind fun x σ1 => (ev V b σ1).bind fun y σ2 => rngK2 x.2 y.2 σ2 := id rfl
@[simp] theorem c_expr {V : Ev} {σ : PSt} {e : Xp} : ex V (.expr e) σ = (ev V e σ).bind fun _ σ1 => .ok .next σ1 := id rfl
@[simp] theorem c_asg {V : Ev} {σ : PSt} {i : Nat} {e : Xp} : ex V (.asg i e) σ = (ev V e σ).bind fun x σ1 => R.opt (setVal σ1 i x.1 x.2) fun σ2 => .ok .next σ2 := id rfl
@[simp] theorem c_par {V : Ev} {σ : PSt} {i j : Nat} {a b : Xp} : ex V (.par i j a b) σ = (ev V a σ).bind fun x σ1 => (ev V b σ1).bind fun y σ2 => R.opt (setVal σ2 i false x.2) fun σ3 => R.opt (setVal σ3 j false y.2) fun σ4 => .ok .next σ4 := id rfl
@[simp] theorem c_unp {V : Ev} {σ : PSt} {t : Tg} {e : Xp} : ex V (.unp t e) σ = (ev V e σ).bind fun x σ1 => R.opt (bindT t x.2 σ1) fun σ2 => .ok .next σ2 := id rfl
@[simp] theorem c_setI {V : Ev} {σ : PSt} {i : Nat} {k e : Xp} : ex V (.setI i k e) σ = (ev V e σ).bind fun x σ1 => R.opt (ownD σ1 i) fun _ => (ev V k σ1).bind fun y σ2 => R.opt (ownD σ2 i) fun d => R.opt (semSet d y.2 x.2) fun d' => R.opt (putOwn σ2 i d') fun σ3 => .ok .next σ3 := id rfl
@[simp] theorem c_augA {V : Ev} {σ : PSt} {i : Nat} {e : Xp} : ex V (.aug i .add e) σ = R.opt (slotD σ i) fun d => (ev V e σ).bind fun x σ1 => augK (· + ·) i d x.2 σ1 := by
  unfold ex
  congr 1; funext d; congr 1; funext x σ1
  cases d <;> first | rfl | (cases x.2 <;> rfl)
@[simp] theorem c_augS {V : Ev} {σ : PSt} {i : Nat} {e : Xp} : ex V (.aug i .sub e) σ = R.opt (slotD σ i) fun d => (ev V e σ).bind fun x σ1 => augK (· - ·) i d x.2 σ1 := by
  unfold ex
  congr 1; funext d; congr 1; funext x σ1
  cases d <;> first | rfl | (cases x.2 <;> rfl)
@[simp] theorem c_retv {V : Ev} {σ : PSt} {i : Nat} : ex V (.ret (.var i)) σ = retK V i σ[i]? σ := id rfl
@[simp] theorem c_retN {V : Ev} {σ : PSt} : ex V .retN σ = .ok (.ret false .non) σ := id rfl
@[simp] theorem c_iff {V : Ev} {σ : PSt} {c : Tp} {a b : Ss} : ex V (.iff c a b) σ = (evT V c σ).bind fun x σ1 => if x then exs V a σ1 else exs V b σ1 := id rfl
@[simp] theorem c_for {V : Ev} {σ : PSt} {t : Tg} {it : Ix} {b : Ss} : ex V (.for t it b) σ = (evI V it σ).bind fun ds σ1 => forL (bindT t) (exs V b) ds σ1 := id rfl
@[simp] theorem c_while {V : Ev} {σ : PSt} {c : Tp} {b : Ss} : ex V (.while c b) σ = whileL (evT V c) (exs V b) V.wf σ := id rfl
@[simp] theorem c_brk {V : Ev} {σ : PSt} : ex V .brk σ = .ok .brk σ := id rfl
@[simp] theorem c_cont {V : Ev} {σ : PSt} : ex V .cont σ = .ok .cont σ := id rfl
@[simp] theorem c_pass {V : Ev} {σ : PSt} : ex V .pass σ = .ok .next σ := id rfl
@[simp] theorem c_exs0 {V : Ev} {σ : PSt} : exs V .nil σ = .ok .next σ := id rfl
@[simp] theorem c_exs1 {V : Ev} {σ : PSt} {s : Sm} {ss : Ss} : exs V (.cons s ss) σ = (ex V s σ).bind fun f σ1 => seqK f (exs V ss σ1) σ1 := id rfl
@[simp] theorem tb_int {r : PSt → R (Bool × D)} {i : Int} : toB (.int i) r = fun σ => (r σ).bind fun x σ1 => .ok (.tmp x.2) σ1 := id rfl
@[simp] theorem tb_str {r : PSt → R (Bool × D)} {l : List Nat} : toB (.str l) r = fun σ => (r σ).bind fun x σ1 => .ok (.tmp x.2) σ1 := id rfl
@[simp] theorem tb_bl {r : PSt → R (Bool × D)} {b : Bool} : toB (.bl b) r = fun σ => (r σ).bind fun x σ1 => .ok (.tmp x.2) σ1 := id rfl
@[simp] theorem tb_glob {r : PSt → R (Bool × D)} {x : String} : toB (.glob x) r = fun σ => (r σ).bind fun x σ1 => .ok (.tmp x.2) σ1 := id rfl
@[simp] theorem tb_ty {r : PSt → R (Bool × D)} {n : String} : toB (.ty n) r = fun σ => (r σ).bind fun x σ1 => .ok (.tmp x.2) σ1 := id rfl
@[simp] theorem tb_bin {r : PSt → R (Bool × D)} {o : BinO} {a : Xp} {b : Xp} : toB (.bin o a b) r = fun σ => (r σ).bind fun x σ1 => .ok (.tmp x.2) σ1 := id rfl
@[simp] theorem ti_bin {r : PSt → R (Bool × D)} {o : BinO} {a : Xp} {b : Xp} : toI (.bin o a b) r = fun σ => (r σ).bind fun x σ1 => .ok x.2 σ1 := id rfl
@[simp] theorem rr_bin {V : Ev} {σ : PSt} {o : BinO} {a : Xp} {b : Xp} : ex V (.ret (.bin o a b)) σ = (ev V (.bin o a b) σ).bind fun x σ1 => .ok (.ret x.1 x.2) σ1 := id rfl
@[simp] theorem tb_cmp {r : PSt → R (Bool × D)} {o : CmpO} {a : Xp} {b : Xp} : toB (.cmp o a b) r = fun σ => (r σ).bind fun x σ1 => .ok (.tmp x.2) σ1 := id rfl
@[simp] theorem ti_cmp {r : PSt → R (Bool × D)} {o : CmpO} {a : Xp} {b : Xp} : toI (.cmp o a b) r = fun σ => (r σ).bind fun x σ1 => .ok x.2 σ1 := id rfl
@[simp] theorem rr_cmp {V : Ev} {σ : PSt} {o : CmpO} {a : Xp} {b : Xp} : ex V (.ret (.cmp o a b)) σ = (ev V (.cmp o a b) σ).bind fun x σ1 => .ok (.ret x.1 x.2) σ1 := id rfl
@[simp] theorem tb_chain {r : PSt → R (Bool × D)} {o : CmpO} {o' : CmpO} {a : Xp} {b : Xp} {c : Xp} : toB (.chain o o' a b c) r = fun σ => (r σ).bind fun x σ1 => .ok (.tmp x.2) σ1 := id rfl
@[simp] theorem ti_chain {r : PSt → R (Bool × D)} {o : CmpO} {o' : CmpO} {a : Xp} {b : Xp} {c : Xp} : toI (.chain o o' a b c) r = fun σ => (r σ).bind fun x σ1 => .ok x.2 σ1 := id rfl
@[simp] theorem tb_neg {r : PSt → R (Bool × D)} {a : Xp} : toB (.neg a) r = fun σ => (r σ).bind fun x σ1 => .ok (.tmp x.2) σ1 := id rfl
@[simp] theorem ti_neg {r : PSt → R (Bool × D)} {a : Xp} : toI (.neg a) r = fun σ => (r σ).bind fun x σ1 => .ok x.2 σ1 := id rfl
@[simp] theorem rr_neg {V : Ev} {σ : PSt} {a : Xp} : ex V (.ret (.neg a)) σ = (ev V (.neg a) σ).bind fun x σ1 => .ok (.ret x.1 x.2) σ1 := id rfl
@[simp] theorem tb_idx {r : PSt → R (Bool × D)} {a : Xp} {b : Xp} : toB (.idx a b) r = fun σ => (r σ).bind fun x σ1 => .ok (.tmp x.2) σ1 := id rfl
@[simp] theorem ti_idx {r : PSt → R (Bool × D)} {a : Xp} {b : Xp} : toI (.idx a b) r = fun σ => (r σ).bind fun x σ1 => .ok x.2 σ1 := id rfl
@[simp] theorem rr_idx {V : Ev} {σ : PSt} {a : Xp} {b : Xp} : ex V (.ret (.idx a b)) σ = (ev V (.idx a b) σ).bind fun x σ1 => .ok (.ret x.1 x.2) σ1 := id rfl
@[simp] theorem tb_slc {r : PSt → R (Bool × D)} {a : Xp} {lo : Ox} {hi : Ox} : toB (.slc a lo hi) r = fun σ => (r σ).bind fun x σ1 => .ok (.tmp x.2) σ1 := id rfl
@[simp] theorem ti_slc {r : PSt → R (Bool × D)} {a : Xp} {lo : Ox} {hi : Ox} : toI (.slc a lo hi) r = fun σ => (r σ).bind fun x σ1 => .ok x.2 σ1 := id rfl
@[simp] theorem rr_slc {V : Ev} {σ : PSt} {a : Xp} {lo : Ox} {hi : Ox} : ex V (.ret (.slc a lo hi)) σ = (ev V (.slc a lo hi) σ).bind fun x σ1 => .ok (.ret x.1 x.2) σ1 := id rfl
@[simp] theorem tb_rev {r : PSt → R (Bool × D)} {a : Xp} : toB (.rev a) r = fun σ => (r σ).bind fun x σ1 => .ok (.tmp x.2) σ1 := id rfl
@[simp] theorem ti_rev {r : PSt → R (Bool × D)} {a : Xp} : toI (.rev a) r = fun σ => (r σ).bind fun x σ1 => .ok x.2 σ1 := id rfl
@[simp] theorem rr_rev {V : Ev} {σ : PSt} {a : Xp} : ex V (.ret (.rev a)) σ = (ev V (.rev a) σ).bind fun x σ1 => .ok (.ret x.1 x.2) σ1 := id rfl
@[simp] theorem tb_tup {r : PSt → R (Bool × D)} {es : Xs} : toB (.tup es) r = fun σ => (r σ).bind fun x σ1 => .ok (.tmp x.2) σ1 := id rfl
@[simp] theorem ti_tup {r : PSt → R (Bool × D)} {es : Xs} : toI (.tup es) r = fun σ => (r σ).bind fun x σ1 => .ok x.2 σ1 := id rfl
@[simp] theorem rr_tup {V : Ev} {σ : PSt} {es : Xs} : ex V (.ret (.tup es)) σ = (ev V (.tup es) σ).bind fun x σ1 => .ok (.ret x.1 x.2) σ1 := id rfl
@[simp] theorem tb_lst {r : PSt → R (Bool × D)} {es : Xs} : toB (.lst es) r = fun σ => (r σ).bind fun x σ1 => .ok (.tmp x.2) σ1 := id rfl
@[simp] theorem ti_lst {r : PSt → R (Bool × D)} {es : Xs} : toI (.lst es) r = fun σ => (r σ).bind fun x σ1 => .ok x.2 σ1 := id rfl
@[simp] theorem rr_lst {V : Ev} {σ : PSt} {es : Xs} : ex V (.ret (.lst es)) σ = (ev V (.lst es) σ).bind fun x σ1 => .ok (.ret x.1 x.2) σ1 := id rfl
@[simp] theorem tb_bi {r : PSt → R (Bool × D)} {b : Bi} {es : Xs} : toB (.bi b es) r = fun σ => (r σ).bind fun x σ1 => .ok (.tmp x.2) σ1 := id rfl
@[simp] theorem ti_bi {r : PSt → R (Bool × D)} {b : Bi} {es : Xs} : toI (.bi b es) r = fun σ => (r σ).bind fun x σ1 => .ok x.2 σ1 := id rfl
@[simp] theorem rr_bi {V : Ev} {σ : PSt} {b : Bi} {es : Xs} : ex V (.ret (.bi b es)) σ = (ev V (.bi b es) σ).bind fun x σ1 => .ok (.ret x.1 x.2) σ1 := id rfl
@[simp] theorem tb_me {r : PSt → R (Bool × D)} {m : Me} {o : Xp} {es : Xs} : toB (.me m o es) r = fun σ => (r σ).bind fun x σ1 => .ok (.tmp x.2) σ1 := id rfl
@[simp] theorem ti_me {r : PSt → R (Bool × D)} {m : Me} {o : Xp} {es : Xs} : toI (.me m o es) r = fun σ => (r σ).bind fun x σ1 => .ok x.2 σ1 := id rfl
@[simp] theorem rr_me {V : Ev} {σ : PSt} {m : Me} {o : Xp} {es : Xs} : ex V (.ret (.me m o es)) σ = (ev V (.me m o es) σ).bind fun x σ1 => .ok (.ret x.1 x.2) σ1 := id rfl
@[simp] theorem tb_mu {r : PSt → R (Bool × D)} {m : Mu} {i : Nat} {es : Xs} : toB (.mu m i es) r = fun σ => (r σ).bind fun x σ1 => .ok (.tmp x.2) σ1 := id rfl
@[simp] theorem ti_mu {r : PSt → R (Bool × D)} {m : Mu} {i : Nat} {es : Xs} : toI (.mu m i es) r = fun σ => (r σ).bind fun x σ1 => .ok x.2 σ1 := id rfl
@[simp] theorem rr_mu {V : Ev} {σ : PSt} {m : Mu} {i : Nat} {es : Xs} : ex V (.ret (.mu m i es)) σ = (ev V (.mu m i es) σ).bind fun x σ1 => .ok (.ret x.1 x.2) σ1 := id rfl
@[simp] theorem tb_call {r : PSt → R (Bool × D)} {f : String} {es : Xs} : toB (.call f es) r = fun σ => (r σ).bind fun x σ1 => .ok (.tmp x.2) σ1 := id rfl
@[simp] theorem ti_call {r : PSt → R (Bool × D)} {f : String} {es : Xs} : toI (.call f es) r = fun σ => (r σ).bind fun x σ1 => .ok x.2 σ1 := id rfl
@[simp] theorem rr_call {V : Ev} {σ : PSt} {f : String} {es : Xs} : ex V (.ret (.call f es)) σ = (ev V (.call f es) σ).bind fun x σ1 => .ok (.ret x.1 x.2) σ1 := id rfl
@[simp] theorem tb_and {r : PSt → R (Bool × D)} {a : Xp} {b : Xp} : toB (.and a b) r = fun σ => (r σ).bind fun x σ1 => .ok (.tmp x.2) σ1 := id rfl
@[simp] theorem ti_and {r : PSt → R (Bool × D)} {a : Xp} {b : Xp} : toI (.and a b) r = fun σ => (r σ).bind fun x σ1 => .ok x.2 σ1 := id rfl
@[simp] theorem rr_and {V : Ev} {σ : PSt} {a : Xp} {b : Xp} : ex V (.ret (.and a b)) σ = (ev V (.and a b) σ).bind fun x σ1 => .ok (.ret x.1 x.2) σ1 := id rfl
@[simp] theorem tb_or {r : PSt → R (Bool × D)} {a : Xp} {b : Xp} : toB (.or a b) r = fun σ => (r σ).bind fun x σ1 => .ok (.tmp x.2) σ1 := id rfl
@[simp] theorem ti_or {r : PSt → R (Bool × D)} {a : Xp} {b : Xp} : toI (.or a b) r = fun σ => (r σ).bind fun x σ1 => .ok x.2 σ1 := id rfl
@[simp] theorem rr_or {V : Ev} {σ : PSt} {a : Xp} {b : Xp} : ex V (.ret (.or a b)) σ = (ev V (.or a b) σ).bind fun x σ1 => .ok (.ret x.1 x.2) σ1 := id rfl
@[simp] theorem tb_not {r : PSt → R (Bool × D)} {a : Xp} : toB (.not a) r = fun σ => (r σ).bind fun x σ1 => .ok (.tmp x.2) σ1 := id rfl
@[simp] theorem ti_not {r : PSt → R (Bool × D)} {a : Xp} : toI (.not a) r = fun σ => (r σ).bind fun x σ1 => .ok x.2 σ1 := id rfl
@[simp] theorem rr_not {V : Ev} {σ : PSt} {a : Xp} : ex V (.ret (.not a)) σ = (ev V (.not a) σ).bind fun x σ1 => .ok (.ret x.1 x.2) σ1 := id rfl
@[simp] theorem tb_cond {r : PSt → R (Bool × D)} {c : Tp} {a : Xp} {b : Xp} : toB (.cond c a b) r = fun σ => (r σ).bind fun x σ1 => .ok (.tmp x.2) σ1 := id rfl
@[simp] theorem ti_cond {r : PSt → R (Bool × D)} {c : Tp} {a : Xp} {b : Xp} : toI (.cond c a b) r = fun σ => (r σ).bind fun x σ1 => .ok x.2 σ1 := id rfl
@[simp] theorem rr_cond {V : Ev} {σ : PSt} {c : Tp} {a : Xp} {b : Xp} : ex V (.ret (.cond c a b)) σ = (ev V (.cond c a b) σ).bind fun x σ1 => .ok (.ret x.1 x.2) σ1 := id rfl
@[simp] theorem tb_comp {r : PSt → R (Bool × D)} {i : Nat} {it : Ix} {t : Ot} {e : Xp} : toB (.comp i it t e) r = fun σ => (r σ).bind fun x σ1 => .ok (.tmp x.2) σ1 := id rfl
@[simp] theorem ti_comp {r : PSt → R (Bool × D)} {i : Nat} {it : Ix} {t : Ot} {e : Xp} : toI (.comp i it t e) r = fun σ => (r σ).bind fun x σ1 => .ok x.2 σ1 := id rfl
@[simp] theorem rr_comp {V : Ev} {σ : PSt} {i : Nat} {it : Ix} {t : Ot} {e : Xp} : ex V (.ret (.comp i it t e)) σ = (ev V (.comp i it t e) σ).bind fun x σ1 => .ok (.ret x.1 x.2) σ1 := id rfl
@[simp] theorem rr_int {V : Ev} {σ : PSt} {i : Int} : ex V (.ret (.int i)) σ = (ev V (.int i) σ).bind fun x σ1 => .ok (.ret x.1 x.2) σ1 := id rfl
@[simp] theorem rr_str {V : Ev} {σ : PSt} {l : List Nat} : ex V (.ret (.str l)) σ = (ev V (.str l) σ).bind fun x σ1 => .ok (.ret x.1 x.2) σ1 := id rfl
@[simp] theorem rr_bl {V : Ev} {σ : PSt} {b : Bool} : ex V (.ret (.bl b)) σ = (ev V (.bl b) σ).bind fun x σ1 => .ok (.ret x.1 x.2) σ1 := id rfl
@[simp] theorem rr_glob {V : Ev} {σ : PSt} {x : String} : ex V (.ret (.glob x)) σ = (ev V (.glob x) σ).bind fun x σ1 => .ok (.ret x.1 x.2) σ1 := id rfl
@[simp] theorem rr_non {V : Ev} {σ : PSt} : ex V (.ret .non) σ = .ok (.ret false .non) σ := id rfl
@[simp] theorem tb_non {r : PSt → R (Bool × D)} : toB .non r = fun σ => (r σ).bind fun x σ1 => .ok (.tmp x.2) σ1 := id rfl
@[simp] theorem tb_var {r : PSt → R (Bool × D)} {i : Nat} : toB (.var i) r = fun σ => R.opt (slotD σ i) fun _ => .ok (.slot i) σ := id rfl
def tiK (r : R (Bool × D)) (σ : PSt) (x : Option (Option (Md × D))) : R D := match x with
  | some (some (.bor, d)) => .ok d σ
  | _ => r.bind fun x σ1 => .ok x.2 σ1
@[simp] theorem ti_var {r : PSt → R (Bool × D)} {i : Nat} : toI (.var i) r = fun σ => tiK (r σ) σ σ[i]? := by funext σ; unfold toI tiK; rfl
@[simp] theorem tiK_bor {r : R (Bool × D)} {σ : PSt} {d : D} : tiK r σ (some (some (.bor, d))) = .ok d σ := id rfl
@[simp] theorem tiK_val {r : R (Bool × D)} {σ : PSt} {d : D} : tiK r σ (some (some (.val, d))) = r.bind fun x σ1 => .ok x.2 σ1 := id rfl
@[simp] theorem tiK_own {r : R (Bool × D)} {σ : PSt} {d : D} : tiK r σ (some (some (.own, d))) = r.bind fun x σ1 => .ok x.2 σ1 := id rfl
def finK (md : List Md) (r : R Fl) : FR := match r with
  | .ok .next σ => match outs md σ with
    | some ms => .ok false .non ms
    | none => .bad
  | .ok (.ret f d) σ => match outs md σ with
    | some ms => .ok f d ms
    | none => .bad
  | .exc c fs σ => match outs md σ with
    | some ms => .exc c fs ms
    | none => .bad
  | _ => .bad
theorem run_fn {V : Ev} {fn : Fn} {ds : List D} (h : ds.length = fn.md.length ∧ fn.md.length ≤ fn.ns.length) : runFn V fn ds = finK fn.md (exs V fn.body (entry fn.md ds ++ List.replicate (fn.ns.length - fn.md.length) none)) := by
  unfold runFn
  rw [if_pos h]
  rfl
def finR (f : Bool) (d : D) (o : Option (List D)) : FR := match o with
  | some ms => .ok f d ms
  | none => .bad
@[simp] theorem finR_some {f : Bool} {d : D} {ms : List D} : finR f d (some ms) = .ok f d ms := id rfl
@[simp] theorem finK_ret {md : List Md} {f : Bool} {d : D} {σ : PSt} : finK md (.ok (.ret f d) σ) = finR f d (outs md σ) := id rfl
@[simp] theorem finK_next {md : List Md} {σ : PSt} : finK md (.ok .next σ) = finR false .non (outs md σ) := id rfl
@[simp] theorem outs_nil {σ : PSt} : outs [] σ = some [] := by unfold outs; rfl
@[simp] theorem outs_chg {ms : List Md} {d : D} {σ : PSt} : outs (.chg :: ms) (some (.chg, d) :: σ) = (outs ms σ).map (d :: ·) := id rfl
@[simp] theorem outs_bor {ms : List Md} {x : Option (Md × D)} {σ : PSt} : outs (.bor :: ms) (x :: σ) = (outs ms σ).map (.non :: ·) := by
  cases x with
  | none => rfl
  | some p => rfl
@[simp] theorem outs_val {ms : List Md} {x : Option (Md × D)} {σ : PSt} : outs (.val :: ms) (x :: σ) = (outs ms σ).map (.non :: ·) := by
  cases x with
  | none => rfl
  | some p => rfl
@[simp] theorem entry_nil {ds : List D} : entry [] ds = [] := id rfl
@[simp] theorem entry_cons {m : Md} {ms : List Md} {d : D} {ds : List D} : entry (m :: ms) (d :: ds) = some (m, d) :: entry ms ds := id rfl
@[simp] theorem mo_bor {σ : PSt} {a : Ag} : modeOk σ .bor a = true := by cases a <;> rfl
@[simp] theorem mo_val {σ : PSt} {d : D} : modeOk σ .val (.tmp d) = true := id rfl
@[simp] theorem mo_chg {σ : PSt} {j : Nat} : modeOk σ .chg (.slot j) = (ownD σ j).isSome := id rfl
@[simp] theorem cl_l {m m' : Md} {d : D} {a : Ag} : clash m m' (.tmp d) a = false := id rfl
@[simp] theorem cl_r {m m' : Md} {d : D} {a : Ag} : clash m m' a (.tmp d) = false := by cases a <;> rfl
@[simp] theorem cl_s {m m' : Md} {i j : Nat} : clash m m' (.slot i) (.slot j) = (i == j && (isChg m || isChg m')) := id rfl
@[simp] theorem isChg_c : isChg .chg = true := id rfl
@[simp] theorem isChg_v : isChg .val = false := id rfl
@[simp] theorem isChg_b : isChg .bor = false := id rfl
def clashAny (m : Md) (a : Ag) : List Md → List Ag → Bool
  | m' :: ms, a' :: as => clash m m' a a' || clashAny m a ms as
  | _, _ => false
theorem clashAny_eq {m : Md} {a : Ag} : ∀ (ms : List Md) (as : List Ag), (ms.zip as).all (fun p => !clash m p.1 a p.2) = !clashAny m a ms as
  | [], _ => by simp [clashAny]
  | _ :: _, [] => by simp [clashAny]
  | m' :: ms, a' :: as => by simp [clashAny, clashAny_eq ms as]
@[simp] theorem ca_nil {m : Md} {a : Ag} : clashAny m a [] [] = false := id rfl
@[simp] theorem ca_cons {m m' : Md} {a a' : Ag} {ms : List Md} {as : List Ag} : clashAny m a (m' :: ms) (a' :: as) = (clash m m' a a' || clashAny m a ms as) := id rfl
def okAll (σ : PSt) : List Md → List Ag → Bool
  | m :: ms, a :: as => modeOk σ m a && (!clashAny m a ms as && okAll σ ms as)
  | [], [] => true
  | _, _ => false
theorem okAll_eq {σ : PSt} : ∀ (ms : List Md) (as : List Ag), argsOk σ ms as = okAll σ ms as
  | [], [] => rfl
  | [], _ :: _ => rfl
  | _ :: _, [] => by simp [argsOk, okAll]
  | m :: ms, a :: as => by
    have ih := okAll_eq (σ := σ) ms as
    unfold argsOk at ih ⊢
    rw [okAll, ← ih]
    simp only [List.zip_cons_cons, List.all_cons, noClash, clashAny_eq, List.length_cons]
    by_cases h : ms.length = as.length
    · simp [h]
      cases modeOk σ m a <;> cases clashAny m a ms as <;> cases (ms.zip as).all (fun p => modeOk σ p.1 p.2) <;> simp
    · have : ¬ ms.length + 1 = as.length + 1 := by omega
      simp [h]
@[simp] theorem argsOk_c {σ : PSt} {m : Md} {a : Ag} {ms : List Md} {as : List Ag} : argsOk σ (m :: ms) (a :: as) = (modeOk σ m a && (!clashAny m a ms as && argsOk σ ms as)) := by rw [okAll_eq, okAll_eq]; rfl
@[simp] theorem argsOk_n {σ : PSt} : argsOk σ [] [] = true := id rfl
def pmK (o : Option PSt) (k : PSt → Option PSt) : Option PSt := match o with
  | some σ => k σ
  | none => none
@[simp] theorem pmK_some {σ : PSt} {k : PSt → Option PSt} : pmK (some σ) k = k σ := id rfl
@[simp] theorem pm_nil {σ : PSt} : putMs σ [] [] [] = some σ := id rfl
@[simp] theorem pm_chg {σ : PSt} {ms : List Md} {j : Nat} {as : List Ag} {d : D} {ds : List D} : putMs σ (.chg :: ms) (.slot j :: as) (d :: ds) = pmK (putOwn σ j d) fun σ' => putMs σ' ms as ds := id rfl
@[simp] theorem pm_bor {σ : PSt} {ms : List Md} {a : Ag} {as : List Ag} {d : D} {ds : List D} : putMs σ (.bor :: ms) (a :: as) (d :: ds) = putMs σ ms as ds := by cases a <;> rfl
@[simp] theorem pm_val {σ : PSt} {ms : List Md} {a : Ag} {as : List Ag} {d : D} {ds : List D} : putMs σ (.val :: ms) (a :: as) (d :: ds) = putMs σ ms as ds := by cases a <;> rfl
@[simp] theorem sz_true {n : Nat} (h : n ≤ 16777216) : szB n = true := decide_eq_true h
@[simp] theorem sq_true {n : Nat} (h : n < 16777216) : seqB n = true := decide_eq_true h
@[simp] theorem cm_lt {i j : Int} : semCmp .lt (.int i) (.int j) = some (decide (i < j)) := id rfl
@[simp] theorem cm_le {i j : Int} : semCmp .le (.int i) (.int j) = some (decide (i ≤ j)) := id rfl
@[simp] theorem cm_gt {i j : Int} : semCmp .gt (.int i) (.int j) = some (decide (j < i)) := id rfl
@[simp] theorem cm_ge {i j : Int} : semCmp .ge (.int i) (.int j) = some (decide (j ≤ i)) := id rfl
@[simp] theorem cm_eq {i j : Int} : semCmp .eq (.int i) (.int j) = some (decide (i = j)) := id rfl
@[simp] theorem cm_ne {i j : Int} : semCmp .ne (.int i) (.int j) = some (!decide (i = j)) := id rfl
@[simp] theorem cm_eqs {x y : List Nat} : semCmp .eq (.str x) (.str y) = some (x == y) := id rfl
@[simp] theorem cm_nes {x y : List Nat} : semCmp .ne (.str x) (.str y) = some (!(x == y)) := id rfl
@[simp] theorem cm_eqb {x y : Bool} : semCmp .eq (.bl x) (.bl y) = some (x == y) := id rfl
@[simp] theorem cm_neb {x y : Bool} : semCmp .ne (.bl x) (.bl y) = some (!(x == y)) := id rfl
@[simp] theorem cm_is {d : D} : semCmp .is d .non = some (isNon d) := by cases d <;> rfl
@[simp] theorem cm_isn {d : D} : semCmp .isnot d .non = some (!isNon d) := by cases d <;> rfl
@[simp] theorem bi_add {i j : Int} : semBin .add (.int i) (.int j) = some (false, .int (i + j)) := id rfl
@[simp] theorem bi_sub {i j : Int} : semBin .sub (.int i) (.int j) = some (false, .int (i - j)) := id rfl
@[simp] theorem bi_mul {i j : Int} : semBin .mul (.int i) (.int j) = if mulB i j then some (false, .int (i * j)) else none := id rfl
@[simp] theorem bi_fdv {i j : Int} : semBin .fdv (.int i) (.int j) = if divB j then some (false, .int (i / j)) else none := id rfl
@[simp] theorem bi_mod {i j : Int} : semBin .mod (.int i) (.int j) = if 0 < j then some (false, .int (i % j)) else none := by
  show (if decide (0 < j) then _ else _) = _
  simp
@[simp] theorem bi_pow {i j : Int} : semBin .pow (.int i) (.int j) = if powB i j then some (false, .int (i ^ j.toNat)) else none := id rfl
@[simp] theorem bi_adds {x y : List Nat} : semBin .add (.str x) (.str y) = if szB (x.length + y.length) then some (false, .str (x ++ y)) else none := id rfl
@[simp] theorem bi_addl {x y : List D} : semBin .add (.lst x) (.lst y) = if szB (x.length + y.length) then some (true, .lst (x ++ y)) else none := id rfl
@[simp] theorem bi_muls {x : List Nat} {k : Int} : semBin .mul (.str x) (.int k) = if decide (-(2 ^ 63) ≤ k) && decide (k < 2 ^ 63) && szB (x.length * k.toNat) then some (false, .str (List.replicate k.toNat x).flatten) else none := id rfl
@[simp] theorem bi_mull {x : List D} {k : Int} : semBin .mul (.lst x) (.int k) = if decide (-(2 ^ 63) ≤ k) && decide (k < 2 ^ 63) && szB (x.length * k.toNat) then some (true, .lst (List.replicate k.toNat x).flatten) else none := id rfl
@[simp] theorem tr_bl {b : Bool} : truthD (.bl b) = some b := id rfl
@[simp] theorem tr_int {i : Int} : truthD (.int i) = some (i != 0) := id rfl
@[simp] theorem tr_lst {ds : List D} : truthD (.lst ds) = some (!ds.isEmpty) := id rfl
@[simp] theorem ln_lst {ds : List D} : semBi .len [.lst ds] = some (false, .int ds.length) := id rfl
@[simp] theorem ln_tup {ds : List D} : semBi .len [.tup ds] = some (false, .int ds.length) := id rfl
@[simp] theorem ln_frl {ds : List D} : semBi .len [.frl ds] = some (false, .int ds.length) := id rfl
@[simp] theorem ln_str {l : List Nat} : semBi .len [.str l] = if szB l.length then some (false, .int l.length) else none := id rfl
@[simp] theorem it_int {i : Int} : semBi .int [.int i] = some (false, .int i) := id rfl
@[simp] theorem it_bl {b : Bool} : semBi .int [.bl b] = some (false, .int (if b then 1 else 0)) := id rfl
@[simp] theorem mn_int {i j : Int} : semBi .min [.int i, .int j] = some (false, .int (if j < i then j else i)) := id rfl
@[simp] theorem mx_int {i j : Int} : semBi .max [.int i, .int j] = some (false, .int (if j > i then j else i)) := id rfl
@[simp] theorem li_lst {ds : List D} : semBi .list [.lst ds] = some (true, .lst ds) := id rfl
@[simp] theorem so_lst {ds : List D} : semBi .sorted [.lst ds] = if sortB ds then some (true, .lst (ds.mergeSort leB)) else none := id rfl
@[simp] theorem sl_lst {ds : List D} {lo hi : Option Int} : semSlc (.lst ds) lo hi = some (true, .lst (cutD ds lo hi)) := id rfl
@[simp] theorem sl_frl {ds : List D} {lo hi : Option Int} : semSlc (.frl ds) lo hi = some (true, .lst (cutD ds lo hi)) := id rfl
@[simp] theorem sl_str {l : List Nat} {lo hi : Option Int} : semSlc (.str l) lo hi = if szB l.length then some (false, .str (cutD l lo hi)) else none := id rfl
@[simp] theorem rv_lst {ds : List D} : semRev (.lst ds) = some (true, .lst ds.reverse) := id rfl
@[simp] theorem ap_lst {ds : List D} {x : D} : semMu .append (.lst ds) [x] = if seqB ds.length then some (.lst (ds ++ [x]), .non) else none := id rfl
@[simp] theorem cr_lst {ds : List D} : semMu .clear (.lst ds) [] = some (.lst [], .non) := id rfl
@[simp] theorem im_lst {ds : List D} : itemsD (.lst ds) = some ds := id rfl
@[simp] theorem im_tup {ds : List D} : itemsD (.tup ds) = some ds := id rfl
@[simp] theorem im_frl {ds : List D} : itemsD (.frl ds) = some ds := id rfl
@[simp] theorem im_str {l : List Nat} : itemsD (.str l) = some (l.map fun c => .str [c]) := id rfl
@[simp] theorem ixlst_0 {x0 : D} {ds : List D} : semIdx (.lst (x0 :: ds)) (.int 0) = some x0 := by
  show (ixD _ _).bind _ = _
  rw [show ((0 : Int)) = ((0 : Nat) : Int) from rfl, ixD_nat (by simp [List.length_cons] <;> omega)]; rfl
@[simp] theorem ixtup_0 {x0 : D} {ds : List D} : semIdx (.tup (x0 :: ds)) (.int 0) = some x0 := by
  show (ixD _ _).bind _ = _
  rw [show ((0 : Int)) = ((0 : Nat) : Int) from rfl, ixD_nat (by simp [List.length_cons] <;> omega)]; rfl
@[simp] theorem st_0 {x0 y : D} {ds : List D} : semSet (.lst (x0 :: ds)) (.int 0) y = some (.lst (y :: ds)) := by
  show (ixD _ _).map _ = _
  rw [show ((0 : Int)) = ((0 : Nat) : Int) from rfl, ixD_nat (by simp [List.length_cons] <;> omega)]; rfl
@[simp] theorem ixlst_1 {x0 x1 : D} {ds : List D} : semIdx (.lst (x0 :: x1 :: ds)) (.int 1) = some x1 := by
  show (ixD _ _).bind _ = _
  rw [show ((1 : Int)) = ((1 : Nat) : Int) from rfl, ixD_nat (by simp [List.length_cons] <;> omega)]; rfl
@[simp] theorem ixtup_1 {x0 x1 : D} {ds : List D} : semIdx (.tup (x0 :: x1 :: ds)) (.int 1) = some x1 := by
  show (ixD _ _).bind _ = _
  rw [show ((1 : Int)) = ((1 : Nat) : Int) from rfl, ixD_nat (by simp [List.length_cons] <;> omega)]; rfl
@[simp] theorem st_1 {x0 x1 y : D} {ds : List D} : semSet (.lst (x0 :: x1 :: ds)) (.int 1) y = some (.lst (x0 :: y :: ds)) := by
  show (ixD _ _).map _ = _
  rw [show ((1 : Int)) = ((1 : Nat) : Int) from rfl, ixD_nat (by simp [List.length_cons] <;> omega)]; rfl
@[simp] theorem ixlst_2 {x0 x1 x2 : D} {ds : List D} : semIdx (.lst (x0 :: x1 :: x2 :: ds)) (.int 2) = some x2 := by
  show (ixD _ _).bind _ = _
  rw [show ((2 : Int)) = ((2 : Nat) : Int) from rfl, ixD_nat (by simp [List.length_cons] <;> omega)]; rfl
@[simp] theorem ixtup_2 {x0 x1 x2 : D} {ds : List D} : semIdx (.tup (x0 :: x1 :: x2 :: ds)) (.int 2) = some x2 := by
  show (ixD _ _).bind _ = _
  rw [show ((2 : Int)) = ((2 : Nat) : Int) from rfl, ixD_nat (by simp [List.length_cons] <;> omega)]; rfl
@[simp] theorem st_2 {x0 x1 x2 y : D} {ds : List D} : semSet (.lst (x0 :: x1 :: x2 :: ds)) (.int 2) y = some (.lst (x0 :: x1 :: y :: ds)) := by
  show (ixD _ _).map _ = _
  rw [show ((2 : Int)) = ((2 : Nat) : Int) from rfl, ixD_nat (by simp [List.length_cons] <;> omega)]; rfl
@[simp] theorem ixlst_3 {x0 x1 x2 x3 : D} {ds : List D} : semIdx (.lst (x0 :: x1 :: x2 :: x3 :: ds)) (.int 3) = some x3 := by
  show (ixD _ _).bind _ = _
  rw [show ((3 : Int)) = ((3 : Nat) : Int) from rfl, ixD_nat (by simp [List.length_cons] <;> omega)]; rfl
@[simp] theorem ixtup_3 {x0 x1 x2 x3 : D} {ds : List D} : semIdx (.tup (x0 :: x1 :: x2 :: x3 :: ds)) (.int 3) = some x3 := by
  show (ixD _ _).bind _ = _
  rw [show ((3 : Int)) = ((3 : Nat) : Int) from rfl, ixD_nat (by simp [List.length_cons] <;> omega)]; rfl
@[simp] theorem st_3 {x0 x1 x2 x3 y : D} {ds : List D} : semSet (.lst (x0 :: x1 :: x2 :: x3 :: ds)) (.int 3) y = some (.lst (x0 :: x1 :: x2 :: y :: ds)) := by
  show (ixD _ _).map _ = _
  rw [show ((3 : Int)) = ((3 : Nat) : Int) from rfl, ixD_nat (by simp [List.length_cons] <;> omega)]; rfl
@[simp] theorem ixlst_4 {x0 x1 x2 x3 x4 : D} {ds : List D} : semIdx (.lst (x0 :: x1 :: x2 :: x3 :: x4 :: ds)) (.int 4) = some x4 := by
  show (ixD _ _).bind _ = _
  rw [show ((4 : Int)) = ((4 : Nat) : Int) from rfl, ixD_nat (by simp [List.length_cons] <;> omega)]; rfl
@[simp] theorem ixtup_4 {x0 x1 x2 x3 x4 : D} {ds : List D} : semIdx (.tup (x0 :: x1 :: x2 :: x3 :: x4 :: ds)) (.int 4) = some x4 := by
  show (ixD _ _).bind _ = _
  rw [show ((4 : Int)) = ((4 : Nat) : Int) from rfl, ixD_nat (by simp [List.length_cons] <;> omega)]; rfl
@[simp] theorem st_4 {x0 x1 x2 x3 x4 y : D} {ds : List D} : semSet (.lst (x0 :: x1 :: x2 :: x3 :: x4 :: ds)) (.int 4) y = some (.lst (x0 :: x1 :: x2 :: x3 :: y :: ds)) := by
  show (ixD _ _).map _ = _
  rw [show ((4 : Int)) = ((4 : Nat) : Int) from rfl, ixD_nat (by simp [List.length_cons] <;> omega)]; rfl
@[simp] theorem ixlst_5 {x0 x1 x2 x3 x4 x5 : D} {ds : List D} : semIdx (.lst (x0 :: x1 :: x2 :: x3 :: x4 :: x5 :: ds)) (.int 5) = some x5 := by
  show (ixD _ _).bind _ = _
  rw [show ((5 : Int)) = ((5 : Nat) : Int) from rfl, ixD_nat (by simp [List.length_cons] <;> omega)]; rfl
@[simp] theorem ixtup_5 {x0 x1 x2 x3 x4 x5 : D} {ds : List D} : semIdx (.tup (x0 :: x1 :: x2 :: x3 :: x4 :: x5 :: ds)) (.int 5) = some x5 := by
  show (ixD _ _).bind _ = _
  rw [show ((5 : Int)) = ((5 : Nat) : Int) from rfl, ixD_nat (by simp [List.length_cons] <;> omega)]; rfl
@[simp] theorem st_5 {x0 x1 x2 x3 x4 x5 y : D} {ds : List D} : semSet (.lst (x0 :: x1 :: x2 :: x3 :: x4 :: x5 :: ds)) (.int 5) y = some (.lst (x0 :: x1 :: x2 :: x3 :: x4 :: y :: ds)) := by
  show (ixD _ _).map _ = _
  rw [show ((5 : Int)) = ((5 : Nat) : Int) from rfl, ixD_nat (by simp [List.length_cons] <;> omega)]; rfl
@[simp] theorem ixlst_6 {x0 x1 x2 x3 x4 x5 x6 : D} {ds : List D} : semIdx (.lst (x0 :: x1 :: x2 :: x3 :: x4 :: x5 :: x6 :: ds)) (.int 6) = some x6 := by
  show (ixD _ _).bind _ = _
  rw [show ((6 : Int)) = ((6 : Nat) : Int) from rfl, ixD_nat (by simp [List.length_cons] <;> omega)]; rfl
@[simp] theorem ixtup_6 {x0 x1 x2 x3 x4 x5 x6 : D} {ds : List D} : semIdx (.tup (x0 :: x1 :: x2 :: x3 :: x4 :: x5 :: x6 :: ds)) (.int 6) = some x6 := by
  show (ixD _ _).bind _ = _
  rw [show ((6 : Int)) = ((6 : Nat) : Int) from rfl, ixD_nat (by simp [List.length_cons] <;> omega)]; rfl
@[simp] theorem st_6 {x0 x1 x2 x3 x4 x5 x6 y : D} {ds : List D} : semSet (.lst (x0 :: x1 :: x2 :: x3 :: x4 :: x5 :: x6 :: ds)) (.int 6) y = some (.lst (x0 :: x1 :: x2 :: x3 :: x4 :: x5 :: y :: ds)) := by
  show (ixD _ _).map _ = _
  rw [show ((6 : Int)) = ((6 : Nat) : Int) from rfl, ixD_nat (by simp [List.length_cons] <;> omega)]; rfl
@[simp] theorem ixlst_7 {x0 x1 x2 x3 x4 x5 x6 x7 : D} {ds : List D} : semIdx (.lst (x0 :: x1 :: x2 :: x3 :: x4 :: x5 :: x6 :: x7 :: ds)) (.int 7) = some x7 := by
  show (ixD _ _).bind _ = _
  rw [show ((7 : Int)) = ((7 : Nat) : Int) from rfl, ixD_nat (by simp [List.length_cons] <;> omega)]; rfl
@[simp] theorem ixtup_7 {x0 x1 x2 x3 x4 x5 x6 x7 : D} {ds : List D} : semIdx (.tup (x0 :: x1 :: x2 :: x3 :: x4 :: x5 :: x6 :: x7 :: ds)) (.int 7) = some x7 := by
  show (ixD _ _).bind _ = _
  rw [show ((7 : Int)) = ((7 : Nat) : Int) from rfl, ixD_nat (by simp [List.length_cons] <;> omega)]; rfl
@[simp] theorem st_7 {x0 x1 x2 x3 x4 x5 x6 x7 y : D} {ds : List D} : semSet (.lst (x0 :: x1 :: x2 :: x3 :: x4 :: x5 :: x6 :: x7 :: ds)) (.int 7) y = some (.lst (x0 :: x1 :: x2 :: x3 :: x4 :: x5 :: x6 :: y :: ds)) := by
  show (ixD _ _).map _ = _
  rw [show ((7 : Int)) = ((7 : Nat) : Int) from rfl, ixD_nat (by simp [List.length_cons] <;> omega)]; rfl
@[simp] theorem nox_ok' {α : Type} {a : α} {σ : PSt} : (R.ok a σ).nox = .ok a σ := id rfl
@[simp] theorem compK_nil {V : Ev} {i : Nat} {t : Ot} {e : Xp} {σ : PSt} : compK V i t e [] σ = .ok [] σ := id rfl
theorem compK_cons {V : Ev} {i : Nat} {t : Ot} {e : Xp} {d : D} {ds : List D} {σ : PSt} : compK V i t e (d :: ds) σ = (evOT V t (σ.set i (some (.val, d)))).nox.bind fun b σ1 =>
    if b then (ev V e σ1).nox.bind fun x σ2 => (compK V i t e ds (σ2.set i none)).bind fun xs σ3 => .ok (x.2 :: xs) σ3 else compK V i t e ds (σ1.set i none) := by
  show ((evOT V t (σ.set i (some (.val, d)))).nox.bind fun b σ1 => if b then ((ev V e σ1).nox.bind fun x σ => R.ok x.2 σ).bind fun x σ2 => (compK V i t e ds (σ2.set i none)).bind fun xs σ3 => .ok (x :: xs) σ3 else compK V i t e ds (σ1.set i none)) = _
  congr 1; funext b σ1
  cases b with
  | false => rfl
  | true =>
    simp only [if_true]
    rw [bnd_assoc]
    rfl
theorem compK_map {V : Ev} {i : Nat} {e : Xp} {σ : PSt} (g : D → D) (hσ : σ.set i none = σ) : ∀ (ds : List D), (∀ d ∈ ds, ∃ f, ev V e (σ.set i (some (.val, d))) = .ok (f, g d) (σ.set i (some (.val, d)))) → compK V i .no e ds σ = .ok (ds.map g) σ
  | [], _ => rfl
  | d :: ds, h => by
    obtain ⟨f, h1⟩ := h d (.head _)
    have ih := compK_map g hσ ds fun d' hd => h d' (.tail _ hd)
    rw [compK_cons]
    simp [h1, List.set_set, hσ, ih]
theorem compK_inv {V : Ev} {i : Nat} {e : Xp} (I : PSt → Prop) (P : D → Prop) (hI : ∀ σ, I σ → σ.set i none = σ) : ∀ (ds : List D) (σ : PSt), (∀ d σ, d ∈ ds → I σ → ∃ f x σ', ev V e (σ.set i (some (.val, d))) = .ok (f, x) σ' ∧ P x ∧ I (σ'.set i none)) → I σ →
    ∃ xs σ', compK V i .no e ds σ = .ok xs σ' ∧ I σ' ∧ xs.length = ds.length ∧ ∀ x ∈ xs, P x
  | [], σ, _, h => ⟨[], σ, rfl, h, rfl, fun _ h => by cases h⟩
  | d :: ds, σ, h, hs => by
    obtain ⟨f, x, σ1, h1, h2, h3⟩ := h d σ (.head _) hs
    obtain ⟨xs, σ', e1, e2, e3, e4⟩ := compK_inv I P hI ds (σ1.set i none) (fun d' σ hd => h d' σ (.tail _ hd)) h3
    refine ⟨x :: xs, σ', ?_, e2, by simp [e3], fun y hy => ?_⟩
    · rw [compK_cons]
      simp [h1, e1]
    · rcases List.mem_cons.mp hy with rfl | hy
      · exact h2
      · exact e4 y hy
theorem cut_take {α : Type} (l : List α) {k : Int} (h : 0 ≤ k) : cutD l none (some k) = l.take k.toNat := by
  unfold cutD
  have e1 : bndD l.length 0 none = 0 := rfl
  have e2 : bndD l.length l.length (some k) = min k.toNat l.length := by
    show (if k < 0 then _ else _) = _
    rw [if_neg (by omega)]
  rw [e1, e2, List.drop_zero, Nat.sub_zero]
  rcases Nat.le_total k.toNat l.length with q | q
  · rw [Nat.min_eq_left q]
  · rw [Nat.min_eq_right q, List.take_of_length_le (Nat.le_refl _), List.take_of_length_le q]
theorem cut_drop {α : Type} (l : List α) {k : Int} (h : 0 ≤ k) : cutD l (some k) none = l.drop k.toNat := by
  unfold cutD
  have e1 : bndD l.length l.length none = l.length := rfl
  have e2 : bndD l.length 0 (some k) = min k.toNat l.length := by
    show (if k < 0 then _ else _) = _
    rw [if_neg (by omega)]
  rw [e1, e2]
  rcases Nat.le_total k.toNat l.length with q | q
  · rw [Nat.min_eq_left q, List.take_of_length_le (by simp)]
  · rw [Nat.min_eq_right q, List.drop_eq_nil_of_le (Nat.le_refl _), List.drop_eq_nil_of_le q, List.take_nil]
end Pu
namespace K15
open Pu PySem
def mixF (number turn : Int) : Int :=
  let first := number % 2305843009213693951 * 6364136223846793005
  let first := (first + turn * 1442695040888963407 + 69621) % 2305843009213693951
  let second := (first * first + turn * 48271 + 7) % 1000000000000000003
  (second * second + first * 3 + 11) % 1000000000000000009
theorem mix_run (V : Ev) (a b : Int) : runFn V fn__law_mix [.int a, .int b] = .ok false (.int (mixF a b)) [.non, .non] := by
  have e1 : ∀ x : Int, mulB (x % 2305843009213693951) (x % 2305843009213693951) = true := fun x => mulB_l _ (by omega) (by omega)
  have e2 : ∀ x : Int, mulB (x % 1000000000000000003) (x % 1000000000000000003) = true := fun x => mulB_l _ (by omega) (by omega)
  have m1 : ∀ i : Int, mulB i 6364136223846793005 = true := fun i => mulB_r i (by decide) (by decide)
  have m2 : ∀ i : Int, mulB i 1442695040888963407 = true := fun i => mulB_r i (by decide) (by decide)
  have m3 : ∀ i : Int, mulB i 48271 = true := fun i => mulB_r i (by decide) (by decide)
  have m4 : ∀ i : Int, mulB i 3 = true := fun i => mulB_r i (by decide) (by decide)
  simp [runFn, fn__law_mix, entry, exs, ex, ev, evBs, toB, bnd_ok, opt_some, slotD, Ag.get, Ag.gets, semBi, mul_ok, mod_ok, add_ok, setVal, rdVal, outs, e1, e2, m1, m2, m3, m4, mixF]
theorem mixF_lo (a b : Int) : 0 ≤ mixF a b := by unfold mixF; dsimp only; omega
def StoreOk (s : D) : Prop := ∃ (cells : List Int) (i a b c d : Int), s = .lst [.lst (cells.map .int), .int i, .int a, .int b, .int c, .int d] ∧ 0 ≤ i
structure MixSp (V : Ev) : Prop where
  sig : V.sig "_law_mix" = some [.bor, .bor]
  call : ∀ a b, V.call "_law_mix" [.int a, .int b] = .ok false (.int (mixF a b)) [.non, .non]
theorem pow_big : (0 : Int) < (10 ^ 60) ^ 8 := by decide
theorem take_body (V : Ev) (M : MixSp V) (cells : List Int) (i a b c d many : Int) (hi : 0 ≤ i) (k : D) (x3 x4 : Option D) : ∃ f i' a' b' c' y3 y4,
    exs V _law_take_b0 [some (.chg, .lst [.lst (cells.map .int), .int i, .int a, .int b, .int c, .int d]), some (.bor, .int many), some (.val, k), fr x3, fr x4, none] =
      .ok f [some (.chg, .lst [.lst (cells.map .int), .int i', .int a', .int b', .int c', .int d]), some (.bor, .int many), some (.val, k), fr y3, fr y4, none] ∧ 0 ≤ i' ∧ (f = .next ∨ f = .cont ∨ f = .brk) := by
  by_cases h1 : 0 < a
  · exact ⟨.brk, i, a, b, c, x3, x4, by simp [_law_take_b0, h1], hi, by simp⟩
  by_cases h2 : 0 < b
  · exact ⟨.brk, i, a, b, c, x3, x4, by simp [_law_take_b0, h1, h2], hi, by simp⟩
  by_cases h3 : (cells.length : Int) ≤ i
  · exact ⟨.brk, i, a, b, c, x3, x4, by simp [_law_take_b0, h1, h2, h3], hi, by simp⟩
  have h3' : i < (cells.map D.int).length := by simp; omega
  have e0 : (cells.map D.int)[i.toNat]? = some (.int (cells[i.toNat]'(by simp at h3'; omega))) := by
    rw [List.getElem?_map, List.getElem?_eq_getElem (by simp at h3'; omega)]; rfl
  generalize (cells[i.toNat]'(by simp at h3'; omega)) = w at e0
  have e1 : semIdx (.lst (cells.map .int)) (.int i) = some (.int w) := by
    show (ixD (cells.map D.int).length i).bind _ = _
    rw [ixD_int hi h3']
    exact e0
  have pb1 : powB 10 60 = true := by decide
  have pb2 : powB (10 ^ 60) 8 = true := by decide
  have pb3 : (0 : Int) < (10 ^ 60) ^ 8 := by decide
  by_cases h4 : 1000000000000000000 ≤ w
  · refine ⟨.next, i + 1, w % (10 ^ 60) ^ 8, b, c, some (.lst (cells.map .int)), some (.int w), ?_, by omega, by simp⟩
    simp [_law_take_b0, h1, h2, h3, e1, h4, pb1, pb2, pb3, -Int.reducePow]
  · refine ⟨.next, i + 1, a, 3, mixF (c + w % 2305843009213693951) (i + 1), some (.lst (cells.map .int)), some (.int w), ?_, by omega, by simp⟩
    simp [_law_take_b0, h1, h2, h3, e1, h4, M.sig, M.call]
theorem take_run (V : Ev) (M : MixSp V) (s : D) (hs : StoreOk s) (many : Int) (hm : many < 2 ^ 200) : ∃ r s', runFn V fn__law_take [s, .int many] = .ok false (.int r) [s', .non] ∧ StoreOk s' ∧ 0 ≤ r ∧ (r < many ∨ r = 0) := by
  obtain ⟨cells, i, a, b, c, d, rfl, hi⟩ := hs
  rw [run_fn ⟨rfl, by decide⟩]
  by_cases h2 : many < 2
  · refine ⟨0, _, ?_, ⟨cells, i, a, b, c, d, rfl, hi⟩, by omega, .inr rfl⟩
    simp [fn__law_take, h2]
  · have hdv : divB many = true := by unfold divB; simp; omega
    have hmp : 0 < many := by omega
    obtain ⟨σ', e1, i', a', b', c', y2, y3, y4, rfl, hi'⟩ := forL_brk (bd := bindT (.slot 2)) (body := exs V _law_take_b0) (fun σ => ∃ i a b c y2 y3 y4, σ = [some (.chg, .lst [.lst (cells.map .int), .int i, .int a, .int b, .int c, .int (d + 1)]), some (.bor, .int many), fr y2, fr y3, fr y4, none] ∧ 0 ≤ i) (rangeD 0 64)
      (fun k σ _ ⟨i, a, b, c, y2, y3, y4, e, hi⟩ => by
        subst e
        obtain ⟨f, i', a', b', c', z3, z4, h3, h4, h5⟩ := take_body V M cells i a b c (d + 1) many hi k y3 y4
        exact ⟨_, f, _, by simp, h3, h5, i', a', b', c', some k, z3, z4, rfl, h4⟩)
      [some (.chg, .lst [.lst (cells.map .int), .int i, .int a, .int b, .int c, .int (d + 1)]), some (.bor, .int many), none, none, none, none] ⟨i, a, b, c, none, none, none, rfl, hi⟩
    have er : rngB 64 = true := by decide
    have e64 : (64 : Int).toNat = 64 := rfl
    by_cases k1 : 0 < a'
    · refine ⟨a' % many, .lst [.lst (cells.map .int), .int i', .int (a' / many), .int b', .int c', .int (d + 1)], ?_, ⟨cells, _, _, _, _, _, rfl, hi'⟩, Int.emod_nonneg _ (by omega), .inl (Int.emod_lt_of_pos _ hmp)⟩
      simp [fn__law_take, h2, er, e64, e1, k1, hdv, hmp]
    · by_cases k2 : 0 < b'
      · refine ⟨mixF c' (d + 1) % many, .lst [.lst (cells.map .int), .int i', .int a', .int (b' - 1), .int c', .int (d + 1)], ?_, ⟨cells, _, _, _, _, _, rfl, hi'⟩, Int.emod_nonneg _ (by omega), .inl (Int.emod_lt_of_pos _ hmp)⟩
        simp [fn__law_take, h2, er, e64, e1, k1, k2, hmp, M.sig, M.call]
      · refine ⟨mixF c' (d + 1) % many, .lst [.lst (cells.map .int), .int i', .int a', .int b', .int c', .int (d + 1)], ?_, ⟨cells, _, _, _, _, _, rfl, hi'⟩, Int.emod_nonneg _ (by omega), .inl (Int.emod_lt_of_pos _ hmp)⟩
        simp [fn__law_take, h2, er, e64, e1, k1, k2, hmp, M.sig, M.call]
end K15
namespace K15
open Pu PySem
theorem store_run (V : Ev) (ns : List Int) (h : ns.length ≤ 63) : ∃ s, runFn V fn__law_store [.frl (ns.map .int)] = .ok true s [.non] ∧ StoreOk s := by
  have hc := compK_map (V := V) (i := 2) (e := _law_store_e0) (σ := [some (.bor, .frl (ns.map .int)), none, none]) id rfl (ns.map .int) fun d hd => by
    obtain ⟨n, _, rfl⟩ := List.mem_map.mp hd
    exact ⟨false, by simp [_law_store_e0]⟩
  have hcut : cutD (ns.map D.int) none (some 63) = ns.map .int := by
    rw [cut_take _ (by decide), List.take_of_length_le]
    simp; omega
  rw [run_fn ⟨rfl, by decide⟩]
  refine ⟨_, ?_, ns, 0, 0, 0, 7, 0, rfl, by decide⟩
  simp [fn__law_store, hcut, hc, show ns.length < 16777216 by omega]
structure TakeSp (V : Ev) : Prop where
  sig : V.sig "_law_take" = some [.chg, .bor]
  call : ∀ s many, StoreOk s → many < 2 ^ 200 → ∃ r s', V.call "_law_take" [s, .int many] = .ok false (.int r) [s', .non] ∧ StoreOk s' ∧ 0 ≤ r ∧ (r < many ∨ r = 0)
theorem ix_str {l : List Nat} {r : Int} (h0 : 0 ≤ r) (h : r < l.length) (hz : l.length ≤ 16777216) : ∃ c, c ∈ l ∧ semIdx (.str l) (.int r) = some (.str [c]) := by
  have hn : r.toNat < l.length := by omega
  refine ⟨l[r.toNat], List.getElem_mem _, ?_⟩
  show (if szB l.length then ((ixD l.length r).bind fun j => l[j]?).map fun c => D.str [c] else none) = _
  rw [if_pos (sz_true hz), ixD_int h0 h]
  simp [List.getElem?_eq_getElem hn]
theorem ix_lst {ds : List D} {r : Int} (h0 : 0 ≤ r) (h : r < ds.length) : ∃ d, d ∈ ds ∧ semIdx (.lst ds) (.int r) = some d := by
  have hn : r.toNat < ds.length := by omega
  refine ⟨ds[r.toNat], List.getElem_mem _, ?_⟩
  show (ixD ds.length r).bind _ = _
  rw [ixD_int h0 h]
  simp [List.getElem?_eq_getElem hn]
theorem pick_str (V : Ev) (T : TakeSp V) (s : D) (hs : StoreOk s) (l : List Nat) (hl : l ≠ []) (hz : l.length ≤ 16777216) : ∃ c s', c ∈ l ∧ runFn V fn__law_pick [s, .str l] = .ok false (.str [c]) [s', .non] ∧ StoreOk s' := by
  have h0 : 0 < l.length := List.length_pos_iff.mpr hl
  obtain ⟨r, s', h, ok, h1, h2⟩ := T.call s l.length hs (by omega)
  obtain ⟨c, hc, hi⟩ := ix_str (l := l) (r := r) h1 (by omega) hz
  refine ⟨c, s', hc, ?_, ok⟩
  rw [run_fn ⟨rfl, by decide⟩]
  simp [fn__law_pick, T.sig, hz, h, hi]
theorem pick_lst (V : Ev) (T : TakeSp V) (s : D) (hs : StoreOk s) (ds : List D) (hl : ds ≠ []) (hz : ds.length ≤ 16777216) : ∃ d s', d ∈ ds ∧ runFn V fn__law_pick [s, .lst ds] = .ok false d [s', .non] ∧ StoreOk s' := by
  have h0 : 0 < ds.length := List.length_pos_iff.mpr hl
  obtain ⟨r, s', h, ok, h1, h2⟩ := T.call s ds.length hs (by omega)
  obtain ⟨c, hc, hi⟩ := ix_lst (ds := ds) (r := r) h1 (by omega)
  refine ⟨c, s', hc, ?_, ok⟩
  rw [run_fn ⟨rfl, by decide⟩]
  simp [fn__law_pick, T.sig, hz, h, hi]
theorem size_run (V : Ev) (T : TakeSp V) (s : D) (hs : StoreOk s) (top : Int) (h0 : 0 ≤ top) (hz : top < 2 ^ 199) : ∃ n s', runFn V fn__law_size [s, .int top] = .ok false (.int n) [s', .non] ∧ StoreOk s' ∧ 0 ≤ n ∧ n ≤ top := by
  obtain ⟨e, s1, h1, ok1, h2, h3⟩ := T.call s 9 hs (by decide)
  rw [run_fn ⟨rfl, by decide⟩]
  by_cases k0 : e = 0
  · exact ⟨0, s1, by simp [fn__law_size, T.sig, h1, k0], ok1, by omega, h0⟩
  by_cases k1 : e = 1
  · exact ⟨top, s1, by simp [fn__law_size, T.sig, h1, k1], ok1, h0, by omega⟩
  by_cases k2 : e = 2
  · refine ⟨if top < 1 then top else 1, s1, by simp [fn__law_size, T.sig, h1, k2], ok1, ?_, ?_⟩ <;> split <;> omega
  obtain ⟨r, s2, g1, ok2, g2, g3⟩ := T.call s1 (top + 1) ok1 (by omega)
  exact ⟨r, s2, by simp [fn__law_size, T.sig, h1, k0, k1, k2, g1], ok2, g2, by omega⟩
end K15
namespace K15
open Pu PySem
def ChOk (l : List Nat) : Prop := ∀ c ∈ l, c < 1114112
abbrev abc : List Nat := _law_alphabet_s1
theorem abc_ok : ChOk abc := by unfold ChOk abc _law_alphabet_s1; decide
@[simp] theorem abc_len : _law_alphabet_s1.length = 26 := rfl
theorem ChOk.take {l : List Nat} (h : ChOk l) (n : Nat) : ChOk (l.take n) := fun c hc => h c (List.mem_of_mem_take hc)
theorem ChOk.drop {l : List Nat} (h : ChOk l) (n : Nat) : ChOk (l.drop n) := fun c hc => h c (List.mem_of_mem_drop hc)
theorem ChOk.app {l m : List Nat} (h : ChOk l) (h' : ChOk m) : ChOk (l ++ m) := fun c hc => (List.mem_append.mp hc).elim (h c) (h' c)
theorem ChOk.one {l : List Nat} {c : Nat} (h : ChOk l) (hc : c ∈ l) : ChOk [c] := fun x hx => by
  rw [List.mem_singleton] at hx; subst hx; exact h _ hc
theorem ChOk.rep {l : List Nat} (h : ChOk l) (n : Nat) : ChOk (List.replicate n l).flatten := fun c hc => by
  obtain ⟨m, h1, h2⟩ := List.mem_flatten.mp hc
  rw [(List.mem_replicate.mp h1).2] at h2
  exact h c h2
theorem alpha_body (V : Ev) (T : TakeSp V) (s : D) (hs : StoreOk s) (top size kind low : Int) (k : Nat) (szs : D) (text : List Nat) (x9 : Option D) (h1 : 1 ≤ size) (h2 : size ≤ 8) (hk : (k : Int) < size) (hl : 0 ≤ low) (hl2 : low ≤ 26 - size + k) (ht : text.length = k) (hc : ChOk text) :
    ∃ s' at1 text', exs V _law_alphabet_b0 [some (.chg, s), some (.val, .int top), some (.val, .str abc), some (.own, szs), some (.val, .int size), some (.val, .int kind), some (.val, .str text), some (.val, .int low), some (.val, .int k), fr x9] =
      .ok .next [some (.chg, s'), some (.val, .int top), some (.val, .str abc), some (.own, szs), some (.val, .int size), some (.val, .int kind), some (.val, .str text'), some (.val, .int (at1 + 1)), some (.val, .int k), some (.val, .int at1)] ∧ StoreOk s' ∧ 0 ≤ at1 + 1 ∧ at1 + 1 ≤ 26 - size + (k + 1 : Nat) ∧ text'.length = k + 1 ∧ ChOk text' := by
  obtain ⟨r, s1, g1, ok1, g2, g3⟩ := T.call s (27 - size + k - low) hs (by omega)
  obtain ⟨ch, hch, hi⟩ := ix_str (l := abc) (r := low + r) (by omega) (by simp; omega) (by simp)
  refine ⟨s1, low + r, text ++ [ch], ?_, ok1, by omega, by omega, by simp [ht], hc.app (abc_ok.one hch)⟩
  have hsz : text.length + 1 ≤ 16777216 := by omega
  simp [_law_alphabet_b0, T.sig, g1, hi, hsz]
theorem alpha_run (V : Ev) (T : TakeSp V) (s : D) (hs : StoreOk s) (top : Int) (ht1 : 1 ≤ top) (ht2 : top ≤ 8) : ∃ l s', runFn V fn__law_alphabet [s, .int top] = .ok false (.str l) [s', .non] ∧ StoreOk s' ∧ l ≠ [] ∧ l.length ≤ 26 ∧ ChOk l := by
  obtain ⟨r1, s1, a1, ok1, a2, a3⟩ := T.call s 8 hs (by decide)
  obtain ⟨r2, s2, b1, ok2, b2, b3⟩ := T.call s1 4 ok1 (by decide)
  obtain ⟨d, hd, hi⟩ := ix_lst (ds := [.int 2, .int 3, .int 2, .int 1, .int 3, .int 2, .int 3, .int top]) (r := r1) a2 (by simp; omega)
  obtain ⟨z, rfl, hz1, hz2⟩ : ∃ z, d = .int z ∧ 1 ≤ z ∧ z ≤ 8 := by
    simp at hd
    rcases hd with rfl | rfl | rfl | rfl | rfl | rfl | rfl | rfl <;> exact ⟨_, rfl, by omega, by omega⟩
  obtain ⟨size, hsize, hs1, hs2⟩ : ∃ size, size = (if z < top then z else top) ∧ 1 ≤ size ∧ size ≤ 8 := ⟨_, rfl, by split <;> omega, by split <;> omega⟩
  rw [run_fn ⟨rfl, by decide⟩]
  by_cases k1 : r2 < 2
  · refine ⟨abc.take size.toNat, s2, ?_, ok2, ?_, ?_, abc_ok.take _⟩
    · simp [fn__law_alphabet, T.sig, a1, hi, b1, k1, ← hsize, cut_take _ (show 0 ≤ size by omega)]
    · intro h; have := congrArg List.length h; simp at this; omega
    · simp; omega
  by_cases k2 : r2 = 2
  · refine ⟨abc.drop (26 - size).toNat, s2, ?_, ok2, ?_, ?_, abc_ok.drop _⟩
    · simp [fn__law_alphabet, T.sig, a1, hi, b1, k2, ← hsize, cut_drop _ (show 0 ≤ 26 - size by omega)]
    · intro h; have := congrArg List.length h; simp at this; omega
    · simp
  · obtain ⟨n, rfl⟩ : ∃ n : Nat, size = n := ⟨size.toNat, by omega⟩
    obtain ⟨σ', e1, text, s', y8, y9, low, rfl, q1, q2, q3, q4, q5⟩ := forL_run (bd := bindT (.slot 8)) (body := exs V _law_alphabet_b0) (fun k σ => ∃ text s' y8 y9 low, σ = [some (.chg, s'), some (.val, .int top), some (.val, .str abc), some (.own, .lst [.int 2, .int 3, .int 2, .int 1, .int 3, .int 2, .int 3, .int top]), some (.val, .int n), some (.val, .int r2), some (.val, .str text), some (.val, .int low), fr y8, fr y9] ∧
        StoreOk s' ∧ 0 ≤ low ∧ low ≤ 26 - n + k ∧ text.length = k ∧ ChOk text) (rangeD 0 n) 0
      (fun k d σ hk ⟨text, s', y8, y9, low, e, q1, q2, q3, q4, q5⟩ => by
        have hkn : k < n := by
          have := (List.getElem?_eq_some_iff.mp hk).1
          rwa [rangeD_len] at this
        rw [rangeD_get _ _ _ hkn] at hk
        cases hk
        subst e
        rw [Nat.zero_add] at q3 q4
        obtain ⟨s'', at1, text', g1, g2, g3, g4, g5, g6⟩ := alpha_body V T s' q1 top n r2 low k _ text y9 hs1 hs2 (by omega) q2 q3 q4 q5
        exact ⟨_, .next, _, by simp, g1, .inl rfl, text', s'', some (.int k), some (.int at1), at1 + 1, rfl, g2, g3, by rw [Nat.zero_add]; exact g4, by rw [Nat.zero_add]; exact g5, g6⟩)
      [some (.chg, s2), some (.val, .int top), some (.val, .str abc), some (.own, .lst [.int 2, .int 3, .int 2, .int 1, .int 3, .int 2, .int 3, .int top]), some (.val, .int n), some (.val, .int r2), some (.val, .str []), some (.val, .int 0), none, none]
      ⟨[], s2, none, none, 0, rfl, ok2, by omega, by omega, rfl, fun c hc => by cases hc⟩
    rw [rangeD_len, Nat.zero_add] at q4
    have er : rngB (n : Int) = true := by unfold rngB; simp; omega
    refine ⟨text, s', ?_, q1, fun h => by subst h; simp at q4; omega, by omega, q5⟩
    simp [fn__law_alphabet, T.sig, a1, hi, b1, k1, k2, ← hsize, er, e1]
end K15
namespace K15
open Pu PySem
structure PickSp (V : Ev) : Prop where
  sig : V.sig "_law_pick" = some [.chg, .bor]
  str : ∀ s l, StoreOk s → l ≠ [] → l.length ≤ 16777216 → ∃ c s', c ∈ l ∧ V.call "_law_pick" [s, .str l] = .ok false (.str [c]) [s', .non] ∧ StoreOk s'
  lst : ∀ s ds, StoreOk s → ds ≠ [] → ds.length ≤ 16777216 → ∃ d s', d ∈ ds ∧ V.call "_law_pick" [s, .lst ds] = .ok false d [s', .non] ∧ StoreOk s'
structure SizeSp (V : Ev) : Prop where
  sig : V.sig "_law_size" = some [.chg, .val]
  call : ∀ s top, StoreOk s → 0 ≤ top → top < 2 ^ 199 → ∃ n s', V.call "_law_size" [s, .int top] = .ok false (.int n) [s', .non] ∧ StoreOk s' ∧ 0 ≤ n ∧ n ≤ top
theorem allStr_map (ls : List (List Nat)) : allStr (ls.map D.str) = some ls := by
  induction ls with
  | nil => rfl
  | cons l ls ih => simp [allStr, ih]
theorem joinN_nil : ∀ ls : List (List Nat), joinN [] ls = ls.flatten
  | [] => rfl
  | [x] => by simp [joinN]
  | x :: y :: r => by rw [joinN, joinN_nil (y :: r)]; simp
theorem join_ok (ls : List (List Nat)) (h : ls.flatten.length ≤ 16777216) : semMe .join (.str []) [.lst (ls.map D.str)] = some (false, .str ls.flatten) := by
  unfold semMe
  simp only [allStr_map]
  rw [if_pos, joinN_nil]
  rw [List.length_flatten] at h
  exact sz_true (by simpa using h)
theorem word_run (V : Ev) (T : TakeSp V) (P : PickSp V) (S : SizeSp V) (s : D) (hs : StoreOk s) (alpha : List Nat) (ha : alpha ≠ []) (hz : alpha.length ≤ 26) (hc : ChOk alpha) (top : Int) (h0 : 0 ≤ top) (h1 : top ≤ 1000) :
    ∃ w s', runFn V fn__law_word [s, .str alpha, .int top] = .ok false (.str w) [s', .non, .non] ∧ StoreOk s' ∧ (w.length : Int) ≤ top ∧ ChOk w := by
  obtain ⟨n, s1, a1, ok1, a2, a3⟩ := S.call s top hs h0 (by omega)
  obtain ⟨r, s2, b1, ok2, b2, b3⟩ := T.call s1 4 ok1 (by decide)
  obtain ⟨n, rfl⟩ : ∃ m : Nat, n = m := ⟨n.toNat, by omega⟩
  have hn : n ≤ 1000 := by omega
  rw [run_fn ⟨rfl, by decide⟩]
  by_cases k0 : r = 0
  · obtain ⟨c, s3, c1, c2, ok3⟩ := P.str s2 alpha ok2 ha (by omega)
    refine ⟨(List.replicate n [c]).flatten, s3, ?_, ok3, by simp; omega, (hc.one c1).rep n⟩
    simp [fn__law_word, T.sig, P.sig, S.sig, a1, b1, k0, c2, isColl, show (-9223372036854775808 : Int) ≤ n by omega, show (n : Int) < 9223372036854775808 by omega, show n ≤ 16777216 by omega]
  by_cases k1 : r = 1
  · obtain ⟨c, s3, c1, c2, ok3⟩ := P.str s2 alpha ok2 ha (by omega)
    obtain ⟨d, s4, d1, d2, ok4⟩ := P.str s3 alpha ok3 ha (by omega)
    refine ⟨((List.replicate n [c, d]).flatten).take n, s4, ?_, ok4, by simp; omega, (ChOk.rep (hc.one c1 |>.app (hc.one d1)) n).take n⟩
    simp [fn__law_word, T.sig, P.sig, S.sig, a1, b1, k1, c2, d2, isColl, show (-9223372036854775808 : Int) ≤ n by omega, show (n : Int) < 9223372036854775808 by omega, show n * 2 ≤ 16777216 by omega, show 2 * n ≤ 16777216 by omega, cut_take _ (show (0 : Int) ≤ (n : Int) by omega)]
  · obtain ⟨xs, σ', e1, ⟨s3, rfl, ok3⟩, e3, e4⟩ := compK_inv (V := V) (i := 6) (e := _law_word_e0) (fun σ => ∃ s, σ = [some (.chg, s), some (.bor, .str alpha), some (.val, .int top), some (.val, .int n), some (.val, .int r), none, none] ∧ StoreOk s) (fun d => ∃ c, d = .str [c] ∧ c ∈ alpha)
      (fun σ ⟨s, e, _⟩ => by subst e; rfl) (rangeD 0 n) [some (.chg, s2), some (.bor, .str alpha), some (.val, .int top), some (.val, .int n), some (.val, .int r), none, none]
      (fun d σ _ ⟨s, e, ok⟩ => by
        subst e
        obtain ⟨c, s3, c1, c2, ok3⟩ := P.str s alpha ok ha (by omega)
        exact ⟨false, .str [c], [some (.chg, s3), some (.bor, .str alpha), some (.val, .int top), some (.val, .int n), some (.val, .int r), none, some (.val, d)], by simp [_law_word_e0, P.sig, c2], ⟨c, rfl, c1⟩, s3, rfl, ok3⟩) ⟨s2, rfl, ok2⟩
    rw [rangeD_len] at e3
    obtain ⟨ls, rfl, hl1, hl2⟩ : ∃ ls : List (List Nat), xs = ls.map D.str ∧ (∀ l ∈ ls, l.length = 1) ∧ ∀ l ∈ ls, ChOk l := by
      clear e1 e3
      induction xs with
      | nil => exact ⟨[], rfl, fun _ h => (by cases h), fun _ h => (by cases h)⟩
      | cons x xs ih =>
        obtain ⟨c, rfl, hcm⟩ := e4 x (.head _)
        obtain ⟨ls, rfl, h1, h2⟩ := ih fun y hy => e4 y (.tail _ hy)
        refine ⟨[c] :: ls, rfl, fun l hl => ?_, fun l hl => ?_⟩
        · rcases List.mem_cons.mp hl with rfl | hl
          · rfl
          · exact h1 l hl
        · rcases List.mem_cons.mp hl with rfl | hl
          · exact hc.one hcm
          · exact h2 l hl
    have hlen : ls.flatten.length = n := by
      rw [List.length_map] at e3
      rw [← e3]
      clear e1 e3 e4 hl2
      induction ls with
      | nil => rfl
      | cons l ls ih =>
        have h1 := hl1 l (.head _)
        have h2 := ih fun m hm => hl1 m (.tail _ hm)
        simp [h1, h2]; omega
    have hch : ChOk ls.flatten := fun c hcm => by
      obtain ⟨l, q1, q2⟩ := List.mem_flatten.mp hcm
      exact hl2 l q1 c q2
    refine ⟨ls.flatten, s3, ?_, ok3, by omega, hch⟩
    have er : rngB (n : Int) = true := by unfold rngB; simp; omega
    have hsq : ls.length < 16777216 := by rw [List.length_map] at e3; omega
    simp [fn__law_word, T.sig, P.sig, S.sig, a1, b1, k0, k1, er, e1, hsq, isStrD, join_ok ls (by omega)]
theorem price_run (V : Ev) (T : TakeSp V) (s : D) (hs : StoreOk s) : ∃ p s', runFn V fn__law_price [s] = .ok false (.int p) [s'] ∧ StoreOk s' ∧ 0 ≤ p := by
  obtain ⟨k, s1, a1, ok1, a2, a3⟩ := T.call s 6 hs (by decide)
  rw [run_fn ⟨rfl, by decide⟩]
  by_cases k0 : k = 0
  · obtain ⟨r, s2, b1, ok2, b2, b3⟩ := T.call s1 2 ok1 (by decide)
    exact ⟨r, s2, by simp [fn__law_price, T.sig, a1, k0, b1], ok2, b2⟩
  by_cases k1 : k = 1
  · obtain ⟨r1, s2, b1, ok2, b2, b3⟩ := T.call s1 1000001 ok1 (by decide)
    obtain ⟨r2, s3, c1, ok3, c2, c3⟩ := T.call s2 990 ok2 (by decide)
    obtain ⟨r3, s4, d1, ok4, d2, d3⟩ := T.call s3 4 ok3 (by decide)
    obtain ⟨d, hd, hi⟩ := ix_lst (ds := [.int 1000000, .int 999999, .int r1, .int (10 + r2)]) (r := r3) d2 (by simp; omega)
    obtain ⟨z, rfl, hz⟩ : ∃ z, d = .int z ∧ 0 ≤ z := by
      simp at hd
      rcases hd with rfl | rfl | rfl | rfl <;> exact ⟨_, rfl, by omega⟩
    exact ⟨z, s4, by simp [fn__law_price, T.sig, a1, k1, b1, c1, d1, hi], ok4, hz⟩
  · obtain ⟨r, s2, b1, ok2, b2, b3⟩ := T.call s1 10 ok1 (by decide)
    exact ⟨r, s2, by simp [fn__law_price, T.sig, a1, k0, k1, b1], ok2, b2⟩
theorem unlike_run (V : Ev) (P : PickSp V) (s : D) (hs : StoreOk s) (alpha : List Nat) (ha : alpha ≠ []) (hz : alpha.length ≤ 26) (hc : ChOk alpha) (u v : List Nat) (top : Int) (ht : top ≤ 1000) (hv : (v.length : Int) ≤ top) (cv : ChOk v) :
    ∃ v' s', runFn V fn__law_unlike [s, .str alpha, .str u, .str v, .int top] = .ok false (.tup [.str u, .str v']) [s', .non, .non, .non, .non] ∧ StoreOk s' ∧ (v'.length : Int) ≤ top ∧ ChOk v' := by
  rw [run_fn ⟨rfl, by decide⟩]
  have hz1 : v.length ≤ 16777216 := by omega
  by_cases k0 : u = v
  · by_cases k1 : (v.length : Int) < top
    · obtain ⟨c, s3, c1, c2, ok3⟩ := P.str s alpha hs ha (by omega)
      refine ⟨v ++ [c], s3, ?_, ok3, by simp; omega, cv.app (hc.one c1)⟩
      simp [fn__law_unlike, P.sig, k0, k1, hz1, c2, show v.length + 1 ≤ 16777216 by omega]
    · refine ⟨v.drop 1, s, ?_, hs, by simp; omega, cv.drop 1⟩
      simp [fn__law_unlike, P.sig, k0, k1, hz1, cut_drop _ (show (0 : Int) ≤ 1 by decide)]
  · refine ⟨v, s, ?_, hs, hv, cv⟩
    simp [fn__law_unlike, P.sig, k0]
end K15
namespace K15
open Pu PySem
def fw (o : Option D) : Option (Md × D) := o.map fun d => (.own, d)
@[simp] theorem fw_some {d : D} : fw (some d) = some (.own, d) := rfl
@[simp] theorem fw_none : fw none = none := rfl
@[simp] theorem isChgS_fw {o : Option D} : isChgS (fw o) = false := by cases o <;> rfl
def TrOk (top : Nat) (d : D) : Prop := ∃ u v p, d = .tup [.str u, .str v, .int p] ∧ u.length ≤ top ∧ v.length ≤ top ∧ ChOk u ∧ ChOk v
def PrOk (d : D) : Prop := ∃ u v, d = .tup [.str u, .str v] ∧ ChOk u ∧ ChOk v
theorem shp_str {l : List Nat} (h : ChOk l) (n : Nat) : shp (.str l) n = true := by
  unfold shp
  rw [List.all_eq_true]
  intro c hc
  exact decide_eq_true (h c hc)
theorem shp_pr {d : D} (h : PrOk d) : shp d 58 = true ∧ shp d 59 = true ∧ shp d 60 = true := by
  obtain ⟨u, v, rfl, h1, h2⟩ := h
  refine ⟨?_, ?_, ?_⟩ <;> simp [shp, shps] <;> exact ⟨h1, h2⟩
theorem shps_all {ds : List D} {n : Nat} (h : ∀ d ∈ ds, shp d n = true) : shps ds n = true := by
  induction ds with
  | nil => unfold shps; rfl
  | cons d ds ih =>
    unfold shps
    rw [h d (.head _), ih fun x hx => h x (.tail _ hx)]; rfl
theorem nin_ok {d : D} {ds : List D} (h : PrOk d) (hs : ∀ x ∈ ds, PrOk x) : ∃ b, semCmp .nin d (.lst ds) = some b := by
  obtain ⟨u, v, rfl, h1, h2⟩ := h
  show ∃ b, (inD _ ds).map (!·) = some b
  unfold inD
  rw [(shp_pr ⟨u, v, rfl, h1, h2⟩).2.2, shps_all fun x hx => (shp_pr (hs x hx)).2.1]
  exact ⟨_, rfl⟩
structure WordSp (V : Ev) : Prop where
  sig : V.sig "_law_word" = some [.chg, .bor, .val]
  call : ∀ s alpha top, StoreOk s → alpha ≠ [] → alpha.length ≤ 26 → ChOk alpha → 0 ≤ top → top ≤ 1000 → ∃ w s', V.call "_law_word" [s, .str alpha, .int top] = .ok false (.str w) [s', .non, .non] ∧ StoreOk s' ∧ (w.length : Int) ≤ top ∧ ChOk w
structure PriceSp (V : Ev) : Prop where
  sig : V.sig "_law_price" = some [.chg]
  call : ∀ s, StoreOk s → ∃ p s', V.call "_law_price" [s] = .ok false (.int p) [s'] ∧ StoreOk s' ∧ 0 ≤ p
structure UnlikeSp (V : Ev) : Prop where
  sig : V.sig "_law_unlike" = some [.chg, .bor, .val, .val, .bor]
  call : ∀ s alpha u v top, StoreOk s → alpha ≠ [] → alpha.length ≤ 26 → ChOk alpha → top ≤ 1000 → (v.length : Int) ≤ top → ChOk v → ∃ v' s', V.call "_law_unlike" [s, .str alpha, .str u, .str v, .int top] = .ok false (.tup [.str u, .str v']) [s', .non, .non, .non, .non] ∧ StoreOk s' ∧ (v'.length : Int) ≤ top ∧ ChOk v'
section
variable (V : Ev) (T : TakeSp V) (P : PickSp V) (Wd : WordSp V) (Pr : PriceSp V) (U : UnlikeSp V)
include T P Wd Pr U
theorem linked_body (s : D) (hs : StoreOk s) (alpha : List Nat) (ha : alpha ≠ []) (hz : alpha.length ≤ 26) (hc : ChOk alpha) (count : Int) (top : Int) (h0 : 1 ≤ top) (h1 : top ≤ 8) (rules pairs : List D) (hr : ∀ d ∈ rules, TrOk 8 d) (hp : ∀ d ∈ pairs, PrOk d) (hl : rules.length ≤ 1000) (hl2 : pairs.length ≤ 1000) (k : D) (x7 x8 x9 x10 x11 x12 : Option D) :
    ∃ s' rules' pairs' y7 y8 y9 y10 y11 y12, exs V _law_linked_b0 [some (.chg, s), some (.bor, .str alpha), some (.bor, .int count), some (.val, .int top), some (.own, .lst rules), some (.own, .lst pairs), some (.val, k), fr x7, fr x8, fr x9, fr x10, fw x11, fr x12] =
      .ok .next [some (.chg, s'), some (.bor, .str alpha), some (.bor, .int count), some (.val, .int top), some (.own, .lst rules'), some (.own, .lst pairs'), some (.val, k), fr y7, fr y8, fr y9, fr y10, fw y11, fr y12] ∧
      StoreOk s' ∧ (∀ d ∈ rules', TrOk 8 d) ∧ (∀ d ∈ pairs', PrOk d) ∧ rules'.length ≤ rules.length + 1 ∧ pairs'.length ≤ pairs.length + 1 := by
  obtain ⟨w, s1, a1, ok1, a2, a3⟩ := Wd.call s alpha top hs ha hz hc (by omega) (by omega)
  obtain ⟨kd, s2, b1, ok2, b2, b3⟩ := T.call s1 6 ok1 (by decide)
  have half : ∀ (u : List Nat) (s3 : D) (ok3 : StoreOk s3) (cu : ChOk u) (hu : (u.length : Int) ≤ top), ∃ w2 v' p s4 s5 s6, V.call "_law_word" [s3, .str alpha, .int top] = .ok false (.str w2) [s4, .non, .non] ∧ V.call "_law_unlike" [s4, .str alpha, .str u, .str w2, .int top] = .ok false (.tup [.str u, .str v']) [s5, .non, .non, .non, .non] ∧
      V.call "_law_price" [s5] = .ok false (.int p) [s6] ∧ StoreOk s5 ∧ StoreOk s6 ∧ PrOk (.tup [.str u, .str v']) ∧ TrOk 8 (.tup [.str u, .str v', .int p]) ∧ ∃ b, semCmp .nin (.tup [.str u, .str v']) (.lst pairs) = some b := fun u s3 ok3 cu hu => by
    obtain ⟨w2, s4, c1, ok4, c2, c3⟩ := Wd.call s3 alpha top ok3 ha hz hc (by omega) (by omega)
    obtain ⟨v', s5, d1, ok5, d2, d3⟩ := U.call s4 alpha u w2 top ok4 ha hz hc (by omega) c2 c3
    obtain ⟨p, s6, e1, ok6, e2⟩ := Pr.call s5 ok5
    have pr : PrOk (.tup [.str u, .str v']) := ⟨u, v', rfl, cu, d3⟩
    exact ⟨w2, v', p, s4, s5, s6, c1, d1, e1, ok5, ok6, pr, ⟨u, v', p, rfl, by omega, by omega, cu, d3⟩, nin_ok pr hp⟩
  have app : ∀ {Q : D → Prop} {l : List D} {x : D}, (∀ d ∈ l, Q d) → Q x → ∀ d ∈ l ++ [x], Q d := fun h hx d hd => by
    rcases List.mem_append.mp hd with hd | hd
    · exact h d hd
    · rw [List.mem_singleton] at hd; subst hd; exact hx
  have hq1 : rules.length < 16777216 := by omega
  have hq2 : pairs.length < 16777216 := by omega
  by_cases k0 : 0 < rules.length ∧ kd < 4
  · obtain ⟨k1, k2⟩ := k0
    obtain ⟨r, s3, f1, ok3, f2, f3⟩ := T.call s2 rules.length ok2 (by omega)
    obtain ⟨ed, hed, hei⟩ := ix_lst (ds := rules) (r := r) f2 (by omega)
    obtain ⟨eu, evv, ep, rfl, el1, el2, ec1, ec2⟩ := hr ed hed
    obtain ⟨sg, s4, g1, g2, ok4⟩ := P.str s3 alpha ok3 ha (by omega)
    obtain ⟨fd, hfd, hfi⟩ := ix_lst (ds := [.str evv, .str (evv.take 1), .str (sg :: evv), .str (evv ++ [sg])]) (r := kd) b2 (by simp; omega)
    obtain ⟨f, rfl, hf1, hf2⟩ : ∃ f, fd = .str f ∧ ChOk f ∧ f.length ≤ 9 := by
      have cs := hc.one g1
      simp at hfd
      rcases hfd with rfl | rfl | rfl | rfl
      · exact ⟨_, rfl, ec2, by omega⟩
      · exact ⟨_, rfl, ec2.take 1, by simp; omega⟩
      · exact ⟨_, rfl, ChOk.app cs ec2, by simp; omega⟩
      · exact ⟨_, rfl, ec2.app cs, by simp; omega⟩
    obtain ⟨w2, v', p, s5, s6, s7, h1', h2', h3', ok6, ok7, pr, tr, b, hb⟩ := half (f.take top.toNat) s4 ok4 (hf1.take _) (by simp; omega)
    have lz : evv.length ≤ 16777216 ∧ 1 + evv.length ≤ 16777216 ∧ evv.length + 1 ≤ 16777216 ∧ f.length ≤ 16777216 := ⟨by omega, by omega, by omega, by omega⟩
    have ct : cutD f none (some top) = f.take top.toNat := cut_take f (by omega)
    have ct1 : cutD evv none (some 1) = evv.take 1 := cut_take evv (by decide)
    cases b with
    | true =>
      refine ⟨s7, rules ++ [.tup [.str (f.take top.toNat), .str v', .int p]], pairs ++ [.tup [.str (f.take top.toNat), .str v']], some (.str (f.take top.toNat)), some (.int kd), some (.tup [.str eu, .str evv, .int ep]), some (.str [sg]), some (.lst [.str evv, .str (evv.take 1), .str (sg :: evv), .str (evv ++ [sg])]), some (.tup [.str (f.take top.toNat), .str v']), ?_, ok7, app hr tr, app hp pr, by simp, by simp⟩
      simp [_law_linked_b0, T.sig, P.sig, Wd.sig, Pr.sig, U.sig, a1, b1, k1, k2, f1, hei, g2, hfi, h1', h2', h3', hb, lz, ct, ct1, hq1, hq2, isColl]
    | false =>
      refine ⟨s6, rules, pairs, some (.str (f.take top.toNat)), some (.int kd), some (.tup [.str eu, .str evv, .int ep]), some (.str [sg]), some (.lst [.str evv, .str (evv.take 1), .str (sg :: evv), .str (evv ++ [sg])]), some (.tup [.str (f.take top.toNat), .str v']), ?_, ok6, hr, hp, by simp, by simp⟩
      simp [_law_linked_b0, T.sig, P.sig, Wd.sig, Pr.sig, U.sig, a1, b1, k1, k2, f1, hei, g2, hfi, h1', h2', h3', hb, lz, ct, ct1, hq1, hq2, isColl]
  · obtain ⟨w2, v', p, s5, s6, s7, h1', h2', h3', ok6, ok7, pr, tr, b, hb⟩ := half w s2 ok2 a3 a2
    cases b with
    | true =>
      refine ⟨s7, rules ++ [.tup [.str w, .str v', .int p]], pairs ++ [.tup [.str w, .str v']], some (.str w), some (.int kd), x9, x10, x11, some (.tup [.str w, .str v']), ?_, ok7, app hr tr, app hp pr, by simp, by simp⟩
      by_cases k1 : 0 < rules.length
      · have k2 : ¬ kd < 4 := fun q => k0 ⟨k1, q⟩
        simp [_law_linked_b0, T.sig, P.sig, Wd.sig, Pr.sig, U.sig, a1, b1, k1, k2, h1', h2', h3', hb, hq1, hq2, isColl]
      · simp [_law_linked_b0, T.sig, P.sig, Wd.sig, Pr.sig, U.sig, a1, b1, k1, h1', h2', h3', hb, hq1, hq2, isColl]
    | false =>
      refine ⟨s6, rules, pairs, some (.str w), some (.int kd), x9, x10, x11, some (.tup [.str w, .str v']), ?_, ok6, hr, hp, by simp, by simp⟩
      by_cases k1 : 0 < rules.length
      · have k2 : ¬ kd < 4 := fun q => k0 ⟨k1, q⟩
        simp [_law_linked_b0, T.sig, P.sig, Wd.sig, Pr.sig, U.sig, a1, b1, k1, k2, h1', h2', h3', hb, hq1, hq2, isColl]
      · simp [_law_linked_b0, T.sig, P.sig, Wd.sig, Pr.sig, U.sig, a1, b1, k1, h1', h2', h3', hb, hq1, hq2, isColl]
theorem linked_run (s : D) (hs : StoreOk s) (alpha : List Nat) (ha : alpha ≠ []) (hz : alpha.length ≤ 26) (hc : ChOk alpha) (count : Int) (hc0 : 0 ≤ count) (hc1 : count ≤ 60) (top : Int) (h0 : 1 ≤ top) (h1 : top ≤ 8) :
    ∃ ds s', runFn V fn__law_linked [s, .str alpha, .int count, .int top] = .ok true (.lst ds) [s', .non, .non, .non] ∧ StoreOk s' ∧ (∀ d ∈ ds, TrOk 8 d) ∧ ds.length ≤ 60 := by
  obtain ⟨n, rfl⟩ : ∃ n : Nat, count = n := ⟨count.toNat, by omega⟩
  obtain ⟨σ', e1, s', rules, pairs, y6, y7, y8, y9, y10, y11, y12, rfl, q1, q2, q3, q4, q5⟩ := forL_run (bd := bindT (.slot 6)) (body := exs V _law_linked_b0) (fun k σ => ∃ s' rules pairs y6 y7 y8 y9 y10 y11 y12, σ = [some (.chg, s'), some (.bor, .str alpha), some (.bor, .int n), some (.val, .int top), some (.own, .lst rules), some (.own, .lst pairs), fr y6, fr y7, fr y8, fr y9, fr y10, fw y11, fr y12] ∧
      StoreOk s' ∧ (∀ d ∈ rules, TrOk 8 d) ∧ (∀ d ∈ pairs, PrOk d) ∧ rules.length ≤ k ∧ pairs.length ≤ k) (rangeD 0 n) 0
    (fun k d σ hk ⟨s', rules, pairs, y6, y7, y8, y9, y10, y11, y12, e, q1, q2, q3, q4, q5⟩ => by
      have hkn : k < n := by
        have := (List.getElem?_eq_some_iff.mp hk).1
        rwa [rangeD_len] at this
      subst e
      obtain ⟨s2, rules', pairs', z7, z8, z9, z10, z11, z12, g1, g2, g3, g4, g5, g6⟩ := linked_body V T P Wd Pr U s' q1 alpha ha hz hc n top h0 h1 rules pairs q2 q3 (by omega) (by omega) d y7 y8 y9 y10 y11 y12
      exact ⟨_, .next, _, by simp, g1, .inl rfl, s2, rules', pairs', some d, z7, z8, z9, z10, z11, z12, rfl, g2, g3, g4, by omega, by omega⟩)
    [some (.chg, s), some (.bor, .str alpha), some (.bor, .int n), some (.val, .int top), some (.own, .lst []), some (.own, .lst []), none, none, none, none, none, none, none]
    ⟨s, [], [], none, none, none, none, none, none, none, rfl, hs, fun _ h => (by cases h), fun _ h => (by cases h), by simp, by simp⟩
  rw [rangeD_len, Nat.zero_add] at q4
  have er : rngB (n : Int) = true := by unfold rngB; simp; omega
  rw [run_fn ⟨rfl, by decide⟩]
  refine ⟨rules, s', ?_, q1, q2, by omega⟩
  simp [fn__law_linked, er, e1, isColl]
end
end K15
namespace K15
open Pu PySem
theorem shp_tr {n : Nat} {d : D} (h : TrOk n d) : shp d 60 = true := by
  obtain ⟨u, v, p, rfl, _, _, h1, h2⟩ := h
  simp [shp, shps]
  exact ⟨h1, h2⟩
theorem alike_tr {n : Nat} {a b : D} (h : TrOk n a) (h' : TrOk n b) : PySem.W.alike (pyOf a) (pyOf b) = true := by
  obtain ⟨u, v, p, rfl, _⟩ := h
  obtain ⟨u', v', p', rfl, _⟩ := h'
  simp [pyOf, toPy, toPys, PySem.W.alike, PySem.W.alikeAll]
theorem sort_tr {n : Nat} {ds : List D} (h : ∀ d ∈ ds, TrOk n d) : sortB ds = true := by
  unfold sortB
  rw [Bool.and_eq_true, Bool.and_eq_true, Bool.or_eq_true]
  refine ⟨List.all_eq_true.mpr fun d hd => shp_tr (h d hd), List.all_eq_true.mpr fun a ha => List.all_eq_true.mpr fun b hb => alike_tr (h a ha) (h b hb), .inl (List.all_eq_true.mpr fun d hd => ?_)⟩
  obtain ⟨u, v, p, rfl, _⟩ := h d hd
  rfl
theorem stock_run (V : Ev) (alpha : List Nat) (ha : alpha ≠ []) (hz : alpha.length ≤ 26) (hc : ChOk alpha) (rules : List D) (hr : ∀ d ∈ rules, TrOk 8 d) (hl : rules.length ≤ 60) :
    ∃ ds, runFn V fn__law_stock [.str alpha, .lst rules] = .ok true (.lst ds) [.non, .non] ∧ ds ≠ [] ∧ (∀ d ∈ ds, TrOk 8 d) ∧ ds.length ≤ 86 := by
  have e1 := compK_map (V := V) (i := 2) (e := _law_stock_e0) (σ := [some (.bor, .str alpha), some (.bor, .lst rules), none]) (fun d => .tup [d, d, .int 0]) rfl (alpha.map fun c => D.str [c]) fun d hd => ⟨false, by simp [_law_stock_e0]⟩
  rw [run_fn ⟨rfl, by decide⟩]
  refine ⟨(alpha.map fun c => D.str [c]).map (fun d => .tup [d, d, .int 0]) ++ rules.mergeSort leB, ?_, ?_, ?_, ?_⟩
  · rw [List.map_map] at e1
    have hs := sort_tr hr
    simp [fn__law_stock, e1, hs, show alpha.length < 16777216 by omega, show alpha.length + rules.length ≤ 16777216 by omega]
  · intro h
    rw [List.append_eq_nil_iff, List.map_eq_nil_iff, List.map_eq_nil_iff] at h
    exact ha h.1
  · intro d hd
    rcases List.mem_append.mp hd with hd | hd
    · rw [List.map_map] at hd
      obtain ⟨ch, h1, rfl⟩ := List.mem_map.mp hd
      exact ⟨[ch], [ch], 0, rfl, by simp, by simp, hc.one h1, hc.one h1⟩
    · exact hr d (List.mem_mergeSort.mp hd)
  · simp; omega
def uD : D → List Nat
  | .tup (.str u :: _) => u
  | _ => []
def vD : D → List Nat
  | .tup (_ :: .str v :: _) => v
  | _ => []
theorem flat_len {n : Nat} (f : D → List Nat) : ∀ {ds : List D}, (∀ d ∈ ds, (f d).length ≤ n) → ((ds.map f).flatten).length ≤ n * ds.length
  | [], _ => by simp
  | d :: ds, h => by
    have h1 := h d (.head _)
    have h2 := flat_len f fun x hx => h x (.tail _ hx)
    rw [List.map_cons, List.flatten_cons, List.length_append, List.length_cons, Nat.mul_succ]
    omega
theorem used_run (V : Ev) (n : Nat) (ds : List D) (h : ∀ d ∈ ds, TrOk n d) (hl : n * ds.length ≤ 16777215) (hl2 : ds.length ≤ 16777215) : runFn V fn__law_used [.lst ds] = .ok false (.str (ds.map uD).flatten) [.non] := by
  have e1 := compK_map (V := V) (i := 1) (e := _law_used_e0) (σ := [some (.bor, .lst ds), none]) (fun d => .str (uD d)) rfl ds fun d hd => by
    obtain ⟨u, v, p, rfl, _⟩ := h d hd
    exact ⟨false, by simp [_law_used_e0, uD]⟩
  have hf := flat_len uD (n := n) (ds := ds) fun d hd => by
    obtain ⟨u, v, p, rfl, h1, h2, _⟩ := h d hd
    exact h1
  have j := join_ok (ds.map uD) (by omega)
  rw [List.map_map] at j
  rw [run_fn ⟨rfl, by decide⟩]
  have j' : semMe .join (.str []) [.lst (ds.map fun d => D.str (uD d))] = some (false, .str (ds.map uD).flatten) := j
  simp [fn__law_used, e1, isStrD, j', show ds.length < 16777216 by omega]
theorem made_run (V : Ev) (n : Nat) (ds : List D) (h : ∀ d ∈ ds, TrOk n d) (hl : n * ds.length ≤ 16777215) (hl2 : ds.length ≤ 16777215) : runFn V fn__law_made [.lst ds] = .ok false (.str (ds.map vD).flatten) [.non] := by
  have e1 := compK_map (V := V) (i := 1) (e := _law_made_e0) (σ := [some (.bor, .lst ds), none]) (fun d => .str (vD d)) rfl ds fun d hd => by
    obtain ⟨u, v, p, rfl, _⟩ := h d hd
    exact ⟨false, by simp [_law_made_e0, vD]⟩
  have hf := flat_len vD (n := n) (ds := ds) fun d hd => by
    obtain ⟨u, v, p, rfl, h1, h2, _⟩ := h d hd
    exact h2
  have j := join_ok (ds.map vD) (by omega)
  rw [List.map_map] at j
  rw [run_fn ⟨rfl, by decide⟩]
  have j' : semMe .join (.str []) [.lst (ds.map fun d => D.str (vD d))] = some (false, .str (ds.map vD).flatten) := j
  simp [fn__law_made, e1, isStrD, j', show ds.length < 16777216 by omega]
structure UsedSp (V : Ev) : Prop where
  sig : V.sig "_law_used" = some [.bor]
  sig2 : V.sig "_law_made" = some [.bor]
  call : ∀ ds, (∀ d ∈ ds, TrOk 8 d) → ds.length ≤ 1000 → V.call "_law_used" [.lst ds] = .ok false (.str (ds.map uD).flatten) [.non]
  call2 : ∀ ds, (∀ d ∈ ds, TrOk 8 d) → ds.length ≤ 1000 → V.call "_law_made" [.lst ds] = .ok false (.str (ds.map vD).flatten) [.non]
section
variable (V : Ev) (T : TakeSp V) (P : PickSp V) (S : SizeSp V) (Us : UsedSp V)
include T P S Us
theorem pieces_body (s : D) (hs : StoreOk s) (stock : List D) (h1 : stock ≠ []) (h2 : ∀ d ∈ stock, TrOk 8 d) (h3 : stock.length ≤ 86) (count : D) (top : Int) (pcs : List D) (hp : ∀ d ∈ pcs, TrOk 8 d) (hl : pcs.length ≤ 500) (size : D) (same : Bool) (piece k : D) (hpc : TrOk 8 piece) (x9 x10 : Option D) :
    ∃ s' pcs' piece' y9 y10, exs V _law_pieces_b0 [some (.chg, s), some (.bor, .lst stock), some (.val, count), some (.bor, .int top), some (.own, .lst pcs), some (.val, size), some (.val, .bl same), some (.val, piece), some (.val, k), fr x9, fr x10] =
      .ok .next [some (.chg, s'), some (.bor, .lst stock), some (.val, count), some (.bor, .int top), some (.own, .lst pcs'), some (.val, size), some (.val, .bl same), some (.val, piece'), some (.val, k), fr y9, fr y10] ∧ StoreOk s' ∧ TrOk 8 piece' ∧ (∀ d ∈ pcs', TrOk 8 d) ∧ pcs'.length ≤ pcs.length + 1 := by
  obtain ⟨pd, s1, hpd, a1, ok1⟩ := P.lst s stock hs h1 (by omega)
  obtain ⟨piece', s2, hst, hok, hpi⟩ : ∃ piece' s2, (if same then (piece, s) else (pd, s1)) = (piece', s2) ∧ StoreOk s2 ∧ TrOk 8 piece' := by
    cases same with
    | true => exact ⟨_, _, rfl, hs, hpc⟩
    | false => exact ⟨_, _, rfl, ok1, h2 pd hpd⟩
  obtain ⟨u, v, p, rfl, u1, u2, u3, u4⟩ := hpi
  have f1 := flat_len uD (n := 8) (ds := pcs) fun d hd => by
    obtain ⟨u, v, p, rfl, h1, h2, _⟩ := hp d hd
    exact h1
  have f2 := flat_len vD (n := 8) (ds := pcs) fun d hd => by
    obtain ⟨u, v, p, rfl, h1, h2, _⟩ := hp d hd
    exact h2
  have g1 := Us.call pcs hp (by omega)
  have g2 := Us.call2 pcs hp (by omega)
  generalize (pcs.map uD).flatten = U at f1 g1
  generalize (pcs.map vD).flatten = M at f2 g2
  have z : U.length ≤ 16777216 ∧ M.length ≤ 16777216 ∧ u.length ≤ 16777216 ∧ v.length ≤ 16777216 := ⟨by omega, by omega, by omega, by omega⟩
  have hq : pcs.length < 16777216 := by omega
  by_cases c1 : (U.length : Int) + u.length ≤ top ∧ (M.length : Int) + v.length ≤ top
  · refine ⟨s2, pcs ++ [.tup [.str u, .str v, .int p]], .tup [.str u, .str v, .int p], some (.int (U.length + u.length)), some (.int (M.length + v.length)), ?_, hok, ⟨u, v, p, rfl, u1, u2, u3, u4⟩, fun d hd => ?_, by simp⟩
    · cases same with
      | true =>
        cases hst
        simp [_law_pieces_b0, P.sig, Us.sig, Us.sig2, g1, g2, z, c1, hq]
      | false =>
        cases hst
        simp [_law_pieces_b0, P.sig, Us.sig, Us.sig2, a1, g1, g2, z, c1, hq]
    · rcases List.mem_append.mp hd with hd | hd
      · exact hp d hd
      · rw [List.mem_singleton] at hd; subst hd; exact ⟨u, v, p, rfl, u1, u2, u3, u4⟩
  · refine ⟨s2, pcs, .tup [.str u, .str v, .int p], some (.int (U.length + u.length)), some (.int (M.length + v.length)), ?_, hok, ⟨u, v, p, rfl, u1, u2, u3, u4⟩, hp, by simp⟩
    by_cases c2 : (U.length : Int) + u.length ≤ top
    · have c3 : ¬ (M.length : Int) + v.length ≤ top := fun q => c1 ⟨c2, q⟩
      cases same with
      | true =>
        cases hst
        simp [_law_pieces_b0, P.sig, Us.sig, Us.sig2, g1, g2, z, c2, c3, hq]
      | false =>
        cases hst
        simp [_law_pieces_b0, P.sig, Us.sig, Us.sig2, a1, g1, g2, z, c2, c3, hq]
    · cases same with
      | true =>
        cases hst
        simp [_law_pieces_b0, P.sig, Us.sig, Us.sig2, g1, g2, z, c2, hq]
      | false =>
        cases hst
        simp [_law_pieces_b0, P.sig, Us.sig, Us.sig2, a1, g1, g2, z, c2, hq]
theorem pieces_run (s : D) (hs : StoreOk s) (stock : List D) (h1 : stock ≠ []) (h2 : ∀ d ∈ stock, TrOk 8 d) (h3 : stock.length ≤ 86) (count top : Int) (c0 : 0 ≤ count) (c1 : count ≤ 128) :
    ∃ ds s', runFn V fn__law_pieces [s, .lst stock, .int count, .int top] = .ok true (.lst ds) [s', .non, .non, .non] ∧ StoreOk s' ∧ (∀ d ∈ ds, TrOk 8 d) ∧ ds.length ≤ 128 := by
  obtain ⟨n, s1, a1, ok1, a2, a3⟩ := S.call s count hs c0 (by omega)
  obtain ⟨r, s2, b1, ok2, b2, b3⟩ := T.call s1 6 ok1 (by decide)
  obtain ⟨pd, s3, hpd, d1, ok3⟩ := P.lst s2 stock ok2 h1 (by omega)
  obtain ⟨n, rfl⟩ : ∃ m : Nat, n = m := ⟨n.toNat, by omega⟩
  obtain ⟨σ', e1, s', pcs, piece, y8, y9, y10, rfl, q1, q2, q3, q4⟩ := forL_run (bd := bindT (.slot 8)) (body := exs V _law_pieces_b0) (fun k σ => ∃ s' pcs piece y8 y9 y10, σ = [some (.chg, s'), some (.bor, .lst stock), some (.val, .int count), some (.bor, .int top), some (.own, .lst pcs), some (.val, .int n), some (.val, .bl (decide (r = 0))), some (.val, piece), fr y8, fr y9, fr y10] ∧
      StoreOk s' ∧ TrOk 8 piece ∧ (∀ d ∈ pcs, TrOk 8 d) ∧ pcs.length ≤ k) (rangeD 0 n) 0
    (fun k d σ hk ⟨s', pcs, piece, y8, y9, y10, e, q1, q2, q3, q4⟩ => by
      have hkn : k < n := by
        have := (List.getElem?_eq_some_iff.mp hk).1
        rwa [rangeD_len] at this
      subst e
      obtain ⟨s2, pcs', piece', z9, z10, g1, g2, g3, g4, g5⟩ := pieces_body V T P S Us s' q1 stock h1 h2 h3 (.int count) top pcs q3 (by omega) (.int n) (decide (r = 0)) piece d q2 y9 y10
      exact ⟨_, .next, _, by simp, g1, .inl rfl, s2, pcs', piece', some d, z9, z10, rfl, g2, g3, g4, by omega⟩)
    [some (.chg, s3), some (.bor, .lst stock), some (.val, .int count), some (.bor, .int top), some (.own, .lst []), some (.val, .int n), some (.val, .bl (decide (r = 0))), some (.val, pd), none, none, none]
    ⟨s3, [], pd, none, none, none, rfl, ok3, h2 pd hpd, fun _ h => (by cases h), by simp⟩
  rw [rangeD_len, Nat.zero_add] at q4
  have er : rngB (n : Int) = true := by unfold rngB; simp; omega
  rw [run_fn ⟨rfl, by decide⟩]
  refine ⟨pcs, s', ?_, q1, q3, by omega⟩
  simp [fn__law_pieces, T.sig, P.sig, S.sig, a1, b1, d1, er, e1]
end
end K15
namespace K15
open Pu PySem
structure AlphaSp (V : Ev) : Prop where
  sig : V.sig "_law_alphabet" = some [.chg, .val]
  call : ∀ s top, StoreOk s → 1 ≤ top → top ≤ 8 → ∃ l s', V.call "_law_alphabet" [s, .int top] = .ok false (.str l) [s', .non] ∧ StoreOk s' ∧ l ≠ [] ∧ l.length ≤ 26 ∧ ChOk l
structure LinkedSp (V : Ev) : Prop where
  sig : V.sig "_law_linked" = some [.chg, .bor, .bor, .val]
  call : ∀ s alpha count top, StoreOk s → alpha ≠ [] → alpha.length ≤ 26 → ChOk alpha → 0 ≤ count → count ≤ 60 → 1 ≤ top → top ≤ 8 →
    ∃ ds s', V.call "_law_linked" [s, .str alpha, .int count, .int top] = .ok true (.lst ds) [s', .non, .non, .non] ∧ StoreOk s' ∧ (∀ d ∈ ds, TrOk 8 d) ∧ ds.length ≤ 60
structure StockSp (V : Ev) : Prop where
  sig : V.sig "_law_stock" = some [.bor, .bor]
  call : ∀ alpha rules, alpha ≠ [] → alpha.length ≤ 26 → ChOk alpha → (∀ d ∈ rules, TrOk 8 d) → rules.length ≤ 60 → ∃ ds, V.call "_law_stock" [.str alpha, .lst rules] = .ok true (.lst ds) [.non, .non] ∧ ds ≠ [] ∧ (∀ d ∈ ds, TrOk 8 d) ∧ ds.length ≤ 86
structure PiecesSp (V : Ev) : Prop where
  sig : V.sig "_law_pieces" = some [.chg, .bor, .val, .bor]
  call : ∀ s stock count top, StoreOk s → stock ≠ [] → (∀ d ∈ stock, TrOk 8 d) → stock.length ≤ 86 → 0 ≤ count → count ≤ 128 → ∃ ds s', V.call "_law_pieces" [s, .lst stock, .int count, .int top] = .ok true (.lst ds) [s', .non, .non, .non] ∧ StoreOk s' ∧ (∀ d ∈ ds, TrOk 8 d) ∧ ds.length ≤ 128
theorem pick4 {a b c d : Int} {r : Int} (h0 : 0 ≤ r) (h : r < 4) : ∃ z, semIdx (.lst [.int a, .int b, .int c, .int d]) (.int r) = some (.int z) ∧ (z = a ∨ z = b ∨ z = c ∨ z = d) := by
  obtain ⟨x, hx, hi⟩ := ix_lst (ds := [.int a, .int b, .int c, .int d]) (r := r) h0 (by simp; omega)
  simp at hx
  rcases hx with rfl | rfl | rfl | rfl
  · exact ⟨_, hi, .inl rfl⟩
  · exact ⟨_, hi, .inr (.inl rfl)⟩
  · exact ⟨_, hi, .inr (.inr (.inl rfl))⟩
  · exact ⟨_, hi, .inr (.inr (.inr rfl))⟩
theorem some_pass_run (V : Ev) (T : TakeSp V) (P : PickSp V) (A : AlphaSp V) (Pr : PriceSp V) (L : LinkedSp V) (St : StockSp V) (Pc : PiecesSp V) (s : D) (hs : StoreOk s) :
    ∃ ds s', runFn V fn__law_some_pass [s] = .ok true (.lst ds) [s'] ∧ StoreOk s' ∧ (∀ d ∈ ds, TrOk 8 d) ∧ ds.length ≤ 128 := by
  obtain ⟨alpha, s1, a1, ok1, a2, a3, a4⟩ := A.call s 8 hs (by decide) (by decide)
  obtain ⟨r, s2, b1, ok2, b2, b3⟩ := T.call s1 16 ok1 (by decide)
  rw [run_fn ⟨rfl, by decide⟩]
  by_cases k0 : r = 0
  · obtain ⟨c, s3, c1, c2, ok3⟩ := P.str s2 alpha ok2 a2 (by omega)
    obtain ⟨p, s4, d1, ok4, d2⟩ := Pr.call s3 ok3
    obtain ⟨c', s5, e1, e2, ok5⟩ := P.str s4 alpha ok4 a2 (by omega)
    obtain ⟨p', s6, f1, ok6, f2⟩ := Pr.call s5 ok5
    obtain ⟨r2, s7, g1, ok7, g2, g3⟩ := T.call s6 65 ok6 (by decide)
    refine ⟨((List.replicate 64 [D.tup [.str [c], .str [], .int p], .tup [.str [], .str [c'], .int p']]).flatten).take (64 + r2).toNat, s7, ?_, ok7, fun d hd => ?_, ?_⟩
    · simp [fn__law_some_pass, T.sig, P.sig, A.sig, Pr.sig, a1, b1, k0, c2, d1, e2, f1, g1, cut_take _ (show 0 ≤ 64 + r2 by omega), -List.reduceReplicate]
    · have h1 := List.mem_of_mem_take hd
      obtain ⟨l, h2, h3⟩ := List.mem_flatten.mp h1
      rw [(List.mem_replicate.mp h2).2] at h3
      have e0 : ChOk [] := fun _ h => by cases h
      simp at h3
      rcases h3 with rfl | rfl
      · exact ⟨[c], [], p, rfl, by simp, by simp, a4.one c1, e0⟩
      · exact ⟨[], [c'], p', rfl, by simp, by simp, e0, a4.one e1⟩
    · rw [List.length_take]; omega
  · obtain ⟨r1, s3, c1, ok3, c2, c3⟩ := T.call s2 6 ok2 (by decide)
    obtain ⟨r2, s4, d1, ok4, d2, d3⟩ := T.call s3 4 ok3 (by decide)
    obtain ⟨z, hz, hz2⟩ := pick4 (a := 1) (b := 2) (c := 3) (d := 8) d2 (by omega)
    obtain ⟨rules, s5, e1, ok5, e2, e3⟩ := L.call s4 alpha (1 + r1) z ok4 a2 a3 a4 (by omega) (by omega) (by omega) (by omega)
    obtain ⟨stock, f1, f2, f3, f4⟩ := St.call alpha rules a2 a3 a4 e2 e3
    obtain ⟨r3, s6, g1, ok6, g2, g3⟩ := T.call s5 4 ok5 (by decide)
    obtain ⟨w, hw, hw2⟩ := pick4 (a := 6) (b := 12) (c := 40) (d := 128) g2 (by omega)
    obtain ⟨ds, s7, h1, ok7, h2, h3⟩ := Pc.call s6 stock w 64 ok6 f2 f3 f4 (by omega) (by omega)
    refine ⟨ds, s7, ?_, ok7, h2, h3⟩
    simp [fn__law_some_pass, T.sig, P.sig, A.sig, Pr.sig, L.sig, St.sig, Pc.sig, a1, b1, k0, c1, d1, hz, e1, f1, g1, hw, h1]
def gF (u v : List Nat) : Int := if v.length < u.length then 0 else if v.length = u.length then 1 else 2
theorem group_of_run (V : Ev) (h0 : V.glob "SHORTER" = some (.int 0)) (h1 : V.glob "EQUAL" = some (.int 1)) (h2 : V.glob "LONGER" = some (.int 2)) (u v : List Nat) (p : Int) (hu : u.length ≤ 1000) (hv : v.length ≤ 1000) : runFn V fn_group_of [.tup [.str u, .str v, .int p]] = .ok false (.int (gF u v)) [.non] := by
  have z : u.length ≤ 16777216 ∧ v.length ≤ 16777216 := ⟨by omega, by omega⟩
  rw [run_fn ⟨rfl, by decide⟩]
  unfold gF
  by_cases k1 : v.length < u.length
  · simp [fn_group_of, h0, z, k1]
  · by_cases k2 : v.length = u.length
    · simp [fn_group_of, h1, z, k1, k2]
    · have k3 : ¬ (v.length : Int) = u.length := by omega
      simp [fn_group_of, h2, z, k1, k2, k3]
theorem group_run (V : Ev) (u v : List Nat) (p : Int) (hu : u.length ≤ 1000) (hv : v.length ≤ 1000) : runFn V fn__law_group [.tup [.str u, .str v, .int p]] = .ok false (.int (gF u v)) [.non] := by
  have z : u.length ≤ 16777216 ∧ v.length ≤ 16777216 := ⟨by omega, by omega⟩
  have m2 : ∀ i : Int, mulB 2 i = true := fun i => mulB_l i (by decide) (by decide)
  rw [run_fn ⟨rfl, by decide⟩]
  unfold gF
  by_cases k1 : v.length < u.length
  · have q1 : ¬ ((v.length : Int) - u.length = 0) := by omega
    have q2 : ¬ (0 < (v.length : Int) - u.length) := by omega
    have q3 : ¬ u.length < v.length := by omega
    simp [fn__law_group, z, k1, m2, q1, q2, q3]
  · by_cases k2 : v.length = u.length
    · simp [fn__law_group, z, k1, k2, m2]
    · have q1 : ¬ ((v.length : Int) - u.length = 0) := by omega
      have q2 : 0 < (v.length : Int) - u.length := by omega
      have q3 : u.length < v.length := by omega
      simp [fn__law_group, z, k1, k2, m2, q1, q2, q3]
end K15
namespace K15
open Pu PySem
abbrev T3 := List Nat × List Nat × Int
def toD (t : T3) : D := .tup [.str t.1, .str t.2.1, .int t.2.2]
def Sm3 (t : T3) : Prop := t.1.length ≤ 8 ∧ t.2.1.length ≤ 8 ∧ ChOk t.1 ∧ ChOk t.2.1
theorem tr_list : ∀ {ds : List D}, (∀ d ∈ ds, TrOk 8 d) → ∃ ts : List T3, ds = ts.map toD ∧ ∀ t ∈ ts, Sm3 t
  | [], _ => ⟨[], rfl, fun _ h => by cases h⟩
  | d :: ds, h => by
    obtain ⟨u, v, p, rfl, h1, h2, h3, h4⟩ := h d (.head _)
    obtain ⟨ts, rfl, g⟩ := tr_list fun x hx => h x (.tail _ hx)
    refine ⟨(u, v, p) :: ts, rfl, fun t ht => ?_⟩
    rcases List.mem_cons.mp ht with rfl | ht
    · exact ⟨h1, h2, h3, h4⟩
    · exact g t ht
def adv (g : Int) (t : T3) : Int := if gF t.1 t.2.1 ≤ g then t.2.1.length else t.1.length
def item (place : Int) (t : T3) : D := .tup [.int place, .str t.1, .str t.2.1]
def chainG (g : Int) : Int → List T3 → List D
  | _, [] => []
  | place, t :: ts => (if gF t.1 t.2.1 = g ∧ t.1 ≠ t.2.1 then [item place t] else []) ++ chainG g (place + adv g t) ts
def placeE (g : Int) (place : Int) (ts : List T3) : Int := place + (ts.map (adv g)).sum
structure GroupSp (V : Ev) : Prop where
  sig : V.sig "group_of" = some [.bor]
  call : ∀ t : T3, Sm3 t → V.call "group_of" [toD t] = .ok false (.int (gF t.1 t.2.1)) [.non]
theorem pc_step (V : Ev) (G : GroupSp V) (pcs : D) (g : Int) (t : T3) (ht : Sm3 t) (chain : List D) (hl : chain.length ≤ 10000) (place : Int) (x5 x6 x7 : Option D) :
    ∃ y5 y6 y7, exs V pass_chain_b0 [some (.bor, pcs), some (.own, .lst chain), some (.val, .int g), some (.val, .int place), some (.val, toD t), fr x5, fr x6, fr x7] =
      .ok .next [some (.bor, pcs), some (.own, .lst (chain ++ (if gF t.1 t.2.1 = g ∧ t.1 ≠ t.2.1 then [item place t] else []))), some (.val, .int g), some (.val, .int (place + adv g t)), some (.val, toD t), fr y5, fr y6, fr y7] := by
  obtain ⟨u, v, p⟩ := t
  obtain ⟨h1, h2, _⟩ := ht
  have gc := G.call (u, v, p) ⟨h1, h2, by assumption⟩
  simp only [toD] at gc h1 h2 ⊢
  have z : u.length ≤ 16777216 ∧ v.length ≤ 16777216 := ⟨by omega, by omega⟩
  have hq : chain.length < 16777216 := by omega
  refine ⟨some (.str u), some (.str v), some (.int (gF u v)), ?_⟩
  unfold adv item
  by_cases k1 : gF u v = g
  · by_cases k2 : u = v
    · subst k2
      simp [pass_chain_b0, G.sig, gc, z, hq, k1]
    · simp [pass_chain_b0, G.sig, gc, z, hq, k1, k2]
  · by_cases k3 : gF u v ≤ g
    · simp [pass_chain_b0, G.sig, gc, z, hq, k1, k3]
    · simp [pass_chain_b0, G.sig, gc, z, hq, k1, k3]
theorem pc_inner (V : Ev) (G : GroupSp V) (pcs : D) (g : Int) : ∀ (ts : List T3) (ht : ∀ t ∈ ts, Sm3 t) (chain : List D) (hl : chain.length + ts.length ≤ 10000) (place : Int) (x4 x5 x6 x7 : Option D),
    ∃ y4 y5 y6 y7, forL (bindT (.slot 4)) (exs V pass_chain_b0) (ts.map toD) [some (.bor, pcs), some (.own, .lst chain), some (.val, .int g), some (.val, .int place), fr x4, fr x5, fr x6, fr x7] =
      .ok .next [some (.bor, pcs), some (.own, .lst (chain ++ chainG g place ts)), some (.val, .int g), some (.val, .int (placeE g place ts)), fr y4, fr y5, fr y6, fr y7]
  | [], _, chain, _, place, x4, x5, x6, x7 => ⟨x4, x5, x6, x7, by simp [chainG, placeE, forL]⟩
  | t :: ts, ht, chain, hl, place, x4, x5, x6, x7 => by
    rw [List.length_cons] at hl
    obtain ⟨y5, y6, y7, e1⟩ := pc_step V G pcs g t (ht t (.head _)) chain (by omega) place x5 x6 x7
    obtain ⟨z4, z5, z6, z7, e2⟩ := pc_inner V G pcs g ts (fun t h => ht t (.tail _ h)) (chain ++ (if gF t.1 t.2.1 = g ∧ t.1 ≠ t.2.1 then [item place t] else [])) (by split <;> simp <;> omega) (place + adv g t) (some (toD t)) y5 y6 y7
    refine ⟨z4, z5, z6, z7, ?_⟩
    rw [List.map_cons]
    show (R.opt (bindT (.slot 4) (toD t) _) fun σ1 => (exs V pass_chain_b0 σ1).bind fun f σ2 => match f with
      | .next => forL (bindT (.slot 4)) (exs V pass_chain_b0) (ts.map toD) σ2
      | .cont => forL (bindT (.slot 4)) (exs V pass_chain_b0) (ts.map toD) σ2
      | .brk => .ok .next σ2
      | .ret f d => .ok (.ret f d) σ2) = _
    simp only [bindT_slot, setVal_c, List.getElem?_cons_succ, List.getElem?_cons_zero, setK_some, isChgS_frS, Bool.false_eq_true, if_false, opt_someS, List.set_cons_succ, List.set_cons_zero]
    rw [e1]
    simp only [bnd_okS]
    rw [fr_some] at e2
    rw [e2]
    simp [chainG, placeE, Int.add_assoc]
end K15
namespace K15
open Pu PySem
theorem pc_outer (V : Ev) (G : GroupSp V) (ts : List T3) (ht : ∀ t ∈ ts, Sm3 t) (g : Int) (chain : List D) (hl : chain.length + ts.length ≤ 10000) (x3 x4 x5 x6 x7 : Option D) :
    ∃ y3 y4 y5 y6 y7, exs V pass_chain_b1 [some (.bor, .lst (ts.map toD)), some (.own, .lst chain), some (.val, .int g), fr x3, fr x4, fr x5, fr x6, fr x7] =
      .ok .next [some (.bor, .lst (ts.map toD)), some (.own, .lst (chain ++ chainG g 0 ts)), some (.val, .int g), fr y3, fr y4, fr y5, fr y6, fr y7] := by
  obtain ⟨y4, y5, y6, y7, e⟩ := pc_inner V G (.lst (ts.map toD)) g ts ht chain hl 0 x4 x5 x6 x7
  exact ⟨some (.int (placeE g 0 ts)), y4, y5, y6, y7, by simp [pass_chain_b1, e]⟩
theorem chainG_len (g : Int) : ∀ (ts : List T3) (p : Int), (chainG g p ts).length ≤ ts.length
  | [], _ => by simp [chainG]
  | t :: ts, p => by
    have := chainG_len g ts (p + adv g t)
    simp only [chainG, List.length_append, List.length_cons]
    split <;> simp <;> omega
def chainF (ts : List T3) : List D := chainG 0 0 ts ++ chainG 1 0 ts ++ chainG 2 0 ts
theorem pass_chain_run (V : Ev) (h0 : V.glob "SHORTER" = some (.int 0)) (h1 : V.glob "EQUAL" = some (.int 1)) (h2 : V.glob "LONGER" = some (.int 2)) (G : GroupSp V) (ts : List T3) (ht : ∀ t ∈ ts, Sm3 t) (hl : ts.length ≤ 1000) :
    runFn V fn_pass_chain [.lst (ts.map toD)] = .ok true (.lst (chainF ts)) [.non] := by
  have l0 := chainG_len 0 ts 0
  have l1 := chainG_len 1 ts 0
  obtain ⟨a3, a4, a5, a6, a7, e1⟩ := pc_outer V G ts ht 0 [] (by simp; omega) none none none none none
  obtain ⟨b3, b4, b5, b6, b7, e2⟩ := pc_outer V G ts ht 1 ([] ++ chainG 0 0 ts) (by simp; omega) a3 a4 a5 a6 a7
  obtain ⟨c3, c4, c5, c6, c7, e3⟩ := pc_outer V G ts ht 2 ([] ++ chainG 0 0 ts ++ chainG 1 0 ts) (by simp; omega) b3 b4 b5 b6 b7
  rw [run_fn ⟨rfl, by decide⟩]
  simp only [List.nil_append, fr_none] at e1 e2 e3
  simp [fn_pass_chain, h0, h1, h2, forL, e1, e2, e3, chainF]
structure Group2Sp (V : Ev) : Prop where
  sig : V.sig "_law_group" = some [.bor]
  call : ∀ t : T3, Sm3 t → V.call "_law_group" [toD t] = .ok false (.int (gF t.1 t.2.1)) [.non]
theorem pl_loop (V : Ev) (G : Group2Sp V) (pcs k : D) (g : Int) : ∀ (ts : List T3) (ht : ∀ t ∈ ts, Sm3 t) (place : Int) (x4 : Option D),
    ∃ y4, forL (bindT (.slot 4)) (exs V _law_place_b0) (ts.map toD) [some (.bor, pcs), some (.bor, k), some (.val, .int g), some (.val, .int place), fr x4] =
      .ok .next [some (.bor, pcs), some (.bor, k), some (.val, .int g), some (.val, .int (placeE g place ts)), fr y4]
  | [], _, place, x4 => ⟨x4, by simp [placeE, forL]⟩
  | t :: ts, ht, place, x4 => by
    obtain ⟨z4, e2⟩ := pl_loop V G pcs k g ts (fun t h => ht t (.tail _ h)) (place + adv g t) (some (toD t))
    have e1 : exs V _law_place_b0 [some (.bor, pcs), some (.bor, k), some (.val, .int g), some (.val, .int place), some (.val, toD t)] = .ok .next [some (.bor, pcs), some (.bor, k), some (.val, .int g), some (.val, .int (place + adv g t)), some (.val, toD t)] := by
      obtain ⟨u, v, p⟩ := t
      have hs := ht (u, v, p) (.head _)
      obtain ⟨h1, h2, _⟩ := id hs
      have gc := G.call (u, v, p) hs
      simp only [toD] at gc h1 h2 ⊢
      have z : u.length ≤ 16777216 ∧ v.length ≤ 16777216 := ⟨by omega, by omega⟩
      unfold adv
      by_cases k2 : u = v
      · subst k2
        simp [_law_place_b0, z]
      · by_cases k3 : gF u v ≤ g
        · simp [_law_place_b0, G.sig, gc, z, k2, k3]
        · simp [_law_place_b0, G.sig, gc, z, k2, k3]
    refine ⟨z4, ?_⟩
    rw [List.map_cons]
    show (R.opt (bindT (.slot 4) (toD t) _) fun σ1 => (exs V _law_place_b0 σ1).bind fun f σ2 => match f with
      | .next => forL (bindT (.slot 4)) (exs V _law_place_b0) (ts.map toD) σ2
      | .cont => forL (bindT (.slot 4)) (exs V _law_place_b0) (ts.map toD) σ2
      | .brk => .ok .next σ2
      | .ret f d => .ok (.ret f d) σ2) = _
    simp only [bindT_slot, setVal_c, List.getElem?_cons_succ, List.getElem?_cons_zero, setK_some, isChgS_frS, Bool.false_eq_true, if_false, opt_someS, List.set_cons_succ, List.set_cons_zero]
    rw [e1]
    simp only [bnd_okS]
    rw [fr_some] at e2
    rw [e2]
    simp [placeE, Int.add_assoc]
theorem place_run (V : Ev) (G : Group2Sp V) (ts : List T3) (ht : ∀ t ∈ ts, Sm3 t) (k : Nat) (t : T3) (hk : ts[k]? = some t) : runFn V fn__law_place [.lst (ts.map toD), .int k] = .ok false (.int (placeE (gF t.1 t.2.1) 0 (ts.take k))) [.non, .non] := by
  have hi : semIdx (.lst (ts.map toD)) (.int k) = some (toD t) := by
    have hlt : k < ts.length := (List.getElem?_eq_some_iff.mp hk).1
    show (ixD _ _).bind _ = _
    rw [ixD_nat (by simpa using hlt)]
    simp [hk]
  obtain ⟨y4, e⟩ := pl_loop V G (.lst (ts.map toD)) (.int k) (gF t.1 t.2.1) (ts.take k) (fun x hx => ht x (List.mem_of_mem_take hx)) 0 none
  have hm := G.call t (ht t (List.mem_of_getElem? hk))
  rw [run_fn ⟨rfl, by decide⟩]
  rw [List.map_take, fr_none] at e
  simp [fn__law_place, G.sig, hi, hm, isColl, cut_take _ (show (0 : Int) ≤ (k : Int) by omega), e]
end K15
namespace K15
open Pu PySem
def rowOf (ts : List T3) (k : Nat) (t : T3) : D := .tup [.int (gF t.1 t.2.1), .int k, item (placeE (gF t.1 t.2.1) 0 (ts.take k)) t]
def rowsUp (ts : List T3) : Nat → List D
  | 0 => []
  | n + 1 => rowsUp ts n ++ match ts[n]? with
    | some t => if t.1 = t.2.1 then [] else [rowOf ts n t]
    | none => []
theorem rowsUp_len (ts : List T3) : ∀ n, (rowsUp ts n).length ≤ n
  | 0 => by simp [rowsUp]
  | n + 1 => by
    have := rowsUp_len ts n
    unfold rowsUp
    rw [List.length_append]
    cases ts[n]? with
    | none => simp; omega
    | some t => simp only []; split <;> simp <;> omega
def RowOk (d : D) : Prop := ∃ (g k p : Int) (u v : List Nat), d = .tup [.int g, .int k, .tup [.int p, .str u, .str v]] ∧ ChOk u ∧ ChOk v
theorem rowsUp_ok (ts : List T3) (ht : ∀ t ∈ ts, Sm3 t) : ∀ n, ∀ d ∈ rowsUp ts n, RowOk d
  | 0, d, h => by simp [rowsUp] at h
  | n + 1, d, h => by
    unfold rowsUp at h
    rcases List.mem_append.mp h with h | h
    · exact rowsUp_ok ts ht n d h
    · cases e : ts[n]? with
      | none => rw [e] at h; cases h
      | some t =>
        rw [e] at h
        simp only [] at h
        split at h
        · cases h
        · rw [List.mem_singleton] at h
          subst h
          obtain ⟨_, _, h3, h4⟩ := ht t (List.mem_of_getElem? e)
          exact ⟨_, _, _, _, _, rfl, h3, h4⟩
theorem sort_row {ds : List D} (h : ∀ d ∈ ds, RowOk d) : sortB ds = true := by
  unfold sortB
  rw [Bool.and_eq_true, Bool.and_eq_true, Bool.or_eq_true]
  refine ⟨List.all_eq_true.mpr fun d hd => ?_, List.all_eq_true.mpr fun a ha => List.all_eq_true.mpr fun b hb => ?_, .inl (List.all_eq_true.mpr fun d hd => ?_)⟩
  · obtain ⟨g, k, p, u, v, rfl, h1, h2⟩ := h d hd
    simp [shp, shps]
    exact ⟨h1, h2⟩
  · obtain ⟨g, k, p, u, v, rfl, h1, h2⟩ := h a ha
    obtain ⟨g', k', p', u', v', rfl, h1, h2⟩ := h b hb
    simp [pyOf, toPy, toPys, PySem.W.alike, PySem.W.alikeAll]
  · obtain ⟨g, k, p, u, v, rfl, h1, h2⟩ := h d hd
    rfl
def thirdD : D → D
  | .tup (_ :: _ :: x :: _) => x
  | d => d
structure PlaceSp (V : Ev) : Prop where
  sig : V.sig "_law_place" = some [.bor, .bor]
  call : ∀ (ts : List T3), (∀ t ∈ ts, Sm3 t) → ∀ (k : Nat) (t : T3), ts[k]? = some t → V.call "_law_place" [.lst (ts.map toD), .int k] = .ok false (.int (placeE (gF t.1 t.2.1) 0 (ts.take k))) [.non, .non]
def dueF (ts : List T3) : List D := ((rowsUp ts ts.length).mergeSort leB).map thirdD
theorem due_run (V : Ev) (G : Group2Sp V) (Pl : PlaceSp V) (ts : List T3) (ht : ∀ t ∈ ts, Sm3 t) (hl : ts.length ≤ 1000) : runFn V fn__law_due [.lst (ts.map toD)] = .ok true (.lst (dueF ts)) [.non] := by
  obtain ⟨σ', e1, y2, y3, rfl⟩ := forL_run (bd := bindT (.slot 2)) (body := exs V _law_due_b1) (fun k σ => ∃ y2 y3, σ = [some (.bor, .lst (ts.map toD)), some (.own, .lst (rowsUp ts k)), fr y2, fr y3, none]) (rangeD 0 ts.length) 0
    (fun k d σ hk ⟨y2, y3, e⟩ => by
      have hkn : k < ts.length := by
        have := (List.getElem?_eq_some_iff.mp hk).1
        rwa [rangeD_len] at this
      rw [rangeD_get _ _ _ hkn] at hk
      cases hk
      subst e
      rw [Nat.zero_add]
      have htk : ts[k]? = some ts[k] := List.getElem?_eq_getElem hkn
      generalize ts[k] = t at htk
      have hi : semIdx (.lst (ts.map toD)) (.int k) = some (toD t) := by
        show (ixD _ _).bind _ = _
        rw [ixD_nat (by simpa using hkn)]
        simp [htk]
      have hs := ht t (List.mem_of_getElem? htk)
      have gc := G.call t hs
      have pc := Pl.call ts ht k t htk
      have hq : (rowsUp ts k).length < 16777216 := by have := rowsUp_len ts k; omega
      refine ⟨[some (.bor, .lst (ts.map toD)), some (.own, .lst (rowsUp ts k)), some (.val, .int k), fr y3, none], .next, [some (.bor, .lst (ts.map toD)), some (.own, .lst (rowsUp ts (k + 1))), some (.val, .int k), some (.val, toD t), none], by simp, ?_, .inl rfl, some (.int k), some (toD t), rfl⟩
      have er1 : rowsUp ts (k + 1) = rowsUp ts k ++ (if t.1 = t.2.1 then [] else [rowOf ts k t]) := by
        show rowsUp ts k ++ _ = _
        rw [htk]
      rw [er1]
      obtain ⟨u, v, p⟩ := t
      simp only [toD] at gc pc hi ⊢
      by_cases k1 : u = v
      · subst k1
        simp [_law_due_b1, hi, isColl]
      · simp [_law_due_b1, hi, isColl, k1, G.sig, Pl.sig, gc, pc, hq, rowOf, item])
    [some (.bor, .lst (ts.map toD)), some (.own, .lst []), none, none, none] ⟨none, none, rfl⟩
  rw [rangeD_len, Nat.zero_add] at e1
  have er : rngB (ts.length : Int) = true := by unfold rngB; simp; omega
  have hok := rowsUp_ok ts ht ts.length
  have hs := sort_row hok
  have hln := rowsUp_len ts ts.length
  have ec := compK_map (V := V) (i := 4) (e := _law_due_e0) (σ := [some (.bor, .lst (ts.map toD)), some (.own, .lst (rowsUp ts ts.length)), fr y2, fr y3, none]) thirdD rfl ((rowsUp ts ts.length).mergeSort leB) fun d hd => by
    obtain ⟨g, k, p, u, v, rfl, _⟩ := hok d (List.mem_mergeSort.mp hd)
    exact ⟨false, by simp [_law_due_e0, thirdD]⟩
  rw [run_fn ⟨rfl, by decide⟩]
  simp [fn__law_due, er, e1, hs, ec, dueF, show (rowsUp ts ts.length).length < 16777216 by omega]
end K15
namespace K15
open Pu PySem
def rowG (g k place : Int) (t : T3) : D := .tup [.int g, .int k, item place t]
def rowsG (g : Int) : Int → Int → List T3 → List D
  | _, _, [] => []
  | k, place, t :: ts => (if gF t.1 t.2.1 = g ∧ t.1 ≠ t.2.1 then [rowG g k place t] else []) ++ rowsG g (k + 1) (place + adv g t) ts
theorem chain_rows (g : Int) : ∀ (ts : List T3) (k place : Int), (rowsG g k place ts).map thirdD = chainG g place ts
  | [], _, _ => rfl
  | t :: ts, k, place => by
    rw [rowsG, chainG, List.map_append, chain_rows g ts]
    split <;> rfl
def rowsA : Int → (Int → Int) → List T3 → List D
  | _, _, [] => []
  | k, pl, t :: ts => (if t.1 = t.2.1 then [] else [rowG (gF t.1 t.2.1) k (pl (gF t.1 t.2.1)) t]) ++ rowsA (k + 1) (fun g => pl g + adv g t) ts
theorem gF_cases (u v : List Nat) : gF u v = 0 ∨ gF u v = 1 ∨ gF u v = 2 := by
  unfold gF
  split
  · exact .inl rfl
  · split
    · exact .inr (.inl rfl)
    · exact .inr (.inr rfl)
theorem rows_perm : ∀ (ts : List T3) (k : Int) (pl : Int → Int), (rowsA k pl ts).Perm (rowsG 0 k (pl 0) ts ++ (rowsG 1 k (pl 1) ts ++ rowsG 2 k (pl 2) ts))
  | [], _, _ => .nil
  | t :: ts, k, pl => by
    have ih := rows_perm ts (k + 1) (fun g => pl g + adv g t)
    rw [rowsA, rowsG, rowsG, rowsG]
    by_cases h : t.1 = t.2.1
    · simp [h]
      simpa [h] using ih
    · rcases gF_cases t.1 t.2.1 with q | q | q
      · simp [h, q]
        exact ih
      · simp [h, q]
        refine (List.Perm.cons _ ih).trans ?_
        exact (List.perm_middle (l₁ := rowsG 0 (k + 1) (pl 0 + adv 0 t) ts)).symm
      · simp [h, q]
        refine (List.Perm.cons _ ih).trans ?_
        rw [← List.append_assoc, ← List.append_assoc]
        exact (List.perm_middle (l₁ := rowsG 0 (k + 1) (pl 0 + adv 0 t) ts ++ rowsG 1 (k + 1) (pl 1 + adv 1 t) ts)).symm
theorem rowsA_snoc : ∀ (ts : List T3) (t : T3) (k : Int) (pl : Int → Int), rowsA k pl (ts ++ [t]) = rowsA k pl ts ++ (if t.1 = t.2.1 then [] else [rowG (gF t.1 t.2.1) (k + ts.length) (pl (gF t.1 t.2.1) + (ts.map (adv (gF t.1 t.2.1))).sum) t])
  | [], t, k, pl => by simp [rowsA]
  | a :: ts, t, k, pl => by
    rw [List.cons_append, rowsA, rowsA_snoc ts t, rowsA]
    have e : k + 1 + (ts.length : Int) = k + ((a :: ts).length : Int) := by simp; omega
    simp only [List.map_cons, List.sum_cons, e, Int.add_assoc, List.append_assoc]
theorem rowsUp_A (ts : List T3) : ∀ n, n ≤ ts.length → rowsUp ts n = rowsA 0 (fun _ => 0) (ts.take n)
  | 0, _ => rfl
  | n + 1, h => by
    have hn : ts[n]? = some ts[n] := List.getElem?_eq_getElem (by omega)
    have e1 : ts.take (n + 1) = ts.take n ++ [ts[n]] := by rw [List.take_succ, hn]; rfl
    have e2 : rowsUp ts (n + 1) = rowsUp ts n ++ (if ts[n].1 = ts[n].2.1 then [] else [rowOf ts n ts[n]]) := by
      show rowsUp ts n ++ _ = _
      rw [hn]
    rw [e2, e1, rowsA_snoc, rowsUp_A ts n (by omega)]
    congr 1
    split
    · rfl
    · simp [rowOf, rowG, placeE, List.length_take, show min n ts.length = n by omega]
def keyOf : D → Int × Int
  | .tup (.int g :: .int k :: _) => (g, k)
  | _ => (0, 0)
theorem lt_row {d d' : D} (h : RowOk d) (h' : RowOk d') (hl : (keyOf d).1 < (keyOf d').1 ∨ ((keyOf d).1 = (keyOf d').1 ∧ (keyOf d).2 < (keyOf d').2)) : ltD d d' = true ∧ ltD d' d = false := by
  obtain ⟨g, k, p, u, v, rfl, _⟩ := h
  obtain ⟨g', k', p', u', v', rfl, _⟩ := h'
  simp only [keyOf] at hl
  unfold ltD
  have e : ∀ (g k p : Int) (u v : List Nat), pyOf (.tup [.int g, .int k, .tup [.int p, .str u, .str v]]) = .tuple [.int g, .int k, .tuple [.int p, .str (mkS u), .str (mkS v)]] := fun g k p u v => by simp [pyOf, toPy, toPys]
  rw [e, e]
  have a1 : ∀ x y : Int, PySem.W.alike (.int x) (.int y) = true := fun _ _ => by simp [PySem.W.alike]
  have q1 : ∀ x y : Int, PyData.eqv (.int x) (.int y) = (x == y) := fun _ _ => rfl
  constructor
  · rw [PySem.W.dataLt_tuple, PySem.W.dataLt_cons (a1 _ _), q1]
    rcases hl with hl | ⟨rfl, hl⟩
    · rw [if_neg (by simp; omega), PySem.W.dataLt_int]; exact decide_eq_true hl
    · rw [if_pos (by simp), PySem.W.dataLt_cons (a1 _ _), q1, if_neg (by simp; omega), PySem.W.dataLt_int]; exact decide_eq_true hl
  · rw [PySem.W.dataLt_tuple, PySem.W.dataLt_cons (a1 _ _), q1]
    rcases hl with hl | ⟨rfl, hl⟩
    · rw [if_neg (by simp; omega), PySem.W.dataLt_int]; exact decide_eq_false (by omega)
    · rw [if_pos (by simp), PySem.W.dataLt_cons (a1 _ _), q1, if_neg (by simp; omega), PySem.W.dataLt_int]; exact decide_eq_false (by omega)
end K15
namespace K15
open Pu PySem
theorem rowsG_key (g : Int) : ∀ (ts : List T3) (k place : Int), (∀ t ∈ ts, Sm3 t) → (∀ d ∈ rowsG g k place ts, RowOk d ∧ (keyOf d).1 = g ∧ k ≤ (keyOf d).2) ∧ (rowsG g k place ts).Pairwise fun a b => (keyOf a).2 < (keyOf b).2
  | [], _, _, _ => ⟨fun _ h => by simp [rowsG] at h, by simp [rowsG]⟩
  | t :: ts, k, place, ht => by
    obtain ⟨h1, h2⟩ := rowsG_key g ts (k + 1) (place + adv g t) fun x hx => ht x (.tail _ hx)
    obtain ⟨_, _, c1, c2⟩ := ht t (.head _)
    rw [rowsG]
    split
    · refine ⟨fun d hd => ?_, ?_⟩
      · rcases List.mem_cons.mp hd with rfl | hd
        · exact ⟨⟨g, k, place, t.1, t.2.1, rfl, c1, c2⟩, rfl, Int.le_refl _⟩
        · obtain ⟨q1, q2, q3⟩ := h1 d hd
          exact ⟨q1, q2, by omega⟩
      · refine List.Pairwise.cons (fun d hd => ?_) h2
        have q := (h1 d hd).2.2
        show k < _
        omega
    · rw [List.nil_append]
      exact ⟨fun d hd => ⟨(h1 d hd).1, (h1 d hd).2.1, by have := (h1 d hd).2.2; omega⟩, h2⟩
def KLt (a b : D) : Prop := (keyOf a).1 < (keyOf b).1 ∨ ((keyOf a).1 = (keyOf b).1 ∧ (keyOf a).2 < (keyOf b).2)
theorem all_rows (ts : List T3) (ht : ∀ t ∈ ts, Sm3 t) : (∀ d ∈ rowsG 0 0 0 ts ++ (rowsG 1 0 0 ts ++ rowsG 2 0 0 ts), RowOk d) ∧ (rowsG 0 0 0 ts ++ (rowsG 1 0 0 ts ++ rowsG 2 0 0 ts)).Pairwise KLt := by
  obtain ⟨a1, a2⟩ := rowsG_key 0 ts 0 0 ht
  obtain ⟨b1, b2⟩ := rowsG_key 1 ts 0 0 ht
  obtain ⟨c1, c2⟩ := rowsG_key 2 ts 0 0 ht
  refine ⟨fun d hd => ?_, ?_⟩
  · rcases List.mem_append.mp hd with hd | hd
    · exact (a1 d hd).1
    · rcases List.mem_append.mp hd with hd | hd
      · exact (b1 d hd).1
      · exact (c1 d hd).1
  · have same : ∀ {g : Int} {l : List D}, (∀ d ∈ l, RowOk d ∧ (keyOf d).1 = g ∧ 0 ≤ (keyOf d).2) → (l.Pairwise fun a b => (keyOf a).2 < (keyOf b).2) → l.Pairwise KLt := fun h p =>
      p.imp_of_mem fun ha hb q => .inr ⟨(h _ ha).2.1.trans (h _ hb).2.1.symm, q⟩
    rw [List.pairwise_append]
    refine ⟨same a1 a2, ?_, fun a ha b hb => ?_⟩
    · rw [List.pairwise_append]
      exact ⟨same b1 b2, same c1 c2, fun a ha b hb => .inl (by rw [(b1 a ha).2.1, (c1 b hb).2.1]; decide)⟩
    · rcases List.mem_append.mp hb with hb | hb
      · exact .inl (by rw [(a1 a ha).2.1, (b1 b hb).2.1]; decide)
      · exact .inl (by rw [(a1 a ha).2.1, (c1 b hb).2.1]; decide)
theorem klt_le {a b : D} (ha : RowOk a) (hb : RowOk b) (h : KLt a b) : leB a b = true ∧ leB b a = false := by
  obtain ⟨h1, h2⟩ := lt_row ha hb h
  unfold leB
  rw [h1, h2]; exact ⟨rfl, rfl⟩
theorem due_eq (ts : List T3) (ht : ∀ t ∈ ts, Sm3 t) : dueF ts = chainF ts := by
  obtain ⟨h1, h2⟩ := all_rows ts ht
  have pm : (rowsUp ts ts.length).Perm (rowsG 0 0 0 ts ++ (rowsG 1 0 0 ts ++ rowsG 2 0 0 ts)) := by
    rw [rowsUp_A ts _ (Nat.le_refl _), List.take_length]
    exact rows_perm ts 0 fun _ => 0
  have tot := PySem.W.sortLe_total (PyProof.Rows.listOrd PyProof.Rows.itemOrd) false fun b => PySem.W.keyToks (pyOf b)
  have e : (rowsUp ts ts.length).mergeSort leB = rowsG 0 0 0 ts ++ (rowsG 1 0 0 ts ++ rowsG 2 0 0 ts) := by
    have mp := (List.mergeSort_perm (rowsUp ts ts.length) leB).trans pm
    refine List.Perm.eq_of_pairwise (le := fun a b => leB a b = true) (fun a b ha hb q1 q2 => ?_) (List.pairwise_mergeSort (fun a b c => tot.trans a b c) (fun a b => Bool.or_eq_true_iff.mpr (tot.total a b)) _) (h2.imp_of_mem fun ha hb q => (klt_le (h1 _ ha) (h1 _ hb) q).1) mp
    have ha' := mp.subset ha
    obtain ⟨i, hi, ei⟩ := List.mem_iff_getElem.mp ha'
    obtain ⟨j, hj, ej⟩ := List.mem_iff_getElem.mp hb
    have pw := List.pairwise_iff_getElem.mp h2
    rcases Nat.lt_trichotomy i j with q | q | q
    · have := (klt_le (h1 a ha') (h1 b hb) (by rw [← ei, ← ej]; exact pw i j hi hj q)).2
      rw [this] at q2; cases q2
    · subst q; exact ei.symm.trans ej
    · have := (klt_le (h1 b hb) (h1 a ha') (by rw [← ei, ← ej]; exact pw j i hj hi q)).2
      rw [this] at q1; cases q1
  unfold dueF chainF
  rw [e, List.map_append, List.map_append, chain_rows, chain_rows, chain_rows, List.append_assoc]
end K15
namespace K15
open Pu PySem
def EqD : Nat → D → Prop
  | 0, d => (∃ i, d = .int i) ∨ ∃ l, d = .str l
  | n + 1, d => EqD n d ∨ (∃ ds, d = .lst ds ∧ ds.length ≤ 100000 ∧ ∀ x ∈ ds, EqD n x) ∨ ∃ ds, d = .tup ds ∧ ds.length ≤ 100000 ∧ ∀ x ∈ ds, EqD n x
structure EqSp (V : Ev) (n : Nat) : Prop where
  sig : V.sig "_law_equal" = some [.bor, .bor]
  call : ∀ d, EqD n d → V.call "_law_equal" [d, d] = .ok false (.bl true) [.non, .non]
@[simp] theorem is_i1 {i : Int} : semBi .isi [.int i, .ty "list"] = some (false, .bl false) := by simp [semBi, tyOf, isiB]
@[simp] theorem is_i2 {i : Int} : semBi .isi [.int i, .ty "tuple"] = some (false, .bl false) := by simp [semBi, tyOf, isiB]
@[simp] theorem is_i3 {i : Int} : semBi .isi [.int i, .ty "bool"] = some (false, .bl false) := by simp [semBi, tyOf, isiB]
@[simp] theorem is_i4 {i : Int} : semBi .isi [.int i, .ty "int"] = some (false, .bl true) := by simp [semBi, tyOf, isiB]
@[simp] theorem is_s1 {l : List Nat} : semBi .isi [.str l, .ty "list"] = some (false, .bl false) := by simp [semBi, tyOf, isiB]
@[simp] theorem is_s2 {l : List Nat} : semBi .isi [.str l, .ty "tuple"] = some (false, .bl false) := by simp [semBi, tyOf, isiB]
@[simp] theorem is_s3 {l : List Nat} : semBi .isi [.str l, .ty "bool"] = some (false, .bl false) := by simp [semBi, tyOf, isiB]
@[simp] theorem is_s4 {l : List Nat} : semBi .isi [.str l, .ty "int"] = some (false, .bl false) := by simp [semBi, tyOf, isiB]
@[simp] theorem is_s5 {l : List Nat} : semBi .isi [.str l, .ty "str"] = some (false, .bl true) := by simp [semBi, tyOf, isiB]
@[simp] theorem is_l1 {l : List D} : semBi .isi [.lst l, .ty "list"] = some (false, .bl true) := by simp [semBi, tyOf, isiB]
@[simp] theorem is_t1 {l : List D} : semBi .isi [.tup l, .ty "list"] = some (false, .bl false) := by simp [semBi, tyOf, isiB]
@[simp] theorem is_t2 {l : List D} : semBi .isi [.tup l, .ty "tuple"] = some (false, .bl true) := by simp [semBi, tyOf, isiB]
theorem isNon_int {i : Int} : isNon (.int i) = false := rfl
theorem isNon_str {l : List Nat} : isNon (.str l) = false := rfl
theorem eq_comp (V : Ev) (n : Nat) (E : EqSp V n) (c : List D → D) (ds : List D) (hx : ∀ x ∈ ds, EqD n x) (hi : ∀ (k : Nat) (d : D), ds[k]? = some d → semIdx (c ds) (.int k) = some d) : ∀ (l : List D), (∀ x ∈ l, ∃ k : Nat, x = .int k ∧ k < ds.length) →
    compK V 2 _law_equal_t0 _law_equal_e1 l [some (.bor, c ds), some (.bor, c ds), none] = .ok [] [some (.bor, c ds), some (.bor, c ds), none]
  | [], _ => rfl
  | x :: l, h => by
    obtain ⟨k, rfl, hk⟩ := h x (.head _)
    have hd := List.getElem?_eq_getElem hk
    have e1 := hi k _ hd
    have e2 := E.call _ (hx _ (List.getElem_mem hk))
    have ih := eq_comp V n E c ds hx hi l fun y hy => h y (.tail _ hy)
    rw [compK_cons]
    simp [_law_equal_t0, e1, E.sig, e2]
    exact ih
theorem range_mem {n : Nat} : ∀ x ∈ rangeD 0 n, ∃ k : Nat, x = .int k ∧ k < n := fun x hx => by
  obtain ⟨k, hk⟩ := List.getElem?_of_mem hx
  have hl := (List.getElem?_eq_some_iff.mp hk).1
  rw [rangeD_len] at hl
  rw [rangeD_get _ _ _ hl] at hk
  cases hk
  exact ⟨k, by simp, hl⟩
theorem equal_run (V : Ev) : ∀ (n : Nat) (d : D), EqD n d → (∀ m, n = m + 1 → EqSp V m) → V.sig "_law_equal" = some [.bor, .bor] → runFn V fn__law_equal [d, d] = .ok false (.bl true) [.non, .non] := by
  intro n
  induction n with
  | zero =>
    intro d h _ _
    rw [run_fn ⟨rfl, by decide⟩]
    rcases h with ⟨i, rfl⟩ | ⟨l, rfl⟩
    · simp [fn__law_equal, isNon_int]
    · simp [fn__law_equal, isNon_str]
  | succ n ih =>
    intro d h hE hsig
    have E := hE n rfl
    rcases h with h | ⟨ds, rfl, hl, hx⟩ | ⟨ds, rfl, hl, hx⟩
    · exact ih d h (fun m e => by subst e; exact ⟨E.sig, fun d hd => E.call d (.inl hd)⟩) hsig
    · have ec := eq_comp V n E .lst ds hx (fun k d hd => by
        show (ixD _ _).bind _ = _
        rw [ixD_nat (List.getElem?_eq_some_iff.mp hd).1]
        exact hd) (rangeD 0 ds.length) range_mem
      have er : rngB (ds.length : Int) = true := by unfold rngB; simp; omega
      rw [run_fn ⟨rfl, by decide⟩]
      simp [fn__law_equal, er, ec]
    · have ec := eq_comp V n E .tup ds hx (fun k d hd => by
        show (ixD _ _).bind _ = _
        rw [ixD_nat (List.getElem?_eq_some_iff.mp hd).1]
        exact hd) (rangeD 0 ds.length) range_mem
      have er : rngB (ds.length : Int) = true := by unfold rngB; simp; omega
      rw [run_fn ⟨rfl, by decide⟩]
      simp [fn__law_equal, er, ec]
end K15
namespace K15
open Pu PySem
theorem compK_map2 {α : Type} {V : Ev} {i : Nat} {e : Xp} {σ : PSt} (p r : α → D) (hσ : σ.set i none = σ) : ∀ (ts : List α), (∀ t ∈ ts, ∃ f, ev V e (σ.set i (some (.val, p t))) = .ok (f, r t) (σ.set i (some (.val, p t)))) → compK V i .no e (ts.map p) σ = .ok (ts.map r) σ
  | [], _ => rfl
  | d :: ds, h => by
    obtain ⟨f, h1⟩ := h d (.head _)
    have ih := compK_map2 p r hσ ds fun d' hd => h d' (.tail _ hd)
    rw [List.map_cons, compK_cons]
    simp [h1, List.set_set, hσ, ih]
def PsOk (ts : List T3) : Prop := (∀ t ∈ ts, Sm3 t) ∧ ts.length ≤ 128
def lD (ts : List T3) : D := .lst (ts.map toD)
structure LawSp (V : Ev) : Prop where
  g1 : V.sig "_law_store" = some [.bor]
  g2 : V.sig "_law_some_pass" = some [.chg]
  g3 : V.sig "_law_due" = some [.bor]
  g4 : V.sig "pass_chain" = some [.bor]
  store : ∀ ns : List Int, ns.length ≤ 63 → ∃ s, V.call "_law_store" [.frl (ns.map .int)] = .ok true s [.non] ∧ StoreOk s
  pass : ∀ s, StoreOk s → ∃ ts s', V.call "_law_some_pass" [s] = .ok true (lD ts) [s'] ∧ StoreOk s' ∧ PsOk ts
  due : ∀ ts, PsOk ts → V.call "_law_due" [lD ts] = .ok true (.lst (chainF ts)) [.non]
  chain : ∀ ts, PsOk ts → V.call "pass_chain" [lD ts] = .ok true (.lst (chainF ts)) [.non]
theorem chainG_eq (g : Int) : ∀ (ts : List T3) (p : Int), ∀ d ∈ chainG g p ts, EqD 1 d
  | [], _, d, h => by simp [chainG] at h
  | t :: ts, p, d, h => by
    rw [chainG] at h
    rcases List.mem_append.mp h with h | h
    · split at h
      · rw [List.mem_singleton] at h
        subst h
        refine .inr (.inr ⟨_, rfl, by simp, fun x hx => ?_⟩)
        simp at hx
        rcases hx with rfl | rfl | rfl
        · exact .inl ⟨_, rfl⟩
        · exact .inr ⟨_, rfl⟩
        · exact .inr ⟨_, rfl⟩
      · cases h
    · exact chainG_eq g ts _ d h
theorem chainF_eq (ts : List T3) (h : ts.length ≤ 128) : EqD 2 (.lst (chainF ts)) ∧ (chainF ts).length ≤ 384 := by
  have l0 := chainG_len 0 ts 0
  have l1 := chainG_len 1 ts 0
  have l2 := chainG_len 2 ts 0
  have hl : (chainF ts).length ≤ 384 := by unfold chainF; simp; omega
  refine ⟨.inr (.inl ⟨_, rfl, by omega, fun x hx => ?_⟩), hl⟩
  unfold chainF at hx
  rcases List.mem_append.mp hx with hx | hx
  · rcases List.mem_append.mp hx with hx | hx
    · exact chainG_eq _ _ _ x hx
    · exact chainG_eq _ _ _ x hx
  · exact chainG_eq _ _ _ x hx
theorem pieces_eq (ts : List T3) (h : ts.length ≤ 128) : EqD 2 (lD ts) := by
  refine .inr (.inl ⟨_, rfl, by simp; omega, fun x hx => ?_⟩)
  obtain ⟨t, _, rfl⟩ := List.mem_map.mp hx
  refine .inr (.inr ⟨_, rfl, by simp, fun x hx => ?_⟩)
  simp at hx
  rcases hx with rfl | rfl | rfl
  · exact .inr ⟨_, rfl⟩
  · exact .inr ⟨_, rfl⟩
  · exact .inl ⟨_, rfl⟩
theorem law_turn (V : Ev) (L : LawSp V) (E : EqSp V 2) (script s : D) (pls : List (List T3)) (hp : ∀ ts ∈ pls, PsOk ts) (hl : pls.length = 4) (k : Nat) (y5 : Option D) (y6 y7 : Option D) :
    ∃ z5 z6 z7, exs V law_b0 [some (.bor, script), some (.own, s), some (.val, .lst (pls.map lD)), some (.val, .int k), some (.own, .lst (pls.map fun ts => .lst (chainF ts))), fr y5, fw y6, fw y7] =
      .ok .next [some (.bor, script), some (.own, s), some (.val, .lst (pls.map lD)), some (.val, .int k), some (.own, .lst (pls.map fun ts => .lst (chainF ts))), fr z5, fw z6, fw z7] := by
  have hm : ((k : Int) % 4).toNat < pls.length := by omega
  have h0 : 0 ≤ (k : Int) % 4 := by omega
  have e0 := List.getElem?_eq_getElem hm
  have hps := hp _ (List.getElem_mem hm)
  generalize pls[((k : Int) % 4).toNat] = ts at e0 hps
  have i1 : semIdx (.lst (pls.map lD)) (.int ((k : Int) % 4)) = some (lD ts) := by
    show (ixD _ _).bind _ = _
    rw [ixD_int h0 (by simp; omega)]
    simp [e0]
  have i2 : semIdx (.lst (pls.map fun ts => D.lst (chainF ts))) (.int ((k : Int) % 4)) = some (.lst (chainF ts)) := by
    show (ixD _ _).bind _ = _
    rw [ixD_int h0 (by simp; omega)]
    simp [e0]
  have c1 := L.chain ts hps
  have q1 := E.call _ (chainF_eq ts hps.2).1
  have q2 := E.call _ (pieces_eq ts hps.2)
  have hq : (chainF ts).length < 16777216 := by have := (chainF_eq ts hps.2).2; omega
  refine ⟨some (lD ts), some (.lst []), some (.lst (chainF ts ++ [.tup [.int 0, .str [], .str [97]]])), ?_⟩
  unfold lD at i1 c1 q2 ⊢
  simp [law_b0, L.g4, E.sig, i1, i2, c1, q1, q2, hq]
theorem law_run (V : Ev) (L : LawSp V) (E : EqSp V 2) (ns : List Int) (hn : ns.length ≤ 63) : ∃ rs, runFn V fn_law [.frl (ns.map .int)] = .ok false (.bl true) rs := by
  obtain ⟨s, a1, ok1⟩ := L.store ns hn
  obtain ⟨σ1, e1, s1, pls, y3, rfl, ok2, hp, hl⟩ := forL_run (bd := bindT (.slot 3)) (body := exs V law_b2) (fun k σ => ∃ s' pls y3, σ = [some (.bor, .frl (ns.map .int)), some (.own, s'), some (.own, .lst (pls.map lD)), fr y3, none, none, none, none] ∧ StoreOk s' ∧ (∀ ts ∈ pls, PsOk ts) ∧ pls.length = k) (rangeD 0 3) 0
    (fun k d σ hk ⟨s', pls, y3, e, ok, hp, hl⟩ => by
      have hk3 : k < 3 := by
        have := (List.getElem?_eq_some_iff.mp hk).1
        rwa [rangeD_len] at this
      subst e
      obtain ⟨ts, s2, b1, b2, b3⟩ := L.pass s' ok
      refine ⟨[some (.bor, .frl (ns.map .int)), some (.own, s'), some (.own, .lst (pls.map lD)), some (.val, d), none, none, none, none], .next, [some (.bor, .frl (ns.map .int)), some (.own, s2), some (.own, .lst ((pls ++ [ts]).map lD)), some (.val, d), none, none, none, none], by simp, ?_, .inl rfl, s2, pls ++ [ts], some d, rfl, b2, fun x hx => ?_, by simp [hl]⟩
      · simp [law_b2, L.g2, b1, show pls.length < 16777216 by omega]
      · rcases List.mem_append.mp hx with hx | hx
        · exact hp x hx
        · rw [List.mem_singleton] at hx; subst hx; exact b3)
    [some (.bor, .frl (ns.map .int)), some (.own, s), some (.own, .lst []), none, none, none, none, none] ⟨s, [], none, rfl, ok1, fun _ h => (by cases h), rfl⟩
  rw [rangeD_len] at hl
  obtain ⟨p0, p1, p2, rfl⟩ : ∃ a b c, pls = [a, b, c] := by
    match pls, hl with
    | [a, b, c], _ => exact ⟨a, b, c, rfl⟩
  have hp0 := hp p0 (by simp)
  have hrv : PsOk p0.reverse := ⟨fun t ht => hp0.1 t (List.mem_reverse.mp ht), by rw [List.length_reverse]; exact hp0.2⟩
  have hall : ∀ ts ∈ [p0, p1, p2, p0.reverse], PsOk ts := fun ts h => by
    simp at h
    rcases h with rfl | rfl | rfl | rfl
    · exact hp0
    · exact hp _ (by simp)
    · exact hp _ (by simp)
    · exact hrv
  have ec := compK_map2 (V := V) (i := 5) (e := law_e1) (σ := [some (.bor, .frl (ns.map .int)), some (.own, s1), some (.val, .lst ([p0, p1, p2, p0.reverse].map lD)), fr y3, none, none, none, none]) lD (fun ts => .lst (chainF ts)) rfl [p0, p1, p2, p0.reverse] fun ts h => ⟨true, by simp [law_e1, L.g3, L.due ts (hall ts h)]⟩
  obtain ⟨σ2, e2, y3', y5, y6, y7, rfl⟩ := forL_run (bd := bindT (.slot 3)) (body := exs V law_b0) (fun k σ => ∃ y3 y5 y6 y7, σ = [some (.bor, .frl (ns.map .int)), some (.own, s1), some (.val, .lst ([p0, p1, p2, p0.reverse].map lD)), fr y3, some (.own, .lst ([p0, p1, p2, p0.reverse].map fun ts => .lst (chainF ts))), fr y5, fw y6, fw y7]) (rangeD 0 8) 0
    (fun k d σ hk ⟨y3, y5, y6, y7, e⟩ => by
      have hk8 : k < 8 := by
        have := (List.getElem?_eq_some_iff.mp hk).1
        rwa [rangeD_len] at this
      rw [rangeD_get _ _ _ hk8] at hk
      cases hk
      subst e
      obtain ⟨z5, z6, z7, g⟩ := law_turn V L E (.frl (ns.map .int)) s1 [p0, p1, p2, p0.reverse] hall rfl k y5 y6 y7
      exact ⟨_, .next, _, by simp, g, .inl rfl, some (.int k), z5, z6, z7, rfl⟩)
    [some (.bor, .frl (ns.map .int)), some (.own, s1), some (.val, .lst ([p0, p1, p2, p0.reverse].map lD)), fr y3, some (.own, .lst ([p0, p1, p2, p0.reverse].map fun ts => .lst (chainF ts))), none, none, none] ⟨y3, none, none, none, rfl⟩
  have er3 : rngB 3 = true := by decide
  have er8 : rngB 8 = true := by decide
  have t3 : (3 : Int).toNat = 3 := rfl
  have t8 : (8 : Int).toNat = 8 := rfl
  rw [run_fn ⟨rfl, by decide⟩]
  refine ⟨[.non], ?_⟩
  have hlD : ∀ ts : List T3, semRev (lD ts) = some (true, lD ts.reverse) := fun ts => by
    unfold lD
    rw [rv_lst, List.map_reverse]
  simp only [List.map_cons, List.map_nil] at e1 e2 ec
  simp [fn_law, L.g1, a1, er3, er8, t3, t8, e1, hlD, ec, e2]
end K15
namespace K15
open Pu PySem
theorem up {n : Nat} {f : String} {fn : Fn} (h : pg.fn f = some fn) (ds : List D) : (evOf pg (n + 1)).call f ds = runFn (evOf pg n) fn ds := run_succ pg n f ds fn h
theorem sMix (n : Nat) : MixSp (evOf pg (n + 1)) := ⟨rfl, fun a b => by rw [up (fn := fn__law_mix) rfl]; exact mix_run _ a b⟩
theorem sTake (n : Nat) : TakeSp (evOf pg (n + 2)) := ⟨rfl, fun s many hs hm => by rw [up (fn := fn__law_take) rfl]; exact take_run _ (sMix n) s hs many hm⟩
theorem sPick (n : Nat) : PickSp (evOf pg (n + 3)) := ⟨rfl, fun s l hs h1 h2 => by rw [up (fn := fn__law_pick) rfl]; exact pick_str _ (sTake n) s hs l h1 h2, fun s l hs h1 h2 => by rw [up (fn := fn__law_pick) rfl]; exact pick_lst _ (sTake n) s hs l h1 h2⟩
theorem sSize (n : Nat) : SizeSp (evOf pg (n + 3)) := ⟨rfl, fun s top hs h1 h2 => by rw [up (fn := fn__law_size) rfl]; exact size_run _ (sTake n) s hs top h1 h2⟩
theorem sAlpha (n : Nat) : AlphaSp (evOf pg (n + 3)) := ⟨rfl, fun s top hs h1 h2 => by rw [up (fn := fn__law_alphabet) rfl]; exact alpha_run _ (sTake n) s hs top h1 h2⟩
theorem sPrice (n : Nat) : PriceSp (evOf pg (n + 3)) := ⟨rfl, fun s hs => by rw [up (fn := fn__law_price) rfl]; exact price_run _ (sTake n) s hs⟩
theorem sWord (n : Nat) : WordSp (evOf pg (n + 4)) := ⟨rfl, fun s al top hs h1 h2 h3 h4 h5 => by rw [up (fn := fn__law_word) rfl]; exact word_run _ (sTake (n + 1)) (sPick n) (sSize n) s hs al h1 h2 h3 top h4 h5⟩
theorem sUnlike (n : Nat) : UnlikeSp (evOf pg (n + 4)) := ⟨rfl, fun s al u v top hs h1 h2 h3 h4 h5 h6 => by rw [up (fn := fn__law_unlike) rfl]; exact unlike_run _ (sPick n) s hs al h1 h2 h3 u v top h4 h5 h6⟩
theorem sLinked (n : Nat) : LinkedSp (evOf pg (n + 5)) := ⟨rfl, fun s al count top hs h1 h2 h3 h4 h5 h6 h7 => by rw [up (fn := fn__law_linked) rfl]; exact linked_run _ (sTake (n + 2)) (sPick (n + 1)) (sWord n) (sPrice (n + 1)) (sUnlike n) s hs al h1 h2 h3 count h4 h5 top h6 h7⟩
theorem sStock (n : Nat) : StockSp (evOf pg (n + 1)) := ⟨rfl, fun al rules h1 h2 h3 h4 h5 => by rw [up (fn := fn__law_stock) rfl]; exact stock_run _ al h1 h2 h3 rules h4 h5⟩
theorem sUsed (n : Nat) : UsedSp (evOf pg (n + 1)) := ⟨rfl, rfl, fun ds h1 h2 => by rw [up (fn := fn__law_used) rfl]; exact used_run _ 8 ds h1 (by omega) (by omega), fun ds h1 h2 => by rw [up (fn := fn__law_made) rfl]; exact made_run _ 8 ds h1 (by omega) (by omega)⟩
theorem sPieces (n : Nat) : PiecesSp (evOf pg (n + 4)) := ⟨rfl, fun s stock count top hs h1 h2 h3 h4 h5 => by rw [up (fn := fn__law_pieces) rfl]; exact pieces_run _ (sTake (n + 1)) (sPick n) (sSize n) (sUsed (n + 2)) s hs stock h1 h2 h3 count top h4 h5⟩
theorem sGroup (n : Nat) : GroupSp (evOf pg (n + 1)) := ⟨rfl, fun t h => by rw [up (fn := fn_group_of) rfl]; exact group_of_run _ rfl rfl rfl t.1 t.2.1 t.2.2 (by have := h.1; omega) (by have := h.2.1; omega)⟩
theorem sGroup2 (n : Nat) : Group2Sp (evOf pg (n + 1)) := ⟨rfl, fun t h => by rw [up (fn := fn__law_group) rfl]; exact group_run _ t.1 t.2.1 t.2.2 (by have := h.1; omega) (by have := h.2.1; omega)⟩
theorem sPlace (n : Nat) : PlaceSp (evOf pg (n + 2)) := ⟨rfl, fun ts ht k t hk => by rw [up (fn := fn__law_place) rfl]; exact place_run _ (sGroup2 n) ts ht k t hk⟩
theorem sEq : ∀ (m n : Nat), EqSp (evOf pg (n + m + 1)) m
  | 0, n => ⟨rfl, fun d h => by rw [up (fn := fn__law_equal) rfl]; exact equal_run _ 0 d h (fun _ e => by cases e) rfl⟩
  | m + 1, n => ⟨rfl, fun d h => by
    rw [show n + (m + 1) + 1 = (n + m + 1) + 1 by omega, up (fn := fn__law_equal) rfl]
    exact equal_run _ (m + 1) d h (fun _ e => by cases e; exact sEq m n) rfl⟩
theorem sLaw (n : Nat) : LawSp (evOf pg (n + 6)) := ⟨rfl, rfl, rfl, rfl, fun ns h => by rw [up (fn := fn__law_store) rfl]; exact store_run _ ns h,
  fun s hs => by
    rw [up (fn := fn__law_some_pass) rfl]
    obtain ⟨ds, s', h1, h2, h3, h4⟩ := some_pass_run _ (sTake (n + 3)) (sPick (n + 2)) (sAlpha (n + 2)) (sPrice (n + 2)) (sLinked n) (sStock (n + 4)) (sPieces (n + 1)) s hs
    obtain ⟨ts, rfl, g⟩ := tr_list h3
    rw [List.length_map] at h4
    exact ⟨ts, s', h1, h2, g, h4⟩,
  fun ts h => by
    rw [up (fn := fn__law_due) rfl, ← due_eq ts h.1]
    exact due_run _ (sGroup2 (n + 4)) (sPlace (n + 3)) ts h.1 (by have := h.2; omega),
  fun ts h => by
    rw [up (fn := fn_pass_chain) rfl]
    exact pass_chain_run _ rfl rfl rfl (sGroup (n + 4)) ts h.1 (by have := h.2; omega)⟩
theorem plain (ns : List Int) (h : ns.length ≤ 63) : ∃ rs, run pg 12 "law" [.frl (ns.map D.int)] = .ok false (.bl true) rs := by
  rw [run_succ pg 11 "law" _ fn_law rfl]
  exact law_run (evOf pg 11) (sLaw 5) (sEq 2 8) ns h
end K15
namespace K15
open Pu PySem PySem.Spec PyProof.Rows
open L2 hiding St
abbrev top (i : Nat) : Stmt := PySem.Challenge.pw_onceover_k15_pass_chain.main.body.getD i (.Pass ⟨0, 0, 0, 0⟩)
structure Facts (K : PySem.W.Frag) : Prop where
  d0 : DefIn K "group_of" (top 4)
  d1 : DefIn K "pass_chain" (top 5)
  d2 : DefIn K "_law_mix" (top 7)
  d3 : DefIn K "_law_store" (top 8)
  d4 : DefIn K "_law_take" (top 9)
  d5 : DefIn K "_law_pick" (top 10)
  d6 : DefIn K "_law_size" (top 11)
  d7 : DefIn K "_law_alphabet" (top 12)
  d8 : DefIn K "_law_word" (top 13)
  d9 : DefIn K "_law_price" (top 14)
  d10 : DefIn K "_law_unlike" (top 15)
  d11 : DefIn K "_law_linked" (top 16)
  d12 : DefIn K "_law_stock" (top 17)
  d13 : DefIn K "_law_used" (top 18)
  d14 : DefIn K "_law_made" (top 19)
  d15 : DefIn K "_law_pieces" (top 20)
  d16 : DefIn K "_law_equal" (top 21)
  d17 : DefIn K "_law_group" (top 22)
  d18 : DefIn K "_law_place" (top 23)
  d19 : DefIn K "_law_due" (top 24)
  d20 : DefIn K "_law_some_pass" (top 25)
  d21 : DefIn K "law" (top 26)
  z0 : PySem.W.nsIn K mainGlobals "len" = some none
  z1 : PySem.W.nsIn K mainGlobals "int" = some none
  z2 : PySem.W.nsIn K mainGlobals "min" = some none
  z3 : PySem.W.nsIn K mainGlobals "max" = some none
  z4 : PySem.W.nsIn K mainGlobals "isinstance" = some none
  z5 : PySem.W.nsIn K mainGlobals "sorted" = some none
  z6 : PySem.W.nsIn K mainGlobals "list" = some none
  z7 : PySem.W.nsIn K mainGlobals "all" = some none
  z8 : PySem.W.nsIn K mainGlobals "any" = some none
  z9 : PySem.W.nsIn K mainGlobals "sum" = some none
  z10 : PySem.W.nsIn K mainGlobals "range" = some none
  z11 : PySem.W.nsIn K mainGlobals "str" = some none
  z12 : PySem.W.nsIn K mainGlobals "bool" = some none
  z13 : PySem.W.nsIn K mainGlobals "tuple" = some none
  g0 : ∃ t, PySem.W.nsIn K mainGlobals "SHORTER" = some (some (.int 0 t))
  g1 : ∃ t, PySem.W.nsIn K mainGlobals "EQUAL" = some (some (.int 1 t))
  g2 : ∃ t, PySem.W.nsIn K mainGlobals "LONGER" = some (some (.int 2 t))
section
variable {K : PySem.W.Frag} {mg : Str → Option Value} {h : Heap}
theorem f0 (KX : K.In h) (G : h.Ns mainGlobals mg) (d : DefIn K "group_of" (top 4)) : FnFact K mg "group_of" fn_group_of :=
  fn_fact (N := ["piece"]) (ps := ["piece"]) KX G d ⟨rfl, rfl, rfl, by decide +kernel, rfl, by decide +kernel, by decide +kernel⟩ rfl rfl (by decide +kernel) (by decide +kernel) (fun _ _ _ _ _ _ us hl => match us, hl with | [_], _ => rfl)
theorem f1 (KX : K.In h) (G : h.Ns mainGlobals mg) (d : DefIn K "pass_chain" (top 5)) : FnFact K mg "pass_chain" fn_pass_chain :=
  fn_fact (N := ["pieces", "chain", "group", "place", "piece", "used", "made", "own"]) (ps := ["pieces"]) KX G d ⟨rfl, rfl, rfl, by decide +kernel, rfl, by decide +kernel, by decide +kernel⟩ rfl rfl (by decide +kernel) (by decide +kernel) (fun _ _ _ _ _ _ us hl => match us, hl with | [_], _ => rfl)
theorem f2 (KX : K.In h) (G : h.Ns mainGlobals mg) (d : DefIn K "_law_mix" (top 7)) : FnFact K mg "_law_mix" fn__law_mix :=
  fn_fact (N := ["number", "turn", "first", "second"]) (ps := ["number", "turn"]) KX G d ⟨rfl, rfl, rfl, by decide +kernel, rfl, by decide +kernel, by decide +kernel⟩ rfl rfl (by decide +kernel) (by decide +kernel) (fun _ _ _ _ _ _ us hl => match us, hl with | [_, _], _ => rfl)
theorem f3 (KX : K.In h) (G : h.Ns mainGlobals mg) (d : DefIn K "_law_store" (top 8)) : FnFact K mg "_law_store" fn__law_store :=
  fn_fact (N := ["script", "cells", "cell"]) (ps := ["script"]) KX G d ⟨rfl, rfl, rfl, by decide +kernel, rfl, by decide +kernel, by decide +kernel⟩ rfl rfl (by decide +kernel) (by decide +kernel) (fun _ _ _ _ _ _ us hl => match us, hl with | [_], _ => rfl)
theorem f4 (KX : K.In h) (G : h.Ns mainGlobals mg) (d : DefIn K "_law_take" (top 9)) : FnFact K mg "_law_take" fn__law_take :=
  fn_fact (N := ["store", "many", "k", "cells", "cell", "number"]) (ps := ["store", "many"]) KX G d ⟨rfl, rfl, rfl, by decide +kernel, rfl, by decide +kernel, by decide +kernel⟩ rfl rfl (by decide +kernel) (by decide +kernel) (fun _ _ _ _ _ _ us hl => match us, hl with | [_, _], _ => rfl)
theorem f5 (KX : K.In h) (G : h.Ns mainGlobals mg) (d : DefIn K "_law_pick" (top 10)) : FnFact K mg "_law_pick" fn__law_pick :=
  fn_fact (N := ["store", "items"]) (ps := ["store", "items"]) KX G d ⟨rfl, rfl, rfl, by decide +kernel, rfl, by decide +kernel, by decide +kernel⟩ rfl rfl (by decide +kernel) (by decide +kernel) (fun _ _ _ _ _ _ us hl => match us, hl with | [_, _], _ => rfl)
theorem f6 (KX : K.In h) (G : h.Ns mainGlobals mg) (d : DefIn K "_law_size" (top 11)) : FnFact K mg "_law_size" fn__law_size :=
  fn_fact (N := ["store", "top", "edge"]) (ps := ["store", "top"]) KX G d ⟨rfl, rfl, rfl, by decide +kernel, rfl, by decide +kernel, by decide +kernel⟩ rfl rfl (by decide +kernel) (by decide +kernel) (fun _ _ _ _ _ _ us hl => match us, hl with | [_, _], _ => rfl)
theorem f7 (KX : K.In h) (G : h.Ns mainGlobals mg) (d : DefIn K "_law_alphabet" (top 12)) : FnFact K mg "_law_alphabet" fn__law_alphabet :=
  fn_fact (N := ["store", "top", "letters", "sizes", "size", "kind", "text", "low", "k", "at"]) (ps := ["store", "top"]) KX G d ⟨rfl, rfl, rfl, by decide +kernel, rfl, by decide +kernel, by decide +kernel⟩ rfl rfl (by decide +kernel) (by decide +kernel) (fun _ _ _ _ _ _ us hl => match us, hl with | [_, _], _ => rfl)
theorem f8 (KX : K.In h) (G : h.Ns mainGlobals mg) (d : DefIn K "_law_word" (top 13)) : FnFact K mg "_law_word" fn__law_word :=
  fn_fact (N := ["store", "alpha", "top", "size", "shape", "pair", "k"]) (ps := ["store", "alpha", "top"]) KX G d ⟨rfl, rfl, rfl, by decide +kernel, rfl, by decide +kernel, by decide +kernel⟩ rfl rfl (by decide +kernel) (by decide +kernel) (fun _ _ _ _ _ _ us hl => match us, hl with | [_, _, _], _ => rfl)
theorem f9 (KX : K.In h) (G : h.Ns mainGlobals mg) (d : DefIn K "_law_price" (top 14)) : FnFact K mg "_law_price" fn__law_price :=
  fn_fact (N := ["store", "kind", "wide"]) (ps := ["store"]) KX G d ⟨rfl, rfl, rfl, by decide +kernel, rfl, by decide +kernel, by decide +kernel⟩ rfl rfl (by decide +kernel) (by decide +kernel) (fun _ _ _ _ _ _ us hl => match us, hl with | [_], _ => rfl)
theorem f10 (KX : K.In h) (G : h.Ns mainGlobals mg) (d : DefIn K "_law_unlike" (top 15)) : FnFact K mg "_law_unlike" fn__law_unlike :=
  fn_fact (N := ["store", "alpha", "u", "v", "top"]) (ps := ["store", "alpha", "u", "v", "top"]) KX G d ⟨rfl, rfl, rfl, by decide +kernel, rfl, by decide +kernel, by decide +kernel⟩ rfl rfl (by decide +kernel) (by decide +kernel) (fun _ _ _ _ _ _ us hl => match us, hl with | [_, _, _, _, _], _ => rfl)
theorem f11 (KX : K.In h) (G : h.Ns mainGlobals mg) (d : DefIn K "_law_linked" (top 16)) : FnFact K mg "_law_linked" fn__law_linked :=
  fn_fact (N := ["store", "alpha", "count", "top", "rules", "pairs", "k", "u", "kind", "earlier", "sign", "forms", "pair"]) (ps := ["store", "alpha", "count", "top"]) KX G d ⟨rfl, rfl, rfl, by decide +kernel, rfl, by decide +kernel, by decide +kernel⟩ rfl rfl (by decide +kernel) (by decide +kernel) (fun _ _ _ _ _ _ us hl => match us, hl with | [_, _, _, _], _ => rfl)
theorem f12 (KX : K.In h) (G : h.Ns mainGlobals mg) (d : DefIn K "_law_stock" (top 17)) : FnFact K mg "_law_stock" fn__law_stock :=
  fn_fact (N := ["alpha", "rules", "sign"]) (ps := ["alpha", "rules"]) KX G d ⟨rfl, rfl, rfl, by decide +kernel, rfl, by decide +kernel, by decide +kernel⟩ rfl rfl (by decide +kernel) (by decide +kernel) (fun _ _ _ _ _ _ us hl => match us, hl with | [_, _], _ => rfl)
theorem f13 (KX : K.In h) (G : h.Ns mainGlobals mg) (d : DefIn K "_law_used" (top 18)) : FnFact K mg "_law_used" fn__law_used :=
  fn_fact (N := ["pieces", "piece"]) (ps := ["pieces"]) KX G d ⟨rfl, rfl, rfl, by decide +kernel, rfl, by decide +kernel, by decide +kernel⟩ rfl rfl (by decide +kernel) (by decide +kernel) (fun _ _ _ _ _ _ us hl => match us, hl with | [_], _ => rfl)
theorem f14 (KX : K.In h) (G : h.Ns mainGlobals mg) (d : DefIn K "_law_made" (top 19)) : FnFact K mg "_law_made" fn__law_made :=
  fn_fact (N := ["pieces", "piece"]) (ps := ["pieces"]) KX G d ⟨rfl, rfl, rfl, by decide +kernel, rfl, by decide +kernel, by decide +kernel⟩ rfl rfl (by decide +kernel) (by decide +kernel) (fun _ _ _ _ _ _ us hl => match us, hl with | [_], _ => rfl)
theorem f15 (KX : K.In h) (G : h.Ns mainGlobals mg) (d : DefIn K "_law_pieces" (top 20)) : FnFact K mg "_law_pieces" fn__law_pieces :=
  fn_fact (N := ["store", "stock", "count", "top", "pieces", "size", "same", "piece", "k", "used", "made"]) (ps := ["store", "stock", "count", "top"]) KX G d ⟨rfl, rfl, rfl, by decide +kernel, rfl, by decide +kernel, by decide +kernel⟩ rfl rfl (by decide +kernel) (by decide +kernel) (fun _ _ _ _ _ _ us hl => match us, hl with | [_, _, _, _], _ => rfl)
theorem f16 (KX : K.In h) (G : h.Ns mainGlobals mg) (d : DefIn K "_law_equal" (top 21)) : FnFact K mg "_law_equal" fn__law_equal :=
  fn_fact (N := ["told", "due", "k"]) (ps := ["told", "due"]) KX G d ⟨rfl, rfl, rfl, by decide +kernel, rfl, by decide +kernel, by decide +kernel⟩ rfl rfl (by decide +kernel) (by decide +kernel) (fun _ _ _ _ _ _ us hl => match us, hl with | [_, _], _ => rfl)
theorem f17 (KX : K.In h) (G : h.Ns mainGlobals mg) (d : DefIn K "_law_group" (top 22)) : FnFact K mg "_law_group" fn__law_group :=
  fn_fact (N := ["piece", "growth"]) (ps := ["piece"]) KX G d ⟨rfl, rfl, rfl, by decide +kernel, rfl, by decide +kernel, by decide +kernel⟩ rfl rfl (by decide +kernel) (by decide +kernel) (fun _ _ _ _ _ _ us hl => match us, hl with | [_], _ => rfl)
theorem f18 (KX : K.In h) (G : h.Ns mainGlobals mg) (d : DefIn K "_law_place" (top 23)) : FnFact K mg "_law_place" fn__law_place :=
  fn_fact (N := ["pieces", "k", "group", "place", "piece"]) (ps := ["pieces", "k"]) KX G d ⟨rfl, rfl, rfl, by decide +kernel, rfl, by decide +kernel, by decide +kernel⟩ rfl rfl (by decide +kernel) (by decide +kernel) (fun _ _ _ _ _ _ us hl => match us, hl with | [_, _], _ => rfl)
theorem f19 (KX : K.In h) (G : h.Ns mainGlobals mg) (d : DefIn K "_law_due" (top 24)) : FnFact K mg "_law_due" fn__law_due :=
  fn_fact (N := ["pieces", "rows", "k", "piece", "row"]) (ps := ["pieces"]) KX G d ⟨rfl, rfl, rfl, by decide +kernel, rfl, by decide +kernel, by decide +kernel⟩ rfl rfl (by decide +kernel) (by decide +kernel) (fun _ _ _ _ _ _ us hl => match us, hl with | [_], _ => rfl)
theorem f20 (KX : K.In h) (G : h.Ns mainGlobals mg) (d : DefIn K "_law_some_pass" (top 25)) : FnFact K mg "_law_some_pass" fn__law_some_pass :=
  fn_fact (N := ["store", "alpha", "one", "pair", "rules"]) (ps := ["store"]) KX G d ⟨rfl, rfl, rfl, by decide +kernel, rfl, by decide +kernel, by decide +kernel⟩ rfl rfl (by decide +kernel) (by decide +kernel) (fun _ _ _ _ _ _ us hl => match us, hl with | [_], _ => rfl)
theorem f21 (KX : K.In h) (G : h.Ns mainGlobals mg) (d : DefIn K "law" (top 26)) : FnFact K mg "law" fn_law :=
  fn_fact (N := ["script", "store", "passes", "k", "dues", "pieces", "handed", "told"]) (ps := ["script"]) KX G d ⟨rfl, rfl, rfl, by decide +kernel, rfl, by decide +kernel, by decide +kernel⟩ rfl rfl (by decide +kernel) (by decide +kernel) (fun _ _ _ _ _ _ us hl => match us, hl with | [_], _ => rfl)
theorem fall (KX : K.In h) (G : h.Ns mainGlobals mg) (F : Facts K) : ∀ p ∈ fns, FnFact K mg p.1 p.2 :=
  all_cons (f0 KX G F.d0) (all_cons (f1 KX G F.d1) (all_cons (f2 KX G F.d2) (all_cons (f3 KX G F.d3) (all_cons (f4 KX G F.d4) (all_cons (f5 KX G F.d5) (all_cons (f6 KX G F.d6) (all_cons (f7 KX G F.d7) (all_cons (f8 KX G F.d8) (all_cons (f9 KX G F.d9) (all_cons (f10 KX G F.d10) (all_cons (f11 KX G F.d11) (all_cons (f12 KX G F.d12) (all_cons (f13 KX G F.d13) (all_cons (f14 KX G F.d14) (all_cons (f15 KX G F.d15) (all_cons (f16 KX G F.d16) (all_cons (f17 KX G F.d17) (all_cons (f18 KX G F.d18) (all_cons (f19 KX G F.d19) (all_cons (f20 KX G F.d20) (all_cons (f21 KX G F.d21) all_nil)))))))))))))))))))))
theorem gall (F : Facts K) : ∀ p ∈ gs, ∃ v u, PySem.W.nsIn K mainGlobals (p.1 : String) = some (some u) ∧ RelV v u ∧ ∀ H N, Rep K H N p.2 v :=
  all_cons (by obtain ⟨t, e⟩ := F.g0; exact ⟨.int 0, _, e, ⟨t, rfl⟩, fun _ _ => .int _⟩) (all_cons (by obtain ⟨t, e⟩ := F.g1; exact ⟨.int 1, _, e, ⟨t, rfl⟩, fun _ _ => .int _⟩) (all_cons (by obtain ⟨t, e⟩ := F.g2; exact ⟨.int 2, _, e, ⟨t, rfl⟩, fun _ _ => .int _⟩) all_nil))
theorem zall (F : Facts K) : ∀ g ∈ ["len", "int", "min", "max", "isinstance", "sorted", "list", "all", "any", "sum", "range", "str", "bool", "tuple"], PySem.W.nsIn K mainGlobals (g : String) = some none :=
  all_cons F.z0 (all_cons F.z1 (all_cons F.z2 (all_cons F.z3 (all_cons F.z4 (all_cons F.z5 (all_cons F.z6 (all_cons F.z7 (all_cons F.z8 (all_cons F.z9 (all_cons F.z10 (all_cons F.z11 (all_cons F.z12 (all_cons F.z13 all_nil)))))))))))))
theorem pgOk {w : World} (KX : K.In h) (G : h.Ns mainGlobals mg) (F : Facts K) : PgOk w K mg pg := pg_ok KX G (zall F) (gall F) (fall KX G F)
end
theorem walk {l : PySem.W.OpenLaw} {q : Program} {loose : List Str} {XP : (Str → Option Value) → Heap → Prop} {YP : World → Heap → Prop} {d : DefRec} {K : Params → PySem.W.Frag}
    (hn : l.most = some 63) (hdf : d.params.defaults = []) (hd : d.name = ("law" : Str)) (hY : ∀ (w : World) (h : Heap), YP w h → (K w.params).In h) (law : ∀ ns : List Int, ns.length ≤ 63 → ∃ rs, run pg 12 "law" [.frl (ns.map D.int)] = .ok false (.bl true) rs)
    (F : ∀ w : World, Facts (K w.params)) : PySem.W.WalkO q loose XP YP l.row.toRowW d [] (fun f vs => PySem.call f vs) :=
  walk_pg (G := pg) (n := 11) (fl := fn_law) hn hdf hd ⟨rfl, by decide, by decide⟩ rfl rfl hY (fun w mg h KX G => ⟨pgOk KX G (F w), by
    obtain ⟨f, oc, od, an, kV, dc, pm, cd, ct, osl, a, l, c, k⟩ := (F w).d21.ex
    exact ⟨_, f, _, ["script", "store", "passes", "k", "dues", "pieces", "handed", "told"], fun_mk l c k, ⟨rfl, rfl, rfl, by decide +kernel, rfl, by decide +kernel, by decide +kernel⟩, rfl, by decide +kernel, PySem.W.mg_of KX G a, fun us hl => match us, hl with | [_], _ => rfl⟩⟩) law
end K15
open PySem PySem.W PyProof.Rows
set_option maxRecDepth 100000 in
set_option maxHeartbeats 0 in
theorem PySem.Challenge.cw_onceover_k15_pass_chain_holds : PySem.Challenge.rw_onceover_k15_pass_chain.Holds := by
  w_on; o_law; k_head; (case hw => w_witness2)
  k_fill
  refine K15.walk (l := PySem.Challenge.rw_onceover_k15_pass_chain) rfl rfl rfl (fun w h Y => PySem.W.kIn_of Y) K15.plain ?F
  case F =>
    intro w
    refine' ⟨?qd0, ?qd1, ?qd2, ?qd3, ?qd4, ?qd5, ?qd6, ?qd7, ?qd8, ?qd9, ?qd10, ?qd11, ?qd12, ?qd13, ?qd14, ?qd15, ?qd16, ?qd17, ?qd18, ?qd19, ?qd20, ?qd21, ?qz0, ?qz1, ?qz2, ?qz3, ?qz4, ?qz5, ?qz6, ?qz7, ?qz8, ?qz9, ?qz10, ?qz11, ?qz12, ?qz13, ?qg0, ?qg1, ?qg2⟩
    (case qd0 => refine' Pu.def_in ?qa ?ql ?qc ?qk; (case qa => k_is); (case ql => k_is); (case qc => k_is); (case qk => k_is))
    (case qd1 => refine' Pu.def_in ?qa ?ql ?qc ?qk; (case qa => k_is); (case ql => k_is); (case qc => k_is); (case qk => k_is))
    (case qd2 => refine' Pu.def_in ?qa ?ql ?qc ?qk; (case qa => k_is); (case ql => k_is); (case qc => k_is); (case qk => k_is))
    (case qd3 => refine' Pu.def_in ?qa ?ql ?qc ?qk; (case qa => k_is); (case ql => k_is); (case qc => k_is); (case qk => k_is))
    (case qd4 => refine' Pu.def_in ?qa ?ql ?qc ?qk; (case qa => k_is); (case ql => k_is); (case qc => k_is); (case qk => k_is))
    (case qd5 => refine' Pu.def_in ?qa ?ql ?qc ?qk; (case qa => k_is); (case ql => k_is); (case qc => k_is); (case qk => k_is))
    (case qd6 => refine' Pu.def_in ?qa ?ql ?qc ?qk; (case qa => k_is); (case ql => k_is); (case qc => k_is); (case qk => k_is))
    (case qd7 => refine' Pu.def_in ?qa ?ql ?qc ?qk; (case qa => k_is); (case ql => k_is); (case qc => k_is); (case qk => k_is))
    (case qd8 => refine' Pu.def_in ?qa ?ql ?qc ?qk; (case qa => k_is); (case ql => k_is); (case qc => k_is); (case qk => k_is))
    (case qd9 => refine' Pu.def_in ?qa ?ql ?qc ?qk; (case qa => k_is); (case ql => k_is); (case qc => k_is); (case qk => k_is))
    (case qd10 => refine' Pu.def_in ?qa ?ql ?qc ?qk; (case qa => k_is); (case ql => k_is); (case qc => k_is); (case qk => k_is))
    (case qd11 => refine' Pu.def_in ?qa ?ql ?qc ?qk; (case qa => k_is); (case ql => k_is); (case qc => k_is); (case qk => k_is))
    (case qd12 => refine' Pu.def_in ?qa ?ql ?qc ?qk; (case qa => k_is); (case ql => k_is); (case qc => k_is); (case qk => k_is))
    (case qd13 => refine' Pu.def_in ?qa ?ql ?qc ?qk; (case qa => k_is); (case ql => k_is); (case qc => k_is); (case qk => k_is))
    (case qd14 => refine' Pu.def_in ?qa ?ql ?qc ?qk; (case qa => k_is); (case ql => k_is); (case qc => k_is); (case qk => k_is))
    (case qd15 => refine' Pu.def_in ?qa ?ql ?qc ?qk; (case qa => k_is); (case ql => k_is); (case qc => k_is); (case qk => k_is))
    (case qd16 => refine' Pu.def_in ?qa ?ql ?qc ?qk; (case qa => k_is); (case ql => k_is); (case qc => k_is); (case qk => k_is))
    (case qd17 => refine' Pu.def_in ?qa ?ql ?qc ?qk; (case qa => k_is); (case ql => k_is); (case qc => k_is); (case qk => k_is))
    (case qd18 => refine' Pu.def_in ?qa ?ql ?qc ?qk; (case qa => k_is); (case ql => k_is); (case qc => k_is); (case qk => k_is))
    (case qd19 => refine' Pu.def_in ?qa ?ql ?qc ?qk; (case qa => k_is); (case ql => k_is); (case qc => k_is); (case qk => k_is))
    (case qd20 => refine' Pu.def_in ?qa ?ql ?qc ?qk; (case qa => k_is); (case ql => k_is); (case qc => k_is); (case qk => k_is))
    (case qd21 => refine' Pu.def_in ?qa ?ql ?qc ?qk; (case qa => k_is); (case ql => k_is); (case qc => k_is); (case qk => k_is))
    (case qz0 => k_is)
    (case qz1 => k_is)
    (case qz2 => k_is)
    (case qz3 => k_is)
    (case qz4 => k_is)
    (case qz5 => k_is)
    (case qz6 => k_is)
    (case qz7 => k_is)
    (case qz8 => k_is)
    (case qz9 => k_is)
    (case qz10 => k_is)
    (case qz11 => k_is)
    (case qz12 => k_is)
    (case qz13 => k_is)
    (case qg0 => refine' Pu.glob_at ?qg0a ?qg0b; (case qg0a => k_is); (case qg0b => exact ⟨_, rfl⟩))
    (case qg1 => refine' Pu.glob_at ?qg1a ?qg1b; (case qg1a => k_is); (case qg1b => exact ⟨_, rfl⟩))
    (case qg2 => refine' Pu.glob_at ?qg2a ?qg2b; (case qg2a => k_is); (case qg2b => exact ⟨_, rfl⟩))
