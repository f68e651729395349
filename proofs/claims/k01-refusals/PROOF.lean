import PyProof.Rows.All
import Wide.All
import OpenK.AllK
import Wide.FinOn
import HandS.ForMost
import HandS.Wide
import HandS.IsInst
import HandS.TupAny
import HandS.Zip
import HandS.Style
import HandS.Walk
import HandS.Iter
import HandS.NoneIn
import PyProof.Rows.SetFrom
import HandS.Strs
import HandS.Rev
import HandS.Text
import HandS.More
import PyProof.StrOps2
import KE.GoesEnum
import HandS.Conv
import HandS.Codes
import KE.KExcSuper
import HandS.ForSpec
import HandS.TryMany
import HandS.ExcField
import HandS.CallSlots
import HandS.TupMul
import PySem.Challenge.RW_everyfolk_k01_refusals_of_values
set_option Elab.async false
set_option linter.all false
set_option maxRecDepth 100000
set_option maxHeartbeats 4000000
/-! DL: plain data over the hand layer: what a value stands for, what a def owns alone, what is frozen. -/
namespace DL
open PySem PySem.Spec PyProof.Rows L2

abbrev Ad := Addr → Prop
abbrev D := PyData
abbrev Sl := List (Option V)

open Classical in
noncomputable def res (F : Ad) (H : Hp) : Hp := fun a => if F a then H a else none
theorem res_in {F : Ad} {H : Hp} {a : Addr} (h : F a) : res F H a = H a := if_pos h
theorem res_out {F : Ad} {H : Hp} {a : Addr} (h : ¬ F a) : res F H a = none := if_neg h
theorem res_some {F : Ad} {H : Hp} {a : Addr} {o : HO} (h : res F H a = some o) : F a ∧ H a = some o := by
  by_cases f : F a
  · exact ⟨f, by rw [res_in f] at h; exact h⟩
  · rw [res_out f] at h; cases h
theorem res_same (F : Ad) (H : Hp) : Same (res F H) H := fun a o h => (res_some h).2

theorem same_rd {H H' : Hp} {a : Addr} {u : HO} (e : Same H H') (h : Rd H a u) : Rd H' a u := by
  rcases h with h | ⟨o, h⟩
  · exact .inl (e _ _ h)
  · exact .inr ⟨o, e _ _ h⟩
theorem same_t {K : PySem.W.Frag} {H H' : Hp} {a : Addr} {xs : List V} (e : Same H H') (h : SqT K H a xs) : SqT K H' a xs := by
  rcases h with h | h
  · exact .inl (same_rd e h)
  · exact .inr h
/-- a list that is read: tracked, locked, or one that the written part holds -/
def Ls (K : PySem.W.Frag) (H : Hp) (a : Addr) (xs : List V) : Prop :=
  Rd H a (.lst xs) ∨ ∃ (its : Array Value) (n : Nat), K.lookup a = some { cls := .type "list", data := .seq its n } ∧ its.size ≤ sizeLine ∧ Vals xs its.toList
theorem Ls.sq {K : PySem.W.Frag} {H : Hp} {a : Addr} {xs : List V} (h : Ls K H a xs) : SqL K H a xs := by
  rcases h with h | ⟨its, n, h, z, r⟩
  · exact .inl h
  · exact .inr ⟨_, its, n, h, rfl, rfl, rfl, z, r⟩
theorem same_l {K : PySem.W.Frag} {H H' : Hp} {a : Addr} {xs : List V} (e : Same H H') (h : Ls K H a xs) : Ls K H' a xs := by
  rcases h with h | h
  · exact .inl (same_rd e h)
  · exact .inr h
mutual
/-- a value stands for data -/
inductive Is (K : PySem.W.Frag) (R : Hp) : V → D → Prop
  | non : Is K R .non .none
  | bl (b : Bool) : Is K R (.bl b) (.bool b)
  | int (i : Int) : Is K R (.int i) (.int i)
  | str (x : Str) : Is K R (.str x) (.str x)
  | lst {a : Addr} {xs : List V} {ds : List D} : Ls K R a xs → IsA K R xs ds → Is K R (.ref a) (.list ds)
  | tup {a : Addr} {xs : List V} {ds : List D} : SqT K R a xs → IsA K R xs ds → Is K R (.ref a) (.tuple ds)
inductive IsA (K : PySem.W.Frag) (R : Hp) : List V → List D → Prop
  | nil : IsA K R [] []
  | cons {v : V} {vs : List V} {d : D} {ds : List D} : Is K R v d → IsA K R vs ds → IsA K R (v :: vs) (d :: ds)
end
section
variable {K : PySem.W.Frag} {R R' H H' : Hp}
mutual
theorem Is.mono (e : Same R R') : ∀ (d : D) {v : V}, Is K R v d → Is K R' v d
  | .none, _, h => by cases h; exact .non
  | .bool _, _, h => by cases h; exact .bl _
  | .int _, _, h => by cases h; exact .int _
  | .str _, _, h => by cases h; exact .str _
  | .list ds, _, h => by
    cases h with
    | lst ha hs => exact .lst (same_l e ha) (IsA.mono e ds hs)
  | .tuple ds, _, h => by
    cases h with
    | tup ha hs => exact .tup (same_t e ha) (IsA.mono e ds hs)
  | .dict _, _, h => by cases h
theorem IsA.mono (e : Same R R') : ∀ (ds : List D) {vs : List V}, IsA K R vs ds → IsA K R' vs ds
  | [], _, h => by cases h; exact .nil
  | d :: ds, _, h => by
    cases h with
    | cons h1 h2 => exact .cons (Is.mono e d h1) (IsA.mono e ds h2)
end
mutual
theorem Is.dp : ∀ (d : D) {v : V}, Is K R v d → Dp K R v d
  | .none, _, h => by cases h; exact .non
  | .bool _, _, h => by cases h; exact .bl _
  | .int _, _, h => by cases h; exact .int _
  | .str _, _, h => by cases h; exact .str _
  | .list ds, _, h => by
    cases h with
    | lst ha hs => exact .lst ha.sq (IsA.dp ds hs)
  | .tuple ds, _, h => by
    cases h with
    | tup ha hs => exact .tup ha (IsA.dp ds hs)
  | .dict _, _, h => by cases h
theorem IsA.dp : ∀ (ds : List D) {vs : List V}, IsA K R vs ds → DpAll K R vs ds
  | [], _, h => by cases h; exact .nil
  | d :: ds, _, h => by
    cases h with
    | cons h1 h2 => exact .cons (Is.dp d h1) (IsA.dp ds h2)
end
theorem IsA.length : ∀ {ds : List D} {vs : List V}, IsA K R vs ds → vs.length = ds.length
  | [], _, h => by cases h; rfl
  | _ :: _, _, h => by
    cases h with
    | cons h1 h2 => rw [List.length_cons, List.length_cons, IsA.length h2]
theorem IsA.get : ∀ {ds : List D} {vs : List V} {i : Nat} {d : D}, IsA K R vs ds → ds[i]? = some d → ∃ v, vs[i]? = some v ∧ Is K R v d
  | [], _, _, _, h, e => by simp at e
  | x :: ds, _, 0, d, h, e => by
    cases h with
    | cons h1 h2 => simp at e; subst e; exact ⟨_, rfl, h1⟩
  | x :: ds, _, i + 1, d, h, e => by
    cases h with
    | cons h1 h2 =>
      obtain ⟨v, q1, q2⟩ := IsA.get (i := i) (d := d) h2 (by simpa using e)
      exact ⟨v, by simpa using q1, q2⟩
theorem IsA.get' : ∀ {ds : List D} {vs : List V} {i : Nat} {v : V}, IsA K R vs ds → vs[i]? = some v → ∃ d, ds[i]? = some d ∧ Is K R v d := by
  intro ds vs i v h e
  have hl := h.length
  have hi : i < vs.length := (List.getElem?_eq_some_iff.mp e).1
  have hd : ds[i]? = some ds[i] := List.getElem?_eq_getElem (by omega)
  obtain ⟨v', q1, q2⟩ := h.get hd
  rw [e] at q1; cases q1
  exact ⟨_, hd, q2⟩
theorem IsA.append : ∀ {ds es : List D} {vs ws : List V}, IsA K R vs ds → IsA K R ws es → IsA K R (vs ++ ws) (ds ++ es)
  | [], _, _, _, h, g => by cases h; exact g
  | _ :: _, _, _, _, h, g => by
    cases h with
    | cons h1 h2 => exact .cons h1 (IsA.append h2 g)
theorem IsA.drop : ∀ {ds : List D} {vs : List V} (n : Nat), IsA K R vs ds → IsA K R (vs.drop n) (ds.drop n)
  | _, _, 0, h => h
  | [], _, n + 1, h => by cases h; exact .nil
  | _ :: _, _, n + 1, h => by
    cases h with
    | cons h1 h2 => exact IsA.drop n h2
theorem IsA.take : ∀ {ds : List D} {vs : List V} (n : Nat), IsA K R vs ds → IsA K R (vs.take n) (ds.take n)
  | _, _, 0, h => .nil
  | [], _, n + 1, h => by cases h; exact .nil
  | _ :: _, _, n + 1, h => by
    cases h with
    | cons h1 h2 => exact .cons h1 (IsA.take n h2)
theorem IsA.set {v : V} {d : D} (g : Is K R v d) : ∀ {ds : List D} {vs : List V} (n : Nat), IsA K R vs ds → IsA K R (vs.set n v) (ds.set n d)
  | [], _, _, h => by cases h; exact .nil
  | _ :: _, _, 0, h => by
    cases h with
    | cons h1 h2 => exact .cons g h2
  | _ :: _, _, n + 1, h => by
    cases h with
    | cons h1 h2 => exact .cons h1 (IsA.set g n h2)
theorem IsA.eraseIdx : ∀ {ds : List D} {vs : List V} (n : Nat), IsA K R vs ds → IsA K R (vs.eraseIdx n) (ds.eraseIdx n)
  | [], _, _, h => by cases h; exact .nil
  | _ :: _, _, 0, h => by
    cases h with
    | cons h1 h2 => exact h2
  | _ :: _, _, n + 1, h => by
    cases h with
    | cons h1 h2 => exact .cons h1 (IsA.eraseIdx n h2)
theorem IsA.reverse : ∀ {ds : List D} {vs : List V}, IsA K R vs ds → IsA K R vs.reverse ds.reverse
  | [], _, h => by cases h; exact .nil
  | _ :: _, _, h => by
    cases h with
    | cons h1 h2 => rw [List.reverse_cons, List.reverse_cons]; exact IsA.append (IsA.reverse h2) (.cons h1 .nil)
theorem IsA.rep {ds : List D} {vs : List V} (h : IsA K R vs ds) : ∀ n : Nat, IsA K R (List.replicate n vs).flatten (List.replicate n ds).flatten
  | 0 => .nil
  | n + 1 => by
    rw [List.replicate_succ, List.replicate_succ, List.flatten_cons, List.flatten_cons]
    exact h.append (IsA.rep h n)
theorem IsA.dropLast {ds : List D} {vs : List V} (h : IsA K R vs ds) : IsA K R vs.dropLast ds.dropLast := by
  rw [List.dropLast_eq_take, List.dropLast_eq_take, h.length]
  exact h.take _
theorem IsA.ints : ∀ {ns : List Int} {vs : List V}, IsA K R vs (ns.map .int) → vs = ns.map V.int
  | [], _, h => by cases h; rfl
  | _ :: _, _, h => by
    cases h with
    | cons h1 h2 => cases h1; rw [IsA.ints h2]; rfl
theorem IsA.of_ints : ∀ (ns : List Int), IsA K R (ns.map V.int) (ns.map .int)
  | [] => .nil
  | _ :: r => .cons (.int _) (IsA.of_ints r)
theorem IsA.strs : ∀ {ns : List Str} {vs : List V}, IsA K R vs (ns.map .str) → vs = ns.map V.str
  | [], _, h => by cases h; rfl
  | _ :: _, _, h => by
    cases h with
    | cons h1 h2 => cases h1; rw [IsA.strs h2]; rfl
theorem IsA.of_strs : ∀ (ns : List Str), IsA K R (ns.map V.str) (ns.map .str)
  | [] => .nil
  | _ :: r => .cons (.str _) (IsA.of_strs r)
theorem IsA.bools : ∀ {ns : List Bool} {vs : List V}, IsA K R vs (ns.map .bool) → vs = ns.map V.bl
  | [], _, h => by cases h; rfl
  | _ :: _, _, h => by
    cases h with
    | cons h1 h2 => cases h1; rw [IsA.bools h2]; rfl
end

/-! ### what a def owns -/
/-- neither a tuple nor an instance's own dict -/
def bigO : HO → Prop
  | .lst _ => True
  | .dK _ => True
  | .dT _ => True
  | .set _ _ => True
  | .ins _ _ _ => True
  | .xd _ => True
  | _ => False
def seqO : HO → Prop
  | .lst _ => True
  | .tup _ => True
  | .frz _ _ => True
  | _ => False
/-- a thing that changes, known by what stands of it -/
structure Wd where
  val : V
  fp : Ad
  ok : Hp → Hp → Prop
  mono : ∀ {R R' H H' : Hp}, Same R R' → (∀ a, fp a → H' a = H a) → ok R H → ok R' H'
  dom : ∀ {R H : Hp} {a : Addr}, ok R H → fp a → ∃ o, H a = some o ∧ bigO o
/-- a field: data, or a list that this field alone holds -/
inductive FD where
  | val (d : D)
  | own (a : Addr) (xs : List D)
/-- an instance: where it stands, its class, its fields by name -/
structure Ob where
  a : Addr
  C : Addr
  ns : List Str
  fs : List FD
inductive SD where
  | no
  | val (d : D)
  | own (xs : List D)
  | dic (kvs : List (Key × D))
  | wd (w : Wd)
  | ob (o : Ob)
abbrev DS := List SD
@[simp] def FD.ad : FD → Option Addr
  | .val _ => none
  | .own a _ => some a
def owns (fs : List FD) : List Addr := fs.filterMap FD.ad
def FOk (K : PySem.W.Frag) (R H : Hp) : V → FD → Prop
  | v, .val d => Is K R v d
  | v, .own b xs => v = .ref b ∧ ∃ ws, H b = some (.lst ws) ∧ IsA K R ws xs
theorem FOk.mono {K : PySem.W.Frag} {R R' H H' : Hp} (e : Same R R') : ∀ {v : V} {x : FD}, (∀ b, x.ad = some b → H' b = H b) → FOk K R H v x → FOk K R' H' v x
  | _, .val d, _, h => Is.mono e d h
  | _, .own b xs, k, ⟨h1, ws, h2, h3⟩ => ⟨h1, ws, by rw [k b rfl]; exact h2, h3.mono e⟩
theorem owns_mem {fs : List FD} {b : Addr} : b ∈ owns fs ↔ ∃ x ∈ fs, x.ad = some b := by simp [owns]
theorem fsOk_mono {K : PySem.W.Frag} {R R' H H' : Hp} (e : Same R R') : ∀ {vs : List V} {fs : List FD}, (∀ x ∈ fs, ∀ b, x.ad = some b → H' b = H b) → Paired (FOk K R H) vs fs → Paired (FOk K R' H') vs fs
  | _, _, _, .nil => .nil
  | _, _, k, .cons h1 h2 => .cons (h1.mono e (k _ List.mem_cons_self)) (fsOk_mono e (fun x hx => k x (List.mem_cons_of_mem _ hx)) h2)
theorem paired_mem2 {α β : Type} {F : α → β → Prop} : ∀ {l₁ : List α} {l₂ : List β} {y : β}, Paired F l₁ l₂ → y ∈ l₂ → ∃ x, x ∈ l₁ ∧ F x y
  | _, _, _, .nil, h => by cases h
  | _, _, _, .cons h1 h2, h => by
    rcases List.mem_cons.mp h with rfl | h
    · exact ⟨_, List.mem_cons_self, h1⟩
    · obtain ⟨x, hx, q⟩ := paired_mem2 h2 h
      exact ⟨x, List.mem_cons_of_mem _ hx, q⟩
/-- an instance as a thing that changes -/
def ObOk (K : PySem.W.Frag) (o : Ob) (R H : Hp) : Prop := (∃ (dx : Addr) (vs : List (Str × V)), H o.a = some (.ins o.C dx vs) ∧ vs.map Prod.fst = o.ns ∧ Paired (FOk K R H) (vs.map Prod.snd) o.fs) ∧ o.a ∉ owns o.fs ∧ (owns o.fs).Nodup
theorem obOk_mono {K : PySem.W.Frag} {o : Ob} {R R' H H' : Hp} (e : Same R R') (k : ∀ a, (a = o.a ∨ a ∈ owns o.fs) → H' a = H a) (h : ObOk K o R H) : ObOk K o R' H' := by
  obtain ⟨⟨dx, vs, h1, h2, h3⟩, h4⟩ := h
  exact ⟨⟨dx, vs, by rw [k _ (.inl rfl)]; exact h1, h2, fsOk_mono e (fun x hx b hb => k b (.inr (owns_mem.mpr ⟨x, hx, hb⟩))) h3⟩, h4⟩
theorem obOk_dom {K : PySem.W.Frag} {o : Ob} {R H : Hp} {a : Addr} (h : ObOk K o R H) (f : a = o.a ∨ a ∈ owns o.fs) : ∃ u, H a = some u ∧ bigO u := by
  obtain ⟨⟨dx, vs, h1, h2, h3⟩, h4⟩ := h
  rcases f with rfl | f
  · exact ⟨_, h1, trivial⟩
  · obtain ⟨x, hx, hb⟩ := owns_mem.mp f
    obtain ⟨v, _, q⟩ := paired_mem2 h3 hx
    cases x with
    | val d => cases hb
    | own b xs =>
      cases hb
      obtain ⟨_, ws, q, _⟩ := q
      exact ⟨_, q, trivial⟩
def obWd (K : PySem.W.Frag) (o : Ob) : Wd where
  val := .ref o.a
  fp := fun b => b = o.a ∨ b ∈ owns o.fs
  ok := ObOk K o
  mono := fun e k h => obOk_mono e k h
  dom := fun h f => obOk_dom h f
/-- a dict's pairs -/
def IsKV (K : PySem.W.Frag) (R : Hp) : List (Key × V) → List (Key × D) → Prop := Paired fun p q => p.1 = q.1 ∧ Is K R p.2 q.2
theorem IsKV.mono {K : PySem.W.Frag} {R R' : Hp} (e : Same R R') {a : List (Key × V)} {b : List (Key × D)} (h : IsKV K R a b) : IsKV K R' a b :=
  Paired.mapP h fun _ _ x => ⟨x.1, x.2.mono e⟩
def SlotOk (K : PySem.W.Frag) (R H : Hp) (ov : Option (Option V)) (fp : Ad) : SD → Prop
  | .no => ∀ a, ¬ fp a
  | .val d => (∃ v, ov = some (some v) ∧ Is K R v d) ∧ ∀ a, ¬ fp a
  | .own xs => ∃ a vs, ov = some (some (.ref a)) ∧ (∀ b, fp b ↔ b = a) ∧ H a = some (.lst vs) ∧ IsA K R vs xs
  | .dic kvs => ∃ a vs, ov = some (some (.ref a)) ∧ (∀ b, fp b ↔ b = a) ∧ H a = some (.dK vs) ∧ IsKV K R vs kvs
  | .wd w => ov = some (some w.val) ∧ (∀ a, fp a ↔ w.fp a) ∧ w.ok R H
  | .ob o => ov = some (some (obWd K o).val) ∧ (∀ a, fp a ↔ (obWd K o).fp a) ∧ (obWd K o).ok R H
section
variable {K : PySem.W.Frag} {R R' H H' : Hp} {ov : Option (Option V)} {fp : Ad}
theorem SlotOk.mono (e : Same R R') (k : ∀ a, fp a → H' a = H a) : ∀ {s : SD}, SlotOk K R H ov fp s → SlotOk K R' H' ov fp s
  | .no, h => h
  | .val d, ⟨⟨v, h1, h2⟩, h3⟩ => ⟨⟨v, h1, h2.mono e⟩, h3⟩
  | .own xs, ⟨a, vs, h1, h2, h3, h4⟩ => ⟨a, vs, h1, h2, by rw [k a ((h2 a).mpr rfl)]; exact h3, h4.mono e⟩
  | .dic kvs, ⟨a, vs, h1, h2, h3, h4⟩ => ⟨a, vs, h1, h2, by rw [k a ((h2 a).mpr rfl)]; exact h3, h4.mono e⟩
  | .wd w, ⟨h1, h2, h3⟩ => ⟨h1, h2, w.mono e (fun a ha => k a ((h2 a).mpr ha)) h3⟩
  | .ob o, ⟨h1, h2, h3⟩ => ⟨h1, h2, (obWd K o).mono e (fun a ha => k a ((h2 a).mpr ha)) h3⟩
theorem SlotOk.dom : ∀ {s : SD}, SlotOk K R H ov fp s → ∀ {a : Addr}, fp a → ∃ o, H a = some o ∧ bigO o
  | .no, h, a, q => absurd q (h a)
  | .val d, ⟨_, h⟩, a, q => absurd q (h a)
  | .own xs, ⟨b, vs, _, h2, h3, _⟩, a, q => by rw [(h2 a).mp q]; exact ⟨_, h3, trivial⟩
  | .dic xs, ⟨b, vs, _, h2, h3, _⟩, a, q => by rw [(h2 a).mp q]; exact ⟨_, h3, trivial⟩
  | .wd w, ⟨_, h2, h3⟩, a, q => w.dom h3 ((h2 a).mp q)
  | .ob o, ⟨_, h2, h3⟩, a, q => (obWd K o).dom h3 ((h2 a).mp q)
/-- the value at the slot matters alone, and the footprint's members -/
theorem SlotOk.fpx {fp' : Ad} (e : ∀ a, fp' a ↔ fp a) : ∀ {s : SD}, SlotOk K R H ov fp s → SlotOk K R H ov fp' s
  | .no, h => fun a q => h a ((e a).mp q)
  | .val d, ⟨h1, h2⟩ => ⟨h1, fun a q => h2 a ((e a).mp q)⟩
  | .own xs, ⟨b, vs, h1, h2, h3⟩ => ⟨b, vs, h1, fun a => (e a).trans (h2 a), h3⟩
  | .dic xs, ⟨b, vs, h1, h2, h3⟩ => ⟨b, vs, h1, fun a => (e a).trans (h2 a), h3⟩
  | .wd w, ⟨h1, h2, h3⟩ => ⟨h1, fun a => (e a).trans (h2 a), h3⟩
  | .ob o, ⟨h1, h2, h3⟩ => ⟨h1, fun a => (e a).trans (h2 a), h3⟩
end

theorem ne_by {S : Ad} {a p : Addr} (h : S a) (n : ¬ S p) : a ≠ p := fun e => n (e ▸ h)
def Ad.or (S T : Ad) : Ad := fun a => S a ∨ T a
def Ad.nil : Ad := fun _ => False

/-- the def's state stands for ds: F frozen, T temporary, fp what the slots own -/
structure Rep (K : PySem.W.Frag) (F T : Ad) (σ : Sl) (H : Hp) (ds : DS) (fp : Nat → Ad) : Prop where
  len : ds.length = σ.length
  slot : ∀ i s, ds[i]? = some s → SlotOk K (res F H) H σ[i]? (fp i) s
  out : ∀ i a, fp i a → i < ds.length
  fF : ∀ i a, fp i a → ¬ F a
  fT : ∀ i a, fp i a → ¬ T a
  sep : ∀ i j a, fp i a → fp j a → i = j
  tF : ∀ a, T a → ¬ F a
  fd : ∀ a, F a → ∃ o, H a = some o ∧ seqO o
  td : ∀ a, T a → ∃ o, H a = some o ∧ bigO o
def Grow (F : Ad) (H : Hp) (F' : Ad) (H' : Hp) : Prop := ∀ a, F a → F' a ∧ H' a = H a
section
variable {K : PySem.W.Frag} {F F' F1 F2 T T' q : Ad} {σ : Sl} {H H' H1 H2 : Hp} {ds ds' : DS} {fp fp' : Nat → Ad} {p : Addr}
theorem Grow.refl : Grow F H F H := fun _ h => ⟨h, rfl⟩
theorem Grow.trans (a : Grow F H F1 H1) (b : Grow F1 H1 F2 H2) : Grow F H F2 H2 := fun x h => ⟨(b x (a x h).1).1, ((b x (a x h).1).2).trans (a x h).2⟩
theorem Grow.same (g : Grow F H F' H') : Same (res F H) (res F' H') := fun a o h => by
  obtain ⟨f, e⟩ := res_some h
  rw [res_in (g a f).1, (g a f).2]; exact e
theorem Rep.fdom (r : Rep K F T σ H ds fp) {i : Nat} {a : Addr} (h : fp i a) : ∃ o, H a = some o ∧ bigO o := by
  have hi := r.out i a h
  exact (r.slot i _ (List.getElem?_eq_getElem hi)).dom h
/-- the same slots, another heap -/
theorem Rep.go (r : Rep K F T σ H ds fp) (g : Grow F H F' H') (k : ∀ i a, fp i a → H' a = H a ∧ ¬ F' a ∧ ¬ T' a) (tF : ∀ a, T' a → ¬ F' a) (fd : ∀ a, F' a → ∃ o, H' a = some o ∧ seqO o) (td : ∀ a, T' a → ∃ o, H' a = some o ∧ bigO o) : Rep K F' T' σ H' ds fp :=
  ⟨r.len, fun i s e => (r.slot i s e).mono g.same fun a ha => (k i a ha).1, r.out, fun i a h => (k i a h).2.1, fun i a h => (k i a h).2.2, r.sep, tF, fd, td⟩
/-- fewer temporaries -/
theorem Rep.less (r : Rep K F T σ H ds fp) (h : ∀ a, T' a → T a) : Rep K F T' σ H ds fp :=
  r.go .refl (fun i a q => ⟨rfl, r.fF i a q, fun t => r.fT i a q (h a t)⟩) (fun a t => r.tF a (h a t)) r.fd fun a t => r.td a (h a t)
theorem Rep.new_ne (r : Rep K F T σ H ds fp) (hp : H p = none) : ¬ F p ∧ ¬ T p ∧ ∀ i, ¬ fp i p := by
  refine ⟨fun f => ?_, fun f => ?_, fun i f => ?_⟩
  · obtain ⟨o, e, _⟩ := r.fd p f; rw [hp] at e; cases e
  · obtain ⟨o, e, _⟩ := r.td p f; rw [hp] at e; cases e
  · obtain ⟨o, e, _⟩ := r.fdom f; rw [hp] at e; cases e
/-- something new that is frozen at once -/
theorem Rep.newF (r : Rep K F T σ H ds fp) (hp : H p = none) {o : HO} (ho : seqO o) : Rep K (F.or (· = p)) T σ (upd H p o) ds fp ∧ Grow F H (F.or (· = p)) (upd H p o) ∧ ∀ a, T a → upd H p o a = H a := by
  obtain ⟨n1, n2, n3⟩ := r.new_ne hp
  have g : Grow F H (F.or (· = p)) (upd H p o) := fun a f => ⟨.inl f, upd_ne (ne_by f n1)⟩
  refine ⟨r.go g (fun i a q => ⟨upd_ne (ne_by q (n3 i)), ?_, r.fT i a q⟩) (fun a t => ?_) (fun a f => ?_) fun a t => ?_, g, fun a t => upd_ne (ne_by t n2)⟩
  · rintro (f | f)
    · exact r.fF i a q f
    · exact n3 i (f ▸ q)
  · rintro (f | f)
    · exact r.tF a t f
    · exact n2 (f ▸ t)
  · rcases f with f | f
    · rw [upd_ne (ne_by f n1)]; exact r.fd a f
    · rw [f, upd_same]; exact ⟨_, rfl, ho⟩
  · rw [upd_ne (ne_by t n2)]; exact r.td a t
/-- something new, a temporary -/
theorem Rep.newT (r : Rep K F T σ H ds fp) (hp : H p = none) {o : HO} (ho : bigO o) : Rep K F (T.or (· = p)) σ (upd H p o) ds fp ∧ Grow F H F (upd H p o) ∧ ∀ a, T a → upd H p o a = H a := by
  obtain ⟨n1, n2, n3⟩ := r.new_ne hp
  have g : Grow F H F (upd H p o) := fun a f => ⟨f, upd_ne (ne_by f n1)⟩
  refine ⟨r.go g (fun i a q => ⟨upd_ne (ne_by q (n3 i)), r.fF i a q, ?_⟩) (fun a t => ?_) (fun a f => ?_) fun a t => ?_, g, fun a t => upd_ne (ne_by t n2)⟩
  · rintro (f | f)
    · exact r.fT i a q f
    · exact n3 i (f ▸ q)
  · rcases t with t | t
    · exact r.tF a t
    · exact fun f => n1 (t ▸ f)
  · rw [upd_ne (ne_by f n1)]; exact r.fd a f
  · rcases t with t | t
    · rw [upd_ne (ne_by t n2)]; exact r.td a t
    · rw [t, upd_same]; exact ⟨_, rfl, ho⟩
/-- temporaries that are lists become frozen -/
theorem Rep.freezeT (r : Rep K F (T.or q) σ H ds fp) (d : ∀ a, q a → ¬ T a) (l : ∀ a, q a → ∃ o, H a = some o ∧ seqO o) : Rep K (F.or q) T σ H ds fp ∧ Grow F H (F.or q) H := by
  have g : Grow F H (F.or q) H := fun a f => ⟨.inl f, rfl⟩
  refine ⟨r.go g (fun i a h => ⟨rfl, ?_, fun t => r.fT i a h (.inl t)⟩) (fun a t => ?_) (fun a f => ?_) fun a t => r.td a (.inl t), g⟩
  · rintro (f | f)
    · exact r.fF i a h f
    · exact r.fT i a h (.inr f)
  · rintro (f | f)
    · exact r.tF a (.inl t) f
    · exact d a f t
  · rcases f with f | f
    · exact r.fd a f
    · exact l a f
open Classical in
/-- slot i holds v, which is s, and owns q -/
theorem Rep.put (r : Rep K F (T.or q) σ H ds fp) (d : ∀ a, q a → ¬ T a) {i : Nat} {v : V} {s : SD} (hs : SlotOk K (res F H) H (some (some v)) q s) (hi : i < ds.length) :
    Rep K F T (σ.set i (some v)) H (ds.set i s) (fun j => if j = i then q else fp j) := by
  refine ⟨by rw [List.length_set, List.length_set]; exact r.len, fun j u e => ?_, fun j a h => ?_, fun j a h => ?_, fun j a h => ?_, fun j k a h g => ?_, fun a t => r.tF a (.inl t), r.fd, fun a t => r.td a (.inl t)⟩
  · by_cases hj : j = i
    · subst hj
      rw [List.getElem?_set_self hi] at e; cases e
      rw [if_pos rfl, List.getElem?_set_self (by rw [← r.len]; exact hi)]
      exact hs
    · rw [List.getElem?_set_ne (Ne.symm hj)] at e
      rw [if_neg hj, List.getElem?_set_ne (Ne.symm hj)]
      exact r.slot j u e
  · rw [List.length_set]
    by_cases hj : j = i
    · rw [hj]; exact hi
    · rw [if_neg hj] at h; exact r.out j a h
  · by_cases hj : j = i
    · rw [if_pos hj] at h; exact r.tF a (.inr h)
    · rw [if_neg hj] at h; exact r.fF j a h
  · by_cases hj : j = i
    · rw [if_pos hj] at h; exact d a h
    · rw [if_neg hj] at h; exact fun t => r.fT j a h (.inl t)
  · by_cases hj : j = i
    · by_cases hk : k = i
      · rw [hj, hk]
      · rw [if_pos hj] at h; rw [if_neg hk] at g
        exact absurd (.inr h) (r.fT k a g)
    · by_cases hk : k = i
      · rw [if_neg hj] at h; rw [if_pos hk] at g
        exact absurd (.inr g) (r.fT j a h)
      · rw [if_neg hj] at h; rw [if_neg hk] at g
        exact r.sep j k a h g
open Classical in
/-- the list that slot i owns is frozen -/
theorem Rep.freeze (r : Rep K F T σ H ds fp) {i : Nat} {xs : List D} (e : ds[i]? = some (.own xs)) :
    Rep K (F.or (fp i)) T σ H (ds.set i (.val (.list xs))) (fun j => if j = i then Ad.nil else fp j) ∧ Grow F H (F.or (fp i)) H ∧ ∃ a, σ[i]? = some (some (.ref a)) ∧ Is K (res (F.or (fp i)) H) (.ref a) (.list xs) := by
  obtain ⟨a, vs, h1, h2, h3, h4⟩ := r.slot i _ e
  have hi : i < ds.length := (List.getElem?_eq_some_iff.mp e).1
  have g : Grow F H (F.or (fp i)) H := fun b f => ⟨.inl f, rfl⟩
  have his : Is K (res (F.or (fp i)) H) (.ref a) (.list xs) := .lst (.inl (.inl (by rw [res_in (.inr ((h2 a).mpr rfl))]; exact h3))) (h4.mono g.same)
  refine ⟨⟨by rw [List.length_set]; exact r.len, fun j u e' => ?_, fun j b h => ?_, fun j b h => ?_, fun j b h => ?_, fun j k b h g' => ?_, fun b t => ?_, fun b f => ?_, r.td⟩, g, a, h1, his⟩
  · by_cases hj : j = i
    · subst hj
      rw [List.getElem?_set_self hi] at e'; cases e'
      rw [if_pos rfl]
      exact ⟨⟨_, h1, his⟩, fun _ z => z⟩
    · rw [List.getElem?_set_ne (Ne.symm hj)] at e'
      rw [if_neg hj]
      exact (r.slot j u e').mono g.same fun _ _ => rfl
  · rw [List.length_set]
    by_cases hj : j = i
    · rw [hj]; exact hi
    · rw [if_neg hj] at h; exact r.out j b h
  · by_cases hj : j = i
    · rw [if_pos hj] at h; exact h.elim
    · rw [if_neg hj] at h
      rintro (f | f)
      · exact r.fF j b h f
      · exact hj (r.sep j i b h f)
  · by_cases hj : j = i
    · rw [if_pos hj] at h; exact h.elim
    · rw [if_neg hj] at h; exact r.fT j b h
  · by_cases hj : j = i
    · rw [if_pos hj] at h; exact h.elim
    · rw [if_neg hj] at h
      by_cases hk : k = i
      · rw [if_pos hk] at g'; exact g'.elim
      · rw [if_neg hk] at g'; exact r.sep j k b h g'
  · rintro (f | f)
    · exact r.tF b t f
    · exact r.fT i b f t
  · rcases f with f | f
    · exact r.fd b f
    · rw [(h2 b).mp f]; exact ⟨_, h3, trivial⟩
end
end DL

/-! DL: expressions. -/
namespace DL
open PySem PySem.Spec PyProof.Rows L2

/-- what an expression hands on: data, the object of a slot, a new object that nobody else holds -/
inductive Hd where
  | tmp (d : D)
  | slot (i : Nat)
  | new (s : SD)
  | fld (j k : Nat) (a : Addr)
abbrev QE := Hd → DS → Prop
abbrev DT := DS → QE → Prop
abbrev DTT := DS → (Bool → DS → Prop) → Prop
abbrev DTA := DS → (List Hd → DS → Prop) → Prop

def HdR (K : PySem.W.Frag) (F : Ad) (H : Hp) (σ : Sl) (v : V) (q : Ad) : Hd → Prop
  | .tmp d => Is K (res F H) v d
  | .slot i => σ[i]? = some (some v)
  | .new s => SlotOk K (res F H) H (some (some v)) q s
  | .fld _ _ a => v = .ref a
structure Pst (K : PySem.W.Frag) (F T : Ad) (H : Hp) (σ : Sl) (v : V) (h : Hd) (ds' : DS) (F' : Ad) (H' : Hp) (fp' : Nat → Ad) (q : Ad) : Prop where
  rep : Rep K F' (T.or q) σ H' ds' fp'
  qT : ∀ a, q a → ¬ T a
  g : Grow F H F' H'
  t : ∀ a, T a → H' a = H a
  r : HdR K F' H' σ v q h
def EOk (K : PySem.W.Frag) (te : TE) (t : DT) : Prop :=
  ∀ (F T : Ad) (σ : Sl) (H : Hp) (ds : DS) (fp : Nat → Ad) (Q : QE) (R : VK), Rep K F T σ H ds fp → t ds Q →
    (∀ h ds' v H' F' fp' q, Q h ds' → Pst K F T H σ v h ds' F' H' fp' q → R v H') → te σ H R
structure DO (X : Cx) (e : Expr) (te : TE) (t : DT) : Prop where
  pe : PE X e te
  ok : EOk X.K te t

@[simp] def peek (ds : DS) : Hd → Option D
  | .tmp d => some d
  | .slot i => match ds[i]? with
    | some (.val d) => some d
    | some (.own xs) => some (.list xs)
    | _ => none
  | .new (.own xs) => some (.list xs)
  | .new (.val d) => some d
  | .new _ => none
  | .fld j k a => match ds[j]? with
    | some (.ob o) => match o.fs[k]? with
      | some (.own b xs) => if b = a then some (.list xs) else none
      | _ => none
    | _ => none
@[simp] def pk (ds : DS) (h : Hd) (P : D → Prop) : Prop := match peek ds h with
  | some d => P d
  | none => False
/-- to be looked at -/
def PkR (K : PySem.W.Frag) (F : Ad) (H : Hp) (v : V) (d : D) : Prop :=
  Is K (res F H) v d ∨ ∃ a vs xs, v = .ref a ∧ d = .list xs ∧ Ls K H a vs ∧ IsA K (res F H) vs xs
section
variable {K : PySem.W.Frag} {F F' T q : Ad} {σ : Sl} {H H' : Hp} {ds : DS} {fp : Nat → Ad} {v : V} {h : Hd} {d : D}
theorem HdR.keep (g : Grow F H F' H') (k : ∀ a, q a → H' a = H a) : ∀ {h : Hd}, HdR K F H σ v q h → HdR K F' H' σ v q h
  | .tmp d, h => Is.mono g.same d h
  | .slot _, h => h
  | .new _, h => SlotOk.mono g.same k h
  | .fld _ _ _, h => h
theorem paired_at2 {α β : Type} {G : α → β → Prop} : ∀ {l₁ : List α} {l₂ : List β} {i : Nat} {b : β}, Paired G l₁ l₂ → l₂[i]? = some b → ∃ a, l₁[i]? = some a ∧ G a b
  | _, _, _, _, .nil, e => by simp at e
  | _, _, 0, _, .cons h1 h2, e => by simp at e; subst e; exact ⟨_, rfl, h1⟩
  | _, _, i + 1, _, .cons h1 h2, e => by
    obtain ⟨a, q1, q2⟩ := paired_at2 (i := i) h2 (by simpa using e)
    exact ⟨a, by simpa using q1, q2⟩
theorem PkR.is (p : PkR K F H v d) : Is K H v d := by
  rcases p with p | ⟨a, vs, xs, rfl, rfl, h, hs⟩
  · exact p.mono (res_same _ _)
  · exact .lst h (hs.mono (res_same _ _))
theorem PkR.list {xs : List D} (p : PkR K F H v (.list xs)) : ∃ a vs, v = .ref a ∧ Ls K H a vs ∧ IsA K (res F H) vs xs := by
  rcases p with p | ⟨a, vs, ys, rfl, e, h, hs⟩
  · cases p with
    | lst h hs => exact ⟨_, _, rfl, same_l (res_same _ _) h, hs⟩
  · cases e; exact ⟨_, _, rfl, h, hs⟩
theorem PkR.tuple {xs : List D} (p : PkR K F H v (.tuple xs)) : ∃ a vs, v = .ref a ∧ SqT K H a vs ∧ IsA K (res F H) vs xs ∧ Is K (res F H) v (.tuple xs) := by
  rcases p with p | ⟨a, vs, ys, rfl, e, h, hs⟩
  · have p' := p
    cases p with
    | tup h hs => exact ⟨_, _, rfl, same_t (res_same _ _) h, hs, p'⟩
  · cases e
theorem PkR.flat (p : PkR K F H v d) (n : ∀ xs, d ≠ .list xs) : Is K (res F H) v d := by
  rcases p with p | ⟨a, vs, ys, rfl, e, h, hs⟩
  · exact p
  · exact absurd e (n _)
theorem PkR.int {i : Int} (p : PkR K F H v (.int i)) : v = .int i := by
  cases p.flat (fun _ e => nomatch e); rfl
theorem PkR.bool {i : Bool} (p : PkR K F H v (.bool i)) : v = .bl i := by
  cases p.flat (fun _ e => nomatch e); rfl
theorem PkR.str {i : Str} (p : PkR K F H v (.str i)) : v = .str i := by
  cases p.flat (fun _ e => nomatch e); rfl
theorem PkR.none (p : PkR K F H v .none) : v = .non := by
  cases p.flat (fun _ e => nomatch e); rfl
theorem peek_ok (r : Rep K F T σ H ds fp) (x : HdR K F H σ v q h) (e : peek ds h = some d) : PkR K F H v d := by
  cases h with
  | tmp d' => cases e; exact .inl x
  | slot i =>
    have x' : σ[i]? = some (some v) := x
    cases hd : ds[i]? with
    | none => simp [peek, hd] at e
    | some s =>
      cases s with
      | val d' =>
        simp [peek, hd] at e
        subst e
        obtain ⟨⟨v', h1, h2⟩, _⟩ := r.slot i _ hd
        rw [x'] at h1; cases h1
        exact .inl h2
      | own xs =>
        simp [peek, hd] at e
        subst e
        obtain ⟨a, vs, h1, _, h3, h4⟩ := r.slot i _ hd
        rw [x'] at h1; cases h1
        exact .inr ⟨a, vs, xs, rfl, rfl, .inl (.inl h3), h4⟩
      | no => simp [peek, hd] at e
      | dic _ => simp [peek, hd] at e
      | wd _ => simp [peek, hd] at e
      | ob _ => simp [peek, hd] at e
  | new s =>
    cases s with
    | own xs =>
      cases e
      obtain ⟨a, vs, h1, _, h3, h4⟩ := x
      cases h1
      exact .inr ⟨a, vs, xs, rfl, rfl, .inl (.inl h3), h4⟩
    | val d' =>
      cases e
      obtain ⟨⟨v', h1, h2⟩, _⟩ := x
      cases h1
      exact .inl h2
    | no => cases e
    | dic _ => cases e
    | wd _ => cases e
    | ob _ => cases e
  | fld j k a =>
    have x' : v = .ref a := x
    subst x'
    simp only [peek] at e
    split at e
    · rename_i o hd
      split at e
      · rename_i b xs hk
        split at e
        · rename_i hb
          cases e; subst hb
          obtain ⟨_, _, ⟨dx, vs, _, _, hp⟩, _⟩ := r.slot j _ hd
          obtain ⟨u, _, _, ws, h3, h4⟩ := paired_at2 hp hk
          exact .inr ⟨_, ws, xs, rfl, rfl, .inl (.inl h3), h4⟩
        · cases e
      · cases e
    · cases e
theorem pk_ok {P : D → Prop} (r : Rep K F T σ H ds fp) (x : HdR K F H σ v q h) (e : pk ds h P) : ∃ d, PkR K F H v d ∧ P d := by
  unfold pk at e
  split at e
  · exact ⟨_, peek_ok r x ‹_›, e⟩
  · exact e.elim
end

/-! ### taking: what is stored elsewhere is frozen -/
@[simp] def take1 : Hd → DS → (D → DS → Prop) → Prop
  | .tmp d, ds, Q => Q d ds
  | .slot i, ds, Q => match ds[i]? with
    | some (.val d) => Q d ds
    | some (.own xs) => Q (.list xs) (ds.set i (.val (.list xs)))
    | _ => False
  | .new (.own xs), ds, Q => Q (.list xs) ds
  | .new (.val d), ds, Q => Q d ds
  | .new _, _, _ => False
  | .fld _ _ _, _, _ => False
@[simp] def takes : List Hd → DS → (List D → DS → Prop) → Prop
  | [], ds, Q => Q [] ds
  | h :: hs, ds, Q => take1 h ds fun d ds1 => takes hs ds1 fun dl ds2 => Q (d :: dl) ds2
inductive HdRs (K : PySem.W.Frag) (F : Ad) (H : Hp) (σ : Sl) : List V → Ad → List Hd → Prop
  | nil {q : Ad} : HdRs K F H σ [] q []
  | cons {v : V} {vs : List V} {q1 q2 q : Ad} {h : Hd} {hs : List Hd} : HdR K F H σ v q1 h → HdRs K F H σ vs q2 hs → (∀ a, q1 a ∨ q2 a → q a) → (∀ a, q1 a → ¬ q2 a) → HdRs K F H σ (v :: vs) q (h :: hs)
section
variable {K : PySem.W.Frag} {F F' T q q' : Ad} {σ : Sl} {H H' : Hp} {ds : DS} {fp : Nat → Ad} {v : V} {vs : List V} {h : Hd} {hs : List Hd} {d : D}
theorem HdRs.keep (g : Grow F H F' H') (k : ∀ a, q a → H' a = H a) (x : HdRs K F H σ vs q hs) : HdRs K F' H' σ vs q hs := by
  induction x with
  | nil => exact .nil
  | cons a b c d ih => exact .cons (a.keep g fun z hz => k z (c z (.inl hz))) (ih fun z hz => k z (c z (.inr hz))) c d
theorem HdRs.length (x : HdRs K F H σ vs q hs) : vs.length = hs.length := by
  induction x with
  | nil => rfl
  | cons a b c d ih => rw [List.length_cons, List.length_cons, ih]
theorem take1_ok {Q : D → DS → Prop} (r : Rep K F (T.or q) σ H ds fp) (dj : ∀ a, q a → ¬ T a) (x : HdR K F H σ v q h) (e : take1 h ds Q) :
    ∃ d ds' F' fp', Q d ds' ∧ Rep K F' T σ H ds' fp' ∧ Grow F H F' H ∧ Is K (res F' H) v d := by
  have r0 : Rep K F T σ H ds fp := r.less fun a t => .inl t
  cases h with
  | tmp d => exact ⟨_, _, F, fp, e, r0, .refl, x⟩
  | slot i =>
    have x' : σ[i]? = some (some v) := x
    cases hd : ds[i]? with
    | none => simp [take1, hd] at e
    | some s =>
      cases s with
      | val d' =>
        simp [take1, hd] at e
        obtain ⟨⟨v', h1, h2⟩, _⟩ := r.slot i _ hd
        rw [x'] at h1; cases h1
        exact ⟨_, _, F, fp, e, r0, .refl, h2⟩
      | own xs =>
        simp [take1, hd] at e
        obtain ⟨r1, g, a, h1, h2⟩ := r0.freeze hd
        rw [x'] at h1; cases h1
        exact ⟨_, _, _, _, e, r1, g, h2⟩
      | no => simp [take1, hd] at e
      | dic _ => simp [take1, hd] at e
      | wd _ => simp [take1, hd] at e
      | ob _ => simp [take1, hd] at e
  | new s =>
    cases s with
    | own xs =>
      obtain ⟨a, ws, h1, h2, h3, h4⟩ := x
      cases h1
      obtain ⟨r1, g⟩ := r.freezeT dj fun b hb => by rw [(h2 b).mp hb]; exact ⟨_, h3, trivial⟩
      exact ⟨_, _, _, fp, e, r1, g, .lst (.inl (.inl (by rw [res_in (.inr ((h2 a).mpr rfl))]; exact h3))) (h4.mono g.same)⟩
    | val d =>
      obtain ⟨⟨v', h1, h2⟩, _⟩ := x
      cases h1
      exact ⟨_, _, F, fp, e, r0, .refl, h2⟩
    | no => exact e.elim
    | dic _ => exact e.elim
    | wd _ => exact e.elim
    | ob _ => exact e.elim
  | fld _ _ _ => exact e.elim
theorem takes_ok (x : HdRs K F H σ vs q hs) : ∀ {F1 T ds fp} {Q : List D → DS → Prop}, Grow F H F1 H → Rep K F1 (T.or q) σ H ds fp → (∀ a, q a → ¬ T a) → takes hs ds Q →
    ∃ dl ds' F' fp', Q dl ds' ∧ Rep K F' T σ H ds' fp' ∧ Grow F1 H F' H ∧ IsA K (res F' H) vs dl := by
  induction x with
  | nil =>
    intro F1 T ds fp Q g r dj e
    exact ⟨[], ds, F1, fp, e, r.less fun a t => .inl t, .refl, .nil⟩
  | @cons v vs q1 q2 q h hs a b c d ih =>
    intro F1 T ds fp Q g r dj e
    have r1 : Rep K F1 ((T.or q2).or q1) σ H ds fp := r.less fun a t => t.elim (fun t => t.elim .inl fun t => .inr (c a (.inr t))) fun t => .inr (c a (.inl t))
    obtain ⟨d1, ds1, F2, fp2, e1, r2, g2, i1⟩ := take1_ok r1 (fun a z => by
      rintro (t | t)
      · exact dj a (c a (.inl z)) t
      · exact d a z t) (a.keep g fun _ _ => rfl) e
    obtain ⟨dl, ds2, F3, fp3, e2, r3, g3, i2⟩ := ih (g.trans g2) r2 (fun a z => dj a (c a (.inr z))) e1
    exact ⟨_, _, _, _, e2, r3, g2.trans g3, .cons (i1.mono g3.same) i2⟩
end

/-! ### arguments -/
structure Psts (K : PySem.W.Frag) (F T : Ad) (H : Hp) (σ : Sl) (vs : List V) (hs : List Hd) (ds' : DS) (F' : Ad) (H' : Hp) (fp' : Nat → Ad) (q : Ad) : Prop where
  rep : Rep K F' (T.or q) σ H' ds' fp'
  qT : ∀ a, q a → ¬ T a
  g : Grow F H F' H'
  t : ∀ a, T a → H' a = H a
  r : HdRs K F' H' σ vs q hs
def AOk (K : PySem.W.Frag) (n : Nat) (ta : TA) (t : DTA) : Prop :=
  ∀ (F T : Ad) (σ : Sl) (H : Hp) (ds : DS) (fp : Nat → Ad) (Q : List Hd → DS → Prop) (R : List V → Hp → Prop), Rep K F T σ H ds fp → t ds Q →
    (∀ hs ds' vs H' F' fp' q, Q hs ds' → Psts K F T H σ vs hs ds' F' H' fp' q → vs.length = n → R vs H') → ta σ H R
structure DA (X : Cx) (es : List Expr) (ta : TA) (t : DTA) : Prop where
  pa : PA X es ta
  ok : AOk X.K es.length ta t
@[simp] def aNil : DTA := fun ds Q => Q [] ds
@[simp] def aCons (t : DT) (u : DTA) : DTA := fun ds Q => t ds fun h ds1 => u ds1 fun hs ds2 => Q (h :: hs) ds2
theorem or_empty {T : Ad} (a : Addr) (h : (T.or Ad.nil) a) : T a := h.elim id fun z => z.elim
section
variable {X : Cx} {e : Expr} {es : List Expr} {te : TE} {ta : TA} {t : DT} {u : DTA} {K : PySem.W.Frag} {n : Nat}
theorem aok_nil : AOk K 0 tNil aNil := fun F T σ H ds fp Q R r h k =>
  k [] ds [] H F fp Ad.nil h ⟨r.less or_empty, fun _ z => z.elim, .refl, fun _ _ => rfl, .nil⟩ rfl
theorem aok_cons (a : EOk K te t) (b : AOk K n ta u) : AOk K (n + 1) (tCons te ta) (aCons t u) := fun F T σ H ds fp Q R r h k => by
  refine a F T σ H ds fp _ _ r h fun h1 ds1 v1 H1 F1 fp1 q1 k1 p1 => ?_
  refine b F1 (T.or q1) σ H1 ds1 fp1 _ _ p1.rep k1 fun hs ds2 vs H2 F2 fp2 q2 k2 p2 l2 => ?_
  refine k _ _ _ _ _ fp2 (q1.or q2) k2 ⟨p2.rep.less ?_, ?_, p1.g.trans p2.g, fun a ta => ?_, ?_⟩ (by rw [List.length_cons, l2])
  · rintro a (z | z | z)
    · exact .inl (.inl z)
    · exact .inl (.inr z)
    · exact .inr z
  · rintro a (z | z)
    · exact p1.qT a z
    · exact fun y => p2.qT a z (.inl y)
  · rw [p2.t a (.inl ta), p1.t a ta]
  · exact .cons (p1.r.keep p2.g fun a z => p2.t a (.inr z)) p2.r (fun _ z => z) fun a z y => p2.qT a y (.inr z)
theorem da_nil : DA X [] tNil aNil := ⟨pa_nil, aok_nil⟩
theorem da_cons (a : DO X e te t) (b : DA X es ta u) (hs : starEach (e :: es) X.env = (false, eval e X.env) :: starEach es X.env := by rfl) : DA X (e :: es) (tCons te ta) (aCons t u) :=
  ⟨pa_cons a.pe b.pa hs, aok_cons a.ok b.ok⟩
end

/-! ### atoms -/
@[simp] def dVar (i : Nat) : DT := fun ds Q => match ds[i]? with
  | some .no => False
  | some _ => Q (.slot i) ds
  | none => False
@[simp] def dC (d : D) : DT := fun ds Q => Q (.tmp d) ds
section
variable {X : Cx} {K : PySem.W.Frag} {F T : Ad} {σ : Sl} {H : Hp} {ds : DS} {fp : Nat → Ad}
theorem Pst.here {v : V} {h : Hd} (r : Rep K F T σ H ds fp) (x : HdR K F H σ v Ad.nil h) : Pst K F T H σ v h ds F H fp Ad.nil :=
  ⟨r.less or_empty, fun _ z => z.elim, .refl, fun _ _ => rfl, x⟩
theorem eok_var {i : Nat} : EOk K (tVar i) (dVar i) := fun F T σ H ds fp Q R r h k => by
  unfold dVar at h
  have key : ∀ {v : V}, σ[i]? = some (some v) → Q (.slot i) ds → tVar i σ H R := fun {v} e q => ⟨v, e, k _ _ _ _ _ _ _ q (.here r e)⟩
  split at h
  · exact h.elim
  · rename_i s hne hs
    have z := r.slot i _ hs
    cases s with
    | no => exact absurd rfl (hne)
    | val d => obtain ⟨⟨v, e, _⟩, _⟩ := z; exact key e h
    | own xs => obtain ⟨a, vs, e, _⟩ := z; exact key e h
    | dic xs => obtain ⟨a, vs, e, _⟩ := z; exact key e h
    | wd w => obtain ⟨e, _⟩ := z; exact key e h
    | ob w => obtain ⟨e, _⟩ := z; exact key e h
  · exact h.elim
theorem eok_c {v : V} {d : D} (i : ∀ R, Is K R v d) : EOk K (tC v) (dC d) := fun F T σ H ds fp Q R r h k => k _ _ _ _ _ _ _ h (.here r (i _))
theorem dv (i : Nat) {x : Str} {pos : Pos} (hN : X.N[i]? = some x := by rfl) (hv : Vis X.env.scope x := by first | exact Or.inl rfl | exact Or.inr (Or.inl rfl) | exact Or.inr (Or.inr rfl)) (hd : (x == ("__debug__" : Str)) = false := by decide)
    (hcd : (x == ("__classdict__" : Str)) = false := by decide) : DO X (.Name x pos) (tVar i) (dVar i) := ⟨pe_var hN hv hd hcd, eok_var⟩
theorem do_int {i j pos} : DO X (.Constant (.int i) j pos) (tC (.int i)) (dC (.int i)) := ⟨pe_int, eok_c fun _ => .int _⟩
theorem do_bl {b j pos} : DO X (.Constant (.bool b) j pos) (tC (.bl b)) (dC (.bool b)) := ⟨pe_bl, eok_c fun _ => .bl _⟩
theorem do_non {j pos} : DO X (.Constant .none j pos) (tC .non) (dC .none) := ⟨pe_non, eok_c fun _ => .non⟩
theorem do_str {x j pos} : DO X (.Constant (.str x) j pos) (tC (.str x)) (dC (.str x)) := ⟨pe_str, eok_c fun _ => .str _⟩
theorem do_glob {x : Str} {v : V} {u : Value} {d : D} {pos : Pos} (hg : Gl X x) (hm : X.mg x = some u) (r : RelV v u) (i : ∀ R, Is X.K R v d) (hd : (x == ("__debug__" : Str)) = false := by decide) : DO X (.Name x pos) (tC v) (dC d) :=
  ⟨pe_glob hg hm r hd, eok_c i⟩
end

/-! ### displays -/
@[simp] def dTup (t : DTA) : DT := fun ds Q => t ds fun hs ds1 => takes hs ds1 fun dl ds2 => Q (.tmp (.tuple dl)) ds2
@[simp] def dLst (t : DTA) : DT := fun ds Q => t ds fun hs ds1 => takes hs ds1 fun dl ds2 => Q (.new (.own dl)) ds2
section
variable {X : Cx} {K : PySem.W.Frag} {F F' T q : Ad} {σ : Sl} {H H' : Hp} {ds ds' : DS} {fp fp' : Nat → Ad} {ta : TA} {t : DTA} {n : Nat} {es : List Expr} {pos : Pos}
/-- after the arguments are taken: a new tuple -/
theorem Pst.tuple {vs : List V} {dl : List D} {p : Addr} (r : Rep K F T σ H ds fp) (x : IsA K (res F H) vs dl) (hp : H p = none) :
    Pst K F T H σ (.ref p) (.tmp (.tuple dl)) ds (F.or (· = p)) (upd H p (.tup vs)) fp Ad.nil := by
  obtain ⟨r1, g, k⟩ := r.newF (o := .tup vs) hp trivial
  exact ⟨r1.less or_empty, fun _ z => z.elim, g, k, .tup (.of (by rw [res_in (.inr rfl), upd_same])) (x.mono g.same)⟩
theorem Pst.list {vs : List V} {dl : List D} {p : Addr} (r : Rep K F T σ H ds fp) (x : IsA K (res F H) vs dl) (hp : H p = none) :
    Pst K F T H σ (.ref p) (.new (.own dl)) ds F (upd H p (.lst vs)) fp (· = p) := by
  obtain ⟨r1, g, k⟩ := r.newT (o := .lst vs) hp trivial
  refine ⟨r1, fun a z => ?_, g, k, ⟨p, vs, rfl, fun _ => Iff.rfl, upd_same, x.mono g.same⟩⟩
  intro t; rw [z] at t
  exact (r.new_ne hp).2.1 t
theorem Pst.pre {F0 : Ad} {H0 : Hp} {v : V} {h : Hd} (g : Grow F0 H0 F H) (k : ∀ a, T a → H a = H0 a) (p : Pst K F T H σ v h ds' F' H' fp' q) : Pst K F0 T H0 σ v h ds' F' H' fp' q :=
  ⟨p.rep, p.qT, g.trans p.g, fun a t => (p.t a t).trans (k a t), p.r⟩
theorem eok_tup (a : AOk K n ta t) (hn : n ≤ 1000) : EOk K (tTup ta) (dTup t) := fun F T σ H ds fp Q R r h k => by
  refine a F T σ H ds fp _ _ r h fun hs ds1 vs H1 F1 fp1 q1 k1 p1 l1 => ?_
  refine ⟨by rw [l1]; exact Nat.le_of_lt (small1000 hn), fun p hp => ?_⟩
  obtain ⟨dl, ds2, F2, fp2, e2, r2, g2, i2⟩ := takes_ok p1.r .refl p1.rep p1.qT k1
  exact k _ _ _ _ _ _ _ e2 ((Pst.tuple r2 i2 hp).pre (p1.g.trans g2) p1.t)
theorem eok_lst (a : AOk K n ta t) (hn : n ≤ 1000) : EOk K (tLst ta) (dLst t) := fun F T σ H ds fp Q R r h k => by
  refine a F T σ H ds fp _ _ r h fun hs ds1 vs H1 F1 fp1 q1 k1 p1 l1 => ?_
  refine ⟨by rw [l1]; exact Nat.le_of_lt (small1000 hn), fun p hp => ?_⟩
  obtain ⟨dl, ds2, F2, fp2, e2, r2, g2, i2⟩ := takes_ok p1.r .refl p1.rep p1.qT k1
  exact k _ _ _ _ _ _ _ e2 ((Pst.list r2 i2 hp).pre (p1.g.trans g2) p1.t)
theorem do_tup {x1} (a : DA X es ta t) (hn : es.length ≤ 1000 := by decide) : DO X (.Tuple es x1 pos) (tTup ta) (dTup t) := ⟨pe_tup a.pa, eok_tup a.ok hn⟩
theorem do_lst (a : DA X es ta t) (hn : es.length ≤ 1000 := by decide) : DO X (.List es pos) (tLst ta) (dLst t) := ⟨pe_lst a.pa, eok_lst a.ok hn⟩
end

/-! ### operators by their data -/
abbrev D2 := D → D → (Hd → Prop) → Prop
def ROk (K : PySem.W.Frag) (r : R2) (op : D2) : Prop :=
  ∀ (F T : Ad) (σ : Sl) (H : Hp) (ds : DS) (fp : Nat → Ad) (x y : V) (d e : D) (Q : Hd → Prop) (R : VK), Rep K F T σ H ds fp → PkR K F H x d → PkR K F H y e → op d e Q →
    (∀ h v H' F' q, Q h → Pst K F T H σ v h ds F' H' fp q → R v H') → r x y H R
@[simp] def d2 (op : D2) (t u : DT) : DT := fun ds Q => t ds fun h1 ds1 => u ds1 fun h2 ds2 => pk ds2 h1 fun d1 => pk ds2 h2 fun e => op d1 e fun h => Q h ds2
section
variable {X : Cx} {K : PySem.W.Frag} {a b : Expr} {ta tb : TE} {t u : DT} {r : R2} {op : D2} {pos : Pos}
/-- two operands, one behind the other -/
theorem two_ok (ha : EOk K ta t) (hb : EOk K tb u) {F T : Ad} {σ : Sl} {H : Hp} {ds : DS} {fp : Nat → Ad} {Q : D → D → DS → Prop} {R : V → V → Hp → Prop} (rp : Rep K F T σ H ds fp)
    (h : t ds fun h1 ds1 => u ds1 fun h2 ds2 => pk ds2 h1 fun d1 => pk ds2 h2 fun e => Q d1 e ds2)
    (k : ∀ d e ds' x y H' F' fp', Q d e ds' → Rep K F' T σ H' ds' fp' → Grow F H F' H' → (∀ a, T a → H' a = H a) → PkR K F' H' x d → PkR K F' H' y e → R x y H') : ta σ H fun x H1 => tb σ H1 fun y H2 => R x y H2 := by
  refine ha F T σ H ds fp _ _ rp h fun h1 ds1 v1 H1 F1 fp1 q1 k1 p1 => ?_
  refine hb F1 (T.or q1) σ H1 ds1 fp1 _ _ p1.rep k1 fun h2 ds2 v2 H2 F2 fp2 q2 k2 p2 => ?_
  have x1 := p1.r.keep p2.g fun a z => p2.t a (.inr z)
  obtain ⟨d1, i1, k3⟩ := pk_ok p2.rep x1 k2
  obtain ⟨e1, i2, k4⟩ := pk_ok p2.rep p2.r k3
  exact k _ _ _ _ _ _ _ fp2 k4 (p2.rep.less fun a z => .inl (.inl z)) (p1.g.trans p2.g) (fun a z => (p2.t a (.inl z)).trans (p1.t a z)) i1 i2
theorem eok_2 (ha : EOk K ta t) (hb : EOk K tb u) (hr : ROk K r op) : EOk K (tOp r ta tb) (d2 op t u) := fun F T σ H ds fp Q R rp h k =>
  two_ok ha hb (Q := fun d e ds2 => op d e fun h => Q h ds2) rp h fun d e ds' x y H' F' fp' h1 r1 g1 k1 i1 i2 =>
    hr F' T σ H' ds' fp' x y d e _ R r1 i1 i2 h1 fun h v H2 F2 q qh p => k _ _ _ _ _ _ _ qh (p.pre g1 k1)
theorem do_bin {o : Operator} (ho : OpR X (binaryOp o) r) (hr : ROk X.K r op) (ha : DO X a ta t) (hb : DO X b tb u) : DO X (.BinOp a o b pos) (tOp r ta tb) (d2 op t u) := ⟨pe_op ho ha.pe hb.pe, eok_2 ha.ok hb.ok hr⟩
theorem do_cmp {o : CmpOp} (ho : OpR X (compareOp o) r) (hr : ROk X.K r op) (ha : DO X a ta t) (hb : DO X b tb u) (hm : behindInMarks o b = false := by first | exact nomark _ | rfl) : DO X (.Compare a [o] [b] pos) (tOp r ta tb) (d2 op t u) :=
  ⟨pe_cmpR ho ha.pe hb.pe hm, eok_2 ha.ok hb.ok hr⟩
end
end DL

/-! DL: operators, comparisons, tests, subscripts. -/
namespace DL
open PySem PySem.Spec PyProof.Rows L2

section
variable {K : PySem.W.Frag} {X : Cx}
/-! ### lists that are read, locked ones too -/
theorem lstRd {pins : List (Addr × Obj)} {σ : Sl} {H : Hp} {s : Shared} {l : Addr} {xs : List V} (I : Inv X pins σ H s) (hH : Ls X.K H l xs) : xs.length ≤ sizeLine ∧ ∃ (its : List Value) (n : Nat), Vals xs its ∧ xs.length = its.length ∧ s.heap.get? l = some { cls := .type "list", data := .seq its.toArray n } := by
  rcases hH with hH | ⟨its, n, hk, z, r⟩
  · obtain ⟨z, its, n, r, e⟩ := hH.ok I.hok
    exact ⟨z, its, n, r, r.length, e⟩
  · refine ⟨?_, its.toList, n, r, r.length, by have := I.kIn l _ hk; simpa using this⟩
    have e := r.length
    have e2 : its.toList.length = its.size := Array.length_toList
    omega
def rCatR (K : PySem.W.Frag) : R2 := fun x y H Q => ∃ l b xs zs, x = .ref l ∧ y = .ref b ∧ Ls K H l xs ∧ Ls K H b zs ∧ xs.length + zs.length ≤ sizeLine ∧ ∀ p, H p = none → Q (.ref p) (upd H p (.lst (xs ++ zs)))
theorem op_catR : OpR X (binaryOp .Add) (rCatR X.K) := by
  intro pins s σ H x y v u Q I rx ry h
  obtain ⟨l, b, xs, zs, rfl, rfl, hH, hB, hz, q⟩ := h
  cases rx
  cases ry
  obtain ⟨z, its, n, r, hl, e⟩ := lstRd I hH
  obtain ⟨z2, its2, n2, r2, hl2, e2⟩ := lstRd I hB
  refine PySem.P.add_list e e2 ?_ (by rw [List.size_toArray, List.size_toArray]; omega)
  have ea : its.toArray ++ its2.toArray = (its ++ its2).toArray := by simp
  rw [ea]
  exact ⟨.ref _, _, I.lnew (t' := s.toks) (r.append r2) (by rw [List.length_append]; omega), rfl, q _ I.fresh⟩
/-! ### arithmetic -/
@[simp] def dAdd : D2
  | .int i, .int j, Q => Q (.tmp (.int (i + j)))
  | .str x, .str y, Q => x.length + y.length ≤ sizeLine ∧ Q (.tmp (.str (x ++ y)))
  | .tuple xs, .tuple ys, Q => xs.length + ys.length ≤ sizeLine ∧ Q (.tmp (.tuple (xs ++ ys)))
  | .list xs, .list ys, Q => xs.length + ys.length ≤ sizeLine ∧ Q (.new (.own (xs ++ ys)))
  | _, _, _ => False
def rAddA (K : PySem.W.Frag) : R2 := fun x y H Q => (∃ i j, x = .int i ∧ y = .int j ∧ Q (.int (i + j)) H) ∨ ((∃ i j, x = .str i ∧ y = .str j ∧ i.length + j.length ≤ sizeLine ∧ Q (.str (i ++ j)) H) ∨ (rCatA K x y H Q ∨ rCatR K x y H Q))
theorem op_addA : OpR X (binaryOp .Add) (rAddA X.K) := OpR.or op_add (OpR.or op_add_str (OpR.or op_catA op_catR))
theorem rok_add : ROk K (rAddA K) dAdd := by
  intro F T σ H ds fp x y d e Q R r px py h k
  cases d <;> cases e <;> first | exact False.elim h | skip
  · rw [px.int, py.int]
    exact .inl ⟨_, _, rfl, rfl, k _ _ _ _ _ h (.here r (.int _))⟩
  · rw [px.str, py.str]
    exact .inr (.inl ⟨_, _, rfl, rfl, h.1, k _ _ _ _ _ h.2 (.here r (.str _))⟩)
  · obtain ⟨a, vs, rfl, ha, ia⟩ := px.list
    obtain ⟨b, ws, rfl, hb, ib⟩ := py.list
    refine .inr (.inr (.inr ⟨a, b, vs, ws, rfl, rfl, ha, hb, by rw [ia.length, ib.length]; exact h.1, fun p hp => ?_⟩))
    exact k _ _ _ _ _ h.2 (.list r (ia.append ib) hp)
  · obtain ⟨a, vs, rfl, ha, ia, ta⟩ := px.tuple
    obtain ⟨b, ws, rfl, hb, ib, tb⟩ := py.tuple
    rename_i xs ys
    refine .inr (.inr (.inl ⟨a, b, vs, ws, rfl, rfl, ha, hb, by rw [ia.length, ib.length]; exact h.1, fun e => ?_, fun _ e => ?_, fun _ _ p hp => ?_⟩))
    · have : xs = [] := by
        have := ia.length; rw [e] at this; exact List.length_eq_zero_iff.mp this.symm
      subst this
      exact k _ _ _ _ _ h.2 (.here r tb)
    · have : ys = [] := by
        have := ib.length; rw [e] at this; exact List.length_eq_zero_iff.mp this.symm
      subst this
      have h2 : Q (.tmp (.tuple (xs ++ []))) := h.2
      rw [List.append_nil] at h2
      exact k _ _ _ _ _ h2 (.here r ta)
    · exact k _ _ _ _ _ h.2 (.tuple r (ia.append ib) hp)
@[simp] def dSub : D2
  | .int i, .int j, Q => Q (.tmp (.int (i - j)))
  | _, _, _ => False
theorem rok_sub : ROk K (rI0 fun i j => .int (i - j)) dSub := by
  intro F T σ H ds fp x y d e Q R r px py h k
  cases d <;> cases e <;> first | exact False.elim h | skip
  rw [px.int, py.int]
  exact ⟨_, _, rfl, rfl, k _ _ _ _ _ h (.here r (.int _))⟩
structure MulOk (i j : Int) : Prop where
  ok : IntMulOk i j
theorem MulOk.l {i j : Int} (h : -(2 ^ 64) < i ∧ i < 2 ^ 64) : MulOk i j := ⟨CMul.ok (.inl h)⟩
theorem MulOk.r {i j : Int} (h : -(2 ^ 64) < j ∧ j < 2 ^ 64) : MulOk i j := ⟨CMul.ok (.inr h)⟩
theorem MulOk.w {i j : Int} {a b : Nat} (ha : i.natAbs < 2 ^ a) (hb : j.natAbs < 2 ^ b) (h : a + b ≤ 900000) : MulOk i j := by
  have ha' : i.natAbs < 2 ^ (a + 1) := Nat.lt_of_lt_of_le ha (Nat.pow_le_pow_right (by decide) (by omega))
  have hb' : j.natAbs < 2 ^ (b + 1) := Nat.lt_of_lt_of_le hb (Nat.pow_le_pow_right (by decide) (by omega))
  exact ⟨CMulW.ok (wide_mul ha' hb' (by omega) (by omega) (by omega))⟩
@[simp] def dMul : D2
  | .int i, .int j, Q => MulOk i j ∧ Q (.tmp (.int (i * j)))
  | _, _, _ => False
theorem op_mulO : OpR X (binaryOp .Mult) (rI MulOk fun i j => .int (i * j)) := opI fun _ _ _ _ _ _ _ hc q => mul_int q hc.ok
theorem rok_mul : ROk K (rI MulOk fun i j => .int (i * j)) dMul := by
  intro F T σ H ds fp x y d e Q R r px py h k
  cases d <;> cases e <;> first | exact False.elim h | skip
  rw [px.int, py.int]
  exact ⟨_, _, rfl, rfl, h.1, k _ _ _ _ _ h.2 (.here r (.int _))⟩
/-- a new list, so many times -/
@[simp] def dRep (t u : DT) : DT := fun ds Q => t ds fun h1 ds1 => u ds1 fun h2 ds2 => match h1 with
  | .new (.own xs) => pk ds2 h2 fun d => match d with
    | .int k => (-(2 ^ 63) ≤ k ∧ k < 2 ^ 63 ∧ xs.length * k.toNat ≤ sizeLine) ∧ Q (.new (.own (List.replicate k.toNat xs).flatten)) ds2
    | _ => False
  | _ => False
theorem do_rep {a b : Expr} {ta tb : TE} {t u : DT} {pos : Pos} (ha : DO X a ta t) (hb : DO X b tb u) : DO X (.BinOp a .Mult b pos) (tOp rRep ta tb) (dRep t u) := ⟨pe_op op_rep ha.pe hb.pe, fun F T σ H ds fp Q R rp h k => by
  refine ha.ok F T σ H ds fp _ _ rp h fun h1 ds1 v1 H1 F1 fp1 q1 k1 p1 => ?_
  refine hb.ok F1 (T.or q1) σ H1 ds1 fp1 _ _ p1.rep k1 fun h2 ds2 v2 H2 F2 fp2 q2 k2 p2 => ?_
  cases h1 with
  | tmp _ => exact False.elim k2
  | slot _ => exact False.elim k2
  | fld _ _ _ => exact False.elim k2
  | new s =>
    cases s <;> first | exact False.elim k2 | skip
    obtain ⟨a, vs, e1, _, ha, ia⟩ := p1.r.keep p2.g fun a z => p2.t a (.inr z)
    cases e1
    obtain ⟨d, i, k3⟩ := pk_ok p2.rep p2.r k2
    cases d <;> first | exact False.elim k3 | skip
    rw [i.int]
    refine ⟨a, _, vs, rfl, rfl, ha, k3.1.1, k3.1.2.1, by rw [ia.length]; exact k3.1.2.2, fun p hp => ?_⟩
    exact k _ _ _ _ _ _ _ k3.2 ((Pst.list (p2.rep.less fun a z => .inl (.inl z)) (ia.rep _) hp).pre (p1.g.trans p2.g) fun a z => (p2.t a (.inl z)).trans (p1.t a z))⟩
structure DivOk (j : Int) : Prop where
  ne : j ≠ 0
  lg : j.natAbs.log2 < 9000
theorem DivOk.of {j : Int} {b : Nat} (h : j ≠ 0) (hb : j.natAbs < 2 ^ b) (hb9 : b < 9000) : DivOk j := ⟨h, by
  have h1 : j.natAbs < 2 ^ (b + 1) := Nat.lt_of_lt_of_le hb (Nat.pow_le_pow_right (by decide) (by omega))
  exact Nat.lt_of_lt_of_le (PySem.Flt.log2_lt_of (by omega) h1) (by omega)⟩
theorem op_fdivO : OpR X (binaryOp .FloorDiv) (rI (fun _ j => DivOk j) fun i j => .int (i.fdiv j)) := opI fun _ _ _ _ _ _ _ hc q => floordiv_int hc.1 q (.inl (PyProof.noPylong_of_log2 hc.2))
@[simp] def dFdiv : D2
  | .int i, .int j, Q => DivOk j ∧ Q (.tmp (.int (i.fdiv j)))
  | _, _, _ => False
theorem rok_fdiv : ROk K (rI (fun _ j => DivOk j) fun i j => .int (i.fdiv j)) dFdiv := by
  intro F T σ H ds fp x y d e Q R r px py h k
  cases d <;> cases e <;> first | exact False.elim h | skip
  rw [px.int, py.int]
  exact ⟨_, _, rfl, rfl, h.1, k _ _ _ _ _ h.2 (.here r (.int _))⟩
@[simp] def dMod : D2
  | .int i, .int j, Q => j ≠ 0 ∧ Q (.tmp (.int (i.fmod j)))
  | _, _, _ => False
theorem rok_mod : ROk K (rI (fun _ j => j ≠ 0) fun i j => .int (i.fmod j)) dMod := by
  intro F T σ H ds fp x y d e Q R r px py h k
  cases d <;> cases e <;> first | exact False.elim h | skip
  rw [px.int, py.int]
  exact ⟨_, _, rfl, rfl, h.1, k _ _ _ _ _ h.2 (.here r (.int _))⟩
@[simp] def dPow : D2
  | .int i, .int j, Q => CPow i j ∧ Q (.tmp (.int (i ^ j.toNat)))
  | _, _, _ => False
theorem rok_pow : ROk K (rI CPow fun i j => .int (i ^ j.toNat)) dPow := by
  intro F T σ H ds fp x y d e Q R r px py h k
  cases d <;> cases e <;> first | exact False.elim h | skip
  rw [px.int, py.int]
  exact ⟨_, _, rfl, rfl, h.1, k _ _ _ _ _ h.2 (.here r (.int _))⟩

/-! ### comparisons -/
@[simp] def dRel (p : Int → Int → Bool) : D2
  | .int i, .int j, Q => Q (.tmp (.bool (p i j)))
  | _, _, _ => False
theorem rok_rel {p : Int → Int → Bool} : ROk K (rI0 fun i j => .bl (p i j)) (dRel p) := by
  intro F T σ H ds fp x y d e Q R r px py h k
  cases d <;> cases e <;> first | exact False.elim h | skip
  rw [px.int, py.int]
  exact ⟨_, _, rfl, rfl, k _ _ _ _ _ h (.here r (.bl _))⟩
@[simp] def dLt : D2
  | .int i, .int j, Q => Q (.tmp (.bool (decide (i < j))))
  | .str i, .str j, Q => Q (.tmp (.bool (decide (i.cps.toList < j.cps.toList))))
  | _, _, _ => False
@[simp] def dLe : D2
  | .int i, .int j, Q => Q (.tmp (.bool (decide (i ≤ j))))
  | .str i, .str j, Q => Q (.tmp (.bool (!decide (j.cps.toList < i.cps.toList))))
  | _, _, _ => False
def rLtA : R2 := fun x y H Q => (∃ i j, x = .int i ∧ y = .int j ∧ Q (.bl (decide (i < j))) H) ∨ ∃ i j, x = .str i ∧ y = .str j ∧ Q (.bl (decide (i.cps.toList < j.cps.toList))) H
def rLeA : R2 := fun x y H Q => (∃ i j, x = .int i ∧ y = .int j ∧ Q (.bl (decide (i ≤ j))) H) ∨ ∃ i j, x = .str i ∧ y = .str j ∧ Q (.bl (!decide (j.cps.toList < i.cps.toList))) H
theorem op_ltA : OpR X (compareOp .Lt) rLtA := OpR.or op_lt op_lt_str
theorem op_leA : OpR X (compareOp .LtE) rLeA := OpR.or op_le op_le_str
theorem rok_lt : ROk K rLtA dLt := by
  intro F T σ H ds fp x y d e Q R r px py h k
  cases d <;> cases e <;> first | exact False.elim h | skip
  · rw [px.int, py.int]; exact .inl ⟨_, _, rfl, rfl, k _ _ _ _ _ h (.here r (.bl _))⟩
  · rw [px.str, py.str]; exact .inr ⟨_, _, rfl, rfl, k _ _ _ _ _ h (.here r (.bl _))⟩
theorem rok_le : ROk K rLeA dLe := by
  intro F T σ H ds fp x y d e Q R r px py h k
  cases d <;> cases e <;> first | exact False.elim h | skip
  · rw [px.int, py.int]; exact .inl ⟨_, _, rfl, rfl, k _ _ _ _ _ h (.here r (.bl _))⟩
  · rw [px.str, py.str]; exact .inr ⟨_, _, rfl, rfl, k _ _ _ _ _ h (.here r (.bl _))⟩
abbrev dGt : D2 := dRel fun i j => decide (j < i)
abbrev dGe : D2 := dRel fun i j => decide (j ≤ i)
/-- equality of data; texts and bools within need their form alone where no scalars are compared -/
@[simp] def dEqB (neg : Bool) : D2
  | .int i, .int j, Q => Q (.tmp (.bool (if neg then !decide (i = j) else decide (i = j))))
  | .str i, .str j, Q => Q (.tmp (.bool (if neg then !decide (i = j) else decide (i = j))))
  | .str _, .int _, Q => Q (.tmp (.bool neg))
  | .int _, .str _, Q => Q (.tmp (.bool neg))
  | .bool _, .str _, Q => Q (.tmp (.bool neg))
  | .str _, .bool _, Q => Q (.tmp (.bool neg))
  | .none, .str _, Q => Q (.tmp (.bool neg))
  | .str _, .none, Q => Q (.tmp (.bool neg))
  | d, e, Q => SeqAt.shaped d = true ∧ SeqAt.shaped e = true ∧ Q (.tmp (.bool (if neg then !PyData.eqv d e else PyData.eqv d e)))
abbrev dEq : D2 := dEqB false
abbrev dNe : D2 := dEqB true
def rEqA (K : PySem.W.Frag) : R2 := fun x y H Q => rEq x y H Q ∨ rEqD K x y H Q
def rNeA (K : PySem.W.Frag) : R2 := fun x y H Q => rNe x y H Q ∨ rNeD K x y H Q
theorem op_eqA (hu : X.A.units + 64 < cLine) : OpR X (compareOp .Eq) (rEqA X.K) := OpR.or op_eq (op_eqD hu)
theorem op_neA (hu : X.A.units + 64 < cLine) : OpR X (compareOp .NotEq) (rNeA X.K) := OpR.or op_ne (op_neD hu)
theorem dec_i {i j : Int} : decide (V.int i = V.int j) = decide (i = j) := by
  by_cases e : i = j
  · rw [e]; simp
  · rw [decide_eq_false e, decide_eq_false fun h => e (V.int.inj h)]
theorem dec_s {i j : Str} : decide (V.str i = V.str j) = decide (i = j) := by
  by_cases e : i = j
  · rw [e]; simp
  · rw [decide_eq_false e, decide_eq_false fun h => e (V.str.inj h)]
theorem rok_eq : ROk K (rEqA K) dEq := by
  intro F T σ H ds fp x y d e Q R r px py h k
  have dflt : (SeqAt.shaped d = true ∧ SeqAt.shaped e = true ∧ Q (.tmp (.bool (PyData.eqv d e)))) → rEqA K x y H R := fun h =>
    .inr ⟨d, e, px.is.dp, py.is.dp, h.1, h.2.1, k _ _ _ _ _ h.2.2 (.here r (.bl _))⟩
  cases d <;> cases e <;> first | exact dflt h | skip
  · rw [px.none, py.str]; exact .inl ⟨rfl, k _ _ _ _ _ h (.here r (.bl _))⟩
  · rw [px.bool, py.str]; exact .inl ⟨rfl, k _ _ _ _ _ h (.here r (.bl _))⟩
  · rw [px.int, py.int]; exact .inl ⟨rfl, by rw [dec_i]; exact k _ _ _ _ _ h (.here r (.bl _))⟩
  · rw [px.int, py.str]; exact .inl ⟨rfl, k _ _ _ _ _ h (.here r (.bl _))⟩
  · rw [px.str, py.none]; exact .inl ⟨rfl, k _ _ _ _ _ h (.here r (.bl _))⟩
  · rw [px.str, py.bool]; exact .inl ⟨rfl, k _ _ _ _ _ h (.here r (.bl _))⟩
  · rw [px.str, py.int]; exact .inl ⟨rfl, k _ _ _ _ _ h (.here r (.bl _))⟩
  · rw [px.str, py.str]; exact .inl ⟨rfl, by rw [dec_s]; exact k _ _ _ _ _ h (.here r (.bl _))⟩
theorem rok_ne : ROk K (rNeA K) dNe := by
  intro F T σ H ds fp x y d e Q R r px py h k
  have dflt : (SeqAt.shaped d = true ∧ SeqAt.shaped e = true ∧ Q (.tmp (.bool (!PyData.eqv d e)))) → rNeA K x y H R := fun h =>
    .inr ⟨d, e, px.is.dp, py.is.dp, h.1, h.2.1, k _ _ _ _ _ h.2.2 (.here r (.bl _))⟩
  cases d <;> cases e <;> first | exact dflt h | skip
  · rw [px.none, py.str]; exact .inl ⟨rfl, k _ _ _ _ _ h (.here r (.bl _))⟩
  · rw [px.bool, py.str]; exact .inl ⟨rfl, k _ _ _ _ _ h (.here r (.bl _))⟩
  · rw [px.int, py.int]; exact .inl ⟨rfl, by rw [dec_i]; exact k _ _ _ _ _ h (.here r (.bl _))⟩
  · rw [px.int, py.str]; exact .inl ⟨rfl, k _ _ _ _ _ h (.here r (.bl _))⟩
  · rw [px.str, py.none]; exact .inl ⟨rfl, k _ _ _ _ _ h (.here r (.bl _))⟩
  · rw [px.str, py.bool]; exact .inl ⟨rfl, k _ _ _ _ _ h (.here r (.bl _))⟩
  · rw [px.str, py.int]; exact .inl ⟨rfl, k _ _ _ _ _ h (.here r (.bl _))⟩
  · rw [px.str, py.str]; exact .inl ⟨rfl, by rw [dec_s]; exact k _ _ _ _ _ h (.here r (.bl _))⟩
/-- is None -/
@[simp] def isNone : D → Bool
  | .none => true
  | _ => false
@[simp] def dIsN (neg : Bool) : D2
  | d, .none, Q => Q (.tmp (.bool (if neg then !isNone d else isNone d)))
  | _, _, _ => False
theorem is_non {R : Hp} {v : V} {d : D} (h : Is K R v d) : decide (v = .non) = isNone d := by
  cases d with
  | dict _ => cases h
  | _ => cases h <;> rfl
theorem rok_isN : ROk K (fun x y H Q => y = .non ∧ Q (.bl (decide (x = .non))) H) (dIsN false) := by
  intro F T σ H ds fp x y d e Q R r px py h k
  cases e with
  | none =>
    refine ⟨py.none, ?_⟩
    rw [is_non px.is]
    cases d <;> exact k _ _ _ _ _ h (.here r (.bl _))
  | _ => exact False.elim (by cases d <;> exact h)
theorem rok_notN : ROk K (fun x y H Q => y = .non ∧ Q (.bl (!decide (x = .non))) H) (dIsN true) := by
  intro F T σ H ds fp x y d e Q R r px py h k
  cases e with
  | none =>
    refine ⟨py.none, ?_⟩
    rw [is_non px.is]
    cases d <;> exact k _ _ _ _ _ h (.here r (.bl _))
  | _ => exact False.elim (by cases d <;> exact h)
@[simp] def dIsB (neg : Bool) : D2
  | .bool a, .bool b, Q => Q (.tmp (.bool (if neg then !decide (a = b) else decide (a = b))))
  | _, _, _ => False
theorem rok_isB : ROk K rIsB (dIsB false) := by
  intro F T σ H ds fp x y d e Q R r px py h k
  cases d <;> cases e <;> first | exact False.elim h | skip
  rw [px.bool, py.bool]
  exact ⟨_, _, rfl, rfl, k _ _ _ _ _ h (.here r (.bl _))⟩
theorem rok_notB : ROk K rNotB (dIsB true) := by
  intro F T σ H ds fp x y d e Q R r px py h k
  cases d <;> cases e <;> first | exact False.elim h | skip
  rw [px.bool, py.bool]
  exact ⟨_, _, rfl, rfl, k _ _ _ _ _ h (.here r (.bl _))⟩
/-- in, not in: a flat thing among flat things; one sign in a text -/
def flatD : D → Bool
  | .none => true
  | .bool _ => true
  | .int _ => true
  | .str _ => true
  | _ => false
def inD (d : D) (xs : List D) : Bool := xs.any fun y => PyData.eqv y d
def dIn (neg : Bool) : D2
  | .str a, .str b, Q => a.cps.size = 1 ∧ Q (.tmp (.bool (if neg then !decide (a.cps.getD 0 0 ∈ b.cps.toList) else decide (a.cps.getD 0 0 ∈ b.cps.toList))))
  | d, .list xs, Q => flatD d = true ∧ xs.all flatD = true ∧ Q (.tmp (.bool (if neg then !inD d xs else inD d xs)))
  | d, .tuple xs, Q => flatD d = true ∧ xs.all flatD = true ∧ Q (.tmp (.bool (if neg then !inD d xs else inD d xs)))
  | _, _, _ => False
theorem flat_of {R : Hp} : ∀ {v : V} {d : D}, Is K R v d → flatD d = true → flatV v = true
  | _, .none, h, _ => by cases h; rfl
  | _, .bool _, h, _ => by cases h; rfl
  | _, .int _, h, _ => by cases h; rfl
  | _, .str _, h, _ => by cases h; rfl
  | _, .list _, _, f => by cases f
  | _, .tuple _, _, f => by cases f
  | _, .dict _, _, f => by cases f
theorem eqv_of {R R' : Hp} {v w : V} {d e : D} (h : Is K R v d) (g : Is K R' w e) (f : flatD d = true) (f' : flatD e = true) : eqV v w = PyData.eqv d e := by
  cases d <;> first | cases f | skip
  all_goals cases e <;> first | cases f' | skip
  all_goals cases h <;> cases g <;> rfl
theorem flats_of {R : Hp} : ∀ {vs : List V} {ds : List D}, IsA K R vs ds → ds.all flatD = true → vs.all flatV = true
  | _, [], h, _ => by cases h; rfl
  | _, d :: ds, h, f => by
    cases h with
    | cons h1 h2 =>
      rw [List.all_cons, Bool.and_eq_true] at f ⊢
      exact ⟨flat_of h1 f.1, flats_of h2 f.2⟩
theorem inV_of {R R' : Hp} {v : V} {d : D} (g : Is K R' v d) (f' : flatD d = true) : ∀ {vs : List V} {ds : List D}, IsA K R vs ds → ds.all flatD = true → inV v vs = inD d ds
  | _, [], h, _ => by cases h; rfl
  | _, e :: ds, h, f => by
    cases h with
    | cons h1 h2 =>
      rw [List.all_cons, Bool.and_eq_true] at f
      have ih : inV v _ = inD d ds := inV_of g f' h2 f.2
      show (eqV _ v || _) = (PyData.eqv e d || _)
      rw [eqv_of h1 g f.1 f']
      exact congrArg _ ih
def rInA (K : PySem.W.Frag) (neg : Bool) : R2 := fun x y H Q => rIn K neg x y H Q ∨ ∃ (c : Nat) (z : Str), x = .str ⟨#[c]⟩ ∧ y = .str z ∧ Q (.bl (if neg then !decide (c ∈ z.cps.toList) else decide (c ∈ z.cps.toList))) H
theorem op_inA : OpR X (compareOp .In) (rInA X.K false) := OpR.or op_in_seq op_in_sign
theorem op_notInA : OpR X (compareOp .NotIn) (rInA X.K true) := OpR.or op_notIn_seq op_notIn_sign
theorem rok_in {neg : Bool} : ROk K (rInA K neg) (dIn neg) := by
  intro F T σ H ds fp x y d e Q R r px py h k
  have seq : ∀ {xs : List D} {a : Addr} {vs : List V}, y = .ref a → (SqL K H a vs ∨ SqT K H a vs) → IsA K (res F H) vs xs → (flatD d = true ∧ xs.all flatD = true ∧ Q (.tmp (.bool (if neg then !inD d xs else inD d xs)))) → rInA K neg x y H R := fun {xs a vs} e1 e2 e3 h => by
    refine .inl ⟨a, vs, e1, e2, flat_of px.is h.1, flats_of e3 h.2.1, ?_⟩
    rw [inV_of px.is h.1 e3 h.2.1]
    exact k _ _ _ _ _ h.2.2 (.here r (.bl _))
  cases e with
  | list xs =>
    obtain ⟨a, vs, e1, e2, e3⟩ := py.list
    exact seq e1 (.inl e2.sq) e3 (by cases d <;> exact h)
  | tuple xs =>
    obtain ⟨a, vs, e1, e2, e3, _⟩ := py.tuple
    exact seq e1 (.inr e2) e3 (by cases d <;> exact h)
  | str b =>
    cases d <;> first | exact False.elim h | skip
    rename_i a
    obtain ⟨h1, h2⟩ := h
    rw [px.str, py.str]
    obtain ⟨⟨l⟩⟩ := a
    match l, h1, h2 with
    | [c], _, h2 => exact .inr ⟨c, b, rfl, rfl, k _ _ _ _ _ h2 (.here r (.bl _))⟩
  | _ => cases d <;> exact False.elim h
end
end DL

/-! DL: tests, subscripts, slices, built-ins, calls of defs. -/
namespace DL
open PySem PySem.Spec PyProof.Rows L2

/-! ### tests -/
def BTOk (K : PySem.W.Frag) (tt : TT) (t : DTT) : Prop :=
  ∀ (F T : Ad) (σ : Sl) (H : Hp) (ds : DS) (fp : Nat → Ad) (Q : Bool → DS → Prop) (R : Bool → Hp → Prop), Rep K F T σ H ds fp → t ds Q →
    (∀ b ds' H' F' fp', Q b ds' → Rep K F' T σ H' ds' fp' → Grow F H F' H' → (∀ a, T a → H' a = H a) → R b H') → tt σ H R
structure DB (X : Cx) (e : Expr) (tt : TT) (t : DTT) : Prop where
  pt : PT X e tt
  ok : BTOk X.K tt t
structure DW (X : Cx) (e : Expr) (tt : TT) (t : DTT) : Prop where
  pw : PW X e tt
  ok : BTOk X.K tt t
theorem Pst.bool {K : PySem.W.Frag} {F T : Ad} {σ : Sl} {H : Hp} {ds : DS} {fp : Nat → Ad} {b : Bool} (r : Rep K F T σ H ds fp) : Pst K F T H σ (.bl b) (.tmp (.bool b)) ds F H fp Ad.nil := .here r (Is.bl b)
theorem Pst.int {K : PySem.W.Frag} {F T : Ad} {σ : Sl} {H : Hp} {ds : DS} {fp : Nat → Ad} {b : Int} (r : Rep K F T σ H ds fp) : Pst K F T H σ (.int b) (.tmp (.int b)) ds F H fp Ad.nil := .here r (Is.int b)
@[simp] def hB : Hd → (Bool → Prop) → Prop
  | .tmp (.bool b), P => P b
  | _, _ => False
/-- the truth of what is a bool -/
@[simp] def bT (t : DT) : DTT := fun ds Q => t ds fun h ds1 => pk ds1 h fun d => match d with
  | .bool b => Q b ds1
  | _ => False
@[simp] def bAnd (t u : DTT) : DTT := fun ds Q => t ds fun b ds1 => if b = true then u ds1 Q else Q false ds1
@[simp] def bOr (t u : DTT) : DTT := fun ds Q => t ds fun b ds1 => if b = true then Q true ds1 else u ds1 Q
@[simp] def bNot (t : DTT) : DTT := fun ds Q => t ds fun b ds1 => Q (!b) ds1
@[simp] def dAnd (t u : DT) : DT := fun ds Q => bT t ds fun b ds1 => if b = true then u ds1 Q else Q (.tmp (.bool false)) ds1
@[simp] def dOr (t u : DT) : DT := fun ds Q => bT t ds fun b ds1 => if b = true then Q (.tmp (.bool true)) ds1 else u ds1 Q
@[simp] def dNot (t : DT) : DT := fun ds Q => bT t ds fun b ds1 => Q (.tmp (.bool (!b))) ds1
@[simp] def dIf (c : DTT) (t u : DT) : DT := fun ds Q => c ds fun b ds1 => if b = true then t ds1 Q else u ds1 Q
section
variable {X : Cx} {K : PySem.W.Frag} {a b c : Expr} {rest : List Expr} {ta tb tc : TE} {t u w : DT} {tt tt' : TT} {p p' : DTT} {pos : Pos} {r r' : R2} {op op' : D2}
theorem bt_val (h : EOk K ta t) : BTOk K (tB ta) (bT t) := fun F T σ H ds fp Q R rp e k => by
  refine h F T σ H ds fp _ _ rp e fun h1 ds1 v1 H1 F1 fp1 q1 k1 p1 => ?_
  obtain ⟨d, i, k2⟩ := pk_ok p1.rep p1.r k1
  cases d <;> first | exact False.elim k2 | skip
  exact ⟨_, i.bool, k _ _ _ _ fp1 k2 (p1.rep.less fun _ z => .inl z) p1.g p1.t⟩
theorem db_val (h : DO X a ta t) (he : ∀ whole, isTrue a X.env whole = (do let v ← whole; standAt a.pos; holding [v] (truthy v)) := by intro _; rfl) : DB X a (tB ta) (bT t) := ⟨pt_val h.pe he, bt_val h.ok⟩
theorem db_cmp {o : CmpOp} (ho : OpR X (compareOp o) r) (hr : ROk X.K r op) (ha : DO X a ta t) (hb : DO X b tb u) (hm : behindInMarks o b = false := by first | exact nomark _ | rfl) : DB X (.Compare a [o] [b] pos) (tTest (tOp r ta tb)) (bT (d2 op t u)) :=
  ⟨pt_cmpR ho ha.pe hb.pe hm, bt_val (eok_2 ha.ok hb.ok hr)⟩
theorem bt_not (h : BTOk K tt p) : BTOk K (tNot tt) (bNot p) := fun F T σ H ds fp Q R rp e k =>
  h F T σ H ds fp _ _ rp e fun b ds1 H1 F1 fp1 k1 r1 g1 t1 => k _ _ _ _ _ k1 r1 g1 t1
theorem bt_and (h : BTOk K tt p) (h' : BTOk K tt' p') : BTOk K (tAnd tt tt') (bAnd p p') := fun F T σ H ds fp Q R rp e k =>
  h F T σ H ds fp _ _ rp e fun b ds1 H1 F1 fp1 k1 r1 g1 t1 => by
    cases b with
    | true => exact h' F1 T σ H1 ds1 fp1 Q R r1 k1 fun b ds2 H2 F2 fp2 k2 r2 g2 t2 => k _ _ _ _ _ k2 r2 (g1.trans g2) fun a z => (t2 a z).trans (t1 a z)
    | false => exact k _ _ _ _ _ k1 r1 g1 t1
theorem bt_or (h : BTOk K tt p) (h' : BTOk K tt' p') : BTOk K (tOr tt tt') (bOr p p') := fun F T σ H ds fp Q R rp e k =>
  h F T σ H ds fp _ _ rp e fun b ds1 H1 F1 fp1 k1 r1 g1 t1 => by
    cases b with
    | false => exact h' F1 T σ H1 ds1 fp1 Q R r1 k1 fun b ds2 H2 F2 fp2 k2 r2 g2 t2 => k _ _ _ _ _ k2 r2 (g1.trans g2) fun a z => (t2 a z).trans (t1 a z)
    | true => exact k _ _ _ _ _ k1 r1 g1 t1
theorem db_not (h : DB X a tt p) : DB X (.UnaryOp .Not a pos) (tNot tt) (bNot p) := ⟨pt_not h.pt, bt_not h.ok⟩
theorem dw_and1 (h : DB X a tt p) : DW X (.BoolOp .And [a] pos) tt p := ⟨pw_and1 h.pt, h.ok⟩
theorem dw_or1 (h : DB X a tt p) : DW X (.BoolOp .Or [a] pos) tt p := ⟨pw_or1 h.pt, h.ok⟩
theorem dw_and (h : DB X a tt p) (h' : DW X (.BoolOp .And (b :: rest) pos) tt' p') : DW X (.BoolOp .And (a :: b :: rest) pos) (tAnd tt tt') (bAnd p p') := ⟨pw_and h.pt h'.pw, bt_and h.ok h'.ok⟩
theorem dw_or (h : DB X a tt p) (h' : DW X (.BoolOp .Or (b :: rest) pos) tt' p') : DW X (.BoolOp .Or (a :: b :: rest) pos) (tOr tt tt') (bOr p p') := ⟨pw_or h.pt h'.pw, bt_or h.ok h'.ok⟩
theorem DW.db (h : DW X a tt p) : DB X a tt p := ⟨h.pw.pt, h.ok⟩

theorem eok_and (h : EOk K ta t) (h' : EOk K tb u) : EOk K (tAndV ta tb) (dAnd t u) := fun F T σ H ds fp Q R rp e k =>
  bt_val h F T σ H ds fp _ _ rp e fun b ds1 H1 F1 fp1 k1 r1 g1 t1 => by
    cases b with
    | true =>
      show tb σ H1 R
      exact h' F1 T σ H1 ds1 fp1 Q R r1 k1 fun h ds2 v2 H2 F2 fp2 q2 k2 p2 => k _ _ _ _ _ _ _ k2 (p2.pre g1 t1)
    | false => exact k _ _ _ _ _ _ _ k1 ((Pst.bool r1).pre g1 t1)
theorem eok_or (h : EOk K ta t) (h' : EOk K tb u) : EOk K (tOrV ta tb) (dOr t u) := fun F T σ H ds fp Q R rp e k =>
  bt_val h F T σ H ds fp _ _ rp e fun b ds1 H1 F1 fp1 k1 r1 g1 t1 => by
    cases b with
    | false =>
      show tb σ H1 R
      exact h' F1 T σ H1 ds1 fp1 Q R r1 k1 fun h ds2 v2 H2 F2 fp2 q2 k2 p2 => k _ _ _ _ _ _ _ k2 (p2.pre g1 t1)
    | true => exact k _ _ _ _ _ _ _ k1 ((Pst.bool r1).pre g1 t1)
theorem eok_not (h : EOk K ta t) : EOk K (tNotV ta) (dNot t) := fun F T σ H ds fp Q R rp e k =>
  bt_val h F T σ H ds fp _ _ rp e fun b ds1 H1 F1 fp1 k1 r1 g1 t1 => k _ _ _ _ _ _ _ k1 ((Pst.bool r1).pre g1 t1)
theorem eok_if (h : BTOk K tt p) (h1 : EOk K ta t) (h2 : EOk K tb u) : EOk K (tIf tt ta tb) (dIf p t u) := fun F T σ H ds fp Q R rp e k =>
  h F T σ H ds fp _ _ rp e fun b ds1 H1 F1 fp1 k1 r1 g1 t1 => by
    cases b with
    | true => exact h1 F1 T σ H1 ds1 fp1 Q R r1 k1 fun h ds2 v2 H2 F2 fp2 q2 k2 p2 => k _ _ _ _ _ _ _ k2 (p2.pre g1 t1)
    | false => exact h2 F1 T σ H1 ds1 fp1 Q R r1 k1 fun h ds2 v2 H2 F2 fp2 q2 k2 p2 => k _ _ _ _ _ _ _ k2 (p2.pre g1 t1)
theorem do_one {o} (h : DO X a ta t) : DO X (.BoolOp o [a] pos) ta t := ⟨pe_one h.pe, h.ok⟩
theorem do_and (h : DO X a ta t) (h' : DO X (.BoolOp .And (b :: rest) pos) tb u) : DO X (.BoolOp .And (a :: b :: rest) pos) (tAndV ta tb) (dAnd t u) := ⟨pe_and h.pe h'.pe, eok_and h.ok h'.ok⟩
theorem do_or (h : DO X a ta t) (h' : DO X (.BoolOp .Or (b :: rest) pos) tb u) : DO X (.BoolOp .Or (a :: b :: rest) pos) (tOrV ta tb) (dOr t u) := ⟨pe_or h.pe h'.pe, eok_or h.ok h'.ok⟩
theorem do_not (h : DO X a ta t) : DO X (.UnaryOp .Not a pos) (tNotV ta) (dNot t) := ⟨pe_not h.pe, eok_not h.ok⟩
theorem do_ifx (h : DB X c tt p) (h1 : DO X a ta t) (h2 : DO X b tb u) : DO X (.IfExp c a b pos) (tIf tt ta tb) (dIf p t u) := ⟨pe_ifExp h.pt h1.pe h2.pe, eok_if h.ok h1.ok h2.ok⟩

/-! a < b < c -/
@[simp] def dChain (op op' : D2) (t u w : DT) : DT := fun ds Q => t ds fun h1 ds1 => u ds1 fun h2 ds2 => pk ds2 h1 fun d1 => pk ds2 h2 fun e => op d1 e fun h => hB h fun k =>
  if k = true then w ds2 fun h3 ds3 => pk ds3 h2 fun e' => pk ds3 h3 fun f => op' e' f fun h => Q h ds3 else Q (.tmp (.bool false)) ds2
theorem eok_chain (ha : EOk K ta t) (hb : EOk K tb u) (hc : EOk K tc w) (hr : ROk K r op) (hr' : ROk K r' op') : EOk K (tChain r r' ta tb tc) (dChain op op' t u w) := fun F T σ H ds fp Q R rp e k => by
  refine ha F T σ H ds fp _ _ rp e fun h1 ds1 v1 H1 F1 fp1 q1 k1 p1 => ?_
  refine hb F1 (T.or q1) σ H1 ds1 fp1 _ _ p1.rep k1 fun h2 ds2 v2 H2 F2 fp2 q2 k2 p2 => ?_
  obtain ⟨d1, i1, k3⟩ := pk_ok p2.rep (p1.r.keep p2.g fun a z => p2.t a (.inr z)) k2
  obtain ⟨e1, i2, k4⟩ := pk_ok p2.rep p2.r k3
  refine hr F2 ((T.or q1).or q2) σ H2 ds2 fp2 _ _ _ _ _ _ p2.rep i1 i2 k4 fun h v H3 F3 q3 k5 p3 => ?_
  have T2 : ∀ a, T a → H3 a = H a := fun a z => (p3.t a (.inl (.inl z))).trans ((p2.t a (.inl z)).trans (p1.t a z))
  have G2 := (p1.g.trans p2.g).trans p3.g
  cases h with
  | tmp d =>
    cases d <;> first | exact False.elim k5 | skip
    rename_i b
    obtain rfl : v = .bl b := by have := p3.r; cases (show Is K _ v (.bool b) from this); rfl
    refine ⟨b, rfl, ?_⟩
    cases b with
    | false => exact k _ _ _ _ _ _ _ k5 ((Pst.bool (p3.rep.less fun a z => .inl (.inl (.inl z)))).pre G2 T2)
    | true =>
      show tc σ H3 fun w' H4 => r' v2 w' H4 R
      refine hc F3 (((T.or q1).or q2).or q3) σ H3 ds2 fp2 _ _ p3.rep k5 fun h3 ds4 v4 H4 F4 fp4 q4 k6 p4 => ?_
      obtain ⟨e2, i3, k7⟩ := pk_ok p4.rep ((p2.r.keep p3.g fun a z => p3.t a (.inr z)).keep p4.g fun a z => p4.t a (.inl (.inr z))) k6
      obtain ⟨f2, i4, k8⟩ := pk_ok p4.rep p4.r k7
      refine hr' F4 T σ H4 ds4 fp4 _ _ _ _ _ _ (p4.rep.less fun a z => .inl (.inl (.inl (.inl z)))) i3 i4 k8 fun h v H5 F5 q5 k9 p5 => ?_
      exact k _ _ _ _ _ _ _ k9 (p5.pre (G2.trans p4.g) fun a z => (p4.t a (.inl (.inl (.inl z)))).trans (T2 a z))
  | slot _ => exact False.elim k5
  | fld _ _ _ => exact False.elim k5
  | new _ => exact False.elim k5
theorem do_chain {o o' : CmpOp} (ho : OpR X (compareOp o) r) (hr : ROk X.K r op) (ho' : OpR X (compareOp o') r') (hr' : ROk X.K r' op') (ha : DO X a ta t) (hb : DO X b tb u) (hc : DO X c tc w)
    (hm : lastMarks [o, o'] [b, c] = false := by with_unfolding_all rfl) : DO X (.Compare a [o, o'] [b, c] pos) (tChain r r' ta tb tc) (dChain op op' t u w) := ⟨pe_chain ho ho' ha.pe hb.pe hc.pe hm, eok_chain ha.ok hb.ok hc.ok hr hr'⟩
theorem db_chain {o o' : CmpOp} (ho : OpR X (compareOp o) r) (hr : ROk X.K r op) (ho' : OpR X (compareOp o') r') (hr' : ROk X.K r' op') (ha : DO X a ta t) (hb : DO X b tb u) (hc : DO X c tc w)
    (hm : lastMarks [o, o'] [b, c] = false := by with_unfolding_all rfl) : DB X (.Compare a [o, o'] [b, c] pos) (tTest (tChain r r' ta tb tc)) (bT (dChain op op' t u w)) := ⟨pt_chain ho ho' ha.pe hb.pe hc.pe hm, bt_val (eok_chain ha.ok hb.ok hc.ok hr hr')⟩

/-! ### one operand -/
abbrev D1 := D → (Hd → Prop) → Prop
def UOk (K : PySem.W.Frag) (r : V → Hp → VK → Prop) (op : D1) : Prop :=
  ∀ (F T : Ad) (σ : Sl) (H : Hp) (ds : DS) (fp : Nat → Ad) (x : V) (d : D) (Q : Hd → Prop) (R : VK), Rep K F T σ H ds fp → PkR K F H x d → op d Q →
    (∀ h v H' F' q, Q h → Pst K F T H σ v h ds F' H' fp q → R v H') → r x H R
@[simp] def d1 (op : D1) (t : DT) : DT := fun ds Q => t ds fun h1 ds1 => pk ds1 h1 fun d => op d fun h => Q h ds1
theorem eok_1 {r : V → Hp → VK → Prop} {op : D1} (ha : EOk K ta t) (hr : UOk K r op) : EOk K (tUn r ta) (d1 op t) := fun F T σ H ds fp Q R rp e k => by
  refine ha F T σ H ds fp _ _ rp e fun h1 ds1 v1 H1 F1 fp1 q1 k1 p1 => ?_
  obtain ⟨d, i, k2⟩ := pk_ok p1.rep p1.r k1
  exact hr F1 T σ H1 ds1 fp1 _ _ _ _ (p1.rep.less fun _ z => .inl z) i k2 fun h v H2 F2 q qh p => k _ _ _ _ _ _ _ qh (p.pre p1.g p1.t)
@[simp] def dNeg : D1
  | .int i, Q => Q (.tmp (.int (-i)))
  | _, _ => False
theorem uok_neg : UOk K (rU fun i => .int (-i)) dNeg := by
  intro F T σ H ds fp x d Q R rp px h k
  cases d <;> first | exact False.elim h | skip
  rw [px.int]
  exact ⟨_, rfl, k _ _ _ _ _ h (.here rp (.int _))⟩
theorem do_un {o : UnaryOp} {r : V → Hp → VK → Prop} {op : D1} (ho : UnR X (unaryOp o) r) (hr : UOk X.K r op) (ha : DO X a ta t) : DO X (.UnaryOp o a pos) (tUn r ta) (d1 op t) := ⟨pe_un ho ha.pe, eok_1 ha.ok hr⟩

/-! ### subscripts -/
@[simp] def dIx : D2
  | .list xs, .int i, Q => match atI xs i with
    | some d => Q (.tmp d)
    | none => False
  | .tuple xs, .int i, Q => match atI xs i with
    | some d => Q (.tmp d)
    | none => False
  | .str z, .int i, Q => z.length ≤ sizeLine ∧ match atI z.cps.toList i with
    | some c => Q (.tmp (.str ⟨#[c]⟩))
    | none => False
  | _, _, _ => False
theorem atI_is {R : Hp} {vs : List V} {xs : List D} {i : Int} {d : D} (h : IsA K R vs xs) (e : atI xs i = some d) : ∃ v, atI vs i = some v ∧ Is K R v d := by
  unfold atI at e ⊢
  rw [h.length]
  cases q : ixN xs.length i with
  | none => rw [q] at e; cases e
  | some j =>
    rw [q] at e
    exact h.get e
theorem rok_ix : ROk K (rIx K) dIx := by
  intro F T σ H ds fp x y d e Q R r px py h k
  cases d <;> cases e <;> first | exact False.elim h | skip
  · rename_i z i
    obtain ⟨h1, h2⟩ := h
    cases q : atI z.cps.toList i with
    | none => rw [q] at h2; exact h2.elim
    | some c =>
      rw [q] at h2
      rw [px.str, py.int]
      exact .inr (.inr ⟨z, i, c, rfl, rfl, h1, q, k _ _ _ _ _ h2 (.here r (.str _))⟩)
  · rename_i xs i
    have h' : (match atI xs i with | some d => Q (.tmp d) | none => False) := h
    cases q : atI xs i with
    | none => rw [q] at h'; exact h'.elim
    | some d =>
      rw [q] at h'
      obtain ⟨a, vs, rfl, ha, ia⟩ := px.list
      obtain ⟨v, e1, iv⟩ := atI_is ia q
      rw [py.int]
      exact .inl ⟨a, vs, i, v, rfl, rfl, ha.sq, e1, k _ _ _ _ _ h' (.here r iv)⟩
  · rename_i xs i
    have h' : (match atI xs i with | some d => Q (.tmp d) | none => False) := h
    cases q : atI xs i with
    | none => rw [q] at h'; exact h'.elim
    | some d =>
      rw [q] at h'
      obtain ⟨a, vs, rfl, ha, ia, _⟩ := px.tuple
      obtain ⟨v, e1, iv⟩ := atI_is ia q
      rw [py.int]
      exact .inr (.inl ⟨a, vs, i, v, rfl, rfl, ha, e1, k _ _ _ _ _ h' (.here r iv)⟩)
theorem do_ix (ha : DO X a ta t) (hb : DO X b tb u) (hs : PlainIx b := by exact fun _ _ => rfl) : DO X (.Subscript a b pos) (tOp (rIx X.K) ta tb) (d2 dIx t u) := ⟨pe_ix ix_seq ha.pe hb.pe hs, eok_2 ha.ok hb.ok rok_ix⟩
end
end DL

/-! DL: slices, built-ins. -/
namespace DL
open PySem PySem.Spec PyProof.Rows L2

theorem Pst.is {K : PySem.W.Frag} {F T : Ad} {σ : Sl} {H : Hp} {ds : DS} {fp : Nat → Ad} {v : V} {d : D} (r : Rep K F T σ H ds fp) (i : Is K (res F H) v d) : Pst K F T H σ v (.tmp d) ds F H fp Ad.nil := .here r i
/-! ### slices -/
abbrev DPT := DS → (Option Int → DS → Prop) → Prop
def POk (K : PySem.W.Frag) (to : TO) (p : DPT) : Prop :=
  ∀ (F T : Ad) (σ : Sl) (H : Hp) (ds : DS) (fp : Nat → Ad) (Q : Option Int → DS → Prop) (R : Option Int → Hp → Prop), Rep K F T σ H ds fp → p ds Q →
    (∀ b ds' H' F' fp', Q b ds' → Rep K F' T σ H' ds' fp' → Grow F H F' H' → (∀ a, T a → H' a = H a) → R b H') → to σ H R
structure DP (X : Cx) (e : Option Expr) (to : TO) (p : DPT) : Prop where
  po : PO X e to
  ok : POk X.K to p
@[simp] def pNone : DPT := fun ds Q => Q none ds
@[simp] def pSome (t : DT) : DPT := fun ds Q => t ds fun h ds1 => pk ds1 h fun d => match d with
  | .int i => Q (some i) ds1
  | _ => False
def cutD {α : Type} (xs : List α) (lo hi : Option Int) : List α := (xs.drop (HT.sIx xs.length 0 lo)).take (HT.sIx xs.length xs.length hi - HT.sIx xs.length 0 lo)
@[simp] def dCut : D → Option Int → Option Int → (Hd → Prop) → Prop
  | .list xs, l, u, Q => Q (.new (.own (cutD xs l u)))
  | .tuple xs, l, u, Q => Q (.tmp (.tuple (cutD xs l u)))
  | .str z, l, u, Q => z.length ≤ sizeLine ∧ Q (.tmp (.str (cutS z l u)))
  | _, _, _, _ => False
@[simp] def dSl (t : DT) (p p' : DPT) : DT := fun ds Q => t ds fun h ds1 => p ds1 fun l ds2 => p' ds2 fun u ds3 => pk ds3 h fun d => dCut d l u fun h => Q h ds3
def rSlAll (K : PySem.W.Frag) : V → Option Int → Option Int → Hp → VK → Prop := fun x lo hi H Q => rSlL K x lo hi H Q ∨ (rSlA K x lo hi H Q ∨ rSlS x lo hi H Q)
section
variable {X : Cx} {K : PySem.W.Frag} {a b c e : Expr} {lo hi : Option Expr} {es : List Expr} {ta tb te : TE} {tl th : TO} {t u : DT} {p p' : DPT} {pos p2 : Pos}
theorem dp_none : DP X none tNoPart pNone := ⟨po_none, fun F T σ H ds fp Q R r h k => k _ _ _ _ _ h r .refl fun _ _ => rfl⟩
theorem dp_some (h : DO X e te t) : DP X (some e) (tPart te) (pSome t) := ⟨po_some h.pe, fun F T σ H ds fp Q R r h' k => by
  refine h.ok F T σ H ds fp _ _ r h' fun h1 ds1 v1 H1 F1 fp1 q1 k1 p1 => ?_
  obtain ⟨d, i, k2⟩ := pk_ok p1.rep p1.r k1
  cases d <;> first | exact False.elim k2 | skip
  exact ⟨_, i.int, k _ _ _ _ fp1 k2 (p1.rep.less fun _ z => .inl z) p1.g p1.t⟩⟩
theorem sl_all : SlR X (rSlAll X.K) := sl_list.or (sl_tupA.or sl_str)
theorem sIx_whole {α : Type} {xs : List α} {lo hi : Option Int} (h : HT.sIx xs.length 0 lo = 0 ∧ HT.sIx xs.length xs.length hi = xs.length) : cutD xs lo hi = xs := by
  unfold cutD
  rw [h.1, h.2]
  simp
theorem IsA.cut {R : Hp} {vs : List V} {xs : List D} {lo hi : Option Int} (h : IsA K R vs xs) : IsA K R (cutV vs lo hi) (cutD xs lo hi) := by
  unfold cutV cutD
  rw [h.length]
  exact (h.drop _).take _
theorem eok_sl (h : EOk K ta t) (h1 : POk K tl p) (h2 : POk K th p') : EOk K (tSl (rSlAll K) ta tl th) (dSl t p p') := fun F T σ H ds fp Q R r e k => by
  refine h F T σ H ds fp _ _ r e fun h1' ds1 v1 H1 F1 fp1 q1 k1 p1 => ?_
  refine h1 F1 (T.or q1) σ H1 ds1 fp1 _ _ p1.rep k1 fun l ds2 H2 F2 fp2 k2 r2 g2 t2 => ?_
  refine h2 F2 (T.or q1) σ H2 ds2 fp2 _ _ r2 k2 fun u ds3 H3 F3 fp3 k3 r3 g3 t3 => ?_
  obtain ⟨d, i, k4⟩ := pk_ok r3 ((p1.r.keep g2 fun a z => t2 a (.inr z)).keep g3 fun a z => t3 a (.inr z)) k3
  have G : Grow F H F3 H3 := (p1.g.trans g2).trans g3
  have TT : ∀ a, T a → H3 a = H a := fun a z => (t3 a (.inl z)).trans ((t2 a (.inl z)).trans (p1.t a z))
  have r4 : Rep K F3 T σ H3 ds3 fp3 := r3.less fun _ z => .inl z
  cases d <;> first | exact False.elim k4 | skip
  · rename_i z
    rw [i.str]
    exact .inr (.inr ⟨z, rfl, k4.1, k _ _ _ _ _ _ _ k4.2 ((Pst.is r4 (Is.str _)).pre G TT)⟩)
  · obtain ⟨a, vs, rfl, ha, ia⟩ := i.list
    exact .inl ⟨a, vs, rfl, ha.sq, fun q hq => k _ _ _ _ _ _ _ k4 ((Pst.list r4 ia.cut hq).pre G TT)⟩
  · rename_i xs
    obtain ⟨a, vs, rfl, ha, ia, it⟩ := i.tuple
    refine .inr (.inl ⟨a, vs, rfl, ha, fun w => ?_, fun _ q hq => k _ _ _ _ _ _ _ k4 ((Pst.tuple r4 ia.cut hq).pre G TT)⟩)
    rw [ia.length] at w
    have k5 : Q (.tmp (.tuple (cutD xs l u))) ds3 := k4
    rw [sIx_whole w] at k5
    exact k _ _ _ _ _ _ _ k5 ((Pst.is r4 it).pre G TT)
theorem do_sl (h : DO X e te t) (h1 : DP X lo tl p) (h2 : DP X hi th p') : DO X (.Subscript e (.Slice lo hi none p2) pos) (tSl (rSlAll X.K) te tl th) (dSl t p p') := ⟨pe_slice sl_all h.pe h1.po h2.po, eok_sl h.ok h1.ok h2.ok⟩
end

/-! ### built-ins: their arguments are looked at -/
@[simp] def peeks (ds : DS) : List Hd → (List D → Prop) → Prop
  | [], P => P []
  | h :: hs, P => pk ds h fun d => peeks ds hs fun dl => P (d :: dl)
abbrev PkRs (K : PySem.W.Frag) (F : Ad) (H : Hp) : List V → List D → Prop := Paired (PkR K F H)
abbrev DN := List D → (Hd → Prop) → Prop
def COk (K : PySem.W.Frag) (r : List V → Hp → VK → Prop) (op : DN) : Prop :=
  ∀ (F T : Ad) (σ : Sl) (H : Hp) (ds : DS) (fp : Nat → Ad) (vs : List V) (dl : List D) (Q : Hd → Prop) (R : VK), Rep K F T σ H ds fp → PkRs K F H vs dl → op dl Q →
    (∀ h v H' F' q, Q h → Pst K F T H σ v h ds F' H' fp q → R v H') → r vs H R
@[simp] def dB (op : DN) (t : DTA) : DT := fun ds Q => t ds fun hs ds1 => peeks ds1 hs fun dl => op dl fun h => Q h ds1
section
variable {X : Cx} {K : PySem.W.Frag} {F T q : Ad} {σ : Sl} {H : Hp} {ds : DS} {fp : Nat → Ad} {e : Expr} {es : List Expr} {ta : TA} {te : TE} {t : DTA} {u : DT} {n : Nat} {r : List V → Hp → VK → Prop} {op : DN} {bid T' : String} {x : Str} {p pos : Pos}
theorem peeks_ok {vs : List V} {hs : List Hd} (rp : Rep K F T σ H ds fp) (x : HdRs K F H σ vs q hs) : ∀ {P : List D → Prop}, peeks ds hs P → ∃ dl, PkRs K F H vs dl ∧ P dl := by
  induction x with
  | nil => intro P h; exact ⟨[], .nil, h⟩
  | cons a b c d ih =>
    intro P h
    obtain ⟨d1, i1, h1⟩ := pk_ok rp a h
    obtain ⟨dl, i2, h2⟩ := ih h1
    exact ⟨_, .cons i1 i2, h2⟩
theorem eok_b (ha : AOk K n ta t) (hr : COk K r op) : EOk K (tCB r ta) (dB op t) := fun F T σ H ds fp Q R rp e k => by
  refine ha F T σ H ds fp _ _ rp e fun hs ds1 vs H1 F1 fp1 q1 k1 p1 _ => ?_
  obtain ⟨dl, i, k2⟩ := peeks_ok p1.rep p1.r k1
  exact hr F1 T σ H1 ds1 fp1 _ _ _ _ (p1.rep.less fun _ z => .inl z) i k2 fun h v H2 F2 q qh p => k _ _ _ _ _ _ _ qh (p.pre p1.g p1.t)
theorem do_B (hc : CallR X (.builtin bid) r) (hr : COk X.K r op) (hg : Gl X x) (hm : X.mg x = none) (hv : bootBuiltins x = some (.builtin bid)) (ha : DA X (e :: es) ta t) (hn : x ≠ "__name__" := by decide) (hdb : (x == ("__debug__" : Str)) = false := by decide)
    (he : starEach (e :: es) X.env = (false, eval e X.env) :: starEach es X.env := by rfl) (hpl : (backTo pos (starEach es X.env)).any (·.1) = false := by rfl) : DO X (.Call (.Name x p) (e :: es) [] pos) (tCB r ta) (dB op t) :=
  ⟨pe_callB hc hg hm hv ha.pa hn hdb he hpl, eok_b ha.ok hr⟩
theorem do_Ty (hc : CallR X (.type T') r) (hr : COk X.K r op) (hg : Gl X x) (hm : X.mg x = none) (hv : bootBuiltins x = some (.type T')) (ha : DA X (e :: es) ta t) (hn : x ≠ "__name__" := by decide) (hdb : (x == ("__debug__" : Str)) = false := by decide)
    (he : starEach (e :: es) X.env = (false, eval e X.env) :: starEach es X.env := by rfl) (hpl : (backTo pos (starEach es X.env)).any (·.1) = false := by rfl) : DO X (.Call (.Name x p) (e :: es) [] pos) (tCB r ta) (dB op t) :=
  ⟨pe_callTy hc hg hm hv ha.pa hn hdb he hpl, eok_b ha.ok hr⟩

/-! the built-ins -/
@[simp] def bLen : DN
  | [.list xs], Q => Q (.tmp (.int xs.length))
  | [.tuple xs], Q => Q (.tmp (.int xs.length))
  | [.str z], Q => z.length ≤ sizeLine ∧ Q (.tmp (.int z.length))
  | _, _ => False
def rLenA (K : PySem.W.Frag) : List V → Hp → VK → Prop := fun xs H Q => (∃ p ys, xs = [.ref p] ∧ (SqL K H p ys ∨ SqT K H p ys) ∧ Q (.int ys.length) H) ∨ ∃ z, xs = [.str z] ∧ z.length ≤ sizeLine ∧ Q (.int z.length) H
theorem call_lenA : CallR X (.builtin "len") (rLenA X.K) := CallR.or call_len_seq call_len_str
theorem one_of {P : V → D → Prop} {vs : List V} {dl : List D} {d : D} (h : Paired P vs dl) (e : dl = [d]) : ∃ v, vs = [v] ∧ P v d := by
  subst e
  cases h with
  | cons a b => cases b; exact ⟨_, rfl, a⟩
theorem two_of {P : V → D → Prop} {vs : List V} {dl : List D} {d d' : D} (h : Paired P vs dl) (e : dl = [d, d']) : ∃ v v', vs = [v, v'] ∧ P v d ∧ P v' d' := by
  subst e
  cases h with
  | cons a b =>
    obtain ⟨v', rfl, c⟩ := one_of b rfl
    exact ⟨_, _, rfl, a, c⟩
theorem cok_len : COk K (rLenA K) bLen := by
  intro F T σ H ds fp vs dl Q R rp pv h k
  match dl, pv, h with
  | [.list xs], pv, h =>
    obtain ⟨v, rfl, i⟩ := one_of pv rfl
    obtain ⟨a, ws, rfl, ha, ia⟩ := i.list
    exact .inl ⟨a, ws, rfl, .inl ha.sq, by rw [ia.length]; exact k _ _ _ _ _ h (.int rp)⟩
  | [.tuple xs], pv, h =>
    obtain ⟨v, rfl, i⟩ := one_of pv rfl
    obtain ⟨a, ws, rfl, ha, ia, _⟩ := i.tuple
    exact .inl ⟨a, ws, rfl, .inr ha, by rw [ia.length]; exact k _ _ _ _ _ h (.int rp)⟩
  | [.str z], pv, h =>
    obtain ⟨v, rfl, i⟩ := one_of pv rfl
    rw [i.str]
    exact .inr ⟨z, rfl, h.1, k _ _ _ _ _ h.2 (.int rp)⟩
@[simp] def bAbs : DN
  | [.int i], Q => Q (.tmp (.int (i.natAbs : Int)))
  | _, _ => False
theorem cok_abs : COk K (fun xs H Q => ∃ i, xs = [.int i] ∧ Q (.int (if i < 0 then -i else i)) H) bAbs := by
  intro F T σ H ds fp vs dl Q R rp pv h k
  match dl, pv, h with
  | [.int i], pv, h =>
    obtain ⟨v, rfl, x⟩ := one_of pv rfl
    rw [x.int]
    refine ⟨i, rfl, ?_⟩
    have e : (if i < 0 then -i else i) = (i.natAbs : Int) := by split <;> omega
    rw [e]
    exact k _ _ _ _ _ h (.int rp)
@[simp] def bMin : DN
  | [.int i, .int j], Q => Q (.tmp (.int (min i j)))
  | _, _ => False
@[simp] def bMax : DN
  | [.int i, .int j], Q => Q (.tmp (.int (max i j)))
  | _, _ => False
theorem cok_min : COk K (fun xs H Q => ∃ i j, xs = [.int i, .int j] ∧ Q (.int (if j < i then j else i)) H) bMin := by
  intro F T σ H ds fp vs dl Q R rp pv h k
  match dl, pv, h with
  | [.int i, .int j], pv, h =>
    obtain ⟨v, v', rfl, x, y⟩ := two_of pv rfl
    rw [x.int, y.int]
    refine ⟨i, j, rfl, ?_⟩
    have e : (if j < i then j else i) = min i j := by split <;> omega
    rw [e]
    exact k _ _ _ _ _ h (.int rp)
theorem cok_max : COk K (fun xs H Q => ∃ i j, xs = [.int i, .int j] ∧ Q (.int (if j > i then j else i)) H) bMax := by
  intro F T σ H ds fp vs dl Q R rp pv h k
  match dl, pv, h with
  | [.int i, .int j], pv, h =>
    obtain ⟨v, v', rfl, x, y⟩ := two_of pv rfl
    rw [x.int, y.int]
    refine ⟨i, j, rfl, ?_⟩
    have e : (if j > i then j else i) = max i j := by split <;> omega
    rw [e]
    exact k _ _ _ _ _ h (.int rp)
@[simp] def bInt : DN
  | [.int i], Q => Q (.tmp (.int i))
  | [.bool b], Q => Q (.tmp (.int (if b then 1 else 0)))
  | _, _ => False
theorem cok_int : COk K (fun xs H Q => (∃ i, xs = [.int i] ∧ Q (.int i) H) ∨ ∃ k, xs = [.bl k] ∧ Q (.int (if k then 1 else 0)) H) bInt := by
  intro F T σ H ds fp vs dl Q R rp pv h k
  match dl, pv, h with
  | [.int i], pv, h =>
    obtain ⟨v, rfl, x⟩ := one_of pv rfl
    rw [x.int]
    exact .inl ⟨i, rfl, k _ _ _ _ _ h (.int rp)⟩
  | [.bool i], pv, h =>
    obtain ⟨v, rfl, x⟩ := one_of pv rfl
    rw [x.bool]
    exact .inr ⟨i, rfl, k _ _ _ _ _ h (.int rp)⟩
@[simp] def bSum : DN
  | [.list xs], Q => ∃ ns : List Int, xs = ns.map .int ∧ Q (.tmp (.int ns.sum))
  | _, _ => False
theorem cok_sum : COk K (rSum K) bSum := by
  intro F T σ H ds fp vs dl Q R rp pv h k
  match dl, pv, h with
  | [.list xs], pv, h =>
    obtain ⟨ns, rfl, h⟩ := h
    obtain ⟨v, rfl, i⟩ := one_of pv rfl
    obtain ⟨a, ws, rfl, ha, ia⟩ := i.list
    have e := ia.ints
    subst e
    exact ⟨a, ns, rfl, ha.sq, k _ _ _ _ _ h (.int rp)⟩
@[simp] def bAll : DN
  | [.list xs], Q => ∃ ns : List Bool, xs = ns.map .bool ∧ Q (.tmp (.bool (ns.all id)))
  | _, _ => False
@[simp] def bAny : DN
  | [.list xs], Q => ∃ ns : List Bool, xs = ns.map .bool ∧ Q (.tmp (.bool (ns.any id)))
  | _, _ => False
theorem cok_all : COk K (rAll K) bAll := by
  intro F T σ H ds fp vs dl Q R rp pv h k
  match dl, pv, h with
  | [.list xs], pv, h =>
    obtain ⟨ns, rfl, h⟩ := h
    obtain ⟨v, rfl, i⟩ := one_of pv rfl
    obtain ⟨a, ws, rfl, ha, ia⟩ := i.list
    have e := ia.bools
    subst e
    exact ⟨a, ns, rfl, ha.sq, k _ _ _ _ _ h (.bool rp)⟩
theorem cok_any : COk K (rAny K) bAny := by
  intro F T σ H ds fp vs dl Q R rp pv h k
  match dl, pv, h with
  | [.list xs], pv, h =>
    obtain ⟨ns, rfl, h⟩ := h
    obtain ⟨v, rfl, i⟩ := one_of pv rfl
    obtain ⟨a, ws, rfl, ha, ia⟩ := i.list
    have e := ia.bools
    subst e
    exact ⟨a, ns, rfl, ha.sq, k _ _ _ _ _ h (.bool rp)⟩
@[simp] def bList : DN
  | [.list xs], Q => Q (.new (.own xs))
  | [.tuple xs], Q => Q (.new (.own xs))
  | _, _ => False
theorem cok_list : COk K (fun xs H Q => ∃ p ys, xs = [.ref p] ∧ (SqL K H p ys ∨ SqT K H p ys) ∧ ∀ l, H l = none → Q (.ref l) (upd H l (.lst ys))) bList := by
  intro F T σ H ds fp vs dl Q R rp pv h k
  match dl, pv, h with
  | [.list xs], pv, h =>
    obtain ⟨v, rfl, i⟩ := one_of pv rfl
    obtain ⟨a, ws, rfl, ha, ia⟩ := i.list
    exact ⟨a, ws, rfl, .inl ha.sq, fun p hp => k _ _ _ _ _ h (.list rp ia hp)⟩
  | [.tuple xs], pv, h =>
    obtain ⟨v, rfl, i⟩ := one_of pv rfl
    obtain ⟨a, ws, rfl, ha, ia, _⟩ := i.tuple
    exact ⟨a, ws, rfl, .inr ha, fun p hp => k _ _ _ _ _ h (.list rp ia hp)⟩
@[simp] def bTuple : DN
  | [.list xs], Q => Q (.tmp (.tuple xs))
  | [.tuple xs], Q => Q (.tmp (.tuple xs))
  | _, _ => False
theorem cok_tuple : COk K (fun xs H Q => ∃ p ys, xs = [.ref p] ∧ ((SqL K H p ys ∧ ∀ l, H l = none → Q (.ref l) (upd H l (.tup ys))) ∨ (SqT K H p ys ∧ Q (.ref p) H))) bTuple := by
  intro F T σ H ds fp vs dl Q R rp pv h k
  match dl, pv, h with
  | [.list xs], pv, h =>
    obtain ⟨v, rfl, i⟩ := one_of pv rfl
    obtain ⟨a, ws, rfl, ha, ia⟩ := i.list
    exact ⟨a, ws, rfl, .inl ⟨ha.sq, fun p hp => k _ _ _ _ _ h (.tuple rp ia hp)⟩⟩
  | [.tuple xs], pv, h =>
    obtain ⟨v, rfl, i⟩ := one_of pv rfl
    obtain ⟨a, ws, rfl, ha, ia, it⟩ := i.tuple
    exact ⟨a, ws, rfl, .inr ⟨ha, k _ _ _ _ _ h (.here rp it)⟩⟩

/-! isinstance with a built-in class -/
def tyD : D → String
  | .none => "NoneType"
  | .bool _ => "bool"
  | .int _ => "int"
  | .str _ => "str"
  | .list _ => "list"
  | .tuple _ => "tuple"
  | .dict _ => "dict"
def isT (n : String) (d : D) : Bool := (kitB (tyD d) n).getD false
@[simp] def dIsi (n : String) (t : DT) : DT := fun ds Q => t ds fun h ds1 => pk ds1 h fun d => Q (.tmp (.bool (isT n d))) ds1
theorem tyX_of {v : V} {d : D} (h : PkR K F H v d) : TyX K H v (.type (tyD d)) := by
  cases d with
  | none => rw [h.none]; exact .base .non
  | bool b => rw [h.bool]; exact .base (.bl _)
  | int b => rw [h.int]; exact .base (.int _)
  | str b => rw [h.str]; exact .base (.str _)
  | list xs =>
    obtain ⟨a, vs, rfl, ha, _⟩ := h.list
    rcases ha with (ha | ⟨o, ha⟩) | ⟨its, n, h1, _⟩
    · exact .base (.lst ha)
    · exact .base (.frz ha)
    · exact .kList h1 rfl
  | tuple xs =>
    obtain ⟨a, vs, rfl, ha, _⟩ := h.tuple
    rcases ha with (ha | ⟨o, ha⟩) | ⟨o, its, n, h1, h2, _⟩
    · exact .base (.tup ha)
    · exact .fTuple ha
    · exact .kTuple h1 h2
  | dict kvs =>
    rcases h with h | ⟨_, _, _, _, e, _⟩
    · cases h
    · cases e
/-- the names of classes that isinstance tells for all data -/
def isiOk (n : String) : Bool := (["NoneType", "bool", "int", "str", "list", "tuple", "dict"] : List String).all fun a => (kitB a n).isSome
theorem kit_of_ok {n : String} (hn : isiOk n = true) (d : D) : kitB (tyD d) n = some (isT n d) := by
  have key : ∀ a, a ∈ (["NoneType", "bool", "int", "str", "list", "tuple", "dict"] : List String) → (kitB a n).isSome = true := List.all_eq_true.mp hn
  have hm : tyD d ∈ (["NoneType", "bool", "int", "str", "list", "tuple", "dict"] : List String) := by cases d <;> simp [tyD]
  have h := key _ hm
  unfold isT
  cases e : kitB (tyD d) n with
  | none => rw [e] at h; cases h
  | some b => rfl
def tIsi (K : PySem.W.Frag) (n : String) (ta : TE) : TE := tCB (rIsi K) (tCons ta (tCons (tC (.ty n)) tNil))
theorem eok_isi {n : String} (hn : isiOk n = true) (ha : EOk K te u) : EOk K (tIsi K n te) (dIsi n u) := fun F T σ H ds fp Q R rp e k => by
  refine ha F T σ H ds fp _ _ rp e fun h1 ds1 v1 H1 F1 fp1 q1 k1 p1 => ?_
  obtain ⟨d, i, k2⟩ := pk_ok p1.rep p1.r k1
  exact ⟨v1, .ty n, .type (tyD d), .type n, isT n d, rfl, .ty n, tyX_of i, kit_ty (kit_of_ok hn d), k _ _ _ _ _ _ _ k2 ((Pst.bool (p1.rep.less fun _ z => .inl z)).pre p1.g p1.t)⟩
theorem do_isi {n : String} {y : Str} {p' : Pos} (hn : isiOk n = true) (hg : Gl X "isinstance") (hm : X.mg "isinstance" = none) (hg2 : Gl X y) (hm2 : X.mg y = none) (hv2 : bootBuiltins y = some (.type n)) (hn2 : y ≠ "__name__") (hd2 : (y == ("__debug__" : Str)) = false) (ha : DO X e te u)
    (he : starEach [e, .Name y p'] X.env = (false, eval e X.env) :: starEach [.Name y p'] X.env := by rfl) (he2 : starEach [.Name y p'] X.env = (false, eval (.Name y p') X.env) :: starEach [] X.env := by rfl) (hpl : (backTo pos (starEach [.Name y p'] X.env)).any (·.1) = false := by rfl) :
    DO X (.Call (.Name "isinstance" p) [e, .Name y p'] [] pos) (tIsi X.K n te) (dIsi n u) :=
  ⟨pe_callB call_isi hg hm (by decide +kernel) (pa_cons ha.pe (pa_cons (pe_bltn hg2 hm2 hv2 (show RelV (.ty n) (.type n) from rfl) hn2 hd2) pa_nil he2) he) (by decide) (by decide) he hpl, eok_isi hn ha.ok⟩
end
end DL

/-! DL: a def is called with what it may see; what the caller owns is out of its sight. -/
namespace DL
open PySem PySem.Spec PyProof.Rows L2

theorem hok_there {P : Program} {w : World} {H : Hp} {h : Heap} {a : Addr} {o : HO} (x : HOk P w H h) (e : H a = some o) : ∃ ob, h.get? a = some ob := by
  have y := x a o e
  cases o with
  | lst xs => obtain ⟨_, _, _, _, e⟩ := y; exact ⟨_, e⟩
  | tup xs => obtain ⟨_, _, _, ob, e, _⟩ := y; exact ⟨_, e⟩
  | dK kvs => obtain ⟨_, _, _, _, o, _, _, e, _⟩ := y; exact ⟨_, e⟩
  | dT kvs => obtain ⟨_, _, _, _, o, _, _, e, _⟩ := y; exact ⟨_, e⟩
  | set S n => obtain ⟨o, _, _, _, e, _⟩ := y; exact ⟨_, e⟩
  | ins C dx fs => obtain ⟨_, _, _, e, _⟩ := y; exact ⟨_, e⟩
  | own z => obtain ⟨_, e⟩ := y; exact ⟨_, e⟩
  | xd fs => obtain ⟨_, ⟨_, _, _, e, _⟩, _⟩ := y; exact ⟨_, e⟩
  | rng lo hi => obtain ⟨_, _, _, e⟩ := y; exact ⟨_, e⟩
  | frz ob u => obtain ⟨e, _⟩ := y; exact ⟨_, e⟩
  | tbl ps => exact ⟨_, (show h.get? a = some _ from y)⟩
  | met f z => exact ⟨_, (show h.get? a = some _ from y)⟩
  | ext φ => obtain ⟨_, ⟨_, e⟩, _⟩ := y; exact ⟨_, e⟩

def hidden (G : Ad) (H : Hp) : Ad := fun a => G a ∨ ∃ x, G x ∧ H a = some (.own x)
open Classical in
noncomputable def hide (G : Ad) (H : Hp) : Hp := fun a => if hidden G H a then none else H a
open Classical in
noncomputable def back (G : Ad) (H H' : Hp) : Hp := fun a => if hidden G H a then H a else H' a
theorem hide_in {G : Ad} {H : Hp} {a : Addr} (h : hidden G H a) : hide G H a = none := if_pos h
theorem hide_out {G : Ad} {H : Hp} {a : Addr} (h : ¬ hidden G H a) : hide G H a = H a := if_neg h
theorem back_in {G : Ad} {H H' : Hp} {a : Addr} (h : hidden G H a) : back G H H' a = H a := if_pos h
theorem back_out {G : Ad} {H H' : Hp} {a : Addr} (h : ¬ hidden G H a) : back G H H' a = H' a := if_neg h
def frm (sp : Sp) : Sp := fun vs H Q _ => ∃ G : Ad, (∀ a, G a → ∃ o, H a = some o ∧ bigO o) ∧ sp vs (hide G H) (fun v H' => (∀ a, hidden G H a → H' a = none) → Q v (back G H H')) (fun _ _ _ => False)
theorem hidden_some {G : Ad} {H : Hp} (hG : ∀ a, G a → ∃ o, H a = some o ∧ bigO o) {a : Addr} (h : hidden G H a) : ∃ o, H a = some o ∧ (bigO o ∨ ∃ x, G x ∧ o = .own x) := by
  rcases h with h | ⟨x, hx, e⟩
  · obtain ⟨o, e, b⟩ := hG a h; exact ⟨o, e, .inl b⟩
  · exact ⟨_, e, .inr ⟨x, hx, rfl⟩⟩
/-- what is neither big nor an own dict is in sight -/
theorem seen_of {G : Ad} {H : Hp} (hG : ∀ a, G a → ∃ o, H a = some o ∧ bigO o) {a : Addr} {o : HO} (e : H a = some o) (nb : ¬ bigO o) (no : ∀ x, o ≠ .own x) : ¬ hidden G H a := fun h => by
  obtain ⟨o', e', h⟩ := hidden_some hG h
  rw [e] at e'; cases e'
  rcases h with h | ⟨x, _, h⟩
  · exact nb h
  · exact no x h
theorem frame_fn {P : Program} {w : World} {K : PySem.W.Frag} {mg : Str → Option Value} {base : Heap} {k : Nat} {f : Addr} {fd : FuncData} {ps : List Str} {sp : Sp} (F : FnOk P w K mg base CX0 k f fd ps sp) :
    FnOk P w K mg base CX0 k f fd ps (frm sp) := by
  refine ⟨fun vs H Q E ⟨G, _, h⟩ => F.len _ _ _ _ h, fun A outer s H args us vs Q E hr e0 hb hv ⟨G, hG, h⟩ => ?_⟩
  have hok1 : HOk P w (hide G H) s.heap := fun b o e => by
    by_cases hb : hidden G H b
    · rw [hide_in hb] at e; cases e
    · rw [hide_out hb] at e
      refine (e0.hok b o e).stay (fun _ _ _ q => q) (fun c hc => ?_) fun c xs hc => ?_
      · rw [hide_out]; exact hc
        rintro (g | ⟨x, gx, ex⟩)
        · obtain ⟨o', e1, b1⟩ := hG c g
          rw [hc] at e1; cases e1; exact b1
        · rw [hc] at ex; cases ex; exact hb (.inl gx)
      · rw [hide_out (seen_of hG hc (fun z => z) (fun x z => by cases z))]; exact hc
  have e1 : Env0 P w K mg base A outer s (hide G H) := ⟨e0.frames, e0.mod, fun b o q => ⟨(e0.bs b o q).1, by
    by_cases hb : hidden G H b
    · exact hide_in hb
    · rw [hide_out hb]; exact (e0.bs b o q).2⟩, e0.bsz, e0.funs, fun b q => by
    by_cases hb : hidden G H b
    · exact hide_in hb
    · rw [hide_out hb]; exact e0.frf b q, hok1, e0.bare⟩
  refine codeAny_mono (F.run A outer s (hide G H) args us vs _ _ hr e1 hb hv h) fun r s' hq => ?_
  cases r with
  | error e => exact False.elim hq
  | ok fl =>
    cases fl with
    | next => exact False.elim hq
    | brk => exact False.elim hq
    | cont => exact False.elim hq
    | ret u =>
      obtain ⟨v, H', os, bare, un, hok', rv, q⟩ := hq
      have hn : ∀ a, hidden G H a → H' a = none := fun a ha => by
        obtain ⟨o, e, _⟩ := hidden_some hG ha
        obtain ⟨ob, he⟩ := hok_there e0.hok e
        exact un.free a ob he (hide_in ha) (by simp)
      have hnf : ∀ a, hidden G H a → a ∉ frs outer := fun a ha z => by
        obtain ⟨o, e, _⟩ := hidden_some hG ha
        rw [e0.frf a z] at e; cases e
      have none1 : ∀ b, H b = none → hide G H b = none ∧ ¬ hidden G H b := fun b n => by
        have nh : ¬ hidden G H b := fun z => by
          obtain ⟨o, e, _⟩ := hidden_some hG z
          rw [n] at e; cases e
        exact ⟨by rw [hide_out nh]; exact n, nh⟩
      refine ⟨v, back G H H', os, bare, ⟨fun b o e n => un.keep b o e (none1 b n).1, fun b o e n => un.slot b o e (none1 b n).1, fun b o e n x => ?_, un.there, fun b xs e => ?_, fun b o u e => ?_, fun b ps e => ?_⟩, fun b o e => ?_, rv, q hn⟩
      · rw [back_out (none1 b n).2]
        exact un.free b o e (none1 b n).1 x
      · have nh := seen_of hG e (fun z => z) (fun x z => by cases z)
        rw [back_out nh]
        exact un.tups b xs (by rw [hide_out nh]; exact e)
      · have nh := seen_of hG e (fun z => z) (fun x z => by cases z)
        rw [back_out nh]
        exact un.frzs b o u (by rw [hide_out nh]; exact e)
      · have nh := seen_of hG e (fun z => z) (fun x z => by cases z)
        rw [back_out nh]
        exact un.tbls b ps (by rw [hide_out nh]; exact e)
      · by_cases hb : hidden G H b
        · rw [back_in hb] at e
          have stayed : ∀ c u, hidden G H c → s.heap.get? c = some u → s'.heap.get? c = some u := fun c u hc q => un.keep c u q (hide_in hc) (hnf c hc) (by simp)
          rcases hidden_some hG hb with ⟨o', e', hh⟩
          rw [e] at e'; cases e'
          rcases hh with hh | ⟨x, _, rfl⟩
          · have gb : G b := by
              rcases hb with g | ⟨x, _, ex⟩
              · exact g
              · rw [e] at ex; cases ex; exact hh.elim
            refine (e0.hok b o e).stay (fun c u hc r => ?_) (fun c hc => ?_) fun c xs hc => ?_
            · rcases hc with rfl | hc
              · exact stayed _ u hb r
              · exact stayed c u (.inr ⟨b, gb, hc⟩) r
            · rw [back_in (.inr ⟨b, gb, hc⟩)]; exact hc
            · have nh := seen_of hG hc (fun z => z) (fun x z => by cases z)
              rw [back_out nh]
              exact un.tups c xs (by rw [hide_out nh]; exact hc)
          · obtain ⟨ob, he⟩ := e0.hok b _ e
            exact ⟨ob, stayed b ob hb he⟩
        · rw [back_out hb] at e
          refine (hok' b o e).stay (fun _ _ _ r => r) (fun c hc => ?_) fun c xs hc => ?_
          · rw [back_out fun z => by rw [hn c z] at hc; cases hc]; exact hc
          · rw [back_out fun z => by rw [hn c z] at hc; cases hc]; exact hc

/-! ### the promise of a def over data -/
abbrev DF := List D → (SD → Prop) → Prop
def seqAll (F : Ad) (H : Hp) : Prop := ∀ a, F a → ∃ o, H a = some o ∧ seqO o
def spP (K : PySem.W.Frag) (n : Nat) (g : DF) : Sp := fun vs H Q _ => vs.length = n ∧ ∃ F dl, IsA K (res F H) vs dl ∧ seqAll F H ∧
  ∃ P : SD → Prop, g dl P ∧ ∀ r, P r → ∀ (H' : Hp) (v : V) (F' q : Ad), Grow F H F' H' → seqAll F' H' → (∀ a, q a → ¬ F' a ∧ ∃ o, H' a = some o ∧ bigO o) → SlotOk K (res F' H') H' (some (some v)) q r → Q v H'
@[simp] def hdOf : SD → Hd
  | .val d => .tmp d
  | s => .new s
@[simp] def dCall (g : DF) (t : DTA) : DT := fun ds Q => t ds fun hs ds1 => takes hs ds1 fun dl ds2 => g dl fun r => Q (hdOf r) ds2
section
variable {X : Cx} {K : PySem.W.Frag} {F T q : Ad} {σ : Sl} {H : Hp} {ds : DS} {fp : Nat → Ad} {e : Expr} {es : List Expr} {ta tk : TA} {t tkD : DTA} {n k : Nat} {g : DF} {f : Addr} {fd : FuncData} {ps ks : List Str} {x : Str} {p pos : Pos}
/-- the call itself -/
theorem call_core {vs : List V} {dl : List D} {Q : Hd → Prop} {R : VK} {E : XK} (r2 : Rep K F T σ H ds fp) (ia : IsA K (res F H) vs dl) (hn : vs.length = n) (h : g dl fun r => Q (hdOf r))
    (k : ∀ h v H' F' q, Q h → Pst K F T H σ v h ds F' H' fp q → R v H') : frm (spP K n g) vs H R E := by
  have hG : ∀ a, (T a ∨ ∃ i, fp i a) → ∃ o, H a = some o ∧ bigO o := fun a z => by
    rcases z with z | ⟨i, z⟩
    · exact r2.td a z
    · exact r2.fdom z
  have nF : ∀ a, F a → ¬ hidden (fun a => T a ∨ ∃ i, fp i a) H a := fun a f z => by
    rcases z with (z | ⟨i, z⟩) | ⟨y, _, z⟩
    · exact r2.tF a z f
    · exact r2.fF i a z f
    · obtain ⟨o, e, b⟩ := r2.fd a f
      rw [z] at e; cases e; exact b
  refine ⟨fun a => T a ∨ ∃ i, fp i a, hG, hn, F, dl, ia.mono fun a o e => ?_, fun a f => ?_, ?_⟩
  · obtain ⟨f, e⟩ := res_some e
    rw [res_in f, hide_out (nF a f)]; exact e
  · rw [hide_out (nF a f)]; exact r2.fd a f
  · refine ⟨_, h, fun r hr H' v F' q g' sa qa so hh => ?_⟩
    have nh' : ∀ a o, H' a = some o → ¬ hidden (fun a => T a ∨ ∃ i, fp i a) H a := fun a o e z => by rw [hh a z] at e; cases e
    have nF' : ∀ a, F' a → ¬ hidden (fun a => T a ∨ ∃ i, fp i a) H a := fun a f => by
      obtain ⟨o, e, _⟩ := sa a f
      exact nh' a o e
    have nq : ∀ a, q a → ¬ hidden (fun a => T a ∨ ∃ i, fp i a) H a := fun a f => by
      obtain ⟨_, o, e, _⟩ := qa a f
      exact nh' a o e
    have G : Grow F H F' (back (fun a => T a ∨ ∃ i, fp i a) H H') := fun a f => ⟨(g' a f).1, by
      rw [back_out (nF a f), (g' a f).2, hide_out (nF a f)]⟩
    have so' : SlotOk K (res F' (back (fun a => T a ∨ ∃ i, fp i a) H H')) (back (fun a => T a ∨ ∃ i, fp i a) H H') (some (some v)) q r :=
      so.mono (fun a o e => by
        obtain ⟨f, e⟩ := res_some e
        rw [res_in f, back_out (nF' a f)]; exact e) fun a z => back_out (nq a z)
    refine k (hdOf r) v _ F' q hr ⟨r2.go G (fun i a z => ⟨back_in (.inl (.inr ⟨i, z⟩)), fun f => nF' a f (.inl (.inr ⟨i, z⟩)), ?_⟩) (fun a z => ?_) (fun a f => ?_) (fun a z => ?_), fun a z y => nq a z (.inl (.inl y)), G, fun a z => back_in (.inl (.inl z)), ?_⟩
    · rintro (y | y)
      · exact r2.fT i a z y
      · exact nq a y (.inl (.inr ⟨i, z⟩))
    · rcases z with z | z
      · exact fun f => nF' a f (.inl (.inl z))
      · exact (qa a z).1
    · obtain ⟨o, e, b⟩ := sa a f
      exact ⟨o, by rw [back_out (nF' a f)]; exact e, b⟩
    · rcases z with z | z
      · rw [back_in (.inl (.inl z))]; exact r2.td a z
      · obtain ⟨_, o, e, b⟩ := qa a z
        exact ⟨o, by rw [back_out (nq a z)]; exact e, b⟩
    · cases r with
      | val d =>
        obtain ⟨⟨v', e, i⟩, _⟩ := so'
        cases e
        exact i
      | no => exact so'
      | own _ => exact so'
      | dic _ => exact so'
      | wd _ => exact so'
      | ob _ => exact so'
theorem eok_call (ha : AOk K n ta t) : EOk K (tCall (frm (spP K n g)) [] E0 ta) (dCall g t) := fun F T σ H ds fp Q R rp e k => by
  refine ha F T σ H ds fp _ _ rp e fun hs ds1 vs H1 F1 fp1 q1 k1 p1 l1 => ?_
  obtain ⟨dl, ds2, F2, fp2, e2, r2, g2, i2⟩ := takes_ok p1.r .refl p1.rep p1.qT k1
  rw [List.append_nil]
  exact call_core r2 i2 l1 e2 fun h v H' F' q qh p => k _ _ _ _ _ _ _ qh (p.pre (p1.g.trans g2) p1.t)
theorem do_call (F : FnOk X.prog X.w X.K X.mg X.base CX0 k f fd ps (spP X.K n g)) (hr : Room k X.A) (hg : Gl X x) (hm : X.mg x = some (.ref f)) (hk : PySem.W.keepIn X.K (.ref f) = true) (hb : Binds X.K fd ps [])
    (ha : DA X (e :: es) ta t) (hn : (e :: es).length = n := by rfl) (hdb : (x == ("__debug__" : Str)) = false := by decide) (he : starEach (e :: es) X.env = (false, eval e X.env) :: starEach es X.env := by rfl) (hpl : (backTo pos (starEach es X.env)).any (·.1) = false := by rfl) :
    DO X (.Call (.Name x p) (e :: es) [] pos) (tCall (frm (spP X.K n g)) [] E0 ta) (dCall g t) :=
  ⟨pe_call (frame_fn F) hr hg hm hk hb .nil pass0 ha.pa hdb he hpl, eok_call (hn ▸ ha.ok)⟩
end
end DL

/-! DL: statements. -/
namespace DL
open PySem PySem.Spec PyProof.Rows L2

structure En where
  nx : DS → Prop
  rt : Hd → DS → Prop
  bk : DS → Prop
  ct : DS → Prop
abbrev DM := En → DS → Prop
structure EndsOk (K : PySem.W.Frag) (F : Ad) (H : Hp) (E : En) (D : Ends) : Prop where
  nx : ∀ σ' H' ds' F' fp', E.nx ds' → Rep K F' Ad.nil σ' H' ds' fp' → Grow F H F' H' → D.nx σ' H'
  rt : ∀ h ds' v σ' H' F' fp' q, E.rt h ds' → Pst K F Ad.nil H σ' v h ds' F' H' fp' q → D.rt v H'
  bk : ∀ σ' H' ds' F' fp', E.bk ds' → Rep K F' Ad.nil σ' H' ds' fp' → Grow F H F' H' → D.bk σ' H'
  ct : ∀ σ' H' ds' F' fp', E.ct ds' → Rep K F' Ad.nil σ' H' ds' fp' → Grow F H F' H' → D.ct σ' H'
theorem EndsOk.grow {K : PySem.W.Frag} {F F' : Ad} {H H' : Hp} {E : En} {D : Ends} (e : EndsOk K F H E D) (g : Grow F H F' H') : EndsOk K F' H' E D :=
  ⟨fun _ _ _ _ _ a r b => e.nx _ _ _ _ _ a r (g.trans b), fun _ _ _ _ _ _ _ _ a p => e.rt _ _ _ _ _ _ _ _ a (p.pre g fun _ z => z.elim), fun _ _ _ _ _ a r b => e.bk _ _ _ _ _ a r (g.trans b), fun _ _ _ _ _ a r b => e.ct _ _ _ _ _ a r (g.trans b)⟩
def SOk (K : PySem.W.Frag) (ts : TS) (t : DM) : Prop :=
  ∀ (F : Ad) (σ : Sl) (H : Hp) (ds : DS) (fp : Nat → Ad) (E : En) (D : Ends), Rep K F Ad.nil σ H ds fp → t E ds → EndsOk K F H E D → ts D σ H
structure DSt (X : Cx) (st : Stmt) (ts : TS) (t : DM) : Prop where
  ps : PS X st ts
  ok : SOk X.K ts t
structure DSs (X : Cx) (st : List Stmt) (ts : TS) (t : DM) : Prop where
  ps : PSs X st ts
  ok : SOk X.K ts t
@[simp] def mNil : DM := fun E ds => E.nx ds
@[simp] def mSeq (t u : DM) : DM := fun E ds => t { E with nx := u E } ds
@[simp] def mExpr (t : DT) : DM := fun E ds => t ds fun _ ds1 => E.nx ds1
@[simp] def mRet (t : DT) : DM := fun E ds => t ds E.rt
@[simp] def mRetN : DM := fun E ds => E.rt (.tmp .none) ds
@[simp] def mIf (c : DTT) (t u : DM) : DM := fun E ds => c ds fun b ds1 => if b = true then t E ds1 else u E ds1
@[simp] def mBrk : DM := fun E ds => E.bk ds
@[simp] def mCont : DM := fun E ds => E.ct ds
@[simp] def mNever : DM := fun _ _ => False
section
variable {X : Cx} {K : PySem.W.Frag} {st : Stmt} {sts : List Stmt} {ts us : TS} {t u : DM} {e c : Expr} {te : TE} {d : DT} {tt : TT} {p : DTT} {pos : Pos}
theorem dss_nil : DSs X [] tNext mNil := ⟨pss_nil, fun F σ H ds fp E D r h k => k.nx _ _ _ _ _ h r .refl⟩
theorem sok_seq (h1 : SOk K ts t) (h2 : SOk K us u) : SOk K (tSeq ts us) (mSeq t u) := fun F σ H ds fp E D r h k =>
  h1 F σ H ds fp _ _ r h ⟨fun σ' H' ds' F' fp' a r' g => h2 F' σ' H' ds' fp' E D r' a (k.grow g), k.rt, k.bk, k.ct⟩
theorem dss_cons (h1 : DSt X st ts t) (h2 : DSs X sts us u) : DSs X (st :: sts) (tSeq ts us) (mSeq t u) := ⟨pss_cons h1.ps h2.ps, sok_seq h1.ok h2.ok⟩
theorem dss_one (h1 : DSt X st ts t) : DSs X [st] ts t := ⟨pss_one h1.ps, h1.ok⟩
theorem ds_expr (h : DO X e te d) (hs : swapsWith e none pos.line X.env = pure false := by rfl) : DSt X (.Expr e pos) (tDrop te) (mExpr d) := ⟨ps_expr h.pe hs, fun F σ H ds fp E D r a k =>
  h.ok F _ σ H ds fp _ _ r a fun h ds' v H' F' fp' q b p => k.nx _ _ _ _ fp' b (p.rep.less fun _ z => .inl z) p.g⟩
theorem ds_ret (h : DO X e te d) : DSt X (.Return (some e) pos) (tRet te) (mRet d) := ⟨ps_ret h.pe, fun F σ H ds fp E D r a k =>
  h.ok F _ σ H ds fp _ _ r a fun h ds' v H' F' fp' q b p => k.rt _ _ _ _ _ _ _ _ b p⟩
theorem ds_retN : DSt X (.Return none pos) tRetN mRetN := ⟨ps_retN, fun F σ H ds fp E D r a k => k.rt _ _ _ _ _ _ _ _ a (Pst.is r .non)⟩
theorem ds_if {a b : List Stmt} (hc : DB X c tt p) (ha : DSs X a ts t) (hb : DSs X b us u) : DSt X (.If c a b pos) (tIfS tt ts us) (mIf p t u) := ⟨ps_if hc.pt ha.ps hb.ps, fun F σ H ds fp E D r h k =>
  hc.ok F _ σ H ds fp _ _ r h fun b ds' H' F' fp' h' r' g _ => by
    cases b with
    | true => exact ha.ok F' σ H' ds' fp' E D r' h' (k.grow g)
    | false => exact hb.ok F' σ H' ds' fp' E D r' h' (k.grow g)⟩
theorem ds_pass : DSt X (.Pass pos) tNext mNil := ⟨ps_pass, fun F σ H ds fp E D r h k => k.nx _ _ _ _ _ h r .refl⟩
theorem ds_break : DSt X (.Break pos) tBreak mBrk := ⟨ps_break, fun F σ H ds fp E D r h k => k.bk _ _ _ _ _ h r .refl⟩
theorem ds_continue : DSt X (.Continue pos) tCont mCont := ⟨ps_continue, fun F σ H ds fp E D r h k => k.ct _ _ _ _ _ h r .refl⟩
theorem ds_never : DSt X st tNever mNever := ⟨ps_never, fun F σ H ds fp E D r h k => h⟩
end

/-! ### stores -/
/-- what a handle is when it is stored: new things stay owned -/
@[simp] def sett : Hd → DS → (SD → DS → Prop) → Prop
  | .tmp d, ds, Q => Q (.val d) ds
  | .slot i, ds, Q => match ds[i]? with
    | some (.val d) => Q (.val d) ds
    | some (.own xs) => Q (.val (.list xs)) (ds.set i (.val (.list xs)))
    | _ => False
  | .new s, ds, Q => Q s ds
  | .fld _ _ _, _, _ => False
@[simp] def put (i : Nat) (s : SD) (ds : DS) (P : DS → Prop) : Prop := match ds[i]? with
  | some _ => P (ds.set i s)
  | none => False
section
variable {K : PySem.W.Frag} {F F' T q : Ad} {σ : Sl} {H H' : Hp} {ds : DS} {fp : Nat → Ad} {v : V} {h : Hd}
theorem sett_ok {Q : SD → DS → Prop} (r : Rep K F (T.or q) σ H ds fp) (dj : ∀ a, q a → ¬ T a) (x : HdR K F H σ v q h) (e : sett h ds Q) :
    ∃ s ds' F' fp' q', Q s ds' ∧ Rep K F' (T.or q') σ H ds' fp' ∧ (∀ a, q' a → q a) ∧ Grow F H F' H ∧ SlotOk K (res F' H) H (some (some v)) q' s := by
  cases h with
  | tmp d => exact ⟨_, _, F, fp, Ad.nil, e, r.less fun a z => .inl (or_empty a z), fun _ z => z.elim, .refl, ⟨v, rfl, x⟩, fun _ z => z⟩
  | slot i =>
    have x' : σ[i]? = some (some v) := x
    cases hd : ds[i]? with
    | none => simp [sett, hd] at e
    | some s =>
      cases s with
      | val d' =>
        simp [sett, hd] at e
        obtain ⟨⟨v', h1, h2⟩, _⟩ := r.slot i _ hd
        rw [x'] at h1; cases h1
        exact ⟨_, _, F, fp, Ad.nil, e, r.less fun a z => .inl (or_empty a z), fun _ z => z.elim, .refl, ⟨v, rfl, h2⟩, fun _ z => z⟩
      | own xs =>
        simp [sett, hd] at e
        obtain ⟨r1, g, a, h1, h2⟩ := (r.less (T' := T.or Ad.nil) fun a z => .inl (or_empty a z)).freeze hd
        rw [x'] at h1; cases h1
        exact ⟨_, _, _, _, Ad.nil, e, r1, fun _ z => z.elim, g, ⟨_, rfl, h2⟩, fun _ z => z⟩
      | no => simp [sett, hd] at e
      | dic _ => simp [sett, hd] at e
      | wd _ => simp [sett, hd] at e
      | ob _ => simp [sett, hd] at e
  | new s => exact ⟨s, ds, F, fp, q, e, r, fun _ z => z, .refl, x⟩
  | fld _ _ _ => exact e.elim
end
@[simp] def mSet (i : Nat) (t : DT) : DM := fun E ds => t ds fun h ds1 => sett h ds1 fun s ds2 => put i s ds2 E.nx
@[simp] def mPar (i j : Nat) (t u : DT) : DM := fun E ds => t ds fun h1 ds1 => u ds1 fun h2 ds2 => sett h1 ds2 fun s1 ds3 => sett h2 ds3 fun s2 ds4 => put i s1 ds4 fun ds5 => put j s2 ds5 E.nx
section
variable {X : Cx} {K : PySem.W.Frag} {i j : Nat} {x y : Str} {e a b : Expr} {te ta tb : TE} {t u : DT} {pos pos' px py pt pt2 : Pos} {kt k2 : Nat}
theorem put_ok {F T q : Ad} {σ : Sl} {H : Hp} {ds : DS} {fp : Nat → Ad} {P : DS → Prop} {v : V} {s : SD} (r : Rep K F (T.or q) σ H ds fp) (d : ∀ a, q a → ¬ T a) (hs : SlotOk K (res F H) H (some (some v)) q s) (h : put i s ds P) :
    P (ds.set i s) ∧ ∃ fp', Rep K F T (σ.set i (some v)) H (ds.set i s) fp' := by
  unfold put at h
  split at h
  · rename_i s' e
    exact ⟨h, _, r.put d hs (List.getElem?_eq_some_iff.mp e).1⟩
  · exact h.elim
theorem sok_set (he : EOk K te t) : SOk K (tAsg te (gName i)) (mSet i t) := fun F σ H ds fp E D r h k => by
  refine he F _ σ H ds fp _ _ r h fun h ds' v H' F' fp' q b p => ?_
  obtain ⟨s, ds2, F2, fp2, q2, e2, r2, sub, g2, so⟩ := sett_ok p.rep p.qT p.r b
  obtain ⟨e3, fp3, r3⟩ := put_ok r2 (fun a z => p.qT a (sub a z)) so e2
  exact k.nx _ _ _ _ fp3 e3 r3 (p.g.trans g2)
theorem ds_set (hN : X.N.Nodup) (he : DO X e te t) (hi : X.N[i]? = some x := by rfl) (hx : Loc X.env.scope x := by first | exact .inl rfl | exact .inr rfl) (hs : swapsWith e (some (.Name x pos')) pos.line X.env = pure false := by rfl) (hf : X.fn x = true ∨ X.env.scope.names.lookup x = some .local := by first | exact .inl rfl | exact .inr rfl | assumption) :
    DSt X (.Assign [.Name x pos'] e pos) (tAsg te (gName i)) (mSet i t) := ⟨ps_set hN hi hx he.pe hs hf, sok_set he.ok⟩
theorem ds_par (hN : X.N.Nodup) (ha : DO X a ta t) (hb : DO X b tb u) (hc : X.calm = true := by rfl) (hi : X.N[i]? = some x := by rfl) (hj : X.N[j]? = some y := by rfl) (hij : i ≠ j := by decide)
    (hx : X.env.scope.names.lookup x = some .local := by rfl) (hy : X.env.scope.names.lookup y = some .local := by rfl)
    (h1 : starEach [a, b] X.env = (false, eval a X.env) :: starEach [b] X.env := by rfl) (h2 : starEach [b] X.env = (false, eval b X.env) :: starEach [] X.env := by rfl)
    (hw : swappedStores [.Tuple [.Name x px, .Name y py] kt pt] (.Tuple [a, b] k2 pt2) X.env = pure (some [x, y]) := by rfl)
    (hs : swapsWithSole [.Tuple [.Name x px, .Name y py] kt pt] (.Tuple [a, b] k2 pt2) pos.line X.env = pure false := by rfl) :
    DSt X (.Assign [.Tuple [.Name x px, .Name y py] kt pt] (.Tuple [a, b] k2 pt2) pos) (tPar i j (tCons ta (tCons tb tNil))) (mPar i j t u) := ⟨ps_par hc hN hi hj hij hx hy (pa_cons ha.pe (pa_cons hb.pe pa_nil h2) h1) hw hs, fun F σ H ds fp E D r h k => by
  refine ha.ok F _ σ H ds fp _ _ r h fun h1 ds1 v1 H1 F1 fp1 q1 k1 p1 => ?_
  refine hb.ok F1 (Ad.nil.or q1) σ H1 ds1 fp1 _ _ p1.rep k1 fun h2 ds2 v2 H2 F2 fp2 q2 k2 p2 => ?_
  refine ⟨v1, v2, rfl, ?_⟩
  have x1 := p1.r.keep p2.g fun a z => p2.t a (.inr z)
  have r2 : Rep X.K F2 (q2.or q1) σ H2 ds2 fp2 := p2.rep.less fun a z => z.elim .inr fun z => .inl (.inr z)
  obtain ⟨s3, ds3, F3, fp3, q3, e3, r3, sub3, g3, so3⟩ := sett_ok r2 (fun a z y => p2.qT a y (.inr z)) x1 k2
  have r3' : Rep X.K F3 (q3.or q2) σ H2 ds3 fp3 := r3.less fun a z => z.elim .inr .inl
  obtain ⟨s4, ds4, F4, fp4, q4, e4, r4, sub4, g4, so4⟩ := sett_ok r3' (fun a z y => p2.qT a z (.inr (sub3 a y))) (p2.r.keep g3 fun _ _ => rfl) e3
  have r4' : Rep X.K F4 (q4.or q3) σ H2 ds4 fp4 := r4.less fun a z => z.elim .inr .inl
  obtain ⟨e5, fp5, r5⟩ := put_ok r4' (fun a z y => p2.qT a (sub4 a y) (.inr (sub3 a z))) (so3.mono g4.same fun _ _ => rfl) e4
  have r5' : Rep X.K F4 (Ad.nil.or q4) (σ.set i (some v1)) H2 (ds4.set i s3) fp5 := r5.less fun a z => z.elim (fun z => z.elim) id
  obtain ⟨e6, fp6, r6⟩ := put_ok r5' (fun _ _ z => z) so4 e5
  exact k.nx _ _ _ _ fp6 e6 r6 (((p1.g.trans p2.g).trans g3).trans g4)⟩
end

/-! ### targets -/
abbrev DGT := D → DS → (DS → Prop) → Prop
def GOk (K : PySem.W.Frag) (g : TG) (us : List Nat) (t : DGT) : Prop :=
  ∀ (F T : Ad) (σ : Sl) (H : Hp) (ds : DS) (fp : Nat → Ad) (v : V) (d : D) (Q : DS → Prop) (R : L2.St → Hp → Prop), Rep K F T σ H ds fp → Is K (res F H) v d → t d ds Q →
    (∀ σ' ds' fp', Q ds' → Rep K F T σ' H ds' fp' → σ'.length = σ.length → (∀ j, j ∉ us → σ'[j]? = σ[j]?) → R σ' H) → g v σ H R
structure DG (X : Cx) (tg : Expr) (g : TG) (us : List Nat) (t : DGT) : Prop where
  pg : PG X tg g
  ok : GOk X.K g us t
abbrev DGTs := List D → DS → (DS → Prop) → Prop
def GsOk (K : PySem.W.Frag) (g : TGs) (us : List Nat) (t : DGTs) : Prop :=
  ∀ (F T : Ad) (σ : Sl) (H : Hp) (ds : DS) (fp : Nat → Ad) (vs : List V) (dl : List D) (Q : DS → Prop) (R : L2.St → Hp → Prop), Rep K F T σ H ds fp → IsA K (res F H) vs dl → t dl ds Q →
    (∀ σ' ds' fp', Q ds' → Rep K F T σ' H ds' fp' → σ'.length = σ.length → (∀ j, j ∉ us → σ'[j]? = σ[j]?) → R σ' H) → g vs σ H R
structure DGs (X : Cx) (tgs : List Expr) (g : TGs) (us : List Nat) (t : DGTs) : Prop where
  pg : PGs X tgs g
  ok : GsOk X.K g us t
@[simp] def gNm (i : Nat) : DGT := fun d ds P => put i (.val d) ds P
@[simp] def gsNil : DGTs := fun dl ds P => match dl with
  | [] => P ds
  | _ => False
@[simp] def gsCons (t : DGT) (u : DGTs) : DGTs := fun dl ds P => match dl with
  | d :: r => t d ds fun ds1 => u r ds1 P
  | [] => False
@[simp] def gTp (n : Nat) (t : DGTs) : DGT := fun d ds P => match d with
  | .tuple xs => xs.length = n ∧ t xs ds P
  | .list xs => xs.length = n ∧ t xs ds P
  | _ => False
section
variable {X : Cx} {K : PySem.W.Frag} {i : Nat} {x : Str} {e : Expr} {es : List Expr} {g : TG} {gs : TGs} {t : DGT} {u : DGTs} {us us' : List Nat} {pos : Pos} {n k : Nat}
theorem gok_nm : GOk K (gName i) [i] (gNm i) := fun F T σ H ds fp v d Q R r x h k => by
  obtain ⟨e, fp', r'⟩ := put_ok (q := Ad.nil) (r.less or_empty) (fun _ z => z.elim) (show SlotOk K (res F H) H (some (some v)) Ad.nil (.val d) from ⟨⟨v, rfl, x⟩, fun _ z => z⟩) h
  exact k _ _ fp' e r' (List.length_set ..) fun j hj => List.getElem?_set_ne fun z => hj (by rw [z]; exact List.mem_singleton.mpr rfl)
theorem dg_nm (hN : X.N.Nodup) (hi : X.N[i]? = some x := by rfl) (hx : Loc X.env.scope x := by first | exact .inl rfl | exact .inr rfl) (hf : X.fn x = true ∨ X.env.scope.names.lookup x = some .local := by first | exact .inl rfl | exact .inr rfl | assumption) : DG X (.Name x pos) (gName i) [i] (gNm i) :=
  ⟨pg_name hN hi hx hf, gok_nm⟩
theorem dgs_nil : DGs X [] gNil [] gsNil := ⟨pgs_nil, fun F T σ H ds fp vs dl Q R r x h k => by
  cases dl with
  | nil => cases x; exact ⟨rfl, k _ _ _ h r rfl fun _ _ => rfl⟩
  | cons _ _ => exact False.elim h⟩
theorem gsok_cons (a : GOk K g us t) (b : GsOk K gs us' u) : GsOk K (gCons g gs) (us ++ us') (gsCons t u) := fun F T σ H ds fp vs dl Q R r x h k => by
  cases dl with
  | nil => exact False.elim h
  | cons d dl =>
    cases x with
    | @cons v vs _ _ x1 x2 =>
      refine ⟨v, vs, rfl, a F T σ H ds fp v d _ _ r x1 h fun σ' ds' fp' h' r' l' o' => ?_⟩
      exact b F T σ' H ds' fp' vs dl _ _ r' x2 h' fun σ'' ds'' fp'' h'' r'' l'' o'' => k _ _ _ h'' r'' (l''.trans l') fun j hj => (o'' j fun z => hj (List.mem_append_right _ z)).trans (o' j fun z => hj (List.mem_append_left _ z))
theorem dgs_cons (a : DG X e g us t) (b : DGs X es gs us' u) (hs : (assignEach (e :: es) X.env).map (·.2) = assign e X.env :: (assignEach es X.env).map (·.2) := by rfl) : DGs X (e :: es) (gCons g gs) (us ++ us') (gsCons t u) := ⟨pgs_cons a.pg b.pg hs, gsok_cons a.ok b.ok⟩
end
end DL

/-! DL: unpacking, in-place operators, lists that grow, loops, comprehensions, a def's body. -/
namespace DL
open PySem PySem.Spec PyProof.Rows L2

section
variable {X : Cx} {K : PySem.W.Frag} {i : Nat} {x : Str} {e tg : Expr} {es : List Expr} {g : TG} {gs : TGs} {t : DGT} {u : DGTs} {us : List Nat} {te : TE} {d : DT} {pos p2 p3 pos' : Pos} {n k : Nat}
theorem pg_or {g g' : TG} (h : PG X e g) (h' : PG X e g') : PG X e (fun v σ H Q => g v σ H Q ∨ g' v σ H Q) :=
  ⟨fun pins s σ H v u Q I r w => w.elim (h.run pins s σ H v u Q I r) (h'.run pins s σ H v u Q I r)⟩
theorem dg_tup (h : DGs X es gs us u) (hc : X.calm = true := by rfl) (hn : (assignEach es X.env).length = n := by rfl) (hst : (assignEach es X.env).findIdx? (·.1) = none := by rfl) :
    DG X (.Tuple es k pos) (fun v σ H Q => gTup X.K n gs v σ H Q ∨ gUnl X.K n gs v σ H Q) us (gTp n u) := ⟨pg_or (pg_tup hc h.pg hn hst) (pg_unl hc h.pg hn hst), fun F T σ H ds fp v dd Q R r x h' kk => by
  cases dd <;> first | exact False.elim h' | skip
  · cases x with
    | lst ha hs => exact .inr ⟨_, _, rfl, (same_l (res_same _ _) ha).sq, by rw [hs.length]; exact h'.1, h.ok F T σ H ds fp _ _ _ _ r hs h'.2 kk⟩
  · cases x with
    | tup ha hs => exact .inl ⟨_, _, rfl, same_t (res_same _ _) ha, by rw [hs.length]; exact h'.1, h.ok F T σ H ds fp _ _ _ _ r hs h'.2 kk⟩⟩
/-- target = e, the value taken apart -/
@[simp] def mUnp (d : DT) (t : DGT) : DM := fun E ds => d ds fun h ds1 => take1 h ds1 fun x ds2 => t x ds2 E.nx
theorem ds_unp (he : DO X e te d) (hg : DG X tg g us t) (hs : swapsWithSole [tg] e pos.line X.env = pure false := by rfl) (hw : swappedStores [tg] e X.env = pure none := by rfl) (h1 : (assignEach [tg] X.env).map (·.2) = [assign tg X.env] := by rfl) : DSt X (.Assign [tg] e pos) (tAsg te g) (mUnp d t) :=
  ⟨ps_asg he.pe hg.pg hs hw h1, fun F σ H ds fp E D r a k => by
    refine he.ok F _ σ H ds fp _ _ r a fun h ds' v H' F' fp' q b p => ?_
    obtain ⟨x, ds2, F2, fp2, e2, r2, g2, i2⟩ := take1_ok p.rep p.qT p.r b
    exact hg.ok F2 _ σ H' ds2 fp2 v x _ _ r2 i2 e2 fun σ' ds3 fp3 h3 r3 _ _ => k.nx _ _ _ _ fp3 h3 r3 (p.g.trans g2)⟩

/-! x += e -/
@[simp] def augD : SD → D → (SD → Prop) → Prop
  | .val (.int a), .int b, P => P (.val (.int (a + b)))
  | .own xs, .list ys, P => xs.length + ys.length ≤ sizeLine ∧ P (.own (xs ++ ys))
  | _, _, _ => False
theorem augD_inv {P : SD → Prop} : ∀ {s : SD} {d : D}, augD s d P → (∃ a b, s = .val (.int a) ∧ d = .int b ∧ P (.val (.int (a + b)))) ∨ ∃ xs ys, s = .own xs ∧ d = .list ys ∧ xs.length + ys.length ≤ sizeLine ∧ P (.own (xs ++ ys))
  | .val (.int a), .int b, h => .inl ⟨a, b, rfl, rfl, h⟩
  | .own xs, .list ys, h => .inr ⟨xs, ys, rfl, rfl, h⟩
@[simp] def hasV (ds : DS) (i : Nat) : Prop := match ds[i]? with
  | some .no => False
  | some _ => True
  | none => False
theorem hasV_ok {F T : Ad} {σ : Sl} {H : Hp} {ds : DS} {fp : Nat → Ad} (r : Rep K F T σ H ds fp) (h : hasV ds i) : ∃ v, σ[i]? = some (some v) := by
  cases hs : ds[i]? with
  | none => simp [hasV, hs] at h
  | some s =>
    have z := r.slot i s hs
    cases s with
    | no => simp [hasV, hs] at h
    | val d => obtain ⟨⟨v, e, _⟩, _⟩ := z; exact ⟨v, e⟩
    | own xs => obtain ⟨a, vs, e, _⟩ := z; exact ⟨_, e⟩
    | dic xs => obtain ⟨a, vs, e, _⟩ := z; exact ⟨_, e⟩
    | wd w => obtain ⟨e, _⟩ := z; exact ⟨_, e⟩
    | ob w => obtain ⟨e, _⟩ := z; exact ⟨_, e⟩
@[simp] def mAug (i : Nat) (t : DT) : DM := fun E ds => hasV ds i ∧ t ds fun h ds1 => pk ds1 h fun d => match ds1[i]? with
  | some s => augD s d fun s' => E.nx (ds1.set i s')
  | none => False
/-- a list that grows by one that may be locked -/
def rExtR (K : PySem.W.Frag) : R2 := fun x y H Q => ∃ l b xs zs, x = .ref l ∧ y = .ref b ∧ H l = some (.lst xs) ∧ Ls K H b zs ∧ xs.length + zs.length ≤ sizeLine ∧ Q (.ref l) (upd H l (.lst (xs ++ zs)))
theorem iop_extR : OpR X (inplaceOp .Add) (rExtR X.K) := by
  rintro pins s σ H x y v u Q I rx ry ⟨l, b, xs, zs, rfl, rfl, hl, hb, hz, q⟩
  cases rx; cases ry
  obtain ⟨_, is1, n1, r1, l1, g1⟩ := lstRd I (.inl (.inl hl))
  obtain ⟨_, is2, n2, r2, l2, g2⟩ := lstRd I hb
  have room : is1.toArray.size + is2.toArray.size ≤ sizeLine := by simp only [List.size_toArray]; omega
  have free : ¬ (!is1.toArray.isEmpty && Builtin.List.listTooLong (is1.toArray.size + is2.toArray.size)) = true := by rw [notLongL room, Bool.and_false]; exact Bool.false_ne_true
  refine iadd_road ⟨_, g1, rfl⟩ ⟨_, g2, rfl⟩ (call_meets PySem.F.slot_list_iadd ⟨_, g1, rfl⟩ PySem.F.entry_list_iadd (PySem.F.args_list_iadd_2 _ _) (AutoSeq1.list___iadd___list_list_0 l _ n1 b _ n2 free (by omega) (by omega)) ⟨g1, g2, ?_⟩)
  exact ⟨.ref l, _, I.lset (its' := is1 ++ is2) (t' := s.toks) hl g1 (by simp) (r1.append r2) (by simp only [List.length_append]; omega), rfl, q⟩
def rAugA (K : PySem.W.Frag) : R2 := fun x y H Q => (∃ a b, x = .int a ∧ y = .int b ∧ Q (.int (a + b)) H) ∨ rExtR K x y H Q
theorem ip_aug : PIp X .Add (rAugA X.K) := OpR.or iop_add iop_extR
open Classical in
/-- the list that slot i owns is another one now -/
theorem Rep.relist {F T : Ad} {σ : Sl} {H : Hp} {ds : DS} {fp : Nat → Ad} {xs ys : List D} (r : Rep K F T σ H ds fp) (e : ds[i]? = some (.own xs)) :
    ∃ a vs, σ[i]? = some (some (.ref a)) ∧ H a = some (.lst vs) ∧ IsA K (res F H) vs xs ∧ ∀ ws, IsA K (res F H) ws ys → Rep K F T σ (upd H a (.lst ws)) (ds.set i (.own ys)) fp ∧ Grow F H F (upd H a (.lst ws)) ∧ ∀ b, T b → upd H a (.lst ws) b = H b := by
  obtain ⟨a, vs, h1, h2, h3, h4⟩ := r.slot i _ e
  have hi : i < ds.length := (List.getElem?_eq_some_iff.mp e).1
  have ha : fp i a := (h2 a).mpr rfl
  refine ⟨a, vs, h1, h3, h4, fun ws hw => ?_⟩
  have g : Grow F H F (upd H a (.lst ws)) := fun b f => ⟨f, upd_ne (ne_by f (r.fF i a ha))⟩
  refine ⟨⟨by rw [List.length_set]; exact r.len, fun j s e' => ?_, fun j b h => by rw [List.length_set]; exact r.out j b h, r.fF, r.fT, r.sep, r.tF, fun b f => ?_, fun b t => ?_⟩, g, fun b t => upd_ne (ne_by t (r.fT i a ha))⟩
  · by_cases hj : j = i
    · subst hj
      rw [List.getElem?_set_self hi] at e'; cases e'
      exact ⟨a, ws, h1, h2, upd_same, hw.mono g.same⟩
    · rw [List.getElem?_set_ne (Ne.symm hj)] at e'
      exact (r.slot j s e').mono g.same fun b hb => upd_ne fun z => by rw [z] at hb; exact hj (r.sep j i a hb ha)
  · rw [upd_ne (ne_by f (r.fF i a ha))]; exact r.fd b f
  · rw [upd_ne (ne_by t (r.fT i a ha))]; exact r.td b t
theorem set_same {α : Type} {l : List α} {i : Nat} {a : α} (h : l[i]? = some a) : l.set i a = l := by
  apply List.ext_getElem?
  intro j
  by_cases hj : j = i
  · subst hj
    rw [List.getElem?_set_self (List.getElem?_eq_some_iff.mp h).1, h]
  · rw [List.getElem?_set_ne (Ne.symm hj)]
theorem ds_aug (hN : X.N.Nodup) (he : DO X e te d) (hi : X.N[i]? = some x := by rfl) (hx : Loc X.env.scope x := by first | exact .inl rfl | exact .inr rfl) (hf : X.fn x = true ∨ X.env.scope.names.lookup x = some .local := by first | exact .inl rfl | exact .inr rfl | assumption) :
    DSt X (.AugAssign (.Name x pos') .Add e pos) (tAug i te (rAugA X.K)) (mAug i d) := ⟨ps_aug hN hi hx he.pe ip_aug hf, fun F σ H ds fp E D r a k => by
  obtain ⟨v, hv⟩ := hasV_ok r a.1
  replace a := a.2
  refine ⟨v, hv, ?_⟩
  refine he.ok F _ σ H ds fp _ _ r a fun h ds' w H' F' fp' q b p => ?_
  obtain ⟨d, pd, k2⟩ := pk_ok p.rep p.r b
  cases hs : ds'[i]? with
  | none => simp [hs] at k2
  | some s =>
    simp [hs] at k2
    rcases augD_inv k2 with ⟨c, dd, rfl, rfl, k3⟩ | ⟨xs, ys, rfl, rfl, hz, k3⟩
    · obtain ⟨⟨w', e1, i1⟩, _⟩ := p.rep.slot i _ hs
      rw [hv] at e1; cases e1
      cases i1
      rw [pd.int]
      obtain ⟨r4, fp4, r5⟩ := put_ok (i := i) (P := E.nx) (q := Ad.nil) (T := Ad.nil) (p.rep.less fun a z => z.elim .inl fun z => z.elim) (fun _ z => z.elim) (show SlotOk X.K (res F' H') H' (some (some (.int (c + dd)))) Ad.nil (.val (.int (c + dd))) from ⟨⟨_, rfl, .int _⟩, fun _ z => z⟩) (by simp only [put, hs]; exact k3)
      exact .inl ⟨_, _, rfl, rfl, k.nx _ _ _ _ fp4 r4 r5 p.g⟩
    · obtain ⟨b, ws, rfl, hb, ib⟩ := pd.list
      obtain ⟨a, vs, e1, ha, ia, rl⟩ := p.rep.relist (ys := xs ++ ys) hs
      rw [hv] at e1; cases e1
      obtain ⟨r5, g5, _⟩ := rl (vs ++ ws) (ia.append ib)
      refine .inr ⟨a, b, vs, ws, rfl, rfl, ha, hb, by rw [ia.length, ib.length]; exact hz, ?_⟩
      show D.nx (σ.set i (some (.ref a))) _
      rw [set_same hv]
      exact k.nx _ _ _ _ fp' k3 (r5.less fun _ z => .inl z) (p.g.trans g5)⟩
end
end DL

/-! DL: append, loops, comprehensions, a def's body. -/
namespace DL
open PySem PySem.Spec PyProof.Rows L2

/-! ### xs.append(e) as a statement -/
@[simp] def isOwn (ds : DS) (i : Nat) : Prop := match ds[i]? with
  | some (.own _) => True
  | _ => False
@[simp] def ownAt (ds : DS) (i : Nat) (P : List D → Prop) : Prop := match ds[i]? with
  | some (.own xs) => P xs
  | _ => False
theorem ownAt_inv {ds : DS} {i : Nat} {P : List D → Prop} (h : ownAt ds i P) : ∃ xs, ds[i]? = some (.own xs) ∧ P xs := by
  cases hs : ds[i]? with
  | none => simp [ownAt, hs] at h
  | some s =>
    cases s with
    | own xs => simp [ownAt, hs] at h; exact ⟨xs, rfl, h⟩
    | no => simp [ownAt, hs] at h
    | val _ => simp [ownAt, hs] at h
    | dic _ => simp [ownAt, hs] at h
    | wd _ => simp [ownAt, hs] at h
    | ob _ => simp [ownAt, hs] at h
@[simp] def mApp (i : Nat) (t : DT) : DM := fun E ds => ownAt ds i fun _ => t ds fun h ds1 => take1 h ds1 fun d ds2 => ownAt ds2 i fun xs => xs.length < sizeLine ∧ E.nx (ds2.set i (.own (xs ++ [d])))
section
variable {X : Cx} {K : PySem.W.Frag} {i : Nat} {x : Str} {e tg iter : Expr} {es : List Expr} {g : TG} {gt : DGT} {us : List Nat} {te : TE} {t : DT} {pos px apos cpos : Pos} {n : Nat}
theorem ds_app (he : DO X e te t) (hi : X.N[i]? = some x := by rfl) (hv : Vis X.env.scope x := by first | exact Or.inl rfl | exact Or.inr (Or.inl rfl) | exact Or.inr (Or.inr rfl)) (hd : (x == ("__debug__" : Str)) = false := by decide)
    (hcd : (x == ("__classdict__" : Str)) = false := by decide) (hse : starEach [e] X.env = (false, eval e X.env) :: starEach [] X.env := by rfl)
    (h1 : attributeBase (.Name x px) "append" X.env (eval (.Name x px) X.env) = eval (.Name x px) X.env := by rfl)
    (h2 : ((backTo cpos (starEach [e] X.env)).all (fun x => !x.1) && (backToKw cpos (keywordEach [] X.env)).all (fun x => x.1.isSome) && decide (([e] : List Expr).length + ([] : List Keyword).length + (if ([] : List Keyword).isEmpty then 0 else 1) < 30)) = true := by rfl)
    (h3 : (apos.endLine == cpos.line) = true := by rfl) (h4 : (backTo cpos (starEach [] X.env)).any (·.1) = false := by rfl)
    (hs : swapsWith (.Call (.Attribute (.Name x px) "append" apos) [e] [] cpos) none pos.line X.env = pure false := by rfl) :
    DSt X (.Expr (.Call (.Attribute (.Name x px) "append" apos) [e] [] cpos) pos) (tDrop (tBM X.K "list" rAppend (tVar i) (tCons te tNil))) (mApp i t) := ⟨ps_expr (pe_bm PySem.F.plainAttrs_list PySem.F.slot_list_append PySem.F.type_list_append mt_append (pe_var hi hv hd hcd) (pa_cons he.pe pa_nil hse) h1 h2 h3 hse h4) hs, fun F σ H ds fp E D r a k => by
  obtain ⟨xs0, h0, a⟩ := ownAt_inv a
  obtain ⟨b, vs0, e0, _, hb, _⟩ := r.slot i _ h0
  refine ⟨.ref b, e0, .inl ⟨rfl, _, .of hb⟩, ?_⟩
  refine he.ok F _ σ H ds fp _ _ r a fun h ds1 v H1 F1 fp1 q c p => ?_
  obtain ⟨d, ds2, F2, fp2, e2, r2, g2, i2⟩ := take1_ok p.rep p.qT p.r c
  obtain ⟨xs, h2, hz, e3⟩ := ownAt_inv e2
  obtain ⟨b', vs, e1, hb', ib, rl⟩ := r2.relist (ys := xs ++ [d]) h2
  rw [e0] at e1; cases e1
  obtain ⟨r5, g5, _⟩ := rl (vs ++ [v]) (ib.append (.cons i2 .nil))
  exact ⟨_, _, _, rfl, rfl, hb', by rw [ib.length]; exact hz, k.nx _ _ _ _ fp2 e3 r5 ((p.g.trans g2).trans g5)⟩⟩

/-! ### what is walked -/
structure ItD (K : PySem.W.Frag) (F : Ad) (H : Hp) (J : It) (items : List D) : Prop where
  go : ∀ F' H' i, Grow F H F' H' → i < items.length → J.go i H'
  stop : ∀ F' H', Grow F H F' H' → J.stop items.length H'
  yld : ∀ F' H' i x H'' d, Grow F H F' H' → items[i]? = some d → J.yld i H' x H'' → (H'' = H' ∧ Is K (res F' H') x d) ∨ ∃ p o, H' p = none ∧ H'' = upd H' p o ∧ seqO o ∧ ∀ F'' : Ad, (∀ a, F' a → F'' a) → F'' p → Is K (res F'' H'') x d
abbrev DIT := DS → (List D → DS → Prop) → Prop
def IOk (K : PySem.W.Frag) (wi : TI) (t : DIT) : Prop :=
  ∀ (F T : Ad) (σ : Sl) (H : Hp) (ds : DS) (fp : Nat → Ad) (Q : List D → DS → Prop) (R : It → Hp → Prop), Rep K F T σ H ds fp → t ds Q →
    (∀ items ds' J H' F' fp', Q items ds' → Rep K F' T σ H' ds' fp' → Grow F H F' H' → (∀ a, T a → H' a = H a) → ItD K F' H' J items → R J H') → wi σ H R
structure DI (X : Cx) (tg iter : Expr) (wi : TI) (t : DIT) : Prop where
  pi : PI X tg iter wi
  ok : IOk X.K wi t
def strItems (z : Str) : List D := z.cps.toList.map fun c => .str ⟨#[c]⟩
@[simp] def iSeq (t : DT) : DIT := fun ds Q => t ds fun h ds1 => take1 h ds1 fun d ds2 => match d with
  | .list xs => Q xs ds2
  | .tuple xs => Q xs ds2
  | .str z => Q (strItems z) ds2
  | _ => False
def iAny (K : PySem.W.Frag) (tl : TE) : TI := fun σ H R => tl σ H fun x H1 => (∃ a, x = .ref a ∧ (∃ xs, SqL K H1 a xs) ∧ R (Itl K a) H1) ∨ ((∃ a, x = .ref a ∧ (∃ xs, SqT K H1 a xs) ∧ R (Itt K a) H1) ∨ ∃ z, x = .str z ∧ R (Its z) H1)
theorem pi_any (hl : PE X e te) : PI X tg e (iAny X.K te) := by
  refine ⟨fun pins s σ H R I h => ?_⟩
  refine thn (hl.run pins s σ H _ I h) fun v s1 ⟨x, H1, I1, r1, q1⟩ => ?_
  rcases q1 with ⟨a, e, ⟨xs, hq⟩, q⟩ | ⟨a, e, ⟨xs, hq⟩, q⟩ | ⟨z, e, q⟩
  · subst e
    cases r1
    obtain ⟨its, rv, p, hz⟩ := I1.list hq
    refine wpAny_pyIter_list p.isList ?_
    refine ⟨s1.heap.objs.size, [s1.heap.objs.size], _, _, H1, rfl, I1.kept (t' := s1.toks) fun b o e => Heap.get?_push_of_some _ e, turn_list a _, ⟨_, Heap.get?_push_size _ rfl, rfl, rfl⟩, fun b hb => ?_, q⟩
    have e : b = s1.heap.objs.size := by simpa using hb
    subst e
    exact I1.fpOk (Nat.le_refl _) (I1.hok.fresh (Nat.le_refl _))
  · subst e
    cases r1
    obtain ⟨its, rv, p, hz⟩ := I1.tuple hq
    refine wpAny_pyIter_tuple (show s1.heap.IsTuple a its.toArray from p) ?_
    refine ⟨s1.heap.objs.size, [s1.heap.objs.size], _, _, H1, rfl, I1.kept (t' := s1.toks) fun b o e => Heap.get?_push_of_some _ e, turn_tuple a _, ⟨_, Heap.get?_push_size _ rfl, rfl, rfl⟩, fun b hb => ?_, q⟩
    have e : b = s1.heap.objs.size := by simpa using hb
    subst e
    exact I1.fpOk (Nat.le_refl _) (I1.hok.fresh (Nat.le_refl _))
  · subst e
    obtain ⟨t, rfl⟩ := r1
    cases ha : z.cps.all (· < 128)
    · exact wpAny_pyIter_wide ha (pi_one (tk := s1.toks) I1 _ (turn_str _ z t "str_iterator" (.inr rfl)) ⟨_, Heap.get?_push_size _ rfl, rfl, rfl⟩ q)
    · exact wpAny_pyIter_ascii ha (pi_one (tk := s1.toks) I1 _ (turn_str _ z t "str_ascii_iterator" (.inl rfl)) ⟨_, Heap.get?_push_size _ rfl, rfl, rfl⟩ q)
theorem itd_list {F : Ad} {H : Hp} {a : Addr} {vs : List V} {xs : List D} (ha : Ls K (res F H) a vs) (h : IsA K (res F H) vs xs) : ItD K F H (Itl K a) xs := by
  have key : ∀ F' H', Grow F H F' H' → SqL K H' a vs ∧ IsA K (res F' H') vs xs := fun F' H' g => ⟨(same_l (res_same _ _) (same_l g.same ha)).sq, h.mono g.same⟩
  refine ⟨fun F' H' i g hi => ?_, fun F' H' g => ?_, fun F' H' i x H'' d g hd y => ?_⟩
  · exact walk_list.goes i H' (by rw [h.length]; exact hi) (key F' H' g).1
  · rw [← h.length]; exact walk_list.stops H' (key F' H' g).1
  · obtain ⟨k1, k2⟩ := key F' H' g
    have hi : i < vs.length := by rw [h.length]; exact (List.getElem?_eq_some_iff.mp hd).1
    obtain ⟨e, hx⟩ := walk_list.yields i H' x H'' hi k1 y
    obtain ⟨d', hd', iv⟩ := k2.get' hx
    rw [hd] at hd'; cases hd'
    exact .inl ⟨e, iv⟩
theorem itd_tup {F : Ad} {H : Hp} {a : Addr} {vs : List V} {xs : List D} (ha : SqT K (res F H) a vs) (h : IsA K (res F H) vs xs) : ItD K F H (Itt K a) xs := by
  have key : ∀ F' H', Grow F H F' H' → SqT K H' a vs ∧ IsA K (res F' H') vs xs := fun F' H' g => ⟨same_t (res_same F' H') (same_t g.same ha), h.mono g.same⟩
  refine ⟨fun F' H' i g hi => ?_, fun F' H' g => ?_, fun F' H' i x H'' d g hd y => ?_⟩
  · exact walk_tup.goes i H' (by rw [h.length]; exact hi) (key F' H' g).1
  · rw [← h.length]; exact walk_tup.stops H' (key F' H' g).1
  · obtain ⟨k1, k2⟩ := key F' H' g
    have hi : i < vs.length := by rw [h.length]; exact (List.getElem?_eq_some_iff.mp hd).1
    obtain ⟨e, hx⟩ := walk_tup.yields i H' x H'' hi k1 y
    obtain ⟨d', hd', iv⟩ := k2.get' hx
    rw [hd] at hd'; cases hd'
    exact .inl ⟨e, iv⟩
theorem itd_str {F : Ad} {H : Hp} {z : Str} : ItD K F H (Its z) (strItems z) := by
  have hl : (strItems z).length = z.cps.size := by unfold strItems; rw [List.length_map, Array.length_toList]
  refine ⟨fun F' H' i g hi => walk_str.goes i H' (by rw [hl] at hi; exact hi) trivial, fun F' H' g => by rw [hl]; exact walk_str.stops H' trivial, fun F' H' i x H'' d g hd y => ?_⟩
  have hi : i < z.cps.size := by rw [← hl]; exact (List.getElem?_eq_some_iff.mp hd).1
  obtain ⟨e, c, hc, rfl⟩ := walk_str.yields i H' x H'' hi trivial y
  unfold strItems at hd
  rw [List.getElem?_map, Array.getElem?_toList, hc] at hd
  cases hd
  exact .inl ⟨e, .str _⟩
theorem iok_seq (h : EOk K te t) : IOk K (iAny K te) (iSeq t) := fun F T σ H ds fp Q R r a k => by
  refine h F T σ H ds fp _ _ r a fun h ds1 v H1 F1 fp1 q c p => ?_
  obtain ⟨d, ds2, F2, fp2, e2, r2, g2, i2⟩ := take1_ok p.rep p.qT p.r c
  cases d <;> first | exact False.elim e2 | skip
  · cases i2
    exact .inr (.inr ⟨_, rfl, k _ _ _ _ _ _ e2 r2 (p.g.trans g2) p.t itd_str⟩)
  · cases i2 with
    | lst ha hs => exact .inl ⟨_, rfl, ⟨_, (same_l (res_same _ _) ha).sq⟩, k _ _ _ _ _ _ e2 r2 (p.g.trans g2) p.t (itd_list ha hs)⟩
  · cases i2 with
    | tup ha hs => exact .inr (.inl ⟨_, rfl, ⟨_, same_t (res_same _ _) ha⟩, k _ _ _ _ _ _ e2 r2 (p.g.trans g2) p.t (itd_tup ha hs)⟩)
theorem di_seq (h : DO X e te t) : DI X tg e (iAny X.K te) (iSeq t) := ⟨pi_any h.pe, iok_seq h.ok⟩
/-! ranges -/
def rngD (lo : Int) (n : Nat) : List D := (List.range n).map fun i : Nat => .int (lo + (i : Int))
theorem itd_rng {F : Ad} {H : Hp} {lo : Int} {n : Nat} : ItD K F H (Itr lo n) (rngD lo n) := by
  have hl : (rngD lo n).length = n := by unfold rngD; rw [List.length_map, List.length_range]
  refine ⟨fun F' H' i g hi => walk_range.goes i H' (by rw [hl] at hi; exact hi) trivial, fun F' H' g => by rw [hl]; exact walk_range.stops H' trivial, fun F' H' i x H'' d g hd y => ?_⟩
  have hi : i < n := by rw [← hl]; exact (List.getElem?_eq_some_iff.mp hd).1
  obtain ⟨e, rfl⟩ := walk_range.yields i H' x H'' hi trivial y
  unfold rngD at hd
  rw [List.getElem?_map, List.getElem?_range hi] at hd
  cases hd
  exact .inl ⟨e, .int _⟩
@[simp] def iR1 (t : DT) : DIT := fun ds Q => t ds fun h ds1 => pk ds1 h fun d => match d with
  | .int n => (-(2 ^ 62) ≤ n ∧ n < 2 ^ 62) ∧ Q (rngD 0 n.toNat) ds1
  | _ => False
@[simp] def iR2 (t u : DT) : DIT := fun ds Q => t ds fun h ds1 => u ds1 fun h2 ds2 => pk ds2 h fun d => pk ds2 h2 fun d2 => match d, d2 with
  | .int m, .int n => (-(2 ^ 62) ≤ m ∧ m < 2 ^ 62 ∧ -(2 ^ 62) ≤ n ∧ n < 2 ^ 62) ∧ Q (rngD m (n - m).toNat) ds2
  | _, _ => False
theorem di_r1 {p' : Pos} (hg : Gl X "range") (hm : X.mg "range" = none) (h : DO X e te t) (hs : starEach [e] X.env = [(false, eval e X.env)] := by rfl) : DI X tg (.Call (.Name "range" p') [e] [] pos) (iRng1 (tCons te tNil)) (iR1 t) :=
  ⟨pi_range1 hg hm (pa_cons h.pe pa_nil hs) hs, fun F T σ H ds fp Q R r a k => by
    refine h.ok F T σ H ds fp _ _ r a fun h ds1 v H1 F1 fp1 q c p => ?_
    obtain ⟨d, i, k2⟩ := pk_ok p.rep p.r c
    cases d <;> first | exact False.elim k2 | skip
    rename_i n
    rw [i.int]
    exact ⟨n, rfl, k2.1.1, k2.1.2, k _ _ _ _ _ fp1 k2.2 (p.rep.less fun _ z => .inl z) p.g p.t itd_rng⟩⟩
theorem di_r2 {b : Expr} {tb : TE} {u : DT} {p' : Pos} (hg : Gl X "range") (hm : X.mg "range" = none) (h : DO X e te t) (h' : DO X b tb u) (hs : starEach [e, b] X.env = [(false, eval e X.env), (false, eval b X.env)] := by rfl) (hs2 : starEach [b] X.env = [(false, eval b X.env)] := by rfl) :
    DI X tg (.Call (.Name "range" p') [e, b] [] pos) (iRng2 (tCons te (tCons tb tNil))) (iR2 t u) :=
  ⟨pi_range2 hg hm (pa_cons h.pe (pa_cons h'.pe pa_nil hs2) (by rw [hs, hs2])) hs hs2, fun F T σ H ds fp Q R r a k => by
    refine two_ok h.ok h'.ok (Q := fun d d2 ds2 => match d, d2 with
      | .int m, .int n => (-(2 ^ 62) ≤ m ∧ m < 2 ^ 62 ∧ -(2 ^ 62) ≤ n ∧ n < 2 ^ 62) ∧ Q (rngD m (n - m).toNat) ds2
      | _, _ => False) (R := fun x y H2 => ∃ i j : Int, [x, y] = [V.int i, .int j] ∧ (-(2 ^ 62) ≤ i ∧ i < 2 ^ 62 ∧ -(2 ^ 62) ≤ j ∧ j < 2 ^ 62) ∧ R (Itr i (j - i).toNat) H2) r a fun d e ds' x y H' F' fp' h1 r1 g1 k1 i1 i2 => ?_
    cases d <;> cases e <;> first | exact False.elim h1 | skip
    rename_i m n
    rw [i1.int, i2.int]
    exact ⟨m, n, rfl, h1.1, k _ _ _ _ _ fp' h1.2 r1 g1 k1 itd_rng⟩⟩
/-! zip of two lists, of two tuples: each turn a new pair -/
def zipD (xs ys : List D) : List D := (xs.zip ys).map fun p => .tuple [p.1, p.2]
@[simp] def iZp (t u : DT) : DIT := fun ds Q => t ds fun h ds1 => u ds1 fun h2 ds2 => takes [h, h2] ds2 fun dl ds3 => match dl with
  | [.list xs, .list ys] => Q (zipD xs ys) ds3
  | [.tuple xs, .tuple ys] => Q (zipD xs ys) ds3
  | _ => False
theorem pair_new {F' : Ad} {H' : Hp} {p : Addr} {x y : V} {a b : D} (hp : H' p = none) (ix : Is K (res F' H') x a) (iy : Is K (res F' H') y b) : ∀ F'' : Ad, (∀ a, F' a → F'' a) → F'' p → Is K (res F'' (upd H' p (.tup [x, y]))) (.ref p) (.tuple [a, b]) := fun F'' h1 h2 => by
  have s : Same (res F' H') (res F'' (upd H' p (.tup [x, y]))) := fun c o e => by
    obtain ⟨f, e⟩ := res_some e
    rw [res_in (h1 c f), upd_ne (ne_of_none e hp)]; exact e
  exact .tup (.of (by rw [res_in h2, upd_same])) (.cons (ix.mono s) (.cons (iy.mono s) .nil))
theorem itd_zip {F : Ad} {H : Hp} {J : It} {xs ys : List D} {G : Hp → Prop} {vs ws : List V} (w : Walk J (min vs.length ws.length) G (YPair (fun i => vs[i]?) fun i => ws[i]?)) (hv : IsA K (res F H) vs xs) (hw : IsA K (res F H) ws ys) (hG : ∀ F' H', Grow F H F' H' → G H') : ItD K F H J (zipD xs ys) := by
  have hl : (zipD xs ys).length = min vs.length ws.length := by unfold zipD; rw [List.length_map, List.length_zip, hv.length, hw.length]
  refine ⟨fun F' H' i g hi => w.goes i H' (by rw [hl] at hi; exact hi) (hG F' H' g), fun F' H' g => by rw [hl]; exact w.stops H' (hG F' H' g), fun F' H' i x H'' d g hd y => ?_⟩
  have hi : i < min vs.length ws.length := by rw [← hl]; exact (List.getElem?_eq_some_iff.mp hd).1
  obtain ⟨p, a, b, rfl, hp, rfl, h1, h2⟩ := w.yields i H' x H'' hi (hG F' H' g) y
  obtain ⟨a', ha, ia⟩ := (hv.mono g.same).get' h1
  obtain ⟨b', hb, ib⟩ := (hw.mono g.same).get' h2
  unfold zipD at hd
  rw [List.getElem?_map, show (xs.zip ys)[i]? = some (a', b') from List.getElem?_zip_eq_some.mpr ⟨ha, hb⟩] at hd
  cases hd
  exact .inr ⟨p, _, hp, rfl, trivial, pair_new hp ia ib⟩
theorem walk_zipT {a b : Addr} {xs ys : List V} {n : Nat} (hn : n = min xs.length ys.length) : Walk (RZ.ItzT K a b) n (fun H => SqT K H a xs ∧ SqT K H b ys) (YPair (fun i => xs[i]?) (fun i => ys[i]?)) := by
  subst hn
  refine ⟨fun i _ hi q => ?_, fun _ q => ⟨xs, ys, q.1, q.2, by omega⟩, fun i H v H' _ q y => ?_⟩
  · have h1 : i < xs.length := by omega
    have h2 : i < ys.length := by omega
    exact ⟨xs, ys, xs[i], ys[i], q.1, q.2, by simp [h1], by simp [h2]⟩
  · obtain ⟨T, x, z, h1, h2, h3, h4, h5⟩ := y
    exact ⟨T, x, z, h1, h2, h3, h4 xs q.1, h5 ys q.2⟩
theorem di_zip {b : Expr} {tb : TE} {u : DT} {p' tpos : Pos} {elts : List Expr} {kk : Nat} (hg : Gl X "zip") (hm : X.mg "zip" = none) (h : DO X e te t) (h' : DO X b tb u) (hs : starEach [e, b] X.env = (false, eval e X.env) :: starEach [b] X.env := by rfl)
    (hs2 : starEach [b] X.env = (false, eval b X.env) :: starEach [] X.env := by rfl) (hpl : (backTo pos (starEach [b] X.env)).any (·.1) = false := by rfl) :
    DI X (.Tuple elts kk tpos) (.Call (.Name "zip" p') [e, b] [] pos) (RZ.iZipA X.K (tCons te (tCons tb tNil))) (iZp t u) :=
  ⟨RZ.pi_zipA hg hm (pa_cons h.pe (pa_cons h'.pe pa_nil hs2) hs) hs hpl, fun F T σ H ds fp Q R r a k => by
    refine aok_cons h.ok (aok_cons h'.ok aok_nil) F T σ H ds fp (fun hs ds2 => takes hs ds2 fun dl ds3 => match dl with
      | [.list xs, .list ys] => Q (zipD xs ys) ds3
      | [.tuple xs, .tuple ys] => Q (zipD xs ys) ds3
      | _ => False) _ r a fun hs ds1 vs H1 F1 fp1 q1 k1 p1 l1 => ?_
    obtain ⟨dl, ds2, F2, fp2, e2, r2, g2, i2⟩ := takes_ok p1.r .refl p1.rep p1.qT k1
    match dl, i2, e2 with
    | [.list xs, .list ys], .cons (.lst ha ia) (.cons (.lst hb ib) .nil), e2 =>
      exact ⟨_, _, _, _, rfl, .inl ⟨(same_l (res_same _ _) ha).sq, (same_l (res_same _ _) hb).sq, k _ _ _ _ _ _ e2 r2 (p1.g.trans g2) p1.t (itd_zip (walk_zip rfl) ia ib fun F' H' g => ⟨(same_l (res_same _ _) (same_l g.same ha)).sq, (same_l (res_same _ _) (same_l g.same hb)).sq⟩)⟩⟩
    | [.tuple xs, .tuple ys], .cons (.tup ha ia) (.cons (.tup hb ib) .nil), e2 =>
      exact ⟨_, _, _, _, rfl, .inr ⟨same_t (res_same _ _) ha, same_t (res_same _ _) hb, k _ _ _ _ _ _ e2 r2 (p1.g.trans g2) p1.t (itd_zip (walk_zipT rfl) ia ib fun F' H' g => ⟨same_t (res_same _ _) (same_t g.same ha), same_t (res_same _ _) (same_t g.same hb)⟩)⟩⟩⟩
end

/-! ### for -/
def loopD (g : DGT) (b : DM) : List D → DM
  | [], E, ds => E.nx ds
  | d :: r, E, ds => g d ds fun ds1 => b { E with nx := loopD g b r E, ct := loopD g b r E, bk := E.nx } ds1
@[simp] def mFor (ti : DIT) (g : DGT) (b : DM) : DM := fun E ds => ti ds fun items ds1 => loopD g b items E ds1
section
variable {X : Cx} {K : PySem.W.Frag} {tg iter c : Expr} {body : List Stmt} {wi : TI} {g : TG} {us : List Nat} {ts : TS} {ti : DIT} {gt : DGT} {b : DM} {pos : Pos} {tt : TT} {p : DTT}
/-- what a turn hands over -/
theorem yld_rep {F T : Ad} {σ : Sl} {H H'' : Hp} {ds : DS} {fp : Nat → Ad} {x : V} {d : D} (r : Rep K F T σ H ds fp) (y : (H'' = H ∧ Is K (res F H) x d) ∨ ∃ p o, H p = none ∧ H'' = upd H p o ∧ seqO o ∧ ∀ F'' : Ad, (∀ a, F a → F'' a) → F'' p → Is K (res F'' H'') x d) :
    ∃ F'', Rep K F'' T σ H'' ds fp ∧ Grow F H F'' H'' ∧ (∀ a, T a → H'' a = H a) ∧ Is K (res F'' H'') x d ∧ ∀ a o, H a = some o → H'' a = some o := by
  rcases y with ⟨rfl, i⟩ | ⟨p, o, hp, rfl, so, i⟩
  · exact ⟨F, r, .refl, fun _ _ => rfl, i, fun _ _ e => e⟩
  · obtain ⟨r1, g, k⟩ := r.newF hp so
    exact ⟨_, r1, g, k, i _ (fun a f => .inl f) (.inr rfl), fun a o e => by rw [upd_ne (ne_of_none e hp)]; exact e⟩
theorem sok_for (hi : IOk K wi ti) (hg : GOk K g us gt) (hb : SOk K ts b) : SOk K (tFor wi g ts) (mFor ti gt b) := fun F σ H ds fp E D r a k => by
  refine hi F _ σ H ds fp _ _ r a fun items ds1 J H1 F1 fp1 h1 r1 g1 _ I => ?_
  refine ⟨fun i m σ' H' => i + m = items.length ∧ ∃ ds' F' fp', loopD gt b (items.drop i) E ds' ∧ Rep K F' Ad.nil σ' H' ds' fp' ∧ Grow F1 H1 F' H', ⟨items.length, by omega, ds1, F1, fp1, h1, r1, .refl⟩, ?_⟩
  rintro i m σ' H' ⟨hm, ds', F', fp', h', r', g'⟩
  by_cases hlt : i < items.length
  · refine .inr ⟨I.go F' H' i g' hlt, fun σ'' H'' => ∃ ds' F' fp', loopD gt b (items.drop (i + 1)) E ds' ∧ Rep K F' Ad.nil σ'' H'' ds' fp' ∧ Grow F1 H1 F' H'', fun σ'' H'' z => ⟨m - 1, by omega, by omega, z⟩, fun x H2 y => ?_⟩
    rw [List.drop_eq_getElem_cons hlt] at h'
    obtain ⟨F2, r2, g2, _, i2, _⟩ := yld_rep r' (I.yld F' H' i x H2 items[i] g' (List.getElem?_eq_getElem hlt) y)
    refine hg F2 _ σ' H2 ds' fp' x items[i] _ _ r2 i2 h' fun σ3 ds3 fp3 h3 r3 _ _ => ?_
    refine hb F2 σ3 H2 ds3 fp3 _ _ r3 h3 ⟨fun σ4 H4 ds4 F4 fp4 a4 r4 g4 => ⟨ds4, F4, fp4, a4, r4, (g'.trans g2).trans g4⟩, fun h ds4 v σ4 H4 F4 fp4 q a4 p4 => ?_, fun σ4 H4 ds4 F4 fp4 a4 r4 g4 => ?_, fun σ4 H4 ds4 F4 fp4 a4 r4 g4 => ⟨ds4, F4, fp4, a4, r4, (g'.trans g2).trans g4⟩⟩
    · exact k.rt _ _ _ _ _ _ _ _ a4 (p4.pre (((g1.trans g').trans g2)) fun _ z => z.elim)
    · exact k.nx _ _ _ _ _ a4 r4 (((g1.trans g').trans g2).trans g4)
  · have e : i = items.length := by omega
    subst e
    rw [List.drop_length] at h'
    exact .inl ⟨I.stop F' H' g', k.nx _ _ _ _ _ h' r' (g1.trans g')⟩
theorem ds_for (hp : PassesOwn (model X.prog X.w) X.A X.env X.xe) (hi : DI X tg iter wi ti) (hg : DG X tg g us gt) (hb : DSs X body ts b) (hc : X.calm = true := by rfl) (hs : ∀ x, foldedSetIterable iter X.env x = pure x := by intro _; rfl) :
    DSt X (.For tg iter body [] pos) (tFor wi g ts) (mFor ti gt b) := ⟨ps_for hp hc hi.pi hg.pg hb.ps hs, sok_for hi.ok hg.ok hb.ok⟩

/-! ### while -/
def whileD (c : DTT) (b : DM) : Nat → DM
  | 0, _, _ => False
  | n + 1, E, ds => c ds fun k ds1 => if k = true then b { E with nx := whileD c b n E, ct := whileD c b n E, bk := E.nx } ds1 else E.nx ds1
def mWhile (c : DTT) (b : DM) : DM := fun E ds => ∃ n, whileD c b n E ds
theorem sok_while (hc : BTOk K tt p) (hb : SOk K ts b) : SOk K (tWhile tt ts) (mWhile p b) := fun F σ H ds fp E D r ⟨n, a⟩ k => by
  refine ⟨fun m σ' H' => ∃ ds' F' fp', whileD p b m E ds' ∧ Rep K F' Ad.nil σ' H' ds' fp' ∧ Grow F H F' H', ⟨n, ds, F, fp, a, r, .refl⟩, ?_⟩
  rintro m σ' H' ⟨ds', F', fp', h', r', g'⟩
  cases m with
  | zero => exact False.elim h'
  | succ m =>
    refine hc F' _ σ' H' ds' fp' _ _ r' h' fun kk ds2 H2 F2 fp2 h2 r2 g2 _ => ?_
    cases kk with
    | false => exact k.nx _ _ _ _ _ h2 r2 (g'.trans g2)
    | true =>
      refine ⟨fun σ'' H'' => ∃ ds' F' fp', whileD p b m E ds' ∧ Rep K F' Ad.nil σ'' H'' ds' fp' ∧ Grow F H F' H'', fun σ'' H'' z => ⟨m, Nat.lt_succ_self m, z⟩, ?_⟩
      refine hb F2 σ' H2 ds2 fp2 _ _ r2 h2 ⟨fun σ4 H4 ds4 F4 fp4 a4 r4 g4 => ⟨ds4, F4, fp4, a4, r4, (g'.trans g2).trans g4⟩, fun h ds4 v σ4 H4 F4 fp4 q a4 p4 => ?_, fun σ4 H4 ds4 F4 fp4 a4 r4 g4 => ?_, fun σ4 H4 ds4 F4 fp4 a4 r4 g4 => ⟨ds4, F4, fp4, a4, r4, (g'.trans g2).trans g4⟩⟩
      · exact k.rt _ _ _ _ _ _ _ _ a4 (p4.pre (g'.trans g2) fun _ z => z.elim)
      · exact k.nx _ _ _ _ _ a4 r4 ((g'.trans g2).trans g4)
theorem ds_while (hp : PassesOwn (model X.prog X.w) X.A X.env X.xe) (hc : DB X c tt p) (hb : DSs X body ts b) : DSt X (.While c body [] pos) (tWhile tt ts) (mWhile p b) := ⟨ps_while hp hc.pt hb.ps, sok_while hc.ok hb.ok⟩
end
end DL

/-! DL: comprehensions, a def's body. -/
namespace DL
open PySem PySem.Spec PyProof.Rows L2

structure DCs (X : Cx) (ifs : List Expr) (tt : TT) (t : DTT) : Prop where
  pt : PTs X ifs tt
  ok : BTOk X.K tt t
/-- what an expression needs, told by its data alone -/
def tStar (K : PySem.W.Frag) (t : DT) : TE := fun σ H R => ∃ (F T : Ad) (ds : DS) (fp : Nat → Ad) (Q : QE), Rep K F T σ H ds fp ∧ t ds Q ∧ ∀ h ds' v H' F' fp' q, Q h ds' → Pst K F T H σ v h ds' F' H' fp' q → R v H'
theorem DO.star {X : Cx} {e : Expr} {te : TE} {t : DT} (h : DO X e te t) : DO X e (tStar X.K t) t :=
  ⟨⟨fun pins s σ H Q I ⟨F, T, ds, fp, D, r, a, k⟩ => h.pe.run pins s σ H Q I (h.ok F T σ H ds fp D Q r a k)⟩, fun F T σ H ds fp Q R r a k => ⟨F, T, ds, fp, Q, r, a, k⟩⟩
def tStarB (K : PySem.W.Frag) (t : DTT) : TT := fun σ H R => ∃ (F T : Ad) (ds : DS) (fp : Nat → Ad) (Q : Bool → DS → Prop), Rep K F T σ H ds fp ∧ t ds Q ∧ ∀ b ds' H' F' fp', Q b ds' → Rep K F' T σ H' ds' fp' → Grow F H F' H' → (∀ a, T a → H' a = H a) → R b H'
theorem DCs.star {X : Cx} {ifs : List Expr} {tt : TT} {t : DTT} (h : DCs X ifs tt t) : DCs X ifs (tStarB X.K t) t :=
  ⟨⟨fun pins s σ H Q I ⟨F, T, ds, fp, D, r, a, k⟩ => h.pt.run pins s σ H Q I (h.ok F T σ H ds fp D Q r a k)⟩, fun F T σ H ds fp Q R r a k => ⟨F, T, ds, fp, Q, r, a, k⟩⟩
@[simp] def cYes : DTT := fun ds Q => Q true ds
theorem dcs_nil {X : Cx} : DCs X [] tYes cYes := ⟨pts_nil, fun F T σ H ds fp Q R r h k => k _ _ _ _ _ h r .refl fun _ _ => rfl⟩
theorem dcs_one {X : Cx} {c : Expr} {tt : TT} {t : DTT} (h : DB X c tt t) : DCs X [c] tt t := ⟨pts_one h.pt, h.ok⟩

@[simp] def wipeD (ds : DS) : List Nat → DS
  | [] => ds
  | v :: vs => (wipeD ds vs).set v .no
@[simp] def keepV : SD → SD
  | .val d => .val d
  | _ => .no
@[simp] def restD (vs : List Nat) : Nat → DS → DS → DS
  | k, a :: as, b :: bs => (if vs.contains k = true then keepV a else b) :: restD vs (k + 1) as bs
  | _, _, bs => bs
section
variable {K : PySem.W.Frag} {F F' F1 T T1 : Ad} {σ : Sl} {H H' H1 : Hp} {ds ds1 ds2 : DS} {fp fp1 fp2 : Nat → Ad} {v : Nat} {vs : List Nat}
theorem Rep.unset (r : Rep K F T σ H ds fp) (v : Nat) : Rep K F T (σ.set v none) H (ds.set v .no) (fun j a => j ≠ v ∧ fp j a) := by
  refine ⟨by rw [List.length_set, List.length_set]; exact r.len, fun j s e => ?_, fun j a h => by rw [List.length_set]; exact r.out j a h.2, fun j a h => r.fF j a h.2, fun j a h => r.fT j a h.2, fun i j a h h' => r.sep i j a h.2 h'.2, r.tF, r.fd, r.td⟩
  by_cases hj : j = v
  · subst hj
    have hi : j < ds.length := by have := (List.getElem?_eq_some_iff.mp e).1; rw [List.length_set] at this; exact this
    rw [List.getElem?_set_self hi] at e; cases e
    exact fun a z => z.1 rfl
  · rw [List.getElem?_set_ne (Ne.symm hj)] at e
    rw [List.getElem?_set_ne (Ne.symm hj)]
    exact (r.slot j s e).fpx fun a => ⟨fun z => z.2, fun z => ⟨hj, z⟩⟩
theorem Rep.wipe (r : Rep K F T σ H ds fp) : ∀ vs : List Nat, ∃ fp', Rep K F T (wipe σ vs) H (wipeD ds vs) fp'
  | [] => ⟨fp, r⟩
  | v :: vs => by
    obtain ⟨fp', r'⟩ := Rep.wipe r vs
    exact ⟨_, r'.unset v⟩
theorem restD_get : ∀ (vs : List Nat) (k : Nat) (ds1 ds2 : DS) (i : Nat), ds1.length = ds2.length → (restD vs k ds1 ds2)[i]? = if vs.contains (k + i) = true then ds1[i]?.map keepV else ds2[i]?
  | vs, k, [], [], i, _ => by simp [restD]
  | vs, k, a :: as, b :: bs, 0, _ => by
    simp only [restD, Nat.add_zero, List.getElem?_cons_zero, Option.map_some]
    split <;> rfl
  | vs, k, a :: as, b :: bs, i + 1, h => by
    simp only [restD, List.getElem?_cons_succ]
    rw [restD_get vs (k + 1) as bs i (by simpa using h)]
    rw [show k + 1 + i = k + (i + 1) by omega]
theorem restD_len : ∀ (vs : List Nat) (k : Nat) (ds1 ds2 : DS), (restD vs k ds1 ds2).length = ds2.length
  | _, _, [], _ => by simp [restD]
  | _, _, _ :: _, [] => by simp [restD]
  | vs, k, a :: as, b :: bs => by simp [restD, restD_len vs (k + 1) as bs]
theorem wipe_in {σ : Sl} {i : Nat} : ∀ {vs : List Nat}, i ∈ vs → (L2.wipe σ vs)[i]? = if i < σ.length then some none else none
  | v :: vs, h => by
    unfold L2.wipe
    by_cases e : i = v
    · subst e
      by_cases hi : i < σ.length
      · rw [List.getElem?_set_self (by rw [wipe_length]; exact hi), if_pos hi]
      · rw [List.getElem?_eq_none (by rw [List.length_set, wipe_length]; omega), if_neg hi]
    · rw [List.getElem?_set_ne (Ne.symm e)]
      exact wipe_in ((List.mem_cons.mp h).resolve_left e)
theorem wipe_eq {σ σ2 : Sl} {us vs : List Nat} (hl : σ2.length = (L2.wipe σ vs).length) (h : ∀ j, j ∉ us → σ2[j]? = (L2.wipe σ vs)[j]?) (hs : ∀ i ∈ us, i ∈ vs) : L2.wipe σ2 vs = L2.wipe σ vs := by
  rw [wipe_length] at hl
  apply List.ext_getElem?
  intro j
  by_cases hj : j ∈ vs
  · rw [wipe_in hj, wipe_in hj, hl]
  · rw [wipe_out hj, h j fun z => hj (hs j z)]
open Classical in
theorem Rep.unwipe (r : Rep K F' T (L2.wipe σ vs) H' ds2 fp2) (r1 : Rep K F1 T1 σ H1 ds1 fp1) (g : Grow F1 H1 F' H') : Rep K F' T σ H' (restD vs 0 ds1 ds2) (fun j a => j ∉ vs ∧ fp2 j a) := by
  have l2 : ds2.length = σ.length := by rw [r.len, wipe_length]
  refine ⟨by rw [restD_len]; exact l2, fun j s e => ?_, fun j a h => by rw [restD_len]; exact r.out j a h.2, fun j a h => r.fF j a h.2, fun j a h => r.fT j a h.2, fun i j a h h' => r.sep i j a h.2 h'.2, r.tF, r.fd, r.td⟩
  rw [restD_get vs 0 ds1 ds2 j (r1.len.trans l2.symm), Nat.zero_add] at e
  by_cases hj : j ∈ vs
  · rw [if_pos (List.contains_iff_mem.mpr hj)] at e
    cases h1 : ds1[j]? with
    | none => rw [h1] at e; cases e
    | some s1 =>
      rw [h1] at e
      cases e
      have z := r1.slot j s1 h1
      cases s1 with
      | val d =>
        obtain ⟨⟨v, e1, i1⟩, _⟩ := z
        exact ⟨⟨v, e1, i1.mono g.same⟩, fun a z => z.1 hj⟩
      | no => exact fun a z => z.1 hj
      | own _ => exact fun a z => z.1 hj
      | dic _ => exact fun a z => z.1 hj
      | wd _ => exact fun a z => z.1 hj
      | ob _ => exact fun a z => z.1 hj
  · rw [if_neg fun z => hj (List.contains_iff_mem.mp z)] at e
    have z := r.slot j s e
    rw [wipe_out hj] at z
    exact z.fpx fun a => ⟨fun z => z.2, fun z => ⟨hj, z⟩⟩
end
def compD (g : DGT) (c : DTT) (t : DT) (vs : List Nat) : List D → List D → DS → (List D → DS → Prop) → Prop
  | [], acc, ds, P => P acc ds
  | d :: r, acc, ds, P => g d ds fun ds1 => c ds1 fun b ds2 => if b = true then t ds2 fun h ds3 => take1 h ds3 fun x ds4 => compD g c t vs r (acc ++ [x]) (wipeD ds4 vs) P else compD g c t vs r acc (wipeD ds2 vs) P
@[simp] def dComp (ti : DIT) (g : DGT) (c : DTT) (t : DT) (vs : List Nat) : DT := fun ds Q => ti ds fun items ds1 => items.length ≤ sizeLine ∧ compD g c t vs items [] (wipeD ds1 vs) fun out ds2 => Q (.new (.own out)) (restD vs 0 ds1 ds2)
section
variable {X : Cx} {K : PySem.W.Frag} {elt tg iter : Expr} {ifs : List Expr} {scope : Scope} {own : List (Str × Nat)} {wi : TI} {g : TG} {us vs : List Nat} {tt : TT} {te : TE} {ti : DIT} {gt : DGT} {ct : DTT} {et : DT} {pos spos py : Pos} {i : Nat} {y : Str}
theorem eok_comp (hi : IOk K wi ti) (hg : GOk K g us gt) (hsub : ∀ i ∈ us, i ∈ vs) (hc : BTOk K tt ct) (he : EOk K te et) : EOk K (tLc wi g tt te vs) (dComp ti gt ct et vs) := fun F T σ H ds fp Q R r a k => by
  refine hi F T σ H ds fp _ _ r a fun items ds1 J H1 F1 fp1 h1 r1 g1 t1 I => ?_
  intro L hL
  obtain ⟨r2, g2, t2⟩ := r1.newT (o := .lst []) hL trivial
  obtain ⟨fp2, r2⟩ := r2.wipe vs
  obtain ⟨nF, nT, _⟩ := r1.new_ne hL
  refine ⟨fun i m H' => i + m = items.length ∧ ∃ acc accV ds' F' fp', compD gt ct et vs (items.drop i) acc ds' (fun out ds2 => Q (.new (.own out)) (restD vs 0 ds1 ds2)) ∧ Rep K F' (T.or (· = L)) (L2.wipe σ vs) H' ds' fp' ∧ Grow F1 H1 F' H' ∧
    (∀ a, T a → H' a = H1 a) ∧ H' L = some (.lst accV) ∧ IsA K (res F' H') accV acc ∧ acc.length ≤ i, ⟨items.length, by omega, [], [], _, F1, fp2, h1.2, r2, g2, t2, upd_same, .nil, Nat.le_refl _⟩, ?_⟩
  rintro i m H' ⟨hm, acc, accV, ds', F', fp', h', r', g', t', hL', ia, hacc⟩
  by_cases hlt : i < items.length
  · refine .inr ⟨I.go F' H' i g' hlt, fun H'' => ∃ acc accV ds' F' fp', compD gt ct et vs (items.drop (i + 1)) acc ds' (fun out ds2 => Q (.new (.own out)) (restD vs 0 ds1 ds2)) ∧ Rep K F' (T.or (· = L)) (L2.wipe σ vs) H'' ds' fp' ∧ Grow F1 H1 F' H'' ∧
      (∀ a, T a → H'' a = H1 a) ∧ H'' L = some (.lst accV) ∧ IsA K (res F' H'') accV acc ∧ acc.length ≤ i + 1, fun H'' z => ⟨m - 1, by omega, by omega, z⟩, fun x H2 y => ?_⟩
    rw [List.drop_eq_getElem_cons hlt] at h'
    obtain ⟨F2, r2, g2, t2, i2, kp⟩ := yld_rep r' (I.yld F' H' i x H2 items[i] g' (List.getElem?_eq_getElem hlt) y)
    refine hg F2 _ _ H2 ds' fp' x items[i] _ _ r2 i2 h' fun σ3 ds3 fp3 h3 r3 l3 o3 => ?_
    have hw : L2.wipe σ3 vs = L2.wipe σ vs := wipe_eq l3 o3 hsub
    refine ⟨hw, ?_⟩
    refine hc F2 _ σ3 H2 ds3 fp3 _ _ r3 h3 fun b ds4 H4 F4 fp4 h4 r4 g4 t4 => ?_
    have hL4 : H4 L = some (.lst accV) := by rw [t4 L (.inr rfl), t2 L (.inr rfl)]; exact hL'
    cases b with
    | false =>
      obtain ⟨fp5, r5⟩ := r4.wipe vs
      rw [hw] at r5
      exact ⟨acc, accV, _, F4, fp5, h4, r5, (g'.trans g2).trans g4, fun a z => (t4 a (.inl z)).trans ((t2 a (.inl z)).trans (t' a z)), hL4, (ia.mono g2.same).mono g4.same, by omega⟩
    | true =>
      show te σ3 H4 _
      refine he F4 _ σ3 H4 ds4 fp4 _ _ r4 h4 fun h ds5 v H5 F5 fp5 q5 k5 p5 => ?_
      obtain ⟨d, ds6, F6, fp6, k6, r6, g6, i6⟩ := take1_ok p5.rep p5.qT p5.r k5
      have hL5 : H5 L = some (.lst accV) := by rw [p5.t L (.inr rfl)]; exact hL4
      have nF6 : ¬ F6 L := r6.tF L (.inr rfl)
      have G6 : Grow F6 H5 F6 (upd H5 L (.lst (accV ++ [v]))) := fun a f => ⟨f, upd_ne (ne_by f nF6)⟩
      have r7 : Rep K F6 (T.or (· = L)) σ3 (upd H5 L (.lst (accV ++ [v]))) ds6 fp6 := by
        refine r6.go G6 (fun i a z => ⟨upd_ne fun e => ?_, r6.fF i a z, r6.fT i a z⟩) r6.tF (fun a f => ?_) fun a z => ?_
        · exact r6.fT i a z (.inr e)
        · rw [upd_ne (ne_by f nF6)]; exact r6.fd a f
        · by_cases e : a = L
          · rw [e, upd_same]; exact ⟨_, rfl, trivial⟩
          · rw [upd_ne e]; exact r6.td a z
      obtain ⟨fp8, r8⟩ := r7.wipe vs
      rw [hw] at r8
      have G : Grow F1 H1 F6 (upd H5 L (.lst (accV ++ [v]))) := ((((g'.trans g2).trans g4).trans p5.g).trans g6).trans G6
      have ia6 : IsA K (res F6 H5) accV acc := (((ia.mono g2.same).mono g4.same).mono p5.g.same).mono g6.same
      refine ⟨accV, hL5, ?_, acc ++ [d], accV ++ [v], _, F6, fp8, k6, r8, G, fun a z => ?_, upd_same, (ia6.append (.cons i6 .nil)).mono G6.same, ?_⟩
      · rw [ia6.length]
        have := h1.1
        omega
      · have : a ≠ L := ne_by z nT
        rw [upd_ne this, p5.t a (.inl z), t4 a (.inl z), t2 a (.inl z), t' a z]
      · rw [List.length_append, List.length_singleton]; omega
  · have e : i = items.length := by omega
    subst e
    rw [List.drop_length] at h'
    refine .inl ⟨I.stop F' H' g', ?_⟩
    refine k _ _ _ _ _ _ (· = L) h' ⟨r'.unwipe r1 g', fun a z t => nT (z ▸ t), g1.trans g', fun a z => (t' a z).trans (t1 a z), ⟨L, accV, rfl, fun _ => Iff.rfl, hL', ia⟩⟩
theorem do_comp0 (hN : X.N.Nodup) (hi : DI X tg iter wi ti) (ok : BlkOk X.N X.env.scope scope own)
    (hg : ∀ (s : Shared) (H : Hp) (C : Addr) (cl : List (Str × Addr)) (fp : List Addr), DG (X.blk s H scope (compEnvC scope cl C X.env) fp) tg g us gt)
    (ht : ∀ (s : Shared) (H : Hp) (C : Addr) (cl : List (Str × Addr)) (fp : List Addr), DCs (X.blk s H scope (compEnvC scope cl C X.env) fp) ifs tt ct)
    (he : ∀ (s : Shared) (H : Hp) (C : Addr) (cl : List (Str × Addr)) (fp : List Addr), DO (X.blk s H scope (compEnvC scope cl C X.env) fp) elt te et)
    (hsub : ∀ i ∈ us, i ∈ own.map (·.2)) (hc : X.calm = true) (hs : ∀ x, foldedSetIterable iter X.env x = pure x) :
    DO X (.ListComp elt [⟨tg, iter, ifs, 0⟩] scope pos) (tLc wi g tt te (own.map (·.2))) (dComp ti gt ct et (own.map (·.2))) :=
  ⟨pe_lc hc hN hi.pi ok (fun s H C cl fp => (hg s H C cl fp).pg) (fun s H C cl fp => (ht s H C cl fp).pt) (fun s H C cl fp => (he s H C cl fp).pe) hs,
    eok_comp hi.ok (hg X.s_0 X.H_0 0 [] []).ok hsub (ht X.s_0 X.H_0 0 [] []).ok (he X.s_0 X.H_0 0 [] []).ok⟩
theorem ds_setc0 (hN : X.N.Nodup) (hi : DI X tg iter wi ti) (ok : BlkOk X.N X.env.scope scope own)
    (hg : ∀ (s : Shared) (H : Hp) (C : Addr) (cl : List (Str × Addr)) (fp : List Addr), DG (X.blk s H scope (compEnvC scope cl C X.env) fp) tg g us gt)
    (ht : ∀ (s : Shared) (H : Hp) (C : Addr) (cl : List (Str × Addr)) (fp : List Addr), DCs (X.blk s H scope (compEnvC scope cl C X.env) fp) ifs tt ct)
    (he : ∀ (s : Shared) (H : Hp) (C : Addr) (cl : List (Str × Addr)) (fp : List Addr), DO (X.blk s H scope (compEnvC scope cl C X.env) fp) elt te et)
    (hsw : swapsWith (.ListComp elt [⟨tg, iter, ifs, 0⟩] scope pos) (some (.Name y py)) spos.line X.env = pure true)
    (hy : X.N[i]? = some y := by rfl) (hyl : X.env.scope.names.lookup y = some .local := by rfl)
    (hsub : ∀ i ∈ us, i ∈ own.map (·.2)) (hc : X.calm = true) (hs : ∀ x, foldedSetIterable iter X.env x = pure x) :
    DSt X (.Assign [.Name y py] (.ListComp elt [⟨tg, iter, ifs, 0⟩] scope pos) spos) (tAsg (tLc wi g tt te (own.map (·.2))) (gName i)) (mSet i (dComp ti gt ct et (own.map (·.2)))) :=
  ⟨ps_setLc hc hN hy hyl hsw hi.pi ok (fun s H C cl fp => (hg s H C cl fp).pg) (fun s H C cl fp => (ht s H C cl fp).pt) (fun s H C cl fp => (he s H C cl fp).pe) hs,
    sok_set (eok_comp hi.ok (hg X.s_0 X.H_0 0 [] []).ok hsub (ht X.s_0 X.H_0 0 [] []).ok (he X.s_0 X.H_0 0 [] []).ok)⟩
theorem do_comp (hN : X.N.Nodup) (hi : DI X tg iter wi ti) (ok : BlkOk X.N X.env.scope scope own)
    (hg : ∀ (s : Shared) (H : Hp) (C : Addr) (cl : List (Str × Addr)) (fp : List Addr), DG (X.blk s H scope (compEnvC scope cl C X.env) fp) tg g us gt)
    (ht : ∀ (s : Shared) (H : Hp) (C : Addr) (cl : List (Str × Addr)) (fp : List Addr), ∃ tt, DCs (X.blk s H scope (compEnvC scope cl C X.env) fp) ifs tt ct)
    (he : ∀ (s : Shared) (H : Hp) (C : Addr) (cl : List (Str × Addr)) (fp : List Addr), ∃ te, DO (X.blk s H scope (compEnvC scope cl C X.env) fp) elt te et)
    (hsub : ∀ i ∈ us, i ∈ own.map (·.2)) (hc : X.calm = true) (hs : ∀ x, foldedSetIterable iter X.env x = pure x) :
    DO X (.ListComp elt [⟨tg, iter, ifs, 0⟩] scope pos) (tLc wi g (tStarB X.K ct) (tStar X.K et) (own.map (·.2))) (dComp ti gt ct et (own.map (·.2))) :=
  do_comp0 hN hi ok hg (fun s H C cl fp => (ht s H C cl fp).elim fun _ z => z.star) (fun s H C cl fp => (he s H C cl fp).elim fun _ z => z.star) hsub hc hs
theorem ds_setc (hN : X.N.Nodup) (hi : DI X tg iter wi ti) (ok : BlkOk X.N X.env.scope scope own)
    (hg : ∀ (s : Shared) (H : Hp) (C : Addr) (cl : List (Str × Addr)) (fp : List Addr), DG (X.blk s H scope (compEnvC scope cl C X.env) fp) tg g us gt)
    (ht : ∀ (s : Shared) (H : Hp) (C : Addr) (cl : List (Str × Addr)) (fp : List Addr), ∃ tt, DCs (X.blk s H scope (compEnvC scope cl C X.env) fp) ifs tt ct)
    (he : ∀ (s : Shared) (H : Hp) (C : Addr) (cl : List (Str × Addr)) (fp : List Addr), ∃ te, DO (X.blk s H scope (compEnvC scope cl C X.env) fp) elt te et)
    (hsw : swapsWith (.ListComp elt [⟨tg, iter, ifs, 0⟩] scope pos) (some (.Name y py)) spos.line X.env = pure true)
    (hy : X.N[i]? = some y := by rfl) (hyl : X.env.scope.names.lookup y = some .local := by rfl)
    (hsub : ∀ i ∈ us, i ∈ own.map (·.2)) (hc : X.calm = true) (hs : ∀ x, foldedSetIterable iter X.env x = pure x) :
    DSt X (.Assign [.Name y py] (.ListComp elt [⟨tg, iter, ifs, 0⟩] scope pos) spos) (tAsg (tLc wi g (tStarB X.K ct) (tStar X.K et) (own.map (·.2))) (gName i)) (mSet i (dComp ti gt ct et (own.map (·.2)))) :=
  ds_setc0 hN hi ok hg (fun s H C cl fp => (ht s H C cl fp).elim fun _ z => z.star) (fun s H C cl fp => (he s H C cl fp).elim fun _ z => z.star) hsw hy hyl hsub hc hs
end

/-! ### a def over data -/
@[simp] def retD : Hd → DS → (SD → Prop) → Prop
  | .tmp d, _, Q => Q (.val d)
  | .new s, _, Q => Q s
  | .slot i, ds, Q => match ds[i]? with
    | some (.val d) => Q (.val d)
    | some (.own xs) => Q (.own xs)
    | _ => False
  | .fld _ _ _, _, _ => False
@[simp] def enF (P : SD → Prop) : En := ⟨fun _ => P (.val .none), fun h ds => retD h ds P, fun _ => False, fun _ => False⟩
@[simp] def slots0 (n : Nat) (dl : List D) : DS := dl.map .val ++ List.replicate (n - dl.length) .no
section
variable {P : Program} {w : World} {K : PySem.W.Frag} {mg : Str → Option Value} {base : Heap}
theorem isA_rep {F : Ad} {H : Hp} (sa : seqAll F H) {vs : List V} {dl : List D} (h : IsA K (res F H) vs dl) (m : Nat) : Rep K F Ad.nil (vs.map some ++ List.replicate m none) H (dl.map .val ++ List.replicate m .no) (fun _ => Ad.nil) := by
  refine ⟨by simp [h.length], fun i s e => ?_, fun _ _ z => z.elim, fun _ _ z => z.elim, fun _ _ z => z.elim, fun _ _ _ z => z.elim, fun _ z => z.elim, sa, fun _ z => z.elim⟩
  by_cases hi : i < dl.length
  · rw [List.getElem?_append_left (by simpa using hi), List.getElem?_map, List.getElem?_eq_getElem hi] at e
    cases e
    obtain ⟨v, hv, iv⟩ := h.get (List.getElem?_eq_getElem hi)
    refine ⟨⟨v, ?_, iv⟩, fun _ z => z⟩
    rw [List.getElem?_append_left (by rw [List.length_map, h.length]; exact hi), List.getElem?_map, hv]
    rfl
  · rw [List.getElem?_append_right (by simpa using hi), List.getElem?_replicate] at e
    split at e
    · cases e; exact fun _ z => z
    · cases e
theorem dfun {x qual : Str} {st : Stmt} {f : Addr} {fd : FuncData} {N ps : List Str} {k : Nat} {g : DF} {tb : DM} (F : Fun K x qual st f fd) (S : FnScope N ps (defScope st))
    (hd : ∀ (cdv : Value) (A : Around) (outer : List Env) (s : Shared) (H : Hp) (E : XK), Room k (A.deeper (envOfC qual (defScope st) s.heap.objs.size f cdv)) → ∃ ts, DSs (cxOf CX0 P w K mg base N qual (defScope st) f cdv A outer s H E).nox (defBody st) ts tb)
    (hr : ∀ dl Q, dl.length = ps.length → g dl Q → tb (enF Q) (slots0 N.length dl)) : FnOk P w K mg base CX0 (k + 1) f fd ps (spP K ps.length g) := by
  refine F.ok S (fun vs H Q E h => h.1) (fun cdv A outer s H vs Q E hroom h => ?_)
  obtain ⟨hn, F0, dl, ia, sa, W, hg, hk⟩ := h
  obtain ⟨ts, b⟩ := hd cdv A outer s H E hroom
  refine ⟨ts, b.ps, ?_⟩
  have hl : dl.length = ps.length := by rw [← ia.length]; exact hn
  have r := isA_rep sa ia (N.length - vs.length)
  have e1 : (dl.map .val ++ List.replicate (N.length - vs.length) .no : DS) = slots0 N.length dl := by unfold slots0; rw [ia.length]
  rw [e1] at r
  have r : Rep K F0 Ad.nil (start N vs) H (slots0 N.length dl) (fun _ => Ad.nil) := r
  refine b.ok F0 _ H _ _ _ _ r (hr dl W hl hg) ⟨fun σ' H' ds' F' fp' e r' g' => ?_, fun h ds' v σ' H' F' fp' q e p => ?_, fun _ _ _ _ _ e => e.elim, fun _ _ _ _ _ e => e.elim⟩
  · exact hk _ e H' .non F' Ad.nil g' r'.fd (fun _ z => z.elim) ⟨⟨_, rfl, .non⟩, fun _ z => z⟩
  · cases h with
    | tmp d => exact hk _ e H' v F' Ad.nil p.g p.rep.fd (fun _ z => z.elim) ⟨⟨_, rfl, p.r⟩, fun _ z => z⟩
    | new s => exact hk _ e H' v F' q p.g p.rep.fd (fun a z => ⟨p.rep.tF a (.inr z), p.rep.td a (.inr z)⟩) p.r
    | fld _ _ _ => exact False.elim e
    | slot i =>
      have e : retD (.slot i) ds' W := e
      have hv : σ'[i]? = some (some v) := p.r
      cases hs : ds'[i]? with
      | none => simp [retD, hs] at e
      | some s =>
        have z := p.rep.slot i s hs
        cases s with
        | val d =>
          simp [retD, hs] at e
          obtain ⟨⟨v', e1, i1⟩, _⟩ := z
          rw [hv] at e1; cases e1
          exact hk _ e H' v F' Ad.nil p.g p.rep.fd (fun _ z => z.elim) ⟨⟨_, rfl, i1⟩, fun _ z => z⟩
        | own xs =>
          simp [retD, hs] at e
          have z' := z
          obtain ⟨a, vs', e1, e2, e3, e4⟩ := z'
          rw [hv] at z
          exact hk _ e H' v F' (fp' i) p.g p.rep.fd (fun a z => ⟨p.rep.fF i a z, p.rep.fdom z⟩) z
        | no => simp [retD, hs] at e
        | dic _ => simp [retD, hs] at e
        | wd _ => simp [retD, hs] at e
        | ob _ => simp [retD, hs] at e
end
end DL

/-! DL: defs whose first argument is a thing that changes; calls by keywords. -/
namespace DL
open PySem PySem.Spec PyProof.Rows L2

abbrev DFW := Wd → List D → (SD → Wd → Prop) → Prop
def spW (K : PySem.W.Frag) (n : Nat) (g : DFW) : Sp := fun vs H Q _ => vs.length = n + 1 ∧ ∃ F w ws dl, vs = w.val :: ws ∧ IsA K (res F H) ws dl ∧ seqAll F H ∧ w.ok (res F H) H ∧ (∀ a, w.fp a → ¬ F a) ∧
  ∃ P : SD → Wd → Prop, g w dl P ∧ ∀ r w', P r w' → ∀ (H' : Hp) (v : V) (F' q : Ad), Grow F H F' H' → seqAll F' H' → (∀ a, q a → ¬ F' a ∧ ¬ w'.fp a ∧ ∃ o, H' a = some o ∧ bigO o) → w'.val = w.val → w'.ok (res F' H') H' → (∀ a, w'.fp a → ¬ F' a) →
    SlotOk K (res F' H') H' (some (some v)) q r → Q v H'
@[simp] def wdAt (ds : DS) (i : Nat) (P : Wd → Prop) : Prop := match ds[i]? with
  | some (.wd w) => P w
  | _ => False
theorem wdAt_inv {ds : DS} {i : Nat} {P : Wd → Prop} (h : wdAt ds i P) : ∃ w, ds[i]? = some (.wd w) ∧ P w := by
  cases hs : ds[i]? with
  | none => simp [wdAt, hs] at h
  | some s =>
    cases s with
    | wd w => simp [wdAt, hs] at h; exact ⟨w, rfl, h⟩
    | ob _ => simp [wdAt, hs] at h
    | no => simp [wdAt, hs] at h
    | val _ => simp [wdAt, hs] at h
    | dic _ => simp [wdAt, hs] at h
    | own _ => simp [wdAt, hs] at h
/-- f(x, ..), x the thing at slot j -/
@[simp] def dCallW (j : Nat) (g : DFW) (t : DTA) : DT := fun ds Q => wdAt ds j fun _ => t ds fun hs ds1 => takes hs ds1 fun dl ds2 => wdAt ds2 j fun w => g w dl fun r w' => w'.val = w.val ∧ Q (hdOf r) (ds2.set j (.wd w'))
section
variable {X : Cx} {K : PySem.W.Frag} {F T q : Ad} {σ : Sl} {H : Hp} {ds : DS} {fp : Nat → Ad} {e : Expr} {es : List Expr} {ta tk : TA} {t tkD : DTA} {n k j : Nat} {g : DFW} {f : Addr} {fd : FuncData} {ps ks : List Str} {x y : Str} {p pos py : Pos}
open Classical in
theorem callW_core {w : Wd} {vs : List V} {dl : List D} {Q : Hd → Wd → Prop} {R : VK} {E : XK} (r2 : Rep K F T σ H ds fp) (hj : ds[j]? = some (.wd w)) (ia : IsA K (res F H) vs dl) (hn : vs.length = n) (h : g w dl fun r w' => w'.val = w.val ∧ Q (hdOf r) w')
    (k : ∀ h w' v H' F' q fp', Q h w' → Pst K F T H σ v h (ds.set j (.wd w')) F' H' fp' q → R v H') : frm (spW K n g) (w.val :: vs) H R E := by
  obtain ⟨jv, jf, jo⟩ := r2.slot j _ hj
  have hlt : j < ds.length := (List.getElem?_eq_some_iff.mp hj).1
  let G : Ad := fun a => T a ∨ ∃ i, i ≠ j ∧ fp i a
  have hG : ∀ a, G a → ∃ o, H a = some o ∧ bigO o := fun a z => by
    rcases z with z | ⟨i, _, z⟩
    · exact r2.td a z
    · exact r2.fdom z
  have nF : ∀ a, F a → ¬ hidden G H a := fun a f z => by
    rcases z with (z | ⟨i, _, z⟩) | ⟨y, _, z⟩
    · exact r2.tF a z f
    · exact r2.fF i a z f
    · obtain ⟨o, e, b⟩ := r2.fd a f
      rw [z] at e; cases e; exact b
  have nW : ∀ a, w.fp a → ¬ hidden G H a := fun a f z => by
    have fj : fp j a := (jf a).mpr f
    rcases z with (z | ⟨i, ni, z⟩) | ⟨y, _, z⟩
    · exact r2.fT j a fj z
    · exact ni (r2.sep i j a z fj)
    · obtain ⟨o, e, b⟩ := w.dom jo f
      rw [z] at e; cases e; exact b
  have sm : Same (res F H) (res F (hide G H)) := fun a o e => by
    obtain ⟨f, e⟩ := res_some e
    rw [res_in f, hide_out (nF a f)]; exact e
  refine ⟨G, hG, by rw [List.length_cons, hn], F, w, vs, dl, rfl, ia.mono sm, fun a f => by rw [hide_out (nF a f)]; exact r2.fd a f, w.mono sm (fun a f => hide_out (nW a f)) jo, fun a f => r2.fF j a ((jf a).mpr f), _, h, fun r w' hr H' v F' q g' sa qa ev wo wF so hh => ?_⟩
  have nh' : ∀ a o, H' a = some o → ¬ hidden G H a := fun a o e z => by rw [hh a z] at e; cases e
  have nF' : ∀ a, F' a → ¬ hidden G H a := fun a f => by
    obtain ⟨o, e, _⟩ := sa a f
    exact nh' a o e
  have nq : ∀ a, q a → ¬ hidden G H a := fun a f => by
    obtain ⟨_, _, o, e, _⟩ := qa a f
    exact nh' a o e
  have nW' : ∀ a, w'.fp a → ¬ hidden G H a := fun a f => by
    obtain ⟨o, e, _⟩ := w'.dom wo f
    exact nh' a o e
  have GG : Grow F H F' (back G H H') := fun a f => ⟨(g' a f).1, by
    rw [back_out (nF a f), (g' a f).2, hide_out (nF a f)]⟩
  have sm' : Same (res F' H') (res F' (back G H H')) := fun a o e => by
    obtain ⟨f, e⟩ := res_some e
    rw [res_in f, back_out (nF' a f)]; exact e
  have so' : SlotOk K (res F' (back G H H')) (back G H H') (some (some v)) q r := so.mono sm' fun a z => back_out (nq a z)
  refine k (hdOf r) w' v _ F' q (fun i => if i = j then w'.fp else fp i) hr.2 ⟨⟨by rw [List.length_set]; exact r2.len, fun i s e => ?_, fun i a z => ?_, fun i a z f => ?_, fun i a z y => ?_, fun i i' a z z' => ?_, fun a z => ?_, fun a f => ?_, fun a z => ?_⟩, fun a z y => nq a z (.inl (.inl y)), GG, fun a z => back_in (.inl (.inl z)), ?_⟩
  · by_cases hi : i = j
    · subst hi
      rw [List.getElem?_set_self hlt] at e; cases e
      rw [if_pos rfl]
      exact ⟨by rw [jv, hr.1], fun _ => Iff.rfl, w'.mono sm' (fun a z => back_out (nW' a z)) wo⟩
    · rw [List.getElem?_set_ne (Ne.symm hi)] at e
      rw [if_neg hi]
      exact (r2.slot i s e).mono GG.same fun a z => back_in (.inl (.inr ⟨i, hi, z⟩))
  · rw [List.length_set]
    by_cases hi : i = j
    · rw [hi]; exact hlt
    · rw [if_neg hi] at z; exact r2.out i a z
  · by_cases hi : i = j
    · rw [if_pos hi] at z; exact wF a z f
    · rw [if_neg hi] at z; exact nF' a f (.inl (.inr ⟨i, hi, z⟩))
  · by_cases hi : i = j
    · rw [if_pos hi] at z
      rcases y with y | y
      · exact nW' a z (.inl (.inl y))
      · exact (qa a y).2.1 z
    · rw [if_neg hi] at z
      rcases y with y | y
      · exact r2.fT i a z y
      · exact nq a y (.inl (.inr ⟨i, hi, z⟩))
  · by_cases hi : i = j
    · by_cases hi' : i' = j
      · rw [hi, hi']
      · rw [if_pos hi] at z; rw [if_neg hi'] at z'
        exact absurd (.inl (.inr ⟨i', hi', z'⟩)) (nW' a z)
    · by_cases hi' : i' = j
      · rw [if_neg hi] at z; rw [if_pos hi'] at z'
        exact absurd (.inl (.inr ⟨i, hi, z⟩)) (nW' a z')
      · rw [if_neg hi] at z; rw [if_neg hi'] at z'
        exact r2.sep i i' a z z'
  · rcases z with z | z
    · exact fun f => nF' a f (.inl (.inl z))
    · exact (qa a z).1
  · obtain ⟨o, e, b⟩ := sa a f
    exact ⟨o, by rw [back_out (nF' a f)]; exact e, b⟩
  · rcases z with z | z
    · rw [back_in (.inl (.inl z))]; exact r2.td a z
    · obtain ⟨_, _, o, e, b⟩ := qa a z
      exact ⟨o, by rw [back_out (nq a z)]; exact e, b⟩
  · cases r with
    | val d =>
      obtain ⟨⟨v', e, i⟩, _⟩ := so'
      cases e
      exact i
    | no => exact so'
    | own _ => exact so'
    | dic _ => exact so'
    | wd _ => exact so'
    | ob _ => exact so'
theorem eok_callW (ha : AOk K n ta t) : EOk K (tCall (frm (spW K n g)) [] E0 (tCons (tVar j) ta)) (dCallW j g t) := fun F T σ H ds fp Q R rp e k => by
  obtain ⟨w0, hj, e⟩ := wdAt_inv e
  obtain ⟨jv, _, _⟩ := rp.slot j _ hj
  refine ⟨w0.val, jv, ?_⟩
  refine ha F T σ H ds fp _ _ rp e fun hs ds1 vs H1 F1 fp1 q1 k1 p1 l1 => ?_
  obtain ⟨dl, ds2, F2, fp2, e2, r2, g2, i2⟩ := takes_ok p1.r .refl p1.rep p1.qT k1
  obtain ⟨w, hj2, e2⟩ := wdAt_inv e2
  obtain ⟨jv2, _, _⟩ := r2.slot j _ hj2
  rw [jv] at jv2
  have ev : w0.val = w.val := Option.some.inj (Option.some.inj jv2)
  rw [List.append_nil, ev]
  exact callW_core (Q := fun h w' => Q h (ds2.set j (.wd w'))) r2 hj2 i2 l1 e2 fun h w' v H' F' q fp' qh p => k _ _ _ _ _ _ _ qh (p.pre (p1.g.trans g2) p1.t)
theorem do_callW (F : FnOk X.prog X.w X.K X.mg X.base CX0 k f fd ps (spW X.K n g)) (hr : Room k X.A) (hg : Gl X x) (hm : X.mg x = some (.ref f)) (hk : PySem.W.keepIn X.K (.ref f) = true) (hb : Binds X.K fd ps [])
    (ha : DA X es ta t) (hn : es.length = n := by rfl) (hN : X.N[j]? = some y := by rfl) (hv : Vis X.env.scope y := by first | exact Or.inl rfl | exact Or.inr (Or.inl rfl) | exact Or.inr (Or.inr rfl)) (hd : (y == ("__debug__" : Str)) = false := by decide)
    (hcd : (y == ("__classdict__" : Str)) = false := by decide)
    (hdb : (x == ("__debug__" : Str)) = false := by decide) (he : starEach (.Name y py :: es) X.env = (false, eval (.Name y py) X.env) :: starEach es X.env := by rfl) (hpl : (backTo pos (starEach es X.env)).any (·.1) = false := by rfl) :
    DO X (.Call (.Name x p) (.Name y py :: es) [] pos) (tCall (frm (spW X.K n g)) [] E0 (tCons (tVar j) ta)) (dCallW j g t) :=
  ⟨pe_call (frame_fn F) hr hg hm hk hb .nil pass0 (pa_cons (pe_var hN hv hd hcd) ha.pa he) hdb he hpl, eok_callW (hn ▸ ha.ok)⟩
end

/-! ### a def whose first parameter is such a thing -/
@[simp] def enW (w : Wd) (P : SD → Wd → Prop) : En := ⟨fun ds => wdAt ds 0 fun w' => w'.val = w.val ∧ P (.val .none) w', fun h ds => wdAt ds 0 fun w' => w'.val = w.val ∧ retD h ds fun r => P r w', fun _ => False, fun _ => False⟩
@[simp] def slotsW (n : Nat) (w : Wd) (dl : List D) : DS := .wd w :: (dl.map .val ++ List.replicate (n - (dl.length + 1)) .no)
section
variable {P : Program} {w : World} {K : PySem.W.Frag} {mg : Str → Option Value} {base : Heap}
open Classical in
theorem isA_repW {F : Ad} {H : Hp} (sa : seqAll F H) {vs : List V} {dl : List D} {wd : Wd} (h : IsA K (res F H) vs dl) (ho : wd.ok (res F H) H) (hf : ∀ a, wd.fp a → ¬ F a) (m : Nat) :
    Rep K F Ad.nil (some wd.val :: (vs.map some ++ List.replicate m none)) H (.wd wd :: (dl.map .val ++ List.replicate m .no)) (fun i => if i = 0 then wd.fp else Ad.nil) := by
  have r := isA_rep sa h m
  refine ⟨by simp [h.length], fun i s e => ?_, fun i a z => ?_, fun i a z => ?_, fun _ _ _ z => z.elim, fun i j a z z' => ?_, fun _ z => z.elim, sa, fun _ z => z.elim⟩
  · cases i with
    | zero =>
      cases e
      rw [if_pos rfl]
      exact ⟨rfl, fun _ => Iff.rfl, ho⟩
    | succ i =>
      rw [if_neg (Nat.succ_ne_zero i)]
      exact r.slot i s e
  · cases i with
    | zero => simp
    | succ i => rw [if_neg (Nat.succ_ne_zero i)] at z; exact z.elim
  · cases i with
    | zero => rw [if_pos rfl] at z; exact hf a z
    | succ i => rw [if_neg (Nat.succ_ne_zero i)] at z; exact z.elim
  · cases i with
    | zero =>
      cases j with
      | zero => rfl
      | succ j => rw [if_neg (Nat.succ_ne_zero j)] at z'; exact z'.elim
    | succ i => rw [if_neg (Nat.succ_ne_zero i)] at z; exact z.elim
theorem dfunW {x qual : Str} {st : Stmt} {f : Addr} {fd : FuncData} {N ps : List Str} {k n : Nat} {g : DFW} {tb : DM} (F : Fun K x qual st f fd) (S : FnScope N ps (defScope st)) (hps : ps.length = n + 1)
    (hd : ∀ (cdv : Value) (A : Around) (outer : List Env) (s : Shared) (H : Hp) (E : XK), Room k (A.deeper (envOfC qual (defScope st) s.heap.objs.size f cdv)) → ∃ ts, DSs (cxOf CX0 P w K mg base N qual (defScope st) f cdv A outer s H E).nox (defBody st) ts tb)
    (hr : ∀ w dl Q, dl.length = n → g w dl Q → tb (enW w Q) (slotsW N.length w dl)) : FnOk P w K mg base CX0 (k + 1) f fd ps (spW K n g) := by
  refine F.ok S (fun vs H Q E h => by rw [hps]; exact h.1) (fun cdv A outer s H vs Q E hroom h => ?_)
  obtain ⟨hn, F0, wd, ws, dl, rfl, ia, sa, wo, wF, W, hg, hk⟩ := h
  obtain ⟨ts, b⟩ := hd cdv A outer s H E hroom
  refine ⟨ts, b.ps, ?_⟩
  have hl : dl.length = n := by rw [← ia.length]; exact Nat.succ.inj hn
  have r := isA_repW sa ia wo wF (N.length - (ws.length + 1))
  have e1 : (.wd wd :: (dl.map .val ++ List.replicate (N.length - (ws.length + 1)) .no) : DS) = slotsW N.length wd dl := by unfold slotsW; rw [ia.length]
  rw [e1] at r
  have r : Rep K F0 Ad.nil (start N (wd.val :: ws)) H (slotsW N.length wd dl) _ := r
  refine b.ok F0 _ H _ _ _ _ r (hr wd dl W hl hg) ⟨fun σ' H' ds' F' fp' e r' g' => ?_, fun h ds' v σ' H' F' fp' q e p => ?_, fun _ _ _ _ _ e => e.elim, fun _ _ _ _ _ e => e.elim⟩
  · obtain ⟨w', h0, ev, e⟩ := wdAt_inv e
    obtain ⟨_, jf, jo⟩ := r'.slot 0 _ h0
    exact hk _ _ e H' .non F' Ad.nil g' r'.fd (fun _ z => z.elim) ev jo (fun a z => r'.fF 0 a ((jf a).mpr z)) ⟨⟨_, rfl, .non⟩, fun _ z => z⟩
  · obtain ⟨w', h0, ev, e⟩ := wdAt_inv e
    obtain ⟨_, jf, jo⟩ := p.rep.slot 0 _ h0
    have jF : ∀ a, w'.fp a → ¬ F' a := fun a z => p.rep.fF 0 a ((jf a).mpr z)
    cases h with
    | tmp d => exact hk _ _ e H' v F' Ad.nil p.g p.rep.fd (fun _ z => z.elim) ev jo jF ⟨⟨_, rfl, p.r⟩, fun _ z => z⟩
    | new s => exact hk _ _ e H' v F' q p.g p.rep.fd (fun a z => ⟨p.rep.tF a (.inr z), fun y => p.rep.fT 0 a ((jf a).mpr y) (.inr z), p.rep.td a (.inr z)⟩) ev jo jF p.r
    | fld _ _ _ => exact False.elim e
    | slot i =>
      have hv : σ'[i]? = some (some v) := p.r
      cases hs : ds'[i]? with
      | none => simp [retD, hs] at e
      | some s =>
        have z := p.rep.slot i s hs
        cases s with
        | val d =>
          simp [retD, hs] at e
          obtain ⟨⟨v', e1, i1⟩, _⟩ := z
          rw [hv] at e1; cases e1
          exact hk _ _ e H' v F' Ad.nil p.g p.rep.fd (fun _ z => z.elim) ev jo jF ⟨⟨_, rfl, i1⟩, fun _ z => z⟩
        | own xs =>
          simp [retD, hs] at e
          rw [hv] at z
          have hi : i ≠ 0 := fun z0 => by subst z0; rw [h0] at hs; cases hs
          exact hk _ _ e H' v F' (fp' i) p.g p.rep.fd (fun a z => ⟨p.rep.fF i a z, fun y => hi (p.rep.sep i 0 a z ((jf a).mpr y)), p.rep.fdom z⟩) ev jo jF z
        | no => simp [retD, hs] at e
        | dic _ => simp [retD, hs] at e
        | wd _ => simp [retD, hs] at e
        | ob _ => simp [retD, hs] at e
end

/-! ### calls by keywords alone -/
structure DK (X : Cx) (kws : List Keyword) (ta : TA) (t : DTA) : Prop where
  pk : PK X kws ta
  ok : AOk X.K kws.length ta t
theorem dk_nil {X : Cx} : DK X [] tNil aNil := ⟨pk_nil, aok_nil⟩
theorem dk_cons {X : Cx} {e : Expr} {kws : List Keyword} {te : TE} {ta : TA} {t : DT} {u : DTA} {nm : Option Str} {kpos : Pos} (a : DO X e te t) (b : DK X kws ta u) : DK X (⟨nm, e, kpos⟩ :: kws) (tCons te ta) (aCons t u) := ⟨pk_cons a.pe b.pk, aok_cons a.ok b.ok⟩
/-- how the keywords' values come to the parameters: a permutation of them -/
structure KPerm (K : PySem.W.Frag) (fd : FuncData) (ps ks : List Str) (ix : List Nat) : Prop where
  to : ∀ (s : Shared) (ws : List Value), K.In s.heap → ws.length = ks.length → BindsTo s fd ⟨[], ks.zip ws⟩ (ps.zip (ix.filterMap fun i => ws[i]?))
  len : ix.length = ps.length
  lt : ∀ i ∈ ix, i < ks.length
@[simp] def pick {α : Type} (ix : List Nat) (l : List α) : List α := ix.filterMap fun i => l[i]?
@[simp] def dCallK (ix : List Nat) (g : DF) (t : DTA) : DT := fun ds Q => t ds fun hs ds1 => takes hs ds1 fun dl ds2 => g (pick ix dl) fun r => Q (hdOf r) ds2
theorem pick_len {α : Type} {ix : List Nat} {l : List α} (h : ∀ i ∈ ix, i < l.length) : (pick ix l).length = ix.length := by
  induction ix with
  | nil => rfl
  | cons i r ih =>
    unfold pick
    rw [List.filterMap_cons, List.getElem?_eq_getElem (h i List.mem_cons_self), List.length_cons]
    exact congrArg (· + 1) (ih fun j hj => h j (List.mem_cons_of_mem _ hj))
theorem pick_is {K : PySem.W.Frag} {R : Hp} {vs : List V} {dl : List D} (h : IsA K R vs dl) : ∀ {ix : List Nat}, (∀ i ∈ ix, i < dl.length) → IsA K R (pick ix vs) (pick ix dl)
  | [], _ => .nil
  | i :: r, hi => by
    have h1 := List.getElem?_eq_getElem (l := dl) (hi i List.mem_cons_self)
    obtain ⟨v, hv, iv⟩ := h.get h1
    unfold pick
    rw [List.filterMap_cons, List.filterMap_cons, h1, hv]
    exact .cons iv (pick_is h fun j hj => hi j (List.mem_cons_of_mem _ hj))
theorem pick_vals {vs : List V} {us : List Value} (h : Vals vs us) : ∀ {ix : List Nat}, (∀ i ∈ ix, i < us.length) → Vals (pick ix vs) (pick ix us)
  | [], _ => .nil
  | i :: r, hi => by
    have hl := h.length
    have h1 := List.getElem?_eq_getElem (l := vs) (i := i) (by rw [hl]; exact hi i List.mem_cons_self)
    obtain ⟨u, hu, ru⟩ := h.get h1
    unfold pick
    rw [List.filterMap_cons, List.filterMap_cons, h1, hu]
    exact .cons ru (pick_vals h fun j hj => hi j (List.mem_cons_of_mem _ hj))
section
variable {X : Cx} {K : PySem.W.Frag} {ta : TA} {t : DTA} {n k : Nat} {g : DF} {f : Addr} {fd : FuncData} {ps ks : List Str} {x : Str} {p pos : Pos} {kws : List Keyword} {ix : List Nat}
def tCallKw (sp : Sp) (ix : List Nat) (n : Nat) (ta : TA) : TE := fun σ H Q => ta σ H fun zs H2 => zs.length = n ∧ sp (pick ix zs) H2 Q E0
theorem do_callK (F : FnOk X.prog X.w X.K X.mg X.base CX0 k f fd ps (spP X.K n g)) (hr : Room k X.A) (hg : Gl X x) (hm : X.mg x = some (.ref f)) (hk : PySem.W.keepIn X.K (.ref f) = true) (hb : KPerm X.K fd ps ks ix) (hn : ps.length = n)
    (ha : DK X kws ta t) (hks : (backToKw pos (keywordEach kws X.env)).filterMap (·.1) = ks := by rfl) (hkl : kws.length = ks.length := by rfl) (hall : (backToKw pos (keywordEach kws X.env)).all (·.1.isSome) = true := by rfl)
    (hdb : (x == ("__debug__" : Str)) = false := by decide)
    (hpl : ((backTo pos (starEach [] X.env)).any (·.1) || (backToKw pos (keywordEach kws X.env)).any (·.1.isNone)) = false := by rfl) :
    DO X (.Call (.Name x p) [] kws pos) (tCallKw (frm (spP X.K n g)) ix ks.length ta) (dCallK ix g t) := ⟨by
  refine ⟨fun pins s σ H Q I h => ?_⟩
  refine wpAny_Call_Name_kw (ld_glob I hg hm ?_ hdb)
  refine PySem.W.callWith_KW0 (h₀ := X.base) I.ok.mod.kin hk hall (thn (ha.pk.run pos pins s σ H _ I h) fun ws s1 ⟨zs, H1, I1, rz, hz, q⟩ => ⟨I1.kIn, ?_⟩) hpl
  rw [hks]
  have hl : ws.length = ks.length := by rw [← rz.length]; exact hz
  have lt : ∀ i ∈ ix, i < ws.length := fun i hi => by rw [hl]; exact hb.lt i hi
  refine wpAny_call (codeAny_mono ((frame_fn F).run X.A X.stack s1 H1 ⟨[], ks.zip ws⟩ (pick ix ws) (pick ix zs) Q E0 hr I1.env0 (hb.to s1 ws I1.kIn hl) (pick_vals rz lt) q) fun r s' hq => ?_)
  cases r with
  | error e => exact False.elim hq
  | ok fl =>
    cases fl with
    | ret u => exact I1.after hq
    | next => exact False.elim hq
    | brk => exact False.elim hq
    | cont => exact False.elim hq, fun F' T σ H ds fp Q R rp e k => by
  refine ha.ok F' T σ H ds fp _ _ rp e fun hs ds1 vs H1 F1 fp1 q1 k1 p1 l1 => ?_
  obtain ⟨dl, ds2, F2, fp2, e2, r2, g2, i2⟩ := takes_ok p1.r .refl p1.rep p1.qT k1
  have lt : ∀ i ∈ ix, i < dl.length := fun i hi => by rw [← i2.length, l1, hkl]; exact hb.lt i hi
  refine ⟨l1.trans hkl, call_core r2 (pick_is i2 lt) ?_ e2 fun h v H' F' q qh p => k _ _ _ _ _ _ _ qh (p.pre (p1.g.trans g2) p1.t)⟩
  rw [pick_len (by rw [i2.length]; exact lt), hb.len, hn]⟩
end
end DL

/-! DL: how loops are read. -/
namespace DL
open PySem PySem.Spec PyProof.Rows L2

theorem loopD_ind {g : DGT} {b : DM} {E : En} (Inv : List D → DS → Prop) (h0 : ∀ ds, Inv [] ds → E.nx ds)
    (hs : ∀ d r ds (L : DS → Prop), (∀ ds', Inv r ds' → L ds') → Inv (d :: r) ds → g d ds fun ds1 => b { E with nx := L, ct := L, bk := E.nx } ds1) : ∀ items ds, Inv items ds → loopD g b items E ds
  | [], ds, h => h0 ds h
  | d :: r, ds, h => hs d r ds (loopD g b r E) (fun ds' h' => loopD_ind Inv h0 hs r ds' h') h
theorem compD_ind {g : DGT} {c : DTT} {t : DT} {vs : List Nat} {P : List D → DS → Prop} (Inv : List D → List D → DS → Prop) (h0 : ∀ acc ds, Inv [] acc ds → P acc ds)
    (hs : ∀ d r acc ds (L : List D → DS → Prop), (∀ acc' ds', Inv r acc' ds' → L acc' ds') → Inv (d :: r) acc ds →
      g d ds fun ds1 => c ds1 fun b ds2 => if b = true then t ds2 fun h ds3 => take1 h ds3 fun x ds4 => L (acc ++ [x]) (wipeD ds4 vs) else L acc (wipeD ds2 vs)) : ∀ items acc ds, Inv items acc ds → compD g c t vs items acc ds P
  | [], acc, ds, h => h0 acc ds h
  | d :: r, acc, ds, h => hs d r acc ds (fun acc' ds' => compD g c t vs r acc' ds' P) (fun acc' ds' h' => compD_ind Inv h0 hs r acc' ds' h') h
theorem while_ind {c : DTT} {b : DM} {E : En} {ds : DS} (Inv : DS → Prop) (μ : DS → Nat) (hs : ∀ ds (L : DS → Prop), (∀ ds', Inv ds' → μ ds' < μ ds → L ds') → Inv ds →
      c ds fun k ds1 => if k = true then b { E with nx := L, ct := L, bk := E.nx } ds1 else E.nx ds1) (h : Inv ds) : mWhile c b E ds := by
  have key : ∀ n ds, Inv ds → μ ds < n → whileD c b n E ds := by
    intro n
    induction n with
    | zero => intro ds _ hn; omega
    | succ n ih => intro ds hi hn; exact hs ds (whileD c b n E) (fun ds' h' l => ih ds' h' (by omega)) hi
  exact ⟨μ ds + 1, key _ ds h (Nat.lt_succ_self _)⟩
/-- a comprehension whose element is a function of the item, and which leaves the slots as they are -/
theorem compD_map {g : DGT} {t : DT} {vs : List Nat} {P : List D → DS → Prop} (f : D → D) (ds : DS) (items : List D) (acc : List D)
    (hs : ∀ d ∈ items, ∀ (L : D → DS → Prop), L (f d) ds → g d ds fun ds2 => t ds2 fun h ds3 => take1 h ds3 fun x ds4 => L x (wipeD ds4 vs)) (hp : P (acc ++ items.map f) ds) : compD g cYes t vs items acc ds P := by
  refine compD_ind (fun r acc' ds' => ds' = ds ∧ acc' ++ r.map f = acc ++ items.map f ∧ ∀ d ∈ r, d ∈ items) ?_ ?_ items acc ds ⟨rfl, rfl, fun _ h => h⟩
  · rintro acc' ds' ⟨rfl, e, _⟩
    rw [List.map_nil, List.append_nil] at e
    rw [e]; exact hp
  · rintro d r acc' ds' L hL ⟨rfl, e, hm⟩
    refine hs d (hm d List.mem_cons_self) (fun x ds4 => L (acc' ++ [x]) ds4) (hL _ _ ⟨rfl, ?_, fun z hz => hm z (List.mem_cons_of_mem _ hz)⟩)
    rw [← e, List.map_cons, List.append_assoc]; rfl
theorem isT_int (d : D) : isT "int" d = match d with | .int _ => true | .bool _ => true | _ => false := by cases d <;> (simp only [isT, tyD]; decide +kernel)
theorem isT_bool (d : D) : isT "bool" d = match d with | .bool _ => true | _ => false := by cases d <;> (simp only [isT, tyD]; decide +kernel)
theorem isT_str (d : D) : isT "str" d = match d with | .str _ => true | _ => false := by cases d <;> (simp only [isT, tyD]; decide +kernel)
theorem isT_tuple (d : D) : isT "tuple" d = match d with | .tuple _ => true | _ => false := by cases d <;> (simp only [isT, tyD]; decide +kernel)
theorem isT_list (d : D) : isT "list" d = match d with | .list _ => true | _ => false := by cases d <;> (simp only [isT, tyD]; decide +kernel)
@[simp] theorem atI_0 {α : Type} (a : α) (l : List α) : atI (a :: l) 0 = some a := by
  have := atI_nat (xs := a :: l) (j := 0) (v := a) rfl
  exact this
@[simp] theorem atI_1 {α : Type} (a b : α) (l : List α) : atI (a :: b :: l) 1 = some b := atI_nat (xs := a :: b :: l) (j := 1) (v := b) rfl
@[simp] theorem atI_2 {α : Type} (a b c : α) (l : List α) : atI (a :: b :: c :: l) 2 = some c := atI_nat (xs := a :: b :: c :: l) (j := 2) (v := c) rfl
@[simp] theorem atI_3 {α : Type} (a b c d : α) (l : List α) : atI (a :: b :: c :: d :: l) 3 = some d := atI_nat (xs := a :: b :: c :: d :: l) (j := 3) (v := d) rfl
end DL

/-! DL: the pot of draws: a list of cells and two counters. -/
namespace DL
open PySem PySem.Spec PyProof.Rows L2

def potB (p c : Addr) (b : Nat) : Wd where
  val := .ref p
  fp := fun a => a = p ∨ a = c
  ok := fun _ H => p ≠ c ∧ ∃ (cells : List Int) (i j : Int) (sh : V), H p = some (.lst [.ref c, .int i, .int j, sh]) ∧ H c = some (.lst (cells.map V.int)) ∧ (∀ x ∈ cells, 0 ≤ x) ∧ cells.length ≤ 63 ∧ 0 ≤ i ∧ i ≤ j ∧ j ≤ b
  mono := fun _ k ⟨h0, cells, i, j, sh, h1, h2, h⟩ => ⟨h0, cells, i, j, sh, by rw [k _ (.inl rfl)]; exact h1, by rw [k _ (.inr rfl)]; exact h2, h⟩
  dom := fun ⟨_, cells, i, j, sh, h1, h2, _⟩ f => by
    rcases f with rfl | rfl
    · exact ⟨_, h1, trivial⟩
    · exact ⟨_, h2, trivial⟩
def gDraw : DFW := fun w dl P => ∃ p c b many, w = potB p c b ∧ dl = [.int many] ∧ 1 ≤ many ∧ many < 2 ^ 64 ∧ b < 2 ^ 60 ∧ ∀ r : Int, 0 ≤ r → r < many → P (.val (.int r)) (potB p c (b + 1))
def gPot : DF := fun dl P => ∃ (ns : List Int) (s : D), dl = [.list (ns.map .int), s] ∧ ns.length ≤ 63 ∧ ∀ p c, P (.wd (potB p c 0))

/-! a list whose first item is a new list of ints: a pot -/
def dPot (t : DT) (u : DTA) : DT := fun ds Q => t ds fun h1 ds1 => u ds1 fun hs ds2 => match h1 with
  | .new (.own xs) => (∃ cells : List Int, xs = cells.map .int ∧ (∀ x ∈ cells, 0 ≤ x) ∧ cells.length ≤ 63) ∧ takes hs ds2 fun dl ds3 => (∃ s, dl = [.int 0, .int 0, s]) ∧ ∀ p c, Q (.new (.wd (potB p c 0))) ds3
  | _ => False
section
variable {X : Cx} {K : PySem.W.Frag} {e : Expr} {es : List Expr} {te : TE} {ta : TA} {t : DT} {u : DTA} {pos : Pos}
theorem do_pot (a : DO X e te t) (b : DA X es ta u) (hn : es.length = 3 := by rfl) (hs : starEach (e :: es) X.env = (false, eval e X.env) :: starEach es X.env := by rfl) : DO X (.List (e :: es) pos) (tLst (tCons te ta)) (dPot t u) :=
  ⟨pe_lst (pa_cons a.pe b.pa hs), fun F T σ H ds fp Q R rp h k => by
    refine a.ok F T σ H ds fp _ _ rp h fun h1 ds1 v1 H1 F1 fp1 q1 k1 p1 => ?_
    refine b.ok F1 (T.or q1) σ H1 ds1 fp1 _ _ p1.rep k1 fun hs ds2 vs H2 F2 fp2 q2 k2 p2 l2 => ?_
    refine ⟨by rw [List.length_cons, l2, hn]; decide, fun p hp => ?_⟩
    cases h1 with
    | tmp _ => exact False.elim k2
    | slot _ => exact False.elim k2
    | fld _ _ _ => exact False.elim k2
    | new s =>
      cases s <;> first | exact False.elim k2 | skip
      obtain ⟨c, ws, e1, hq, hc, ia⟩ := p1.r.keep p2.g fun a z => p2.t a (.inr z)
      cases e1
      obtain ⟨⟨cells, rfl, hnn, hlen⟩, k3⟩ := k2
      have r2 : Rep X.K F2 ((T.or q1).or q2) σ H2 ds2 fp2 := p2.rep
      obtain ⟨dl, ds3, F3, fp3, ⟨⟨s, rfl⟩, k4⟩, r3, g3, i3⟩ := takes_ok p2.r .refl r2 p2.qT k3
      have hcc := ia.ints
      subst hcc
      obtain ⟨x1, xs1, i1, j1⟩ : ∃ x1 xs1, vs = x1 :: xs1 ∧ True := by
        cases i3; exact ⟨_, _, rfl, trivial⟩
      obtain ⟨v4, ev⟩ : ∃ v4, vs = [.int 0, .int 0, v4] := by
        cases i3 with
        | cons a b => cases a; cases b with
          | cons a b => cases a; cases b with
            | cons a b => cases b; exact ⟨_, rfl⟩
      rw [ev]
      have npc : p ≠ c := fun e => by rw [e, hc] at hp; cases hp
      have hqc : q1 c := (hq c).mpr rfl
      obtain ⟨r4, g4, t4⟩ := r3.newT (o := .lst [.ref c, .int 0, .int 0, v4]) hp trivial
      obtain ⟨nF, nT, nfp⟩ := r3.new_ne hp
      refine k _ _ _ _ _ fp3 (fun a => a = p ∨ a = c) (k4 p c) ⟨r4.less ?_, ?_, ((p1.g.trans p2.g).trans g3).trans g4, fun a z => ?_, ⟨rfl, fun _ => Iff.rfl, npc, cells, 0, 0, v4, upd_same, ?_, hnn, hlen, by decide, by decide, by decide⟩⟩
      · rintro a (z | rfl | rfl)
        · exact .inl (.inl z)
        · exact .inr rfl
        · exact .inl (.inr hqc)
      · rintro a (rfl | rfl)
        · exact fun z => nT (.inl z)
        · exact p1.qT _ hqc
      · rw [t4 a (.inl z), p2.t a (.inl z), p1.t a z]
      · rw [upd_ne npc.symm]; exact hc⟩
end
/-! reading an item for o[i] += e -/
def rGetL (K : PySem.W.Frag) : V → V → Hp → VK → Prop := fun x y H Q => ∃ p xs i v, x = .ref p ∧ y = .int i ∧ SqL K H p xs ∧ 0 ≤ i ∧ i < 2 ^ 62 ∧ xs[i.toNat]? = some v ∧ Q v H
theorem get_listL {X : Cx} : PGet X (rGetL X.K) := by
  rintro pins s σ H o i ov iv Q I ro ri ⟨p, xs, k, v, rfl, rfl, hq, h0, h1, hv, q⟩
  cases ro
  obtain ⟨t, rfl⟩ := ri
  obtain ⟨its, r, pl, hz⟩ := I.list hq
  obtain ⟨u, hu, ru⟩ := r.get hv
  exact wpAny_getItem_list pl.isList h0 (by omega) (by simpa using hu) ⟨v, H, I, ru, q⟩
/-! data of small depth -/
theorem depthAll_le {n : Nat} : ∀ {xs : List D}, (∀ x ∈ xs, PyData.depth x ≤ n) → PyData.depthAll xs ≤ n
  | [], _ => by simp [PyData.depthAll]
  | x :: xs, h => by
    have h1 := h x List.mem_cons_self
    have h2 := depthAll_le fun y hy => h y (List.mem_cons_of_mem _ hy)
    simp only [PyData.depthAll]
    omega
theorem canAll {xs : List D} (h : ∀ x ∈ xs, PyData.canLay0 x = true) : PyData.canLayAll0 xs = true := by
  induction xs with
  | nil => rfl
  | cons x xs ih =>
    simp only [PyData.canLayAll0, Bool.and_eq_true]
    exact ⟨h x List.mem_cons_self, ih fun y hy => h y (List.mem_cons_of_mem _ hy)⟩
/-- a datum of at most this depth, its texts right -/
def Shp (n : Nat) (d : D) : Prop := PyData.canLay0 d = true ∧ PyData.depth d ≤ n
theorem Shp.mono {m n : Nat} {d : D} (h : Shp m d) (hm : m ≤ n) : Shp n d := ⟨h.1, Nat.le_trans h.2 hm⟩
theorem Shp.shaped {n : Nat} {d : D} (h : Shp n d) (hn : n ≤ 64 := by decide) : SeqAt.shaped d = true := by
  unfold SeqAt.shaped
  rw [h.1, decide_eq_true (Nat.le_trans h.2 hn)]; rfl
theorem Shp.int {n : Nat} {i : Int} : Shp (n + 1) (.int i) := ⟨rfl, by simp [PyData.depth]⟩
theorem Shp.bool {n : Nat} {i : Bool} : Shp (n + 1) (.bool i) := ⟨rfl, by simp [PyData.depth]⟩
theorem Shp.none {n : Nat} : Shp (n + 1) .none := ⟨rfl, by simp [PyData.depth]⟩
theorem Shp.list {n : Nat} {xs : List D} (h : ∀ x ∈ xs, Shp n x) : Shp (n + 1) (.list xs) := ⟨canAll fun x hx => (h x hx).1, by
  have := depthAll_le fun x hx => (h x hx).2
  simp only [PyData.depth]; omega⟩
theorem Shp.tuple {n : Nat} {xs : List D} (h : ∀ x ∈ xs, Shp n x) : Shp (n + 1) (.tuple xs) := ⟨canAll fun x hx => (h x hx).1, by
  have := depthAll_le fun x hx => (h x hx).2
  simp only [PyData.depth]; omega⟩
theorem Shp.ints (ns : List Int) : Shp 2 (.list (ns.map .int)) := Shp.list fun x hx => by
  obtain ⟨i, _, rfl⟩ := List.mem_map.mp hx
  exact Shp.int
theorem eqv_nil (xs : List D) : PyData.eqv (.list xs) (.list []) = xs.isEmpty := by
  cases xs <;> simp [PyData.eqv, PyData.eqvAll]
theorem eqv_nilT (xs : List D) : PyData.eqv (.tuple xs) (.tuple []) = xs.isEmpty := by
  cases xs <;> simp [PyData.eqv, PyData.eqvAll]
end DL

/-! DL: what the small defs that many laws share answer. -/
namespace DL
open PySem PySem.Spec PyProof.Rows L2

def intB : D → Bool
  | .int _ => true
  | _ => false
def tupN (n : Int) : D → Bool
  | .tuple xs => decide ((xs.length : Int) = n)
  | _ => false
@[simp] theorem intB_none : intB (.none) = false := rfl
@[simp] theorem tupN_none {n : Int} : tupN n (.none) = false := rfl
@[simp] theorem intB_bool {b : Bool} : intB (.bool b) = false := rfl
@[simp] theorem tupN_bool {n : Int} {b : Bool} : tupN n (.bool b) = false := rfl
@[simp] theorem intB_int {i : Int} : intB (.int i) = true := rfl
@[simp] theorem tupN_int {n : Int} {i : Int} : tupN n (.int i) = false := rfl
@[simp] theorem intB_str {s : Str} : intB (.str s) = false := rfl
@[simp] theorem tupN_str {n : Int} {s : Str} : tupN n (.str s) = false := rfl
@[simp] theorem intB_list {xs : List D} : intB (.list xs) = false := rfl
@[simp] theorem tupN_list {n : Int} {xs : List D} : tupN n (.list xs) = false := rfl
@[simp] theorem intB_tuple {xs : List D} : intB (.tuple xs) = false := rfl
@[simp] theorem tupN_tuple {n : Int} {xs : List D} : tupN n (.tuple xs) = decide ((xs.length : Int) = n) := rfl
@[simp] theorem intB_dict {kvs : List (D × D)} : intB (.dict kvs) = false := rfl
@[simp] theorem tupN_dict {n : Int} {kvs : List (D × D)} : tupN n (.dict kvs) = false := rfl
def g_is_integer : DF := fun dl P => ∃ d, dl = [d] ∧ P (.val (.bool (intB d)))
@[simp] theorem at_is_integer {d : D} {P : SD → Prop} : g_is_integer [d] P = P (.val (.bool (intB d))) := by
  refine propext ⟨?_, fun h => ⟨_, rfl, h⟩⟩
  rintro ⟨_, e, h⟩
  cases e; exact h
def tb_is_integer : DM := (mRet (dAnd (dIsi "int" (dVar 0)) (dNot (dIsi "bool" (dVar 0)))))
theorem rd_is_integer : ∀ dl Q, dl.length = 1 → g_is_integer dl Q → tb_is_integer (enF Q) (slots0 1 dl) := by
  rintro dl Q - ⟨d, rfl, h⟩
  cases d <;> simpa [tb_is_integer, isT_int, isT_bool] using h
def g_is_tuple_of : DF := fun dl P => ∃ n d, dl = [.int n, d] ∧ P (.val (.bool (tupN n d)))
@[simp] theorem at_is_tuple_of {n : Int} {d : D} {P : SD → Prop} : g_is_tuple_of [.int n, d] P = P (.val (.bool (tupN n d))) := by
  refine propext ⟨?_, fun h => ⟨_, _, rfl, h⟩⟩
  rintro ⟨_, _, e, h⟩
  cases e; exact h
def tb_is_tuple_of : DM := (mRet (dAnd (dIsi "tuple" (dVar 1)) (d2 dEq (dB bLen (aCons (dVar 1) aNil)) (dVar 0))))
theorem rd_is_tuple_of : ∀ dl Q, dl.length = 2 → g_is_tuple_of dl Q → tb_is_tuple_of (enF Q) (slots0 2 dl) := by
  rintro dl Q - ⟨n, d, rfl, h⟩
  cases d <;> simpa [tb_is_tuple_of, isT_tuple, dEqB] using h
def betw (lo hi : Int) : D → Bool
  | .int v => decide (lo ≤ v ∧ v ≤ hi)
  | _ => false
def g_is_between : DF := fun dl P => ∃ lo d hi, dl = [.int lo, d, .int hi] ∧ P (.val (.bool (betw lo hi d)))
@[simp] theorem betw_int {lo hi v : Int} : betw lo hi (.int v) = decide (lo ≤ v ∧ v ≤ hi) := rfl
@[simp] theorem at_is_between {lo hi : Int} {d : D} {P : SD → Prop} : g_is_between [.int lo, d, .int hi] P = P (.val (.bool (betw lo hi d))) := by
  refine propext ⟨?_, fun h => ⟨_, _, _, rfl, h⟩⟩
  rintro ⟨_, _, _, e, h⟩
  cases e; exact h
def tb_is_between : DM := (mRet (dAnd (dIsi "int" (dVar 1)) (dAnd (dNot (dIsi "bool" (dVar 1))) (dChain dLe dLe (dVar 0) (dVar 1) (dVar 2)))))
theorem rd_is_between : ∀ dl Q, dl.length = 3 → g_is_between dl Q → tb_is_between (enF Q) (slots0 3 dl) := by
  rintro dl Q - ⟨lo, d, hi, rfl, h⟩
  cases d with
  | int v => by_cases h1 : lo ≤ v <;> by_cases h2 : v ≤ hi <;> simpa [tb_is_between, isT_int, isT_bool, dRel, h1, h2] using h
  | _ => simpa [tb_is_between, isT_int, isT_bool, betw] using h
/-! the greatest common divisor -/
def g_common : DF := fun dl P => ∃ a b : Int, dl = [.int a, .int b] ∧ 0 ≤ a ∧ 0 ≤ b ∧ P (.val (.int (Int.gcd a b)))
@[simp] theorem at_common {a b : Int} {P : SD → Prop} : g_common [.int a, .int b] P = (0 ≤ a ∧ 0 ≤ b ∧ P (.val (.int (Int.gcd a b)))) := by
  refine propext ⟨?_, fun h => ⟨_, _, rfl, h⟩⟩
  rintro ⟨_, _, e, h⟩
  cases e; exact h
def lc_common_1 : DTT := (bT (d2 dGt (dVar 1) (dC (.int 0))))
def lb_common_1 : DM := (mPar 0 1 (dVar 1) (d2 dMod (dVar 0) (dVar 1)))
def tb_common : DM := (mSeq (mWhile lc_common_1 lb_common_1)
    (mRet (dVar 0)))
theorem gcd_fmod {a b : Int} (hb : 0 < b) : Int.gcd b (a.fmod b) = Int.gcd a b := by
  rw [Int.fmod_eq_emod_of_nonneg _ (Int.le_of_lt hb)]
  apply Nat.dvd_antisymm
  · have h1 : (Int.gcd b (a % b) : Int) ∣ b := Int.gcd_dvd_left ..
    have h2 : (Int.gcd b (a % b) : Int) ∣ a % b := Int.gcd_dvd_right ..
    have h3 : (Int.gcd b (a % b) : Int) ∣ a := by
      have := Int.dvd_add h2 (Int.dvd_trans h1 (Int.dvd_mul_right b (a / b)))
      rwa [Int.emod_add_mul_ediv] at this
    exact Int.natCast_dvd_natCast.mp (Int.dvd_coe_gcd h3 h1)
  · have h1 : (Int.gcd a b : Int) ∣ a := Int.gcd_dvd_left ..
    have h2 : (Int.gcd a b : Int) ∣ b := Int.gcd_dvd_right ..
    have h3 : (Int.gcd a b : Int) ∣ a % b := by
      have := Int.dvd_sub h1 (Int.dvd_trans h2 (Int.dvd_mul_right b (a / b)))
      rwa [← Int.emod_def] at this
    exact Int.natCast_dvd_natCast.mp (Int.dvd_coe_gcd h2 h3)
theorem rd_common : ∀ dl Q, dl.length = 2 → g_common dl Q → tb_common (enF Q) (slots0 2 dl) := by
  rintro dl Q - ⟨a, b, rfl, ha, hb, h⟩
  refine while_ind (fun ds => ∃ x y : Int, ds = [.val (.int x), .val (.int y)] ∧ 0 ≤ x ∧ 0 ≤ y ∧ Int.gcd x y = Int.gcd a b) (fun ds : DS => match ds[1]? with | some (SD.val (PyData.int y)) => y.natAbs | _ => 0) ?_ ⟨a, b, rfl, ha, hb, rfl⟩
  rintro ds L hL ⟨x, y, rfl, hx, hy, hg⟩
  simp only [lc_common_1, bT, d2, dGt, dRel, dVar, dC]
  by_cases h0 : 0 < y
  · have n0 := Int.fmod_nonneg_of_pos x h0
    have n1 := Int.fmod_lt_of_pos x h0
    simp [h0, lb_common_1]
    refine ⟨by omega, hL _ ⟨y, x.fmod y, rfl, hy, n0, by rw [gcd_fmod h0, hg]⟩ ?_⟩
    simp; omega
  · have : y = 0 := by omega
    subst this
    simp [enF]
    rw [← hg, Int.gcd_zero_right, Int.natAbs_of_nonneg hx] at h
    exact h
@[simp] theorem shaped_bool (b : Bool) : SeqAt.shaped (.bool b) = true := by cases b <;> rfl
@[simp] theorem shaped_int (b : Int) : SeqAt.shaped (.int b) = true := by rw [Shp.shaped (n := 1) Shp.int]
@[simp] theorem shaped_none : SeqAt.shaped .none = true := by rw [Shp.shaped (n := 1) Shp.none]
@[simp] theorem eqv_bool (a b : Bool) : PyData.eqv (.bool a) (.bool b) = (a == b) := by cases a <;> cases b <;> decide +kernel
/-! the laws' comparing def, at equal things -/
def SameD : Nat → D → Prop
  | n + 1, .list xs => xs.length ≤ sizeLine ∧ ∀ x ∈ xs, SameD n x
  | n + 1, .tuple xs => xs.length ≤ sizeLine ∧ ∀ x ∈ xs, SameD n x
  | _ + 1, .int _ => True
  | _ + 1, .bool _ => True
  | _ + 1, .str _ => True
  | _ + 1, .none => True
  | _, _ => False
theorem SameD.mono : ∀ {m n : Nat} {d : D}, SameD m d → m ≤ n → SameD n d
  | m + 1, n + 1, .list xs, h, l => ⟨h.1, fun x hx => SameD.mono (h.2 x hx) (Nat.le_of_succ_le_succ l)⟩
  | m + 1, n + 1, .tuple xs, h, l => ⟨h.1, fun x hx => SameD.mono (h.2 x hx) (Nat.le_of_succ_le_succ l)⟩
  | _ + 1, n + 1, .int _, _, _ => trivial
  | _ + 1, n + 1, .bool _, _, _ => trivial
  | _ + 1, n + 1, .str _, _, _ => trivial
  | _ + 1, n + 1, .none, _, _ => trivial
def gSame (n : Nat) : DF := fun dl P => ∃ d, dl = [d, d] ∧ SameD n d ∧ P (.val (.bool true))
@[simp] theorem at_same {n : Nat} {d e : D} {P : SD → Prop} : gSame n [d, e] P = (d = e ∧ SameD n d ∧ P (.val (.bool true))) := by
  refine propext ⟨?_, ?_⟩
  · rintro ⟨_, e, h, k⟩
    cases e; exact ⟨rfl, h, k⟩
  · rintro ⟨rfl, h, k⟩
    exact ⟨_, rfl, h, k⟩
def ceSame (g : DF) : DT := (dCall g (aCons (d2 dIx (dVar 0) (dVar 2)) (aCons (d2 dIx (dVar 1) (dVar 2)) aNil)))
def tbSame (g : DF) : DM := (mSeq (mIf (bOr (bT (dIsi "tuple" (dVar 1))) (bT (dIsi "list" (dVar 1)))) (mSeq (mIf (bOr (bT (d2 dNe (dIsi "tuple" (dVar 1)) (dIsi "tuple" (dVar 0)))) (bT (d2 dNe (dIsi "list" (dVar 1)) (dIsi "list" (dVar 0))))) (mRet (dC (.bool false))) mNil)
    (mRet (dAnd (d2 dEq (dB bLen (aCons (dVar 0) aNil)) (dB bLen (aCons (dVar 1) aNil))) (dB bAll (aCons (dComp (iR1 (dB bLen (aCons (dVar 1) aNil))) (gNm 2) cYes (ceSame g) [2]) aNil))))) mNil)
    (mSeq (mIf (bT (d2 (dIsN false) (dVar 1) (dC .none))) (mRet (d2 (dIsN false) (dVar 0) (dC .none))) mNil)
    (mSeq (mIf (bT (dIsi "bool" (dVar 1))) (mRet (dAnd (dIsi "bool" (dVar 0)) (d2 dEq (dVar 0) (dVar 1)))) mNil)
    (mSeq (mIf (bOr (bT (dIsi "bool" (dVar 0))) (bOr (bT (d2 dNe (dIsi "int" (dVar 0)) (dIsi "int" (dVar 1)))) (bT (d2 dNe (dIsi "str" (dVar 0)) (dIsi "str" (dVar 1)))))) (mRet (dC (.bool false))) mNil)
    (mRet (d2 dEq (dVar 0) (dVar 1)))))))
theorem mem_rng {a : Int} {n : Nat} {d : D} (h : d ∈ rngD a n) : ∃ k : Nat, k < n ∧ d = .int (a + k) := by
  unfold rngD at h
  simp at h
  obtain ⟨k, hk, e⟩ := h
  exact ⟨k, hk, e.symm⟩
theorem all_true {α : Type} (xs : List α) : (xs.map fun _ => (PyData.bool true)) = (xs.map fun _ => true).map .bool := by rw [List.map_map]; rfl
theorem rdSame (n : Nat) : ∀ dl Q, dl.length = 2 → gSame (n + 1) dl Q → tbSame (gSame n) (enF Q) (slots0 3 dl) := by
  rintro dl Q - ⟨d, rfl, hs, h⟩
  have seq : ∀ (C : List D → D) (xs : List D), (C = .list ∨ C = .tuple) → xs.length ≤ sizeLine → (∀ x ∈ xs, SameD n x) → ∀ (Q' : List D → DS → Prop), Q' ((rngD 0 xs.length).map fun _ => .bool true) [.val (C xs), .val (C xs), .no] →
      compD (gNm 2) cYes (ceSame (gSame n)) [2] (rngD 0 xs.length) [] [.val (C xs), .val (C xs), .no] Q' := fun C xs hC hl hx Q' hQ => by
    refine compD_map (fun _ => .bool true) _ _ _ (fun d hd L hL => ?_) (by simpa using hQ)
    obtain ⟨k, hk, rfl⟩ := mem_rng hd
    have e : atI xs (0 + (k : Int)) = some xs[k] := by rw [Int.zero_add]; exact atI_nat (List.getElem?_eq_getElem hk)
    have e' : atI xs (k : Int) = some xs[k] := by rw [Int.zero_add] at e; exact e
    rcases hC with rfl | rfl
    · simp [ceSame, e, e']
      exact ⟨hx _ (List.getElem_mem hk), hL⟩
    · simp [ceSame, e, e']
      exact ⟨hx _ (List.getElem_mem hk), hL⟩
  have sz : sizeLine < 2 ^ 62 := by decide +kernel
  cases d with
  | none => simpa [tbSame, isT_tuple, isT_list] using h
  | bool b => simpa [tbSame, isT_tuple, isT_list, isT_bool] using h
  | int i => simpa [tbSame, isT_tuple, isT_list, isT_bool, isT_int, isT_str] using h
  | str i => simpa [tbSame, isT_tuple, isT_list, isT_bool, isT_int, isT_str] using h
  | list xs =>
    simp [tbSame, isT_tuple, isT_list]
    refine ⟨by have := hs.1; omega, by simpa [rngD] using hs.1, seq .list xs (.inl rfl) hs.1 hs.2 _ ?_⟩
    exact ⟨(rngD 0 xs.length).map fun _ => true, by rw [List.map_map]; rfl, by
      have e : (((rngD 0 xs.length).map fun _ => true).all id) = true := List.all_eq_true.mpr fun b hb => by
        obtain ⟨_, _, rfl⟩ := List.mem_map.mp hb
        rfl
      simpa [e] using h⟩
  | tuple xs =>
    simp [tbSame, isT_tuple, isT_list]
    refine ⟨by have := hs.1; omega, by simpa [rngD] using hs.1, seq .tuple xs (.inr rfl) hs.1 hs.2 _ ?_⟩
    exact ⟨(rngD 0 xs.length).map fun _ => true, by rw [List.map_map]; rfl, by
      have e : (((rngD 0 xs.length).map fun _ => true).all id) = true := List.all_eq_true.mpr fun b hb => by
        obtain ⟨_, _, rfl⟩ := List.mem_map.mp hb
        rfl
      simpa [e] using h⟩
  | dict _ => exact hs.elim
end DL

/-! DL: shared defs, ratios. -/
namespace DL
open PySem PySem.Spec PyProof.Rows L2

theorem SameD_0 {d : D} : ¬ SameD 0 d := by cases d <;> exact id
theorem bigD_ex : ∃ n : Nat, n = 2 ^ 8000 := ⟨_, rfl⟩
/-- what the divisors stay below; nobody unfolds it -/
noncomputable def bigD : Nat := bigD_ex.choose
theorem bigD_eq : bigD = 2 ^ 8000 := bigD_ex.choose_spec
theorem lt_bigD {n k : Nat} (h : n < 2 ^ k) (hk : k ≤ 8000) : n < bigD := by
  rw [bigD_eq]
  exact Nat.lt_of_lt_of_le h (Nat.pow_le_pow_right (by decide) hk)
theorem divOk_bigD {j : Int} (h0 : j ≠ 0) (h : j.natAbs < bigD) : DivOk j := by
  rw [bigD_eq] at h
  exact DivOk.of h0 h (by decide)
theorem mulOk_bigD {a b : Int} (ha : a.natAbs < bigD) (hb : b.natAbs < bigD) : MulOk a b := by
  rw [bigD_eq] at ha hb
  exact MulOk.w (a := 8000) (b := 8000) ha hb (by omega)
def dnF (t b : Int) : Int := if b < 0 then -(Int.gcd t b : Int) else Int.gcd t b
def ratD (t b : Int) : D := .tuple [.int (t.fdiv (dnF t b)), .int (b.fdiv (dnF t b))]
theorem gcd_pos {t b : Int} (h : b ≠ 0) : 0 < Int.gcd t b := Int.gcd_pos_of_ne_zero_right t h
theorem gcd_le {t b : Int} (h : b ≠ 0) : Int.gcd t b ≤ b.natAbs := by
  have : Int.gcd t b ∣ b.natAbs := Nat.gcd_dvd_right ..
  exact Nat.le_of_dvd (by omega) this
theorem dnF_ok {t b : Int} (h : b ≠ 0) (hb : b.natAbs < bigD) : DivOk (dnF t b) := by
  have h1 := gcd_pos (t := t) h
  have h2 := gcd_le (t := t) h
  have e : (dnF t b).natAbs = Int.gcd t b := by unfold dnF; split <;> omega
  exact divOk_bigD (by omega) (by omega)
@[simp] theorem gcd_abs2 (t b : Int) : Nat.gcd t.natAbs b.natAbs = Int.gcd t b := rfl
theorem gcd_abs (t b : Int) : Int.gcd (t.natAbs : Int) (b.natAbs : Int) = Int.gcd t b := rfl
def g_ratio_of : DF := fun dl P => ∃ t b : Int, dl = [.int t, .int b] ∧ b ≠ 0 ∧ b.natAbs < bigD ∧ P (.val (ratD t b))
@[simp] theorem at_ratio_of {t b : Int} {P : SD → Prop} : g_ratio_of [.int t, .int b] P = (b ≠ 0 ∧ b.natAbs < bigD ∧ P (.val (ratD t b))) := by
  refine propext ⟨?_, fun h => ⟨_, _, rfl, h⟩⟩
  rintro ⟨_, _, e, h⟩
  cases e; exact h
def tb_ratio_of : DM := (mSeq (mSet 2 (dCall g_common (aCons (dB bAbs (aCons (dVar 0) aNil)) (aCons (dB bAbs (aCons (dVar 1) aNil)) aNil))))
    (mSeq (mIf (bT (d2 dLt (dVar 1) (dC (.int 0)))) (mSet 2 (d1 dNeg (dVar 2))) mNil)
    (mRet (dTup (aCons (d2 dFdiv (dVar 0) (dVar 2)) (aCons (d2 dFdiv (dVar 1) (dVar 2)) aNil))))))
theorem rd_ratio_of : ∀ dl Q, dl.length = 2 → g_ratio_of dl Q → tb_ratio_of (enF Q) (slots0 3 dl) := by
  rintro dl Q - ⟨t, b, rfl, hb, hz, h⟩
  have ok := dnF_ok (t := t) hb hz
  unfold ratD at h
  unfold dnF at ok h
  simp [tb_ratio_of]
  by_cases hn : b < 0
  · rw [if_pos hn] at ok h
    simpa [hn, ok] using h
  · rw [if_neg hn] at ok h
    simpa [hn, ok] using h
abbrev g__law_ratio : DF := g_ratio_of
def lc__law_ratio_1 : DTT := (bT (d2 dGt (dVar 3) (dC (.int 0))))
def lb__law_ratio_1 : DM := (mPar 2 3 (dVar 3) (d2 dMod (dB bInt (aCons (dVar 2) aNil)) (dVar 3)))
def tb__law_ratio : DM := (mSeq (mPar 2 3 (dB bAbs (aCons (dVar 0) aNil)) (dB bAbs (aCons (dVar 1) aNil)))
    (mSeq (mWhile lc__law_ratio_1 lb__law_ratio_1)
    (mSeq (mIf (bT (d2 dLt (dVar 1) (dC (.int 0)))) (mSet 2 (d2 dSub (dC (.int 0)) (dVar 2))) mNil)
    (mRet (dTup (aCons (d2 dFdiv (dVar 0) (dVar 2)) (aCons (d2 dFdiv (dVar 1) (dVar 2)) aNil)))))))
theorem rd__law_ratio : ∀ dl Q, dl.length = 2 → g__law_ratio dl Q → tb__law_ratio (enF Q) (slots0 4 dl) := by
  rintro dl Q - ⟨t, b, rfl, hb, hz, h⟩
  have ok := dnF_ok (t := t) hb hz
  unfold ratD at h
  unfold dnF at ok h
  simp only [tb__law_ratio, mSeq]
  simp
  refine while_ind (fun ds => ∃ x y : Int, ds = [.val (.int t), .val (.int b), .val (.int x), .val (.int y)] ∧ 0 ≤ x ∧ 0 ≤ y ∧ Int.gcd x y = Int.gcd t b) (fun ds : DS => match ds[3]? with | some (SD.val (PyData.int y)) => y.natAbs | _ => 0) ?_ ⟨_, _, rfl, by omega, by omega, gcd_abs t b⟩
  rintro ds L hL ⟨x, y, rfl, hx, hy, hg⟩
  by_cases h0 : 0 < y
  · have n0 := Int.fmod_nonneg_of_pos x h0
    have n1 := Int.fmod_lt_of_pos x h0
    simp [h0, lb__law_ratio_1, lc__law_ratio_1]
    refine ⟨by omega, hL _ ⟨y, x.fmod y, rfl, hy, n0, by rw [gcd_fmod h0, hg]⟩ ?_⟩
    simp; omega
  · have : y = 0 := by omega
    subst this
    simp [lc__law_ratio_1]
    have e : x = (Int.gcd t b : Int) := by rw [← hg, Int.gcd_zero_right, Int.natAbs_of_nonneg hx]
    subst e
    by_cases hn : b < 0
    · rw [if_pos hn] at ok h
      simpa [hn, ok] using h
    · rw [if_neg hn] at ok h
      simpa [hn, ok] using h
/-! the pot -/
def tb__law_pot (ce : DT) : DM := mRet (dPot (dComp (iSeq (dVar 0)) (gNm 2) cYes ce [2]) (aCons (dC (.int 0)) (aCons (dC (.int 0)) (aCons (dVar 1) aNil))))
def ce__law_pot_1 : DT := (dIf (bT (d2 dGe (dVar 2) (dC (.int 0)))) (dB bInt (aCons (dVar 2) aNil)) (d2 dSub (dC (.int 1)) (d2 dMul (dC (.int 2)) (dB bInt (aCons (dVar 2) aNil)))))
theorem rd__law_pot : ∀ dl Q, dl.length = 2 → gPot dl Q → tb__law_pot ce__law_pot_1 (enF Q) (slots0 3 dl) := by
  rintro dl Q - ⟨ns, s, rfl, hn, h⟩
  have sz : 63 ≤ sizeLine := by decide +kernel
  simp [tb__law_pot]
  refine ⟨by simpa using Nat.le_trans hn sz, ?_⟩
  let f : Int → Int := fun i => if 0 ≤ i then i else 1 - 2 * i
  refine compD_map (fun d => match d with | .int i => .int (f i) | d => d) _ _ _ (fun d hd L hL => ?_) ?_
  · obtain ⟨i, _, rfl⟩ := List.mem_map.mp hd
    by_cases h0 : 0 ≤ i
    · simpa [ce__law_pot_1, h0, f] using hL
    · have m : MulOk 2 i := MulOk.l ⟨by decide, by decide⟩
      simpa [ce__law_pot_1, h0, f, m] using hL
  · refine ⟨⟨ns.map f, by simp, fun x hx => ?_, by simpa using hn⟩, by simpa using h⟩
    obtain ⟨i, _, rfl⟩ := List.mem_map.mp hx
    simp only [f]
    split <;> omega
@[simp] theorem potB_val {p c : Addr} {b : Nat} : (potB p c b).val = .ref p := rfl
theorem at_draw {p c : Addr} {b : Nat} {m : Int} {P : SD → Wd → Prop} (h1 : 1 ≤ m) (h2 : m < 2 ^ 64) (hb : b < 2 ^ 60) (h : ∀ r : Int, 0 ≤ r → r < m → P (.val (.int r)) (potB p c (b + 1))) : gDraw (potB p c b) [.int m] P :=
  ⟨p, c, b, m, rfl, rfl, h1, h2, hb, h⟩
theorem atI_at {α : Type} {xs : List α} {i : Int} (h0 : 0 ≤ i) (h : i < xs.length) : ∃ v, atI xs i = some v ∧ v ∈ xs := by
  have hn : i.toNat < xs.length := by omega
  have := atI_nat (List.getElem?_eq_getElem hn)
  rw [Int.toNat_of_nonneg h0] at this
  exact ⟨_, this, List.getElem_mem hn⟩
end DL

/-! DL: expressions that leave the slots as they are: read piece by piece. -/
namespace DL
open PySem PySem.Spec PyProof.Rows L2

structure HdIs (ds : DS) (h : Hd) (d : D) : Prop where
  tk : ∀ P : D → DS → Prop, P d ds → take1 h ds P
  pk : peek ds h = some d
theorem HdIs.pk' {ds : DS} {h : Hd} {d : D} (x : HdIs ds h d) {P : D → Prop} (p : P d) : DL.pk ds h P := by
  unfold DL.pk
  rw [x.pk]; exact p
theorem HdIs.tmp {ds : DS} {d : D} : HdIs ds (.tmp d) d := ⟨fun _ p => p, rfl⟩
theorem HdIs.hdOf {ds : DS} {d : D} : HdIs ds (hdOf (.val d)) d := .tmp
def EvT (t : DT) (ds : DS) (d : D) : Prop := ∀ Q : QE, (∀ h, HdIs ds h d → Q h ds) → t ds Q
def EvA (t : DTA) (ds : DS) (dl : List D) : Prop := ∀ Q : List Hd → DS → Prop, (∀ hs, Paired (HdIs ds) hs dl → Q hs ds) → t ds Q
theorem takes_is {ds : DS} {hs : List Hd} {dl : List D} (x : Paired (HdIs ds) hs dl) {P : List D → DS → Prop} (p : P dl ds) : takes hs ds P := by
  induction x generalizing P with
  | nil => exact p
  | cons a b ih => exact a.tk _ (ih p)
theorem peeks_is {ds : DS} {hs : List Hd} {dl : List D} (x : Paired (HdIs ds) hs dl) {P : List D → Prop} (p : P dl) : peeks ds hs P := by
  induction x generalizing P with
  | nil => exact p
  | cons a b ih => exact a.pk' (ih p)
theorem ev_c {ds : DS} {d : D} : EvT (dC d) ds d := fun Q k => k _ .tmp
theorem ev_v {ds : DS} {i : Nat} {d : D} (h : ds[i]? = some (.val d) := by rfl) : EvT (dVar i) ds d := fun Q k => by
  unfold dVar
  rw [h]
  refine k _ ⟨fun P p => ?_, ?_⟩
  · simp only [take1, h]; exact p
  · simp only [peek, h]
theorem ev_nil {ds : DS} : EvA aNil ds [] := fun Q k => k _ .nil
theorem ev_cons {ds : DS} {t : DT} {u : DTA} {d : D} {dl : List D} (a : EvT t ds d) (b : EvA u ds dl) : EvA (aCons t u) ds (d :: dl) := fun Q k => a _ fun h x => b _ fun hs y => k _ (.cons x y)
theorem ev_tup {ds : DS} {u : DTA} {dl : List D} (a : EvA u ds dl) : EvT (dTup u) ds (.tuple dl) := fun Q k => a _ fun hs x => takes_is x (k _ .tmp)
theorem ev_pr {ds : DS} {a b : DT} {x y : D} (h1 : EvT a ds x) (h2 : EvT b ds y) : EvT (dTup (aCons a (aCons b aNil))) ds (.tuple [x, y]) := ev_tup (ev_cons h1 (ev_cons h2 ev_nil))
theorem HdIs.new {ds : DS} {dl : List D} : HdIs ds (.new (.own dl)) (.list dl) := ⟨fun _ p => p, rfl⟩
theorem ev_lst {ds : DS} {u : DTA} {dl : List D} (a : EvA u ds dl) : EvT (dLst u) ds (.list dl) := fun Q k => a _ fun hs x => takes_is x (k _ .new)
/-- a list display, its handle kept -/
theorem lst_new {ds : DS} {u : DTA} {dl : List D} {Q : QE} (a : EvA u ds dl) (q : Q (.new (.own dl)) ds) : dLst u ds Q := a _ fun hs x => takes_is x q
theorem ev_2 {op : D2} {ds : DS} {t u : DT} {a b r : D} (x : EvT t ds a) (y : EvT u ds b) (o : ∀ Q : Hd → Prop, Q (.tmp r) → op a b Q) : EvT (d2 op t u) ds r := fun Q k => x _ fun h1 i1 => y _ fun h2 i2 => i1.pk' (P := fun d1 => pk ds h2 fun e => op d1 e fun h => Q h ds) (i2.pk' (P := fun e => op a e fun h => Q h ds) (o _ (k _ .tmp)))
theorem ev_1 {op : D1} {ds : DS} {t : DT} {a r : D} (x : EvT t ds a) (o : ∀ Q : Hd → Prop, Q (.tmp r) → op a Q) : EvT (d1 op t) ds r := fun Q k => x _ fun h1 i1 => i1.pk' (P := fun d => op d fun h => Q h ds) (o _ (k _ .tmp))
theorem ev_mul {ds : DS} {t u : DT} {a b : Int} (x : EvT t ds (.int a)) (y : EvT u ds (.int b)) (m : MulOk a b) : EvT (d2 dMul t u) ds (.int (a * b)) := ev_2 x y fun Q q => ⟨m, q⟩
theorem ev_add {ds : DS} {t u : DT} {a b : Int} (x : EvT t ds (.int a)) (y : EvT u ds (.int b)) : EvT (d2 dAdd t u) ds (.int (a + b)) := ev_2 x y fun Q q => q
theorem ev_sub {ds : DS} {t u : DT} {a b : Int} (x : EvT t ds (.int a)) (y : EvT u ds (.int b)) : EvT (d2 dSub t u) ds (.int (a - b)) := ev_2 x y fun Q q => q
theorem ev_neg {ds : DS} {t : DT} {a : Int} (x : EvT t ds (.int a)) : EvT (d1 dNeg t) ds (.int (-a)) := ev_1 x fun Q q => q
theorem ev_pow {ds : DS} {t u : DT} {a b : Int} (x : EvT t ds (.int a)) (y : EvT u ds (.int b)) (c : CPow a b) : EvT (d2 dPow t u) ds (.int (a ^ b.toNat)) := ev_2 x y fun Q q => ⟨c, q⟩
theorem ev_ixL {ds : DS} {t u : DT} {xs : List D} {i : Int} {d : D} (x : EvT t ds (.list xs)) (y : EvT u ds (.int i)) (e : atI xs i = some d) : EvT (d2 dIx t u) ds d := ev_2 x y fun Q q => by simp only [dIx, e]; exact q
theorem ev_ixT {ds : DS} {t u : DT} {xs : List D} {i : Int} {d : D} (x : EvT t ds (.tuple xs)) (y : EvT u ds (.int i)) (e : atI xs i = some d) : EvT (d2 dIx t u) ds d := ev_2 x y fun Q q => by simp only [dIx, e]; exact q
theorem ev_call {ds : DS} {g : DF} {u : DTA} {dl : List D} {d : D} (a : EvA u ds dl) (h : ∀ P : SD → Prop, P (.val d) → g dl P) : EvT (dCall g u) ds d := fun Q k => a _ fun hs x => takes_is x (h _ (k _ .tmp))
theorem ev_b {ds : DS} {op : DN} {u : DTA} {dl : List D} {d : D} (a : EvA u ds dl) (h : ∀ Q : Hd → Prop, Q (.tmp d) → op dl Q) : EvT (dB op u) ds d := fun Q k => a _ fun hs x => peeks_is x (h _ (k _ .tmp))
/-! tests -/
def EvB (t : DTT) (ds : DS) (b : Bool) : Prop := ∀ Q : Bool → DS → Prop, Q b ds → t ds Q
theorem eb_t {ds : DS} {t : DT} {b : Bool} (x : EvT t ds (.bool b)) : EvB (bT t) ds b := fun Q q => x _ fun h i => i.pk' q
theorem eb_and {ds : DS} {t u : DTT} {a b : Bool} (x : EvB t ds a) (y : a = true → EvB u ds b) : EvB (bAnd t u) ds (a && b) := fun Q q => x _ (by
  cases a with
  | true => exact y rfl _ q
  | false => exact q)
theorem eb_or {ds : DS} {t u : DTT} {a b : Bool} (x : EvB t ds a) (y : a = false → EvB u ds b) : EvB (bOr t u) ds (a || b) := fun Q q => x _ (by
  cases a with
  | true => exact q
  | false => exact y rfl _ q)
theorem eb_not {ds : DS} {t : DTT} {a : Bool} (x : EvB t ds a) : EvB (bNot t) ds (!a) := fun Q q => x _ q
theorem ev_and {ds : DS} {t u : DT} {a b : Bool} (x : EvT t ds (.bool a)) (y : a = true → EvT u ds (.bool b)) : EvT (dAnd t u) ds (.bool (a && b)) := fun Q k => eb_t x _ (by
  cases a with
  | true => exact y rfl _ k
  | false => exact k _ .tmp)
theorem ev_or {ds : DS} {t u : DT} {a b : Bool} (x : EvT t ds (.bool a)) (y : a = false → EvT u ds (.bool b)) : EvT (dOr t u) ds (.bool (a || b)) := fun Q k => eb_t x _ (by
  cases a with
  | true => exact k _ .tmp
  | false => exact y rfl _ k)
theorem ev_not {ds : DS} {t : DT} {a : Bool} (x : EvT t ds (.bool a)) : EvT (dNot t) ds (.bool (!a)) := fun Q k => eb_t x _ (k _ .tmp)
theorem ev_if {ds : DS} {c : DTT} {t u : DT} {b : Bool} {d : D} (x : EvB c ds b) (y : b = true → EvT t ds d) (z : b = false → EvT u ds d) : EvT (dIf c t u) ds d := fun Q k => x _ (by
  cases b with
  | true => exact y rfl _ k
  | false => exact z rfl _ k)
end DL

/-! DL: the end of a law. -/
namespace DL
open PySem PySem.Spec PyProof.Rows L2

theorem spP_law {K : PySem.W.Frag} {H : Hp} {a : Addr} {ns : List Int} {g : DF} (hO : Only H) (hS : Ls K H a (ns.map V.int)) (hg : ∀ P : SD → Prop, P (.val (.bool true)) → g [.list (ns.map .int)] P) : spP K 1 g [.ref a] H (fun v _ => v = .bl true) fun _ _ _ => False := by
  refine ⟨rfl, fun b => ∃ o xs, H b = some (.frz o (.lst xs)), [.list (ns.map .int)], .cons (.lst ?_ (IsA.of_ints ns)) .nil, fun b ⟨o, xs, e⟩ => ⟨_, e, trivial⟩, fun r => r = .val (.bool true), hg _ rfl, ?_⟩
  · rcases hS with (h | ⟨o, h⟩) | h
    · rcases hO a with e | ⟨o, xs, e⟩
      · rw [e] at h; cases h
      · rw [e] at h; cases h
    · exact .inl (.inr ⟨o, by rw [res_in ⟨o, _, h⟩]; exact h⟩)
    · exact .inr h
  · rintro r rfl H' v F' q - - - ⟨⟨v', h1, h2⟩, _⟩
    cases h1
    cases h2
    rfl
theorem walkD {l : PySem.W.OpenLaw} {n k : Nat} {q : Program} {loose : List Str} {XP : (Str → Option Value) → Heap → Prop} {YP : World → Heap → Prop} {d : DefRec} {K : Params → PySem.W.Frag} {g : DF} {x : Str}
    (hn : l.most = some n) (hz : n ≤ sizeLine) (hdf : d.params.defaults = []) (hr : Room k callerA) (hY : ∀ w h, YP w h → (K w.params).In h)
    (hg : ∀ ns : List Int, ns.length ≤ n → ∀ P : SD → Prop, P (.val (.bool true)) → g [.list (ns.map .int)] P)
    (hF : ∀ (w : World) (mg : Str → Option Value) (fa : Addr) (h : Heap), (K w.params).In h → h.Ns mainGlobals mg → mg d.name = some (.ref fa) →
      ∃ fd : FuncData, (∀ s u, BindsTo s fd ⟨[u], []⟩ [(x, u)]) ∧ ∀ base : Heap, (K w.params).In base → base.Ns mainGlobals mg → FnOk l.prog w (K w.params) mg base CX0 k fa fd [x] (spP (K w.params) 1 g)) :
    PySem.W.WalkO q loose XP YP l.row.toRowW d [] (fun f vs => PySem.call f vs) := by
  refine Att.attach_call hn hdf fun w s0 s1 mg mb fa o pm cd doc a vs ns G Y ho hd hcd hmg hob hin hle hgn => ?_
  have kx := hY w _ Y
  obtain ⟨fd, hb, hf⟩ := hF w mg fa _ kx G.T.g hmg
  refine law_call kx G.T.g G.T.b G.T.builtins G.T.nolimit hgn hob hin (Nat.le_trans hle hz) hr hf hb (fun H hO hS => spP_law hO ?_ (hg ns hle)) fun _ _ _ h => h
  rcases hS with h | ⟨ob, its, m, hk, -, -, hd, hs, hv⟩
  · exact .inl h
  · have e := kx a ob hk
    rw [hob] at e
    cases e
    cases hd
    exact .inr ⟨_, _, hk, hs, hv⟩
end DL

/-! DL: the set of a list or tuple of texts, and how many it has. -/
namespace DL
open PySem PySem.Spec PyProof.Rows L2

def metS (val : Nat → Str) (i : Nat) : List Str := ((List.range i).map val).foldl step_dedup []
theorem metS_succ (val : Nat → Str) (i : Nat) : metS val (i + 1) = step_dedup (metS val i) (val i) := by simp [metS, List.range_succ]
theorem dedup_len (l : List Str) (v : Str) : (step_dedup l v).length = if l.any (· == v) then l.length else l.length + 1 := by unfold step_dedup; split <;> simp
theorem dedup_any (l : List Str) (v k : Str) : (step_dedup l v).any (· == k) = (l.any (· == k) || decide (k = v)) := by
  have sw : (v == k) = decide (k = v) := by
    by_cases e : k = v
    · rw [e]; simp
    · rw [decide_eq_false e]; simpa using fun z : v = k => e z.symm
  unfold step_dedup
  split
  · rename_i h
    by_cases e : k = v
    · rw [e, h]; rfl
    · rw [decide_eq_false e, Bool.or_false]
  · rw [List.any_append]
    simp [sw]
theorem metS_le (val : Nat → Str) : ∀ i, (metS val i).length ≤ i
  | 0 => Nat.le_refl _
  | i + 1 => by
    have := metS_le val i
    rw [metS_succ, dedup_len]
    split <;> omega
section
variable {P : Program} {w : World} {A : Around} {R : Result → Shared → Prop} {it : Addr} {fp wr : List Addr} {G : Array GenState → Array GenState → Prop} {n : Nat} {PI : Nat → Value → Prop} {St : Nat → Shared → Prop}
/-- what the set at a holds behind i items -/
abbrev MetAt (P : Program) (w : World) (h : Heap) (a : Addr) (val : Nat → Str) (i : Nat) : Prop := h.SetOf (PySem.strKind P w) a (fun k => (metS val i).any (· == k)) (metS val i).length
theorem strs_loop (W : WalksS P w A.in1 it fp wr G n PI St) (a : Addr) (ha : a ∉ fp) (val : Nat → Str) (hv : ∀ i v, PI i v → ∃ t, v = .str (val i) t) (hn : n + 1 < scanBound) :
    ∀ (j i : Nat) (s : Shared), i + j = n → St i s → MetAt P w s.heap a val i → (∀ s', Moved (a :: wr) G s s' → MetAt P w s'.heap a val n → R (.ok (.ret .none)) s') →
      codeAny (model P w) A (.builtin "set.update.loop" ⟨[.ref a, .ref it], []⟩) R s := by
  have naw : a ∉ wr := fun z => ha (W.sub _ z)
  have keepM : ∀ {s s' : Shared} {i : Nat}, Moved wr G s s' → MetAt P w s.heap a val i → MetAt P w s'.heap a val i := fun {s s' i} m ⟨o, es, ep, t, ho, r⟩ => ⟨o, es, ep, t, m.heap a _ naw ho, r⟩
  have up : ∀ b ∈ wr, b ∈ a :: wr := fun b z => List.mem_cons_of_mem _ z
  intro j
  induction j with
  | zero =>
    intro i s e st m k
    obtain rfl : i = n := by omega
    refine codeAny_builtin PyProof.Rows.F.entry_set_update_loop (by
      rw [Around.under_plainId PyProof.Rows.F.plain_set_update_loop _]
      exact wpAny_bind (W.done s _ _ st fun s' mv => wpAny_pure (k s' (mv.mono up) (keepM mv m))))
  | succ j ih =>
    intro i s e st m k
    refine codeAny_builtin PyProof.Rows.F.entry_set_update_loop ?_
    rw [Around.under_plainId PyProof.Rows.F.plain_set_update_loop _]
    refine wpAny_bind (W.item i s _ _ (by omega) st fun v s1 hp st1 mv => ?_)
    obtain ⟨t, rfl⟩ := hv i v hp
    have m1 := keepM mv m
    refine wpAny_bind (wpAny_holding (M := model P w) (by
      unfold setAdd
      refine wpAny_holding (wpAny_bind ((PySem.strKind P w).pyHash (k := val i) (strKind_is _ _ _ _) ?_))
      have room : (metS val i).length + 1 < scanBound := by have := metS_le val i; omega
      refine wpAny_setAddHashed_of (knd := PySem.strKind P w) (s := { s1 with toks := s1.toks + 1 }) (strKind_is _ _ _ _) rfl m1 room fun h2 hb m2 => ?_
      have m3 : MetAt P w h2 a val (i + 1) := SetOf_congr m2 (fun k => by rw [metS_succ, dedup_any]) (by rw [metS_succ, dedup_len])
      refine wpAny_pure ⟨plainId_quiet PyProof.Rows.F.plain_set_update_loop _, ih (i + 1) _ (by omega) (W.frame _ s1 _ _ st1 (Nat.le_succ _) fun b z o q => ?_) m3 fun s2 mv2 m4 => ?_⟩
      · rw [hb.2 b fun z2 => ha (z2 ▸ z)]; exact q
      · refine k s2 (Moved.trans W.gtrans ((mv.mono up).then_heap (Nat.le_succ _) fun b o z q => ?_) mv2) m4
        rw [hb.2 b fun z2 => z (z2 ▸ List.mem_cons_self)]; exact q))
end
section
variable {P : Program} {w : World} {A : Around} {E : Value → Shared → Prop} {s : Shared}
abbrev mtO (led : Bool) : Obj := { cls := .type "set", dict := none, data := .set #[] 0 (.fresh 0 0 led) }
abbrev mt (h : Heap) (led : Bool) : Heap := h.push (mtO led)
theorem set_of_list {q : Addr} {its : Array Value} {xs : List Str} {Q : Value → Shared → Prop} (hh : A.handled = none) (hq : s.heap.IsList q its) (hx : StrsAre its.toList xs) (hz : its.size + 1 < scanBound)
    (k : ∀ (h2 : Heap) (tk : Nat), MetAt P w h2 s.heap.objs.size (fun i => xs.getD i Str.empty) its.size → (∀ b o, b < s.heap.objs.size → s.heap.get? b = some o → h2.get? b = some o) → Q (.ref s.heap.objs.size) { s with heap := h2, toks := tk }) :
    wpAny (model P w) A (call (.type "set") [.ref q]) Q E s := by
  obtain ⟨_, _, f0⟩ := PySem.F.called_set.mro
  have f1 := PySem.F.called_set.made
  have f2 := PySem.F.called_set.sub
  have f3 := PySem.F.called_set.notType
  have f4 := PySem.F.called_set.canCreate
  have f5 := PySem.F.typeCall_set_1 (.ref q)
  refine wpAny_call (codeAny_of_tree (show wpAny _ _ (callAny (.type "set") _) _ _ _ from wpAny_pure ⟨Code.quiet_builtin _ (by decide +kernel), codeAny_builtin PySem.F.entry_type_call ?_⟩))
  rw [Around.under_plain (weight_type_call_type "set" [.ref q] []) rfl]
  repeat (any_goals (first | assumption | wp_step))
  refine codeAny_mono (code_set_new_1 (.ref q) (E := E) (Q₁ := fun u s1 => ∃ led : Bool, u = .ref s.heap.objs.size ∧ s1 = { s with heap := mt s.heap led }) fun led => ⟨led, rfl, rfl⟩) fun r s1 hr => ?_
  match r, hr with
  | .ok (.ret u), hr =>
    obtain ⟨led, rfl, rfl⟩ := hr
    have g0 : (mt s.heap led).get? s.heap.objs.size = some (mtO led) := Heap.get?_push_size _ rfl
    have ty : Shared.TypeIs { s with heap := mt s.heap led } (.ref s.heap.objs.size) "set" := ⟨_, g0, rfl⟩
    have f6 := PySem.F.called_set.init.lookup
    have f7 := PySem.F.called_set.init.bind (.ref s.heap.objs.size)
    repeat (any_goals (first | assumption | wp_step))
    refine codeAny_mono (codeAny_call_builtin (R := wants (fun u s2 => u = .none ∧ ∃ h2 tk, s2 = { s with heap := h2, toks := tk } ∧ MetAt P w h2 s.heap.objs.size (fun i => xs.getD i Str.empty) its.size ∧ ∀ b o, b < s.heap.objs.size → s.heap.get? b = some o → h2.get? b = some o) E)
      PySem.F.called_set.init.plain PySem.F.entry_set_init (check_set_init_1 ty ?_)) fun r2 s2 hr2 => ?_
    · obtain ⟨⟨cl, dc, dt, sl⟩, g1, e1, n1, e2⟩ := hq
      cases e1
      cases e2
      have g2 : (mt s.heap led).get? q = some { cls := .type "list", dict := dc, data := .seq its n1, slots := sl } := Heap.get?_push_of_some _ g1
      have f8 := PySem.F.sub_list_set
      have f9 := PySem.F.sub_list_frozenset
      have fa : (Value.type "list" == Value.type "dict") = false := by decide
      have i1 : (mt s.heap led).IsList q its := ⟨_, g2, rfl, n1, rfl⟩
      have lt : q < s.heap.objs.size := Heap.lt_size g1
      unfold Builtin.«set.__init__» noKeywords Builtin.Frozenset.updateFrom
      generalize hp : pyIter = itr
      wp_walk
      subst hp
      refine wpAny_pyIter_list i1 (wpAny_bind (wpAny_runValue ?_))
      have z1 : (mt s.heap led).objs.size = s.heap.objs.size + 1 := Heap.size_push ..
      have n2 : q ≠ (mt s.heap led).objs.size := Nat.ne_of_lt (Nat.lt_of_lt_of_le lt (by rw [z1]; exact Nat.le_succ _))
      have n3 : s.heap.objs.size ∉ [(mt s.heap led).objs.size, q] := by
        simp only [List.mem_cons, List.not_mem_nil, or_false, not_or]
        exact ⟨Nat.ne_of_lt (by rw [z1]; exact Nat.lt_succ_self _), Nat.ne_of_gt lt⟩
      refine strs_loop ((Walks.list (show A.in1.in1.in1.handled = none by simp [hh]) _ q n2 its).toS) s.heap.objs.size n3 (fun i => xs.getD i Str.empty) (fun i v hv => SS.strs_at hx i v (by rw [Array.getElem?_toList]; exact hv)) hz its.size 0 _ (by omega)
        ⟨⟨_, Heap.get?_push_size _ rfl, rfl, rfl⟩, i1.push _⟩ ?_ ?_
      · have g3 : ((mt s.heap led).push { cls := .type "list_iterator", data := .fields #[.ref q, .int 0 0] }).get? s.heap.objs.size = some (mtO led) := Heap.get?_push_of_some _ g0
        exact SetOf_congr ((setObjOf_fresh (knd := PySem.strKind P w) led).setOf g3 (by unfold scanBound; omega)) (fun _ => rfl) rfl
      · rintro ⟨h2, g', d', tk, o'⟩ mv m
        obtain rfl : g' = s.gens := mv.gens
        obtain rfl : d' = s.drawn := mv.drawn
        obtain rfl : o' = s.os := mv.os
        refine wpAny_pure (show wpAny _ _ (ret Value.none) _ _ _ from wpAny_pure ⟨rfl, h2, tk, rfl, m, fun b o lb e => mv.heap b o ?_ (Heap.get?_push_of_some _ (Heap.get?_push_of_some _ e))⟩)
        simp only [List.mem_cons, List.not_mem_nil, or_false, not_or]
        exact ⟨Nat.ne_of_lt lb, Nat.ne_of_lt (Nat.lt_of_lt_of_le lb (by rw [z1]; exact Nat.le_succ _))⟩
    · match r2, hr2 with
      | .ok (.ret u), hr2 =>
        obtain ⟨rfl, h2, tk, rfl, m, kp⟩ := hr2
        repeat (any_goals (first | assumption | wp_step))
        exact k _ _ m kp
      | .error e, hr2 => exact hr2
  | .error e, hr => exact hr

theorem set_of_tuple {q : Addr} {its : Array Value} {xs : List Str} {Q : Value → Shared → Prop} (hh : A.handled = none) (hq : s.heap.IsTuple q its) (hx : StrsAre its.toList xs) (hz : its.size + 1 < scanBound)
    (k : ∀ (h2 : Heap) (tk : Nat), MetAt P w h2 s.heap.objs.size (fun i => xs.getD i Str.empty) its.size → (∀ b o, b < s.heap.objs.size → s.heap.get? b = some o → h2.get? b = some o) → Q (.ref s.heap.objs.size) { s with heap := h2, toks := tk }) :
    wpAny (model P w) A (call (.type "set") [.ref q]) Q E s := by
  obtain ⟨_, _, f0⟩ := PySem.F.called_set.mro
  have f1 := PySem.F.called_set.made
  have f2 := PySem.F.called_set.sub
  have f3 := PySem.F.called_set.notType
  have f4 := PySem.F.called_set.canCreate
  have f5 := PySem.F.typeCall_set_1 (.ref q)
  refine wpAny_call (codeAny_of_tree (show wpAny _ _ (callAny (.type "set") _) _ _ _ from wpAny_pure ⟨Code.quiet_builtin _ (by decide +kernel), codeAny_builtin PySem.F.entry_type_call ?_⟩))
  rw [Around.under_plain (weight_type_call_type "set" [.ref q] []) rfl]
  repeat (any_goals (first | assumption | wp_step))
  refine codeAny_mono (code_set_new_1 (.ref q) (E := E) (Q₁ := fun u s1 => ∃ led : Bool, u = .ref s.heap.objs.size ∧ s1 = { s with heap := mt s.heap led }) fun led => ⟨led, rfl, rfl⟩) fun r s1 hr => ?_
  match r, hr with
  | .ok (.ret u), hr =>
    obtain ⟨led, rfl, rfl⟩ := hr
    have g0 : (mt s.heap led).get? s.heap.objs.size = some (mtO led) := Heap.get?_push_size _ rfl
    have ty : Shared.TypeIs { s with heap := mt s.heap led } (.ref s.heap.objs.size) "set" := ⟨_, g0, rfl⟩
    have f6 := PySem.F.called_set.init.lookup
    have f7 := PySem.F.called_set.init.bind (.ref s.heap.objs.size)
    repeat (any_goals (first | assumption | wp_step))
    refine codeAny_mono (codeAny_call_builtin (R := wants (fun u s2 => u = .none ∧ ∃ h2 tk, s2 = { s with heap := h2, toks := tk } ∧ MetAt P w h2 s.heap.objs.size (fun i => xs.getD i Str.empty) its.size ∧ ∀ b o, b < s.heap.objs.size → s.heap.get? b = some o → h2.get? b = some o) E)
      PySem.F.called_set.init.plain PySem.F.entry_set_init (check_set_init_1 ty ?_)) fun r2 s2 hr2 => ?_
    · obtain ⟨⟨cl, dc, dt, sl⟩, g1, e1, n1, e2⟩ := hq
      cases e1
      cases e2
      have g2 : (mt s.heap led).get? q = some { cls := .type "tuple", dict := dc, data := .seq its n1, slots := sl } := Heap.get?_push_of_some _ g1
      have f8 := PySem.F.sub_tuple_set
      have f9 := PySem.F.sub_tuple_frozenset
      have fa : (Value.type "tuple" == Value.type "dict") = false := by decide
      have i1 : (mt s.heap led).IsTuple q its := ⟨_, g2, rfl, n1, rfl⟩
      have lt : q < s.heap.objs.size := Heap.lt_size g1
      unfold Builtin.«set.__init__» noKeywords Builtin.Frozenset.updateFrom
      generalize hp : pyIter = itr
      wp_walk
      subst hp
      refine wpAny_pyIter_tuple i1 (wpAny_bind (wpAny_runValue ?_))
      have z1 : (mt s.heap led).objs.size = s.heap.objs.size + 1 := Heap.size_push ..
      have n2 : q ≠ (mt s.heap led).objs.size := Nat.ne_of_lt (Nat.lt_of_lt_of_le lt (by rw [z1]; exact Nat.le_succ _))
      have n3 : s.heap.objs.size ∉ [(mt s.heap led).objs.size, q] := by
        simp only [List.mem_cons, List.not_mem_nil, or_false, not_or]
        exact ⟨Nat.ne_of_lt (by rw [z1]; exact Nat.lt_succ_self _), Nat.ne_of_gt lt⟩
      refine strs_loop ((Walks.tuple (show A.in1.in1.in1.handled = none by simp [hh]) _ q n2 its).toS) s.heap.objs.size n3 (fun i => xs.getD i Str.empty) (fun i v hv => SS.strs_at hx i v (by rw [Array.getElem?_toList]; exact hv)) hz its.size 0 _ (by omega)
        ⟨⟨_, Heap.get?_push_size _ rfl, rfl, rfl⟩, i1.push _⟩ ?_ ?_
      · have g3 : ((mt s.heap led).push { cls := .type "tuple_iterator", data := .fields #[.ref q, .int 0 0] }).get? s.heap.objs.size = some (mtO led) := Heap.get?_push_of_some _ g0
        exact SetOf_congr ((setObjOf_fresh (knd := PySem.strKind P w) led).setOf g3 (by unfold scanBound; omega)) (fun _ => rfl) rfl
      · rintro ⟨h2, g', d', tk, o'⟩ mv m
        obtain rfl : g' = s.gens := mv.gens
        obtain rfl : d' = s.drawn := mv.drawn
        obtain rfl : o' = s.os := mv.os
        refine wpAny_pure (show wpAny _ _ (ret Value.none) _ _ _ from wpAny_pure ⟨rfl, h2, tk, rfl, m, fun b o lb e => mv.heap b o ?_ (Heap.get?_push_of_some _ (Heap.get?_push_of_some _ e))⟩)
        simp only [List.mem_cons, List.not_mem_nil, or_false, not_or]
        exact ⟨Nat.ne_of_lt lb, Nat.ne_of_lt (Nat.lt_of_lt_of_le lb (by rw [z1]; exact Nat.le_succ _))⟩
    · match r2, hr2 with
      | .ok (.ret u), hr2 =>
        obtain ⟨rfl, h2, tk, rfl, m, kp⟩ := hr2
        repeat (any_goals (first | assumption | wp_step))
        exact k _ _ m kp
      | .error e, hr2 => exact hr2
  | .error e, hr => exact hr

end
end DL

/-! DL: len(set(texts)), join, text * int, isinstance of two classes, what is walked from behind. -/
namespace DL
open PySem PySem.Spec PyProof.Rows L2

def uniqN (zs : List Str) : Nat := (zs.foldl step_dedup []).length
theorem metS_all (zs : List Str) : metS (fun i => zs.getD i Str.empty) zs.length = zs.foldl step_dedup [] := by
  unfold metS
  congr 1
  refine List.ext_getElem (by simp) fun i h1 h2 => ?_
  simp only [List.getElem_map, List.getElem_range]
  rw [List.getD_eq_getElem?_getD, List.getElem?_eq_getElem (by simpa using h2)]
  rfl
section
variable {X : Cx} {K : PySem.W.Frag} {a e o : Expr} {ta te to : TE} {t u : DT} {p p2 q pos pos2 apos : Pos}
def tLenS (K : PySem.W.Frag) (ta : TE) : TE := fun σ H Q => ta σ H fun x H1 => ∃ l, ∃ zs : List Str, x = .ref l ∧ (SqL K H1 l (zs.map V.str) ∨ SqT K H1 l (zs.map V.str)) ∧ zs.length + 1 < scanBound ∧ Q (.int (uniqN zs)) H1
theorem pe_lenS (hc : X.calm = true) (hg : Gl X "len") (hm : X.mg "len" = none) (hg2 : Gl X "set") (hm2 : X.mg "set" = none) (ha : PE X a ta)
    (na : starEach [a] X.env = (false, eval a X.env) :: starEach [] X.env) : PE X (.Call (.Name "len" p) [.Call (.Name "set" p2) [a] [] q] [] pos) (tLenS X.K ta) := by
  refine ⟨fun pins s σ H Q I h => Call_ (ld_blt I hg hm boot_len (callWith_builtin1 (args_cons (Call_ (ld_blt I hg2 hm2 boot_set (callWith_type1 (args_cons (thn (ha.run pins s σ H _ I h) fun v s1 ⟨x, H1, I1, r1, q1⟩ => args_nil ?_) na) na rfl))) rfl) rfl rfl))⟩
  obtain ⟨l, zs, rfl, hq, hz, q1⟩ := q1
  cases r1
  have done : ∀ its : List Value, Vals (zs.map V.str) its → ∀ (h2 : Heap) (tk : Nat), MetAt X.prog X.w h2 s1.heap.objs.size (fun i => zs.getD i Str.empty) its.toArray.size → (∀ b u, b < s1.heap.objs.size → s1.heap.get? b = some u → h2.get? b = some u) →
      wpAny (model X.prog X.w) X.A (spliced (backTo pos (starEach [] X.env))) (fun vs s2 => wpAny (model X.prog X.w) X.A (call (.builtin "len") (Value.ref s1.heap.objs.size :: vs)) (EP X pins σ Q) X.xe s2) X.xe { s1 with heap := h2, toks := tk } := fun its r h2 tk m kp => by
    have n : its.toArray.size = zs.length := by rw [List.size_toArray, ← r.length, List.length_map]
    rw [n] at m
    obtain ⟨ob, es, ep, tb, g, ex, dt, _, _, _, hf, hl⟩ := m
    rw [metS_all] at hl
    have I2 : Inv X pins σ H1 { s1 with heap := h2, toks := tk } := I1.kept fun b u z => kp b u (Heap.lt_size z) z
    have small : (zs.foldl step_dedup []).length ≤ zs.length := by
      have := metS_le (fun i => zs.getD i Str.empty) zs.length
      rwa [metS_all] at this
    exact args_nil (call_len_set g ex dt hf (by rw [hl]; have : scanBound < 2 ^ 63 := (by decide +kernel); omega) ⟨.int (uniqN zs), H1, I2.tok _, ⟨_, by rw [hl]; rfl⟩, q1⟩)
  rcases hq with hq | hq
  · obtain ⟨its, r, pl, z⟩ := I1.list hq
    have n : its.toArray.size = zs.length := by rw [List.size_toArray, ← r.length, List.length_map]
    exact set_of_list (I1.ok.hd hc) pl.isList (by simpa using strsAre_of r) (by rw [n]; exact hz) fun h2 tk m kp => done its r h2 tk m kp
  · obtain ⟨its, r, pl, z⟩ := I1.tuple hq
    have n : its.toArray.size = zs.length := by rw [List.size_toArray, ← r.length, List.length_map]
    exact set_of_tuple (I1.ok.hd hc) pl (by simpa using strsAre_of r) (by rw [n]; exact hz) fun h2 tk m kp => done its r h2 tk m kp
end
end DL

/-! DL: len(set(texts)), join, text * int, what is walked from behind. -/
namespace DL
open PySem PySem.Spec PyProof.Rows L2

@[simp] def dLenS (t : DT) : DT := fun ds Q => t ds fun h ds1 => pk ds1 h fun d => match d with
  | .list xs => ∃ zs : List Str, xs = zs.map .str ∧ zs.length + 1 < scanBound ∧ Q (.tmp (.int (uniqN zs))) ds1
  | .tuple xs => ∃ zs : List Str, xs = zs.map .str ∧ zs.length + 1 < scanBound ∧ Q (.tmp (.int (uniqN zs))) ds1
  | _ => False
section
variable {X : Cx} {K : PySem.W.Frag} {a e o : Expr} {es : List Expr} {ta te to tb : TE} {t u : DT} {p p2 q pos pos2 apos : Pos}
theorem do_lenS (hc : X.calm = true) (hg : Gl X "len") (hm : X.mg "len" = none) (hg2 : Gl X "set") (hm2 : X.mg "set" = none) (ha : DO X a ta t)
    (na : starEach [a] X.env = (false, eval a X.env) :: starEach [] X.env) : DO X (.Call (.Name "len" p) [.Call (.Name "set" p2) [a] [] q] [] pos) (tLenS X.K ta) (dLenS t) :=
  ⟨pe_lenS hc hg hm hg2 hm2 ha.pe na, fun F T σ H ds fp Q R r c k => by
    refine ha.ok F T σ H ds fp _ _ r c fun h ds1 v H1 F1 fp1 q1 c1 p1 => ?_
    obtain ⟨d, i, c2⟩ := pk_ok p1.rep p1.r c1
    cases d <;> first | exact False.elim c2 | skip
    · obtain ⟨zs, rfl, hz, c3⟩ := c2
      obtain ⟨l, vs, rfl, hl, il⟩ := i.list
      have := il.strs
      subst this
      exact ⟨l, zs, rfl, .inl hl.sq, hz, k _ _ _ _ _ _ _ c3 ((Pst.int (p1.rep.less fun _ z => .inl z)).pre p1.g p1.t)⟩
    · obtain ⟨zs, rfl, hz, c3⟩ := c2
      obtain ⟨l, vs, rfl, hl, il, _⟩ := i.tuple
      have := il.strs
      subst this
      exact ⟨l, zs, rfl, .inr hl, hz, k _ _ _ _ _ _ _ c3 ((Pst.int (p1.rep.less fun _ z => .inl z)).pre p1.g p1.t)⟩⟩
/-! 'sep'.join(texts) -/
@[simp] def dJoin (x : Str) (t : DT) : DT := fun ds Q => t ds fun h ds1 => pk ds1 h fun d => match d with
  | .list xs => ∃ zs : List Str, xs = zs.map .str ∧ (zs.map (·.length)).sum + zs.length * x.length ≤ 16777216 ∧ Q (.tmp (.str (Txt.join x zs))) ds1
  | _ => False
def rJoin (K : PySem.W.Frag) : V → List V → Hp → VK → Prop := fun x xs H Q => ∃ a p, ∃ ys : List Str, x = .str a ∧ xs = [.ref p] ∧ (SqL K H p (ys.map V.str) ∨ SqT K H p (ys.map V.str)) ∧ (ys.map (·.length)).sum + ys.length * a.length ≤ 16777216 ∧ Q (.str (Txt.join a ys)) H
theorem do_join {x : Str} {j : Nat} (ha : DO X e te t) (hs : starEach [e] X.env = [(false, eval e X.env)] := by rfl)
    (hb : attributeBase (.Constant (.str x) j p) "join" X.env (eval (.Constant (.str x) j p) X.env) = eval (.Constant (.str x) j p) X.env := by rfl) (hl : (apos.endLine == pos.line) = true := by rfl) :
    DO X (.Call (.Attribute (.Constant (.str x) j p) "join" apos) [e] [] pos) (tM1 (rJoin X.K) (tC (.str x)) te) (dJoin x t) :=
  ⟨pe_join pe_str ha.pe hs hb hl, fun F T σ H ds fp Q R r c k => ⟨⟨x, rfl⟩, by
    refine ha.ok F T σ H ds fp _ _ r c fun h ds1 v H1 F1 fp1 q1 c1 p1 => ?_
    obtain ⟨d, i, c2⟩ := pk_ok p1.rep p1.r c1
    cases d <;> first | exact False.elim c2 | skip
    obtain ⟨zs, rfl, hz, c3⟩ := c2
    obtain ⟨l, vs, rfl, hl, il⟩ := i.list
    have := il.strs
    subst this
    exact ⟨x, l, zs, rfl, rfl, .inl hl.sq, hz, k _ _ _ _ _ _ _ c3 ((Pst.is (p1.rep.less fun _ z => .inl z) (.str _)).pre p1.g p1.t)⟩⟩⟩
end
end DL

/-! DL: text * int, isinstance of two classes, what is walked from behind. -/
namespace DL
open PySem PySem.Spec PyProof.Rows L2

def repS (z : Str) (n : Int) : Str := if n < 1 then Str.empty else if (n == 1 || z.length == 0) = true then z else ⟨(List.replicate n.toNat z.cps).foldl (· ++ ·) #[]⟩
theorem rep_size (m : Nat) (a : Array Nat) : ∀ acc : Array Nat, ((List.replicate m a).foldl (· ++ ·) acc).size = acc.size + m * a.size := by
  induction m with
  | zero => intro acc; simp
  | succ m ih =>
    intro acc
    rw [List.replicate_succ, List.foldl_cons, ih, Array.size_append, Nat.succ_mul]
    omega
def rMulS : R2 := fun x y H Q => ∃ (z : Str) (n : Int), x = .str z ∧ y = .int n ∧ (0 ≤ n ∧ n ≤ 1000 ∧ z.length ≤ 1000) ∧ Q (.str (repS z n)) H
section
variable {X : Cx} {K : PySem.W.Frag} {a b e : Expr} {es : List Expr} {ta te tb : TE} {t u : DT} {p p2 q pos pos2 apos : Pos}
theorem op_mulS : OpR X (binaryOp .Mult) rMulS := by
  intro pins s σ H x y v u Q I rx ry h
  obtain ⟨z, n, rfl, rfl, ⟨h0, h1, hz⟩, q⟩ := h
  obtain ⟨t, rfl⟩ := rx
  obtain ⟨t', rfl⟩ := ry
  have bound : z.length * n.toNat ≤ 1000 * 1000 := Nat.mul_le_mul hz (by omega)
  refine PySem.P.mul_str ?_ (fun n1 _ => ?_) (fun n1 _ => ?_) ?_
  · rw [decide_eq_false (by omega), decide_eq_false (by omega)]; rfl
  · have : (1000 : Int) ≤ (2 ^ 63 - 1) / n := by
      have : (1000 : Int) * n ≤ 2 ^ 63 - 1 := by omega
      exact (Int.le_ediv_iff_mul_le (by omega)).mpr this
    omega
  · refine decide_eq_false ?_
    have : 1000 * 1000 ≤ sizeLine := by decide +kernel
    omega
  · unfold repS at q
    split
    · rw [if_pos ‹_›] at q
      exact ⟨by decide, .str Str.empty, H, I.tok _, ⟨_, rfl⟩, q⟩
    · rw [if_neg ‹_›] at q
      split
      · rw [if_pos ‹_›] at q
        exact ⟨.str z, H, I, ⟨_, rfl⟩, q⟩
      · rw [if_neg ‹_›] at q
        refine ⟨?_, .str _, H, I.tok _, ⟨_, rfl⟩, q⟩
        have e : (⟨(List.replicate n.toNat z.cps).foldl (· ++ ·) #[]⟩ : Str).length = n.toNat * z.length := by
          show ((List.replicate n.toNat z.cps).foldl (· ++ ·) #[]).size = _
          rw [rep_size]; simp; rfl
        rw [e, Nat.mul_comm]
        have : 1000 * 1000 ≤ sizeLine := by decide +kernel
        omega
/-- int * int, text * int -/
@[simp] def dMulA : D2
  | .int i, .int j, Q => MulOk i j ∧ Q (.tmp (.int (i * j)))
  | .str z, .int n, Q => (0 ≤ n ∧ n ≤ 1000 ∧ z.length ≤ 1000) ∧ Q (.tmp (.str (repS z n)))
  | _, _, _ => False
def rMulA : R2 := fun x y H Q => rI MulOk (fun i j => .int (i * j)) x y H Q ∨ rMulS x y H Q
theorem op_mulA : OpR X (binaryOp .Mult) rMulA := OpR.or op_mulO op_mulS
theorem rok_mulA : ROk K rMulA dMulA := by
  intro F T σ H ds fp x y d e Q R r px py h k
  cases d <;> cases e <;> first | exact False.elim h | skip
  · rw [px.int, py.int]
    exact .inl ⟨_, _, rfl, rfl, h.1, k _ _ _ _ _ h.2 (.here r (.int _))⟩
  · rw [px.str, py.int]
    exact .inr ⟨_, _, rfl, rfl, h.1, k _ _ _ _ _ h.2 (.here r (.str _))⟩
/-! isinstance(x, (A, B)) -/
@[simp] def dIsi2 (m n : String) (t : DT) : DT := fun ds Q => t ds fun h ds1 => pk ds1 h fun d => Q (.tmp (.bool (isT m d || isT n d))) ds1
def tIsi2 (K : PySem.W.Frag) (m n : String) (ta : TE) : TE := tCB (rIsiT K) (tCons ta (tCons (tTup (tCons (tC (.ty m)) (tCons (tC (.ty n)) tNil))) tNil))
theorem TyX.upd {H : Hp} {x : V} {T : Value} {p : Addr} {ob : HO} (h : TyX K H x T) (hp : H p = none) : TyX K (upd H p ob) x T := by
  have st : ∀ {a : Addr} {o : HO}, H a = some o → L2.upd H p ob a = some o := fun {a o} e => by rw [upd_ne (ne_of_none e hp)]; exact e
  cases h with
  | base h => cases h with
    | non => exact .base .non
    | bl x => exact .base (.bl x)
    | int i => exact .base (.int i)
    | str x => exact .base (.str x)
    | flt x => exact .base (.flt x)
    | lst e => exact .base (.lst (st e))
    | frz e => exact .base (.frz (st e))
    | tup e => exact .base (.tup (st e))
    | dK e => exact .base (.dK (st e))
    | dT e => exact .base (.dT (st e))
    | ins e c a b t m => exact .base (.ins (st e) c a b t m)
  | byt b => exact .byt b
  | set e => exact .set (st e)
  | kList e c => exact .kList e c
  | kTuple e c => exact .kTuple e c
  | kDict e c => exact .kDict e c
  | fTuple e => exact .fTuple (st e)
  | fDict e => exact .fDict (st e)
theorem eok_isi2 {m n : String} (hm : isiOk m = true) (hn : isiOk n = true) (ha : EOk K te u) : EOk K (tIsi2 K m n te) (dIsi2 m n u) := fun F T σ H ds fp Q R rp e k => by
  refine ha F T σ H ds fp _ _ rp e fun h1 ds1 v1 H1 F1 fp1 q1 k1 p1 => ?_
  obtain ⟨d, i, k2⟩ := pk_ok p1.rep p1.r k1
  refine ⟨show 2 ≤ sizeLine by decide +kernel, fun p hp => ?_⟩
  have kk : PySem.W.kitAny K (.type (tyD d)) [.type m, .type n] = some (isT m d || isT n d) := by
    refine kitAny_cons (kit_ty (kit_of_ok hm d)) (fun hb => ?_) fun hb => by rw [hb]; rfl
    refine kitAny_cons (kit_ty (kit_of_ok hn d)) (fun hb2 => ?_) fun hb2 => by rw [hb2]; simp
    rw [hb, hb2]; exact kitAny_nil
  obtain ⟨r1, g, kp⟩ := (p1.rep.less fun a (z : T a) => (.inl z : (T.or q1) a)).newF (o := .tup [.ty m, .ty n]) hp trivial
  refine ⟨v1, p, [.ty m, .ty n], .type (tyD d), [.type m, .type n], _, rfl, upd_same, .cons (.ty m) (.cons (.ty n) .nil), TyX.upd (tyX_of i) hp, kk, ?_⟩
  exact k _ _ _ _ _ _ _ k2 ((Pst.bool r1).pre (p1.g.trans g) fun a z => (kp a z).trans (p1.t a z))
theorem do_isi2 {m n : String} {y z : Str} {p' p3 tpos : Pos} {kk : Nat} (hm0 : isiOk m = true) (hn : isiOk n = true) (hg : Gl X "isinstance") (hm : X.mg "isinstance" = none) (hg2 : Gl X y) (hm2 : X.mg y = none) (hv2 : bootBuiltins y = some (.type m)) (hn2 : y ≠ "__name__") (hd2 : (y == ("__debug__" : Str)) = false)
    (hg3 : Gl X z) (hm3 : X.mg z = none) (hv3 : bootBuiltins z = some (.type n)) (hn3 : z ≠ "__name__") (hd3 : (z == ("__debug__" : Str)) = false) (ha : DO X e te u)
    (he : starEach [e, .Tuple [.Name y p', .Name z p3] kk tpos] X.env = (false, eval e X.env) :: starEach [.Tuple [.Name y p', .Name z p3] kk tpos] X.env) (he2 : starEach [.Tuple [.Name y p', .Name z p3] kk tpos] X.env = (false, eval (.Tuple [.Name y p', .Name z p3] kk tpos) X.env) :: starEach [] X.env)
    (hpl : (backTo pos (starEach [.Tuple [.Name y p', .Name z p3] kk tpos] X.env)).any (·.1) = false) (hs1 : starEach [.Name y p', .Name z p3] X.env = (false, eval (.Name y p') X.env) :: starEach [.Name z p3] X.env) (hs2 : starEach [.Name z p3] X.env = (false, eval (.Name z p3) X.env) :: starEach [] X.env) :
    DO X (.Call (.Name "isinstance" p) [e, .Tuple [.Name y p', .Name z p3] kk tpos] [] pos) (tIsi2 X.K m n te) (dIsi2 m n u) :=
  ⟨pe_callB call_isiT hg hm (by decide +kernel) (pa_cons ha.pe (pa_cons (pe_tup (pa_cons (pe_bltn hg2 hm2 hv2 (show RelV (.ty m) (.type m) from rfl) hn2 hd2) (pa_cons (pe_bltn hg3 hm3 hv3 (show RelV (.ty n) (.type n) from rfl) hn3 hd3) pa_nil hs2) hs1)) pa_nil he2) he) (by decide) (by decide) he hpl, eok_isi2 hm0 hn ha.ok⟩
end
end DL

/-! DL: what is walked from behind. -/
namespace DL
open PySem PySem.Spec PyProof.Rows L2 RT

section
variable {X : Cx} {K : PySem.W.Frag} {tg a b e : Expr} {es : List Expr} {ta te tb : TE} {t u : DT} {p p2 q pos pos2 apos : Pos}
theorem itd_revL {F : Ad} {H : Hp} {a : Addr} {vs : List V} {xs : List D} (ha : Ls K (res F H) a vs) (h : IsA K (res F H) vs xs) : ItD K F H (Itv K a vs.length) xs.reverse := by
  have key : ∀ F' H', Grow F H F' H' → SqL K H' a vs ∧ IsA K (res F' H') vs xs := fun F' H' g => ⟨(same_l (res_same _ _) (same_l g.same ha)).sq, h.mono g.same⟩
  refine ⟨fun F' H' i g hi => ?_, fun F' H' g => ?_, fun F' H' i x H'' d g hd y => ?_⟩
  · rw [List.length_reverse, ← h.length] at hi
    exact ⟨hi, vs, vs[vs.length - 1 - i], (key F' H' g).1, List.getElem?_eq_getElem (by omega)⟩
  · rw [List.length_reverse, ← h.length]
    exact Nat.le_refl _
  · obtain ⟨k1, k2⟩ := key F' H' g
    have hi : i < vs.length := by
      have := (List.getElem?_eq_some_iff.mp hd).1
      rwa [List.length_reverse, ← h.length] at this
    obtain ⟨e, hx⟩ := y
    obtain ⟨d', hd', iv⟩ := k2.get' (hx vs k1)
    rw [List.getElem?_reverse (by rw [← h.length]; exact hi), ← h.length, hd'] at hd
    cases hd
    exact .inl ⟨e, iv⟩
theorem itd_revT {F : Ad} {H : Hp} {a : Addr} {vs : List V} {xs : List D} (ha : SqT K (res F H) a vs) (h : IsA K (res F H) vs xs) : ItD K F H (ItvT K a vs.length) xs.reverse := by
  have key : ∀ F' H', Grow F H F' H' → SqT K H' a vs ∧ IsA K (res F' H') vs xs := fun F' H' g => ⟨same_t (res_same _ _) (same_t g.same ha), h.mono g.same⟩
  refine ⟨fun F' H' i g hi => ?_, fun F' H' g => ?_, fun F' H' i x H'' d g hd y => ?_⟩
  · rw [List.length_reverse, ← h.length] at hi
    exact ⟨hi, vs, vs[vs.length - 1 - i], (key F' H' g).1, List.getElem?_eq_getElem (by omega)⟩
  · rw [List.length_reverse, ← h.length]
    exact Nat.le_refl _
  · obtain ⟨k1, k2⟩ := key F' H' g
    have hi : i < vs.length := by
      have := (List.getElem?_eq_some_iff.mp hd).1
      rwa [List.length_reverse, ← h.length] at this
    obtain ⟨e, hx⟩ := y
    obtain ⟨d', hd', iv⟩ := k2.get' (hx vs k1)
    rw [List.getElem?_reverse (by rw [← h.length]; exact hi), ← h.length, hd'] at hd
    cases hd
    exact .inl ⟨e, iv⟩
@[simp] def iRevD (t : DT) : DIT := fun ds Q => t ds fun h ds1 => take1 h ds1 fun d ds2 => match d with
  | .list xs => Q xs.reverse ds2
  | .tuple xs => Q xs.reverse ds2
  | _ => False
theorem di_rev (hg : Gl X "reversed") (hm : X.mg "reversed" = none) (h : DO X e te t) (hs : starEach [e] X.env = (false, eval e X.env) :: starEach [] X.env := by rfl) : DI X tg (.Call (.Name "reversed" p) [e] [] pos) (iRevA X.K te) (iRevD t) :=
  ⟨pi_revA hg hm h.pe hs, fun F T σ H ds fp Q R r c k => by
    refine h.ok F T σ H ds fp _ _ r c fun h ds1 v H1 F1 fp1 q c p => ?_
    obtain ⟨d, ds2, F2, fp2, e2, r2, g2, i2⟩ := take1_ok p.rep p.qT p.r c
    cases d <;> first | exact False.elim e2 | skip
    · cases i2 with
      | lst ha hs => exact ⟨_, _, rfl, .inl ⟨(same_l (res_same _ _) ha).sq, k _ _ _ _ _ _ e2 r2 (p.g.trans g2) p.t (itd_revL ha hs)⟩⟩
    · cases i2 with
      | tup ha hs => exact ⟨_, _, rfl, .inr ⟨same_t (res_same _ _) ha, k _ _ _ _ _ _ e2 r2 (p.g.trans g2) p.t (itd_revT ha hs)⟩⟩⟩
/-! tuple(reversed(list)) -/
@[simp] def dTupRev (t : DT) : DT := fun ds Q => t ds fun h ds1 => pk ds1 h fun d => match d with
  | .list xs => Q (.tmp (.tuple xs.reverse)) ds1
  | _ => False
theorem do_tupRev (hc : X.calm = true) (hg : Gl X "tuple") (hm : X.mg "tuple" = none) (hg2 : Gl X "reversed") (hm2 : X.mg "reversed" = none) (he : DO X e te t) (hs : starEach [e] X.env = (false, eval e X.env) :: starEach [] X.env) :
    DO X (.Call (.Name "tuple" p) [.Call (.Name "reversed" p2) [e] [] pos2] [] pos) (tTupRev X.K te) (dTupRev t) :=
  ⟨pe_tupRev hc hg hm hg2 hm2 he.pe hs, fun F T σ H ds fp Q R r c k => by
    refine he.ok F T σ H ds fp _ _ r c fun h ds1 v H1 F1 fp1 q1 c1 p1 => ?_
    obtain ⟨d, i, c2⟩ := pk_ok p1.rep p1.r c1
    cases d <;> first | exact False.elim c2 | skip
    obtain ⟨l, vs, rfl, hl, il⟩ := i.list
    refine ⟨l, vs, rfl, hl.sq, fun q hq => ?_⟩
    exact k _ _ _ _ _ _ _ c2 ((Pst.tuple (p1.rep.less fun _ z => .inl z) il.reverse hq).pre p1.g p1.t)⟩
end
end DL

/-! DL: xs.extend(a new list). -/
namespace DL
open PySem PySem.Spec PyProof.Rows L2

@[simp] def mExt (i : Nat) (t : DT) : DM := fun E ds => ownAt ds i fun _ => t ds fun h ds1 => match h with
  | .new (.own zs) => ownAt ds1 i fun xs => xs.length + zs.length ≤ sizeLine ∧ E.nx (ds1.set i (.own (xs ++ zs)))
  | _ => False
section
variable {X : Cx} {K : PySem.W.Frag} {i : Nat} {x : Str} {e : Expr} {te : TE} {t : DT} {pos px apos cpos : Pos}
theorem ds_ext (he : DO X e te t) (hi : X.N[i]? = some x := by rfl) (hv : Vis X.env.scope x := by first | exact Or.inl rfl | exact Or.inr (Or.inl rfl) | exact Or.inr (Or.inr rfl)) (hd : (x == ("__debug__" : Str)) = false := by decide)
    (hcd : (x == ("__classdict__" : Str)) = false := by decide) (hse : starEach [e] X.env = (false, eval e X.env) :: starEach [] X.env := by rfl)
    (h1 : attributeBase (.Name x px) "extend" X.env (eval (.Name x px) X.env) = eval (.Name x px) X.env := by rfl)
    (h2 : ((backTo cpos (starEach [e] X.env)).all (fun x => !x.1) && (backToKw cpos (keywordEach [] X.env)).all (fun x => x.1.isSome) && decide (([e] : List Expr).length + ([] : List Keyword).length + (if ([] : List Keyword).isEmpty then 0 else 1) < 30)) = true := by rfl)
    (h3 : (apos.endLine == cpos.line) = true := by rfl) (h4 : (backTo cpos (starEach [] X.env)).any (·.1) = false := by rfl)
    (hs : swapsWith (.Call (.Attribute (.Name x px) "extend" apos) [e] [] cpos) none pos.line X.env = pure false := by rfl) :
    DSt X (.Expr (.Call (.Attribute (.Name x px) "extend" apos) [e] [] cpos) pos) (tDrop (tBM X.K "list" rExtend (tVar i) (tCons te tNil))) (mExt i t) := ⟨ps_expr (pe_bm PySem.F.plainAttrs_list PySem.F.slot_list_extend PySem.F.type_list_extend mt_extend (pe_var hi hv hd hcd) (pa_cons he.pe pa_nil hse) h1 h2 h3 hse h4) hs, fun F σ H ds fp E D r a k => by
  obtain ⟨xs0, h0, a⟩ := ownAt_inv a
  obtain ⟨b, vs0, e0, _, hb, _⟩ := r.slot i _ h0
  refine ⟨.ref b, e0, .inl ⟨rfl, _, .of hb⟩, ?_⟩
  refine he.ok F _ σ H ds fp _ _ r a fun h ds1 v H1 F1 fp1 q c p => ?_
  cases h with
  | tmp _ => exact False.elim c
  | slot _ => exact False.elim c
  | fld _ _ _ => exact False.elim c
  | new s =>
    cases s with
    | no => exact False.elim c
    | val _ => exact False.elim c
    | dic _ => exact False.elim c
    | wd _ => exact False.elim c
    | ob _ => exact False.elim c
    | own zs =>
    obtain ⟨b2, ws, e2, _, hb2, iw⟩ := p.r
    cases e2
    obtain ⟨xs, h2, hz, e3⟩ := ownAt_inv c
    obtain ⟨b', vs, e1, hb', ib, rl⟩ := (p.rep.less fun a z => .inl z).relist (ys := xs ++ zs) h2
    rw [e0] at e1; cases e1
    obtain ⟨r5, g5, _⟩ := rl (vs ++ ws) (ib.append iw)
    exact ⟨_, _, _, _, rfl, rfl, hb', hb2, by rw [ib.length, iw.length]; exact hz, k.nx _ _ _ _ fp1 e3 r5 (p.g.trans g5)⟩⟩
end
end DL

/-! DL: dicts of the text, by texts. -/
namespace DL
open PySem PySem.Spec PyProof.Rows L2

/-- a name of the text stands for this dict -/
structure KD (K : PySem.W.Frag) (w : World) (mg : Str → Option Value) (x : Str) (d : Addr) (es : Array DictEntry) (n : Nat) (kvs : List (Str × D)) : Prop where
  m : mg x = some (.ref d)
  k : KDict K w d es n
  has : ∀ z : Str, match kvs.lookup z with
    | some dd => ∃ u v, PySem.W.nsIn K d z = some (some u) ∧ RelV v u ∧ ∀ R, Is K R v dd
    | none => PySem.W.nsIn K d z = some none
@[simp] def dKix (kvs : List (Str × D)) (t : DT) : DT := fun ds Q => t ds fun h ds1 => pk ds1 h fun d => match d with
  | .str z => ∃ dd, kvs.lookup z = some dd ∧ Q (.tmp dd) ds1
  | _ => False
@[simp] def dKin (neg : Bool) (kvs : List (Str × D)) (t : DT) : DT := fun ds Q => t ds fun h ds1 => pk ds1 h fun d => match d with
  | .str z => Q (.tmp (.bool (if neg then !(kvs.lookup z).isSome else (kvs.lookup z).isSome))) ds1
  | _ => False
section
variable {X : Cx} {K : PySem.W.Frag} {x : Str} {e : Expr} {te : TE} {t : DT} {pos p : Pos} {d : Addr} {es : Array DictEntry} {n : Nat} {kvs : List (Str × D)}
theorem do_kix (C : KD X.K X.w X.mg x d es n kvs) (hg : Gl X x) (he : DO X e te t) (hd : (x == ("__debug__" : Str)) = false := by decide) (hs : PlainIx e := by exact fun _ _ => rfl) :
    DO X (.Subscript (.Name x p) e pos) (tOp (rIxD X.K X.w) (tC (.ref d)) te) (dKix kvs t) := ⟨pe_ix ix_kdict (pe_glob hg C.m rfl hd) he.pe hs, fun F T σ H ds fp Q R r c k => by
  refine he.ok F T σ H ds fp _ _ r c fun h ds1 v H1 F1 fp1 q1 c1 p1 => ?_
  obtain ⟨dd, i, c2⟩ := pk_ok p1.rep p1.r c1
  cases dd <;> first | exact False.elim c2 | skip
  obtain ⟨dd, e1, c3⟩ := c2
  rename_i z
  have hz := C.has z
  rw [e1] at hz
  obtain ⟨u, v2, e2, ru, iu⟩ := hz
  rw [i.str]
  exact ⟨d, z, v2, rfl, rfl, ⟨es, n, u, C.k.at_, C.k.lit, e2, ru⟩, k _ _ _ _ _ _ _ c3 ((Pst.is (p1.rep.less fun _ z => .inl z) (iu _)).pre p1.g p1.t)⟩⟩
def rKin (K : PySem.W.Frag) (d : Addr) : R2 := fun x y H Q => ∃ (z : Str) (r : Option Value), x = .str z ∧ y = .ref d ∧ PySem.W.nsIn K d z = some r ∧ Q (.bl r.isSome) H
def rKnin (K : PySem.W.Frag) (d : Addr) : R2 := fun x y H Q => ∃ (z : Str) (r : Option Value), x = .str z ∧ y = .ref d ∧ PySem.W.nsIn K d z = some r ∧ Q (.bl (!r.isSome)) H
theorem KD.some (C : KD X.K X.w X.mg x d es n kvs) (z : Str) : ∃ r, PySem.W.nsIn X.K d z = Option.some r ∧ r.isSome = (kvs.lookup z).isSome := by
  have hz := C.has z
  cases h : kvs.lookup z with
  | none => rw [h] at hz; exact ⟨_, hz, rfl⟩
  | some dd =>
    rw [h] at hz
    obtain ⟨u, v2, e2, _⟩ := hz
    exact ⟨_, e2, rfl⟩
theorem do_kin (C : KD X.K X.w X.mg x d es n kvs) (hg : Gl X x) (he : DO X e te t) (hd : (x == ("__debug__" : Str)) = false := by decide) (hm : behindInMarks .In (.Name x p) = false := by first | exact nomark _ | rfl) :
    DO X (.Compare e [.In] [.Name x p] pos) (tOp (rKin X.K d) te (tC (.ref d))) (dKin false kvs t) := ⟨pe_cmpR (op_in_kd C.k) he.pe (pe_glob hg C.m rfl hd) hm, fun F T σ H ds fp Q R r c k => by
  refine he.ok F T σ H ds fp _ _ r c fun h ds1 v H1 F1 fp1 q1 c1 p1 => ?_
  obtain ⟨dd, i, c2⟩ := pk_ok p1.rep p1.r c1
  cases dd <;> first | exact False.elim c2 | skip
  rename_i z
  obtain ⟨rr, e1, e2⟩ := C.some z
  rw [i.str]
  exact ⟨z, rr, rfl, rfl, e1, k _ _ _ _ _ _ _ c2 (by rw [e2]; exact (Pst.bool (p1.rep.less fun _ z => .inl z)).pre p1.g p1.t)⟩⟩
theorem do_knin (C : KD X.K X.w X.mg x d es n kvs) (hg : Gl X x) (he : DO X e te t) (hd : (x == ("__debug__" : Str)) = false := by decide) (hm : behindInMarks .NotIn (.Name x p) = false := by first | exact nomark _ | rfl) :
    DO X (.Compare e [.NotIn] [.Name x p] pos) (tOp (rKnin X.K d) te (tC (.ref d))) (dKin true kvs t) := ⟨pe_cmpR (op_notIn_kd C.k) he.pe (pe_glob hg C.m rfl hd) hm, fun F T σ H ds fp Q R r c k => by
  refine he.ok F T σ H ds fp _ _ r c fun h ds1 v H1 F1 fp1 q1 c1 p1 => ?_
  obtain ⟨dd, i, c2⟩ := pk_ok p1.rep p1.r c1
  cases dd <;> first | exact False.elim c2 | skip
  rename_i z
  obtain ⟨rr, e1, e2⟩ := C.some z
  rw [i.str]
  exact ⟨z, rr, rfl, rfl, e1, k _ _ _ _ _ _ _ c2 (by rw [e2]; exact (Pst.bool (p1.rep.less fun _ z => .inl z)).pre p1.g p1.t)⟩⟩
end
end DL

/-! DL: x -= e (ints); written values. -/
namespace DL
open PySem PySem.Spec PyProof.Rows L2

@[simp] def mDec (i : Nat) (t : DT) : DM := fun E ds => hasV ds i ∧ t ds fun h ds1 => pk ds1 h fun d => match ds1[i]?, d with
  | some (.val (.int c)), .int z => E.nx (ds1.set i (.val (.int (c - z))))
  | _, _ => False
/-- a name of the text stands for this datum, a value v -/
def Cst (K : PySem.W.Frag) (mg : Str → Option Value) (x : Str) (v : V) (d : D) : Prop := ∃ u, mg x = some u ∧ RelV v u ∧ ∀ R, Is K R v d
section
variable {X : Cx} {K : PySem.W.Frag} {i : Nat} {x : Str} {e : Expr} {te : TE} {d : DT} {pos pos' : Pos}
theorem do_cst {v : V} {dd : D} (hg : Gl X x) (c : Cst X.K X.mg x v dd) (hd : (x == ("__debug__" : Str)) = false := by decide) : DO X (.Name x pos) (tC v) (dC dd) := by
  obtain ⟨u, hm, r, i⟩ := c
  exact do_glob hg hm r i hd
theorem ds_dec (hN : X.N.Nodup) (he : DO X e te d) (hi : X.N[i]? = some x := by rfl) (hx : Loc X.env.scope x := by first | exact .inl rfl | exact .inr rfl) (hf : X.fn x = true ∨ X.env.scope.names.lookup x = some .local := by first | exact .inl rfl | exact .inr rfl | assumption) :
    DSt X (.AugAssign (.Name x pos') .Sub e pos) (tAug i te (rI0 fun i j => .int (i - j))) (mDec i d) := ⟨ps_aug hN hi hx he.pe iop_sub hf, fun F σ H ds fp E D r a k => by
  obtain ⟨v, hv⟩ := hasV_ok r a.1
  replace a := a.2
  refine ⟨v, hv, ?_⟩
  refine he.ok F _ σ H ds fp _ _ r a fun h ds' w H' F' fp' q b p => ?_
  obtain ⟨dd, pd, k2⟩ := pk_ok p.rep p.r b
  split at k2
  · rename_i c z hs
    obtain ⟨⟨w', e1, i1⟩, _⟩ := p.rep.slot i _ hs
    rw [hv] at e1; cases e1
    cases i1
    rw [pd.int]
    obtain ⟨r4, fp4, r5⟩ := put_ok (i := i) (P := E.nx) (q := Ad.nil) (T := Ad.nil) (p.rep.less fun a z => z.elim .inl fun z => z.elim) (fun _ z => z.elim) (show SlotOk X.K (res F' H') H' (some (some (.int (c - z)))) Ad.nil (.val (.int (c - z))) from ⟨⟨_, rfl, .int _⟩, fun _ z => z⟩) (by simp only [put, hs]; exact k2)
    exact ⟨_, _, rfl, rfl, k.nx _ _ _ _ fp4 r4 r5 p.g⟩
  · exact k2.elim⟩
end
end DL

/-! DL: data without lists; lists that are lent to a call. -/
namespace DL
open PySem PySem.Spec PyProof.Rows L2

mutual
def lfD : D → Bool
  | .none => true
  | .bool _ => true
  | .int _ => true
  | .str _ => true
  | .tuple xs => lfA xs
  | .list _ => false
  | .dict _ => false
def lfA : List D → Bool
  | [] => true
  | d :: ds => lfD d && lfA ds
end
def notL (o : HO) : Prop := ∀ vs, o ≠ .lst vs
section
variable {K : PySem.W.Frag} {R R' H : Hp}
theorem sqt_lf (e : ∀ a o, R a = some o → notL o → R' a = some o) {a : Addr} {xs : List V} (h : SqT K R a xs) : SqT K R' a xs := by
  rcases h with (h | ⟨o, h⟩) | h
  · exact .inl (.inl (e _ _ h fun _ z => nomatch z))
  · exact .inl (.inr ⟨o, e _ _ h fun _ z => nomatch z⟩)
  · exact .inr h
mutual
theorem Is.lf (e : ∀ a o, R a = some o → notL o → R' a = some o) : ∀ (d : D) {v : V}, lfD d = true → Is K R v d → Is K R' v d
  | .none, _, _, h => by cases h; exact .non
  | .bool _, _, _, h => by cases h; exact .bl _
  | .int _, _, _, h => by cases h; exact .int _
  | .str _, _, _, h => by cases h; exact .str _
  | .list ds, _, z, h => by cases z
  | .tuple ds, _, z, h => by
    cases h with
    | tup ha hs => exact .tup (sqt_lf e ha) (IsA.lf e ds (by simpa [lfD] using z) hs)
  | .dict _, _, z, h => by cases z
theorem IsA.lf (e : ∀ a o, R a = some o → notL o → R' a = some o) : ∀ (ds : List D) {vs : List V}, lfA ds = true → IsA K R vs ds → IsA K R' vs ds
  | [], _, _, h => by cases h; exact .nil
  | d :: ds, _, z, h => by
    have z : lfD d = true ∧ lfA ds = true := by simpa [lfA] using z
    cases h with
    | cons h1 h2 => exact .cons (Is.lf e d z.1 h1) (IsA.lf e ds z.2 h2)
end
def Wd.LF (w : Wd) : Prop := ∀ {R R' H : Hp}, (∀ a o, R a = some o → notL o → R' a = some o) → w.ok R H → w.ok R' H
@[simp] def FD.lf : FD → Bool
  | .val d => lfD d
  | .own _ xs => lfA xs
def Ob.lf (o : Ob) : Bool := o.fs.all FD.lf
theorem FOk.lf (e : ∀ a o, R a = some o → notL o → R' a = some o) : ∀ {v : V} {x : FD}, x.lf = true → FOk K R H v x → FOk K R' H v x
  | _, .val d, z, h => Is.lf e d z h
  | _, .own b xs, z, ⟨h1, ws, h2, h3⟩ => ⟨h1, ws, h2, h3.lf e xs z⟩
theorem fsOk_lf (e : ∀ a o, R a = some o → notL o → R' a = some o) : ∀ {vs : List V} {fs : List FD}, fs.all FD.lf = true → Paired (FOk K R H) vs fs → Paired (FOk K R' H) vs fs
  | _, _, _, .nil => .nil
  | _, _, z, .cons h1 h2 => by
    rw [List.all_cons, Bool.and_eq_true] at z
    exact .cons (h1.lf e z.1) (fsOk_lf e z.2 h2)
theorem obWd_lf {o : Ob} (z : o.lf = true) : (obWd K o).LF := fun e ⟨⟨dx, vs, h1, h2, h3⟩, h4⟩ => ⟨⟨dx, vs, h1, h2, fsOk_lf e z h3⟩, h4⟩
@[simp] def SD.lf : SD → Prop
  | .no => True
  | .val d => lfD d = true
  | .own xs => lfA xs = true
  | .dic kvs => lfA (kvs.map (·.2)) = true
  | .wd w => w.LF
  | .ob o => o.lf = true
theorem kv_lf (e : ∀ a o, R a = some o → notL o → R' a = some o) : ∀ {a : List (Key × V)} {b : List (Key × D)}, lfA (b.map (·.2)) = true → IsKV K R a b → IsKV K R' a b
  | _, _, _, .nil => .nil
  | _ :: _, y :: ys, z, .cons h1 h2 => by
    have z : lfD y.2 = true ∧ lfA (ys.map (·.2)) = true := by simpa [lfA] using z
    exact .cons ⟨h1.1, Is.lf e _ z.1 h1.2⟩ (kv_lf e z.2 h2)
theorem SlotOk.lf {ov : Option (Option V)} {fp : Ad} (e : ∀ a o, R a = some o → notL o → R' a = some o) : ∀ {s : SD}, s.lf → SlotOk K R H ov fp s → SlotOk K R' H ov fp s
  | .no, _, h => h
  | .val d, z, ⟨⟨v, h1, h2⟩, h3⟩ => ⟨⟨v, h1, Is.lf e d z h2⟩, h3⟩
  | .own xs, z, ⟨a, vs, h1, h2, h3, h4⟩ => ⟨a, vs, h1, h2, h3, h4.lf e xs z⟩
  | .dic kvs, z, ⟨a, vs, h1, h2, h3, h4⟩ => ⟨a, vs, h1, h2, h3, kv_lf e z h4⟩
  | .wd w, z, ⟨h1, h2, h3⟩ => ⟨h1, h2, z e h3⟩
  | .ob o, z, ⟨h1, h2, h3⟩ => ⟨h1, h2, obWd_lf (K := K) z e h3⟩
end

/-! ### lending -/
@[simp] def lend1 (sf : Option Nat) : Hd → DS → (D → Bool → Prop) → Prop
  | .tmp d, _, Q => Q d false
  | .slot i, ds, Q => match ds[i]? with
    | some (.val d) => Q d false
    | some (.own xs) => some i ≠ sf ∧ Q (.list xs) true
    | _ => False
  | .new (.own xs), _, Q => Q (.list xs) false
  | .new (.val d), _, Q => Q d false
  | .new _, _, _ => False
  | .fld j k a, ds, Q => some j ≠ sf ∧ match ds[j]? with
    | some (.ob o) => match o.fs[k]? with
      | some (.own b xs) => b = a ∧ Q (.list xs) true
      | _ => False
    | _ => False
@[simp] def lends (sf : Option Nat) : List Hd → DS → (List D → Bool → Prop) → Prop
  | [], _, Q => Q [] false
  | h :: hs, ds, Q => lend1 sf h ds fun d b => lends sf hs ds fun dl c => Q (d :: dl) (b || c)
/-- L: the addresses lent -/
structure Lnt (sf : Option Nat) (H : Hp) (fp : Nat → Ad) (b : Bool) (L : Ad) : Prop where
  at_ : ∀ a, L a → ∃ i, some i ≠ sf ∧ fp i a
  ls : ∀ a, L a → ∃ vs, H a = some (.lst vs)
  no : b = false → ∀ a, ¬ L a
theorem Lnt.nil {sf : Option Nat} {H : Hp} {fp : Nat → Ad} : Lnt sf H fp false Ad.nil := ⟨fun _ z => z.elim, fun _ z => z.elim, fun _ _ z => z⟩
theorem Lnt.or {sf : Option Nat} {H : Hp} {fp : Nat → Ad} {b c : Bool} {L M : Ad} (x : Lnt sf H fp b L) (y : Lnt sf H fp c M) : Lnt sf H fp (b || c) (L.or M) :=
  ⟨fun a z => z.elim (x.at_ a) (y.at_ a), fun a z => z.elim (x.ls a) (y.ls a), fun e a z => by
    rw [Bool.or_eq_false_iff] at e
    exact z.elim (x.no e.1 a) (y.no e.2 a)⟩
section
variable {K : PySem.W.Frag} {F F' T q : Ad} {σ : Sl} {H : Hp} {ds : DS} {fp : Nat → Ad} {v : V} {vs : List V} {h : Hd} {hs : List Hd} {sf : Option Nat}
theorem lend1_ok {Q : D → Bool → Prop} (r : Rep K F (T.or q) σ H ds fp) (dj : ∀ a, q a → ¬ T a) (x : HdR K F H σ v q h) (e : lend1 sf h ds Q) :
    ∃ d b F' L, Q d b ∧ Rep K F' T σ H ds fp ∧ Grow F H F' H ∧ Lnt sf H fp b L ∧ Is K (res (F'.or L) H) v d := by
  have r0 : Rep K F T σ H ds fp := r.less fun a t => .inl t
  have up : ∀ {M N : Ad} {d : D}, (∀ a, M a → N a) → Is K (res M H) v d → Is K (res N H) v d := fun {M N d} hs i => i.mono fun a o e => by
    obtain ⟨f, e⟩ := res_some e
    rw [res_in (hs a f)]; exact e
  cases h with
  | tmp d => exact ⟨_, _, F, Ad.nil, e, r0, .refl, .nil, up (fun _ => .inl) x⟩
  | slot i =>
    have x' : σ[i]? = some (some v) := x
    cases hd : ds[i]? with
    | none => simp [lend1, hd] at e
    | some s =>
      cases s with
      | val d' =>
        simp [lend1, hd] at e
        obtain ⟨⟨v', h1, h2⟩, _⟩ := r.slot i _ hd
        rw [x'] at h1; cases h1
        exact ⟨_, _, F, Ad.nil, e, r0, .refl, .nil, up (fun _ => .inl) h2⟩
      | own xs =>
        simp only [lend1, hd] at e
        obtain ⟨a, ws, h1, h2, h3, h4⟩ := r.slot i _ hd
        rw [x'] at h1; cases h1
        refine ⟨_, _, F, (· = a), e.2, r0, .refl, ⟨fun b z => ⟨i, e.1, (h2 b).mpr z⟩, fun b z => ⟨ws, by rw [z]; exact h3⟩, fun z => nomatch z⟩, ?_⟩
        refine .lst (.inl (.inl (by rw [res_in (.inr rfl)]; exact h3))) (h4.mono fun b o e => ?_)
        obtain ⟨f, e⟩ := res_some e
        rw [res_in (.inl f)]; exact e
      | no => simp [lend1, hd] at e
      | dic _ => simp [lend1, hd] at e
      | wd _ => simp [lend1, hd] at e
      | ob _ => simp [lend1, hd] at e
  | new s =>
    cases s with
    | own xs =>
      obtain ⟨a, ws, h1, h2, h3, h4⟩ := x
      cases h1
      obtain ⟨r1, g⟩ := r.freezeT dj fun b hb => by rw [(h2 b).mp hb]; exact ⟨_, h3, trivial⟩
      exact ⟨_, _, _, Ad.nil, e, r1, g, .nil, up (fun _ => .inl) (.lst (.inl (.inl (by rw [res_in (.inr ((h2 a).mpr rfl))]; exact h3))) (h4.mono g.same))⟩
    | val d =>
      obtain ⟨⟨v', h1, h2⟩, _⟩ := x
      cases h1
      exact ⟨_, _, F, Ad.nil, e, r0, .refl, .nil, up (fun _ => .inl) h2⟩
    | no => exact e.elim
    | dic _ => exact e.elim
    | wd _ => exact e.elim
    | ob _ => exact e.elim
  | fld j k a =>
    have x' : v = .ref a := x
    subst x'
    obtain ⟨nj, e⟩ := e
    split at e
    · rename_i o hd
      split at e
      · rename_i b xs hk
        obtain ⟨rfl, e⟩ := e
        obtain ⟨_, hfp, ⟨dx, vs, _, _, hp⟩, _⟩ := r.slot j _ hd
        obtain ⟨u, _, _, ws, h3, h4⟩ := paired_at2 hp hk
        refine ⟨_, _, F, (· = b), e, r0, .refl, ⟨fun c z => ⟨j, nj, ?_⟩, fun c z => ⟨ws, by rw [z]; exact h3⟩, fun z => nomatch z⟩, ?_⟩
        · rw [z]
          exact (hfp b).mpr (.inr (owns_mem.mpr ⟨_, List.mem_of_getElem? hk, rfl⟩))
        · refine .lst (.inl (.inl (by rw [res_in (.inr rfl)]; exact h3))) (h4.mono fun b o e => ?_)
          obtain ⟨f, e⟩ := res_some e
          rw [res_in (.inl f)]; exact e
      · exact e.elim
    · exact e.elim
theorem lends_ok (x : HdRs K F H σ vs q hs) : ∀ {F1 T} {Q : List D → Bool → Prop}, Grow F H F1 H → Rep K F1 (T.or q) σ H ds fp → (∀ a, q a → ¬ T a) → lends sf hs ds Q →
    ∃ dl b F' L, Q dl b ∧ Rep K F' T σ H ds fp ∧ Grow F1 H F' H ∧ Lnt sf H fp b L ∧ IsA K (res (F'.or L) H) vs dl := by
  induction x with
  | nil =>
    intro F1 T Q g r dj e
    exact ⟨[], false, F1, Ad.nil, e, r.less fun a t => .inl t, .refl, .nil, .nil⟩
  | @cons v vs q1 q2 q h hs a b c d ih =>
    intro F1 T Q g r dj e
    have r1 : Rep K F1 ((T.or q2).or q1) σ H ds fp := r.less fun a t => t.elim (fun t => t.elim .inl fun t => .inr (c a (.inr t))) fun t => .inr (c a (.inl t))
    obtain ⟨d1, b1, F2, L1, e1, r2, g2, l1, i1⟩ := lend1_ok r1 (fun a z => by
      rintro (t | t)
      · exact dj a (c a (.inl z)) t
      · exact d a z t) (a.keep g fun _ _ => rfl) e
    obtain ⟨dl, b2, F3, L2, e2, r3, g3, l2, i2⟩ := ih (g.trans g2) r2 (fun a z => dj a (c a (.inr z))) e1
    refine ⟨_, _, _, _, e2, r3, g2.trans g3, l1.or l2, .cons (i1.mono fun a o e => ?_) (i2.mono fun a o e => ?_)⟩
    · obtain ⟨f, e⟩ := res_some e
      rw [res_in (f.elim (fun f => .inl (g3 a f).1) fun f => .inr (.inl f))]; exact e
    · obtain ⟨f, e⟩ := res_some e
      rw [res_in (f.elim .inl fun f => .inr (.inr f))]; exact e
end
end DL

/-! DL: calls that lend lists. -/
namespace DL
open PySem PySem.Spec PyProof.Rows L2

section
variable {X : Cx} {K : PySem.W.Frag} {F T q L : Ad} {σ : Sl} {H : Hp} {ds : DS} {fp : Nat → Ad} {e : Expr} {es : List Expr} {ta tk : TA} {t tkD : DTA} {n k j : Nat} {g : DF} {gw : DFW} {f : Addr} {fd : FuncData} {ps ks : List Str} {x y : Str} {p pos py : Pos} {b : Bool}
@[simp] def dCallL (g : DF) (t : DTA) : DT := fun ds Q => t ds fun hs ds1 => lends none hs ds1 fun dl b => g dl fun r => (b = true → r.lf) ∧ Q (hdOf r) ds1
/-- the call itself, some lists lent -/
theorem call_coreL {vs : List V} {dl : List D} {Q : Hd → Prop} {R : VK} {E : XK} (r2 : Rep K F T σ H ds fp) (l : Lnt none H fp b L) (ia : IsA K (res (F.or L) H) vs dl) (hn : vs.length = n) (h : g dl fun r => (b = true → r.lf) ∧ Q (hdOf r))
    (k : ∀ h v H' F' q, Q h → Pst K F T H σ v h ds F' H' fp q → R v H') : frm (spP K n g) vs H R E := by
  let G : Ad := fun a => (T a ∨ ∃ i, fp i a) ∧ ¬ L a
  have hG : ∀ a, G a → ∃ o, H a = some o ∧ bigO o := fun a z => by
    rcases z.1 with z | ⟨i, z⟩
    · exact r2.td a z
    · exact r2.fdom z
  have LF : ∀ a, L a → ¬ F a := fun a z f => by
    obtain ⟨i, _, z⟩ := l.at_ a z
    exact r2.fF i a z f
  have nF : ∀ a, (F.or L) a → ¬ hidden G H a := fun a f z => by
    rcases f with f | f
    · rcases z with ⟨z | ⟨i, z⟩, _⟩ | ⟨y, _, z⟩
      · exact r2.tF a z f
      · exact r2.fF i a z f
      · obtain ⟨o, e, b⟩ := r2.fd a f
        rw [z] at e; cases e; exact b
    · rcases z with ⟨_, z⟩ | ⟨y, _, z⟩
      · exact z f
      · obtain ⟨ws, e⟩ := l.ls a f
        rw [z] at e; cases e
  have hid : ∀ a, (T a ∨ ∃ i, fp i a) → ¬ L a → hidden G H a := fun a z nl => .inl ⟨z, nl⟩
  refine ⟨G, hG, hn, F.or L, dl, ia.mono fun a o e => ?_, fun a f => ?_, ?_⟩
  · obtain ⟨f, e⟩ := res_some e
    rw [res_in f, hide_out (nF a f)]; exact e
  · rw [hide_out (nF a f)]
    rcases f with f | f
    · exact r2.fd a f
    · obtain ⟨ws, e⟩ := l.ls a f
      exact ⟨_, e, trivial⟩
  · refine ⟨_, h, fun r hr H' v F' q g' sa qa so hh => ?_⟩
    have nh' : ∀ a o, H' a = some o → ¬ hidden G H a := fun a o e z => by rw [hh a z] at e; cases e
    have nF' : ∀ a, F' a → ¬ hidden G H a := fun a f => by
      obtain ⟨o, e, _⟩ := sa a f
      exact nh' a o e
    have nq : ∀ a, q a → ¬ hidden G H a := fun a f => by
      obtain ⟨_, o, e, _⟩ := qa a f
      exact nh' a o e
    let F2 : Ad := fun a => F' a ∧ ¬ L a
    have eqH : ∀ a, (F.or L) a → back G H H' a = H a := fun a f => by rw [back_out (nF a f), (g' a f).2, hide_out (nF a f)]
    have GG : Grow F H F2 (back G H H') := fun a f => ⟨⟨(g' a (.inl f)).1, fun z => LF a z f⟩, eqH a (.inl f)⟩
    have so1 : SlotOk K (res F2 H') H' (some (some v)) q r := by
      cases hb : b with
      | true =>
        refine so.lf (fun a o e nl => ?_) (hr.1 hb)
        obtain ⟨f, e⟩ := res_some e
        by_cases z : L a
        · obtain ⟨ws, e2⟩ := l.ls a z
          rw [(g' a (.inr z)).2, hide_out (nF a (.inr z)), e2] at e
          cases e; exact absurd rfl (nl _)
        · rw [res_in ⟨f, z⟩]; exact e
      | false =>
        refine so.mono (fun a o e => ?_) fun _ _ => rfl
        obtain ⟨f, e⟩ := res_some e
        rw [res_in ⟨f, l.no hb a⟩]; exact e
    have so' : SlotOk K (res F2 (back G H H')) (back G H H') (some (some v)) q r :=
      so1.mono (fun a o e => by
        obtain ⟨f, e⟩ := res_some e
        rw [res_in f, back_out (nF' a f.1)]; exact e) fun a z => back_out (nq a z)
    have keep : ∀ a, (T a ∨ ∃ i, fp i a) → back G H H' a = H a := fun a z => by
      by_cases y : L a
      · exact eqH a (.inr y)
      · exact back_in (hid a z y)
    have nF2 : ∀ a, (T a ∨ ∃ i, fp i a) → ¬ F2 a := fun a z f => nF' a f.1 (hid a z f.2)
    have nq2 : ∀ a, (T a ∨ ∃ i, fp i a) → ¬ q a := fun a z y => by
      by_cases w : L a
      · exact (qa a y).1 (g' a (.inr w)).1
      · exact nq a y (hid a z w)
    refine k (hdOf r) v _ F2 q hr.2 ⟨r2.go GG (fun i a z => ⟨keep a (.inr ⟨i, z⟩), nF2 a (.inr ⟨i, z⟩), ?_⟩) (fun a z => ?_) (fun a f => ?_) (fun a z => ?_), fun a z y => nq2 a (.inl y) z, GG, fun a z => keep a (.inl z), ?_⟩
    · rintro (y | y)
      · exact r2.fT i a z y
      · exact nq2 a (.inr ⟨i, z⟩) y
    · rcases z with z | z
      · exact nF2 a (.inl z)
      · exact fun f => (qa a z).1 f.1
    · obtain ⟨o, e, b⟩ := sa a f.1
      exact ⟨o, by rw [back_out (nF' a f.1)]; exact e, b⟩
    · rcases z with z | z
      · rw [keep a (.inl z)]; exact r2.td a z
      · obtain ⟨_, o, e, b⟩ := qa a z
        exact ⟨o, by rw [back_out (nq a z)]; exact e, b⟩
    · cases r with
      | val d =>
        obtain ⟨⟨v', e, i⟩, _⟩ := so'
        cases e
        exact i
      | no => exact so'
      | own _ => exact so'
      | dic _ => exact so'
      | wd _ => exact so'
      | ob _ => exact so'
theorem eok_callL (ha : AOk K n ta t) : EOk K (tCall (frm (spP K n g)) [] E0 ta) (dCallL g t) := fun F T σ H ds fp Q R rp e k => by
  refine ha F T σ H ds fp _ _ rp e fun hs ds1 vs H1 F1 fp1 q1 k1 p1 l1 => ?_
  obtain ⟨dl, b, F2, L, e2, r2, g2, l2, i2⟩ := lends_ok p1.r .refl p1.rep p1.qT k1
  rw [List.append_nil]
  exact call_coreL r2 l2 i2 l1 e2 fun h v H' F' q qh p => k _ _ _ _ _ _ _ qh (p.pre (p1.g.trans g2) p1.t)
theorem do_callL (F : FnOk X.prog X.w X.K X.mg X.base CX0 k f fd ps (spP X.K n g)) (hr : Room k X.A) (hg : Gl X x) (hm : X.mg x = some (.ref f)) (hk : PySem.W.keepIn X.K (.ref f) = true) (hb : Binds X.K fd ps [])
    (ha : DA X (e :: es) ta t) (hn : (e :: es).length = n := by rfl) (hdb : (x == ("__debug__" : Str)) = false := by decide) (he : starEach (e :: es) X.env = (false, eval e X.env) :: starEach es X.env := by rfl) (hpl : (backTo pos (starEach es X.env)).any (·.1) = false := by rfl) :
    DO X (.Call (.Name x p) (e :: es) [] pos) (tCall (frm (spP X.K n g)) [] E0 ta) (dCallL g t) :=
  ⟨pe_call (frame_fn F) hr hg hm hk hb .nil pass0 ha.pa hdb he hpl, eok_callL (hn ▸ ha.ok)⟩
open Classical in
theorem callW_coreL {w : Wd} {vs : List V} {dl : List D} {Q : Hd → Wd → Prop} {R : VK} {E : XK} (r2 : Rep K F T σ H ds fp) (hj : ds[j]? = some (.wd w)) (l : Lnt (some j) H fp b L) (ia : IsA K (res (F.or L) H) vs dl) (hn : vs.length = n)
    (h : gw w dl fun r w' => w'.val = w.val ∧ (b = true → r.lf ∧ w'.LF) ∧ Q (hdOf r) w')
    (k : ∀ h w' v H' F' q fp', Q h w' → Pst K F T H σ v h (ds.set j (.wd w')) F' H' fp' q → R v H') : frm (spW K n gw) (w.val :: vs) H R E := by
  obtain ⟨jv, jf, jo⟩ := r2.slot j _ hj
  have hlt : j < ds.length := (List.getElem?_eq_some_iff.mp hj).1
  let G : Ad := fun a => (T a ∨ ∃ i, i ≠ j ∧ fp i a) ∧ ¬ L a
  have lj : ∀ a, L a → ∃ i, i ≠ j ∧ fp i a := fun a z => by
    obtain ⟨i, ni, z⟩ := l.at_ a z
    exact ⟨i, fun e => ni (by rw [e]), z⟩
  have hG : ∀ a, G a → ∃ o, H a = some o ∧ bigO o := fun a z => by
    rcases z.1 with z | ⟨i, _, z⟩
    · exact r2.td a z
    · exact r2.fdom z
  have LF : ∀ a, L a → ¬ F a := fun a z f => by
    obtain ⟨i, _, z⟩ := l.at_ a z
    exact r2.fF i a z f
  have nF : ∀ a, (F.or L) a → ¬ hidden G H a := fun a f z => by
    rcases f with f | f
    · rcases z with ⟨z | ⟨i, _, z⟩, _⟩ | ⟨y, _, z⟩
      · exact r2.tF a z f
      · exact r2.fF i a z f
      · obtain ⟨o, e, b⟩ := r2.fd a f
        rw [z] at e; cases e; exact b
    · rcases z with ⟨_, z⟩ | ⟨y, _, z⟩
      · exact z f
      · obtain ⟨ws, e⟩ := l.ls a f
        rw [z] at e; cases e
  have nW : ∀ a, w.fp a → ¬ hidden G H a := fun a f z => by
    have fj : fp j a := (jf a).mpr f
    rcases z with ⟨z | ⟨i, ni, z⟩, _⟩ | ⟨y, _, z⟩
    · exact r2.fT j a fj z
    · exact ni (r2.sep i j a z fj)
    · obtain ⟨o, e, b⟩ := w.dom jo f
      rw [z] at e; cases e; exact b
  have hid : ∀ a, (T a ∨ ∃ i, i ≠ j ∧ fp i a) → ¬ L a → hidden G H a := fun a z nl => .inl ⟨z, nl⟩
  have sm0 : Same (res (F.or L) H) (res (F.or L) (hide G H)) := fun a o e => by
    obtain ⟨f, e⟩ := res_some e
    rw [res_in f, hide_out (nF a f)]; exact e
  have up : Same (res F H) (res (F.or L) H) := fun a o e => by
    obtain ⟨f, e⟩ := res_some e
    rw [res_in (.inl f)]; exact e
  refine ⟨G, hG, by rw [List.length_cons, hn], F.or L, w, vs, dl, rfl, ia.mono sm0, fun a f => ?_, w.mono (fun a o e => sm0 a o (up a o e)) (fun a f => hide_out (nW a f)) jo, fun a f => ?_, _, h, fun r w' hr H' v F' q g' sa qa ev wo wF so hh => ?_⟩
  · rw [hide_out (nF a f)]
    rcases f with f | f
    · exact r2.fd a f
    · obtain ⟨ws, e⟩ := l.ls a f
      exact ⟨_, e, trivial⟩
  · rintro (y | y)
    · exact r2.fF j a ((jf a).mpr f) y
    · obtain ⟨i, ni, z⟩ := lj a y
      exact ni (r2.sep i j a z ((jf a).mpr f))
  have nh' : ∀ a o, H' a = some o → ¬ hidden G H a := fun a o e z => by rw [hh a z] at e; cases e
  have nF' : ∀ a, F' a → ¬ hidden G H a := fun a f => by
    obtain ⟨o, e, _⟩ := sa a f
    exact nh' a o e
  have nq : ∀ a, q a → ¬ hidden G H a := fun a f => by
    obtain ⟨_, _, o, e, _⟩ := qa a f
    exact nh' a o e
  have nW' : ∀ a, w'.fp a → ¬ hidden G H a := fun a f => by
    obtain ⟨o, e, _⟩ := w'.dom wo f
    exact nh' a o e
  let F2 : Ad := fun a => F' a ∧ ¬ L a
  have eqH : ∀ a, (F.or L) a → back G H H' a = H a := fun a f => by rw [back_out (nF a f), (g' a f).2, hide_out (nF a f)]
  have GG : Grow F H F2 (back G H H') := fun a f => ⟨⟨(g' a (.inl f)).1, fun z => LF a z f⟩, eqH a (.inl f)⟩
  have lfe : b = true → ∀ a o, res F' H' a = some o → notL o → res F2 H' a = some o := fun _ a o e nl => by
    obtain ⟨f, e⟩ := res_some e
    by_cases z : L a
    · obtain ⟨ws, e2⟩ := l.ls a z
      rw [(g' a (.inr z)).2, hide_out (nF a (.inr z)), e2] at e
      cases e; exact absurd rfl (nl _)
    · rw [res_in ⟨f, z⟩]; exact e
  have nob : b = false → Same (res F' H') (res F2 H') := fun hb a o e => by
    obtain ⟨f, e⟩ := res_some e
    rw [res_in ⟨f, l.no hb a⟩]; exact e
  have so1 : SlotOk K (res F2 H') H' (some (some v)) q r := by
    cases hb : b with
    | true => exact so.lf (lfe hb) (hr.2.1 hb).1
    | false => exact so.mono (nob hb) fun _ _ => rfl
  have wo1 : w'.ok (res F2 H') H' := by
    cases hb : b with
    | true => exact (hr.2.1 hb).2 (lfe hb) wo
    | false => exact w'.mono (nob hb) (fun _ _ => rfl) wo
  have sm' : Same (res F2 H') (res F2 (back G H H')) := fun a o e => by
    obtain ⟨f, e⟩ := res_some e
    rw [res_in f, back_out (nF' a f.1)]; exact e
  have so' : SlotOk K (res F2 (back G H H')) (back G H H') (some (some v)) q r := so1.mono sm' fun a z => back_out (nq a z)
  have keep : ∀ a, (T a ∨ ∃ i, i ≠ j ∧ fp i a) → back G H H' a = H a := fun a z => by
    by_cases y : L a
    · exact eqH a (.inr y)
    · exact back_in (hid a z y)
  have nF2 : ∀ a, (T a ∨ ∃ i, i ≠ j ∧ fp i a) → ¬ F2 a := fun a z f => nF' a f.1 (hid a z f.2)
  have nq2 : ∀ a, (T a ∨ ∃ i, i ≠ j ∧ fp i a) → ¬ q a := fun a z y => by
    by_cases w : L a
    · exact (qa a y).1 (g' a (.inr w)).1
    · exact nq a y (hid a z w)
  have nW2 : ∀ a, (T a ∨ ∃ i, i ≠ j ∧ fp i a) → ¬ w'.fp a := fun a z y => by
    by_cases w : L a
    · exact wF a y (g' a (.inr w)).1
    · exact nW' a y (hid a z w)
  refine k (hdOf r) w' v _ F2 q (fun i => if i = j then w'.fp else fp i) hr.2.2 ⟨⟨by rw [List.length_set]; exact r2.len, fun i s e => ?_, fun i a z => ?_, fun i a z f => ?_, fun i a z y => ?_, fun i i' a z z' => ?_, fun a z => ?_, fun a f => ?_, fun a z => ?_⟩, fun a z y => nq2 a (.inl y) z, GG, fun a z => keep a (.inl z), ?_⟩
  · by_cases hi : i = j
    · subst hi
      rw [List.getElem?_set_self hlt] at e; cases e
      rw [if_pos rfl]
      exact ⟨by rw [jv, hr.1], fun _ => Iff.rfl, w'.mono sm' (fun a z => back_out (nW' a z)) wo1⟩
    · rw [List.getElem?_set_ne (Ne.symm hi)] at e
      rw [if_neg hi]
      exact (r2.slot i s e).mono GG.same fun a z => keep a (.inr ⟨i, hi, z⟩)
  · rw [List.length_set]
    by_cases hi : i = j
    · rw [hi]; exact hlt
    · rw [if_neg hi] at z; exact r2.out i a z
  · by_cases hi : i = j
    · rw [if_pos hi] at z; exact wF a z f.1
    · rw [if_neg hi] at z; exact nF2 a (.inr ⟨i, hi, z⟩) f
  · by_cases hi : i = j
    · rw [if_pos hi] at z
      rcases y with y | y
      · exact nW2 a (.inl y) z
      · exact (qa a y).2.1 z
    · rw [if_neg hi] at z
      rcases y with y | y
      · exact r2.fT i a z y
      · exact nq2 a (.inr ⟨i, hi, z⟩) y
  · by_cases hi : i = j
    · by_cases hi' : i' = j
      · rw [hi, hi']
      · rw [if_pos hi] at z; rw [if_neg hi'] at z'
        exact absurd z (nW2 a (.inr ⟨i', hi', z'⟩))
    · by_cases hi' : i' = j
      · rw [if_neg hi] at z; rw [if_pos hi'] at z'
        exact absurd z' (nW2 a (.inr ⟨i, hi, z⟩))
      · rw [if_neg hi] at z; rw [if_neg hi'] at z'
        exact r2.sep i i' a z z'
  · rcases z with z | z
    · exact nF2 a (.inl z)
    · exact fun f => (qa a z).1 f.1
  · obtain ⟨o, e, b⟩ := sa a f.1
    exact ⟨o, by rw [back_out (nF' a f.1)]; exact e, b⟩
  · rcases z with z | z
    · rw [keep a (.inl z)]; exact r2.td a z
    · obtain ⟨_, _, o, e, b⟩ := qa a z
      exact ⟨o, by rw [back_out (nq a z)]; exact e, b⟩
  · cases r with
    | val d =>
      obtain ⟨⟨v', e, i⟩, _⟩ := so'
      cases e
      exact i
    | no => exact so'
    | own _ => exact so'
    | dic _ => exact so'
    | wd _ => exact so'
    | ob _ => exact so'
end
end DL

/-! DL: instances: calls of methods, making, fields. -/
namespace DL
open PySem PySem.Spec PyProof.Rows L2

abbrev DFO := Ob → List D → (SD → Ob → Prop) → Prop
def toW (K : PySem.W.Frag) (g : DFO) : DFW := fun w dl P => ∃ o, w = obWd K o ∧ ∃ P0 : SD → Ob → Prop, g o dl P0 ∧ ∀ r o', P0 r o' → P r (obWd K o')
abbrev spO (K : PySem.W.Frag) (n : Nat) (g : DFO) : Sp := spW K n (toW K g)
@[simp] def obAt (ds : DS) (i : Nat) (P : Ob → Prop) : Prop := match ds[i]? with
  | some (.ob o) => P o
  | _ => False
theorem obAt_inv {ds : DS} {i : Nat} {P : Ob → Prop} (h : obAt ds i P) : ∃ o, ds[i]? = some (.ob o) ∧ P o := by
  unfold obAt at h
  split at h
  · exact ⟨_, ‹_›, h⟩
  · exact h.elim
section
variable {K : PySem.W.Frag} {F T q : Ad} {σ : Sl} {H H' : Hp} {ds ds' : DS} {fp : Nat → Ad} {j : Nat} {o : Ob} {v : V} {s : SD}
theorem Rep.sub (r : Rep K F T σ H ds fp) (hl : ds'.length = ds.length) (h : ∀ i s, ds'[i]? = some s → SlotOk K (res F H) H σ[i]? (fp i) s) : Rep K F T σ H ds' fp :=
  ⟨by rw [hl]; exact r.len, h, fun i a z => by rw [hl]; exact r.out i a z, r.fF, r.fT, r.sep, r.tF, r.fd, r.td⟩
theorem Rep.swap (r : Rep K F T σ H ds fp) {s t : SD} (h : ds[j]? = some s) (k : SlotOk K (res F H) H σ[j]? (fp j) s → SlotOk K (res F H) H σ[j]? (fp j) t) : Rep K F T σ H (ds.set j t) fp :=
  r.sub (List.length_set ..) fun i u e => by
    by_cases hi : i = j
    · subst hi
      rw [List.getElem?_set_self (List.getElem?_eq_some_iff.mp h).1] at e; cases e
      exact k (r.slot i _ h)
    · rw [List.getElem?_set_ne (Ne.symm hi)] at e
      exact r.slot i u e
open Classical in
/-- one more slot -/
theorem Rep.push (r : Rep K F (T.or q) σ H ds fp) (d : ∀ a, q a → ¬ T a) (hs : SlotOk K (res F H) H (some (some v)) q s) : Rep K F T (σ ++ [some v]) H (ds ++ [s]) (fun i => if i = ds.length then q else fp i) := by
  refine ⟨by simp [r.len], fun i u e => ?_, fun i a z => ?_, fun i a z => ?_, fun i a z => ?_, fun i j a z z' => ?_, fun a t => r.tF a (.inl t), r.fd, fun a t => r.td a (.inl t)⟩
  · by_cases hi : i = ds.length
    · rw [if_pos hi]
      rw [hi, List.getElem?_append_right (Nat.le_refl _)] at e
      simp at e; subst e
      rw [hi, r.len, List.getElem?_append_right (Nat.le_refl _)]
      simpa using hs
    · rw [if_neg hi]
      by_cases hlt : i < ds.length
      · rw [List.getElem?_append_left hlt] at e
        rw [List.getElem?_append_left (by rw [← r.len]; exact hlt)]
        exact r.slot i u e
      · rw [List.getElem?_eq_none (by simp; omega)] at e; cases e
  · by_cases hi : i = ds.length
    · rw [List.length_append, hi]; simp
    · rw [if_neg hi] at z; have := r.out i a z; rw [List.length_append]; omega
  · by_cases hi : i = ds.length
    · rw [if_pos hi] at z; exact r.tF a (.inr z)
    · rw [if_neg hi] at z; exact r.fF i a z
  · by_cases hi : i = ds.length
    · rw [if_pos hi] at z; exact d a z
    · rw [if_neg hi] at z; exact fun t => r.fT i a z (.inl t)
  · by_cases hi : i = ds.length
    · by_cases hj : j = ds.length
      · rw [hi, hj]
      · rw [if_pos hi] at z; rw [if_neg hj] at z'
        exact absurd (.inr z) (r.fT j a z')
    · by_cases hj : j = ds.length
      · rw [if_neg hi] at z; rw [if_pos hj] at z'
        exact absurd (.inr z') (r.fT i a z)
      · rw [if_neg hi] at z; rw [if_neg hj] at z'
        exact r.sep i j a z z'
theorem Rep.pop {x : Option V} {n : Nat} (r : Rep K F T (σ ++ [x]) H (ds ++ [s]) fp) (hn : ds.length = n) : Rep K F (T.or (fp n)) σ H ds (fun i a => i < n ∧ fp i a) ∧ (∀ a, fp n a → ¬ T a) ∧ SlotOk K (res F H) H (some x) (fp n) s := by
  have hl : ds.length = σ.length := by have := r.len; simpa using this
  have hs : SlotOk K (res F H) H (some x) (fp n) s := by
    have e := r.slot n s (by rw [← hn, List.getElem?_append_right (Nat.le_refl _)]; simp)
    rw [← hn, hl, List.getElem?_append_right (Nat.le_refl _)] at e
    rw [← hn, hl]
    simpa using e
  refine ⟨⟨hl, fun i u e => ?_, fun i a z => by rw [hn]; exact z.1, fun i a z => r.fF i a z.2, fun i a z => ?_, fun i j a z z' => r.sep i j a z.2 z'.2, fun a t => ?_, r.fd, fun a t => ?_⟩, fun a z => r.fT n a z, hs⟩
  · have hi : i < ds.length := (List.getElem?_eq_some_iff.mp e).1
    have z := r.slot i u (by rw [List.getElem?_append_left hi]; exact e)
    rw [List.getElem?_append_left (by rw [← hl]; exact hi)] at z
    exact z.fpx fun a => ⟨fun y => y.2, fun y => ⟨by rw [← hn]; exact hi, y⟩⟩
  · rintro (t | t)
    · exact r.fT i a z.2 t
    · exact Nat.ne_of_lt z.1 (r.sep i n a z.2 t)
  · rcases t with t | t
    · exact r.tF a t
    · exact r.fF n a t
  · rcases t with t | t
    · exact r.td a t
    · exact r.fdom t
open Classical in
/-- slot j changes, and the heap where it stands -/
theorem Rep.change (r : Rep K F (T.or q) σ H ds fp) (dj : ∀ a, q a → ¬ T a) (hj : j < ds.length) (P : Ad) (hP : ∀ a, P a → fp j a ∨ q a) (hH : ∀ a, ¬ fp j a → H' a = H a) (hs : SlotOk K (res F H') H' σ[j]? P s) :
    Rep K F T σ H' (ds.set j s) (fun i => if i = j then P else fp i) ∧ Grow F H F H' := by
  have g : Grow F H F H' := fun a f => ⟨f, hH a fun z => r.fF j a z f⟩
  refine ⟨⟨by rw [List.length_set]; exact r.len, fun i u e => ?_, fun i a z => ?_, fun i a z => ?_, fun i a z => ?_, fun i i' a z z' => ?_, fun a t => r.tF a (.inl t), fun a f => ?_, fun a t => ?_⟩, g⟩
  · by_cases hi : i = j
    · subst hi
      rw [List.getElem?_set_self hj] at e; cases e
      rw [if_pos rfl]; exact hs
    · rw [List.getElem?_set_ne (Ne.symm hi)] at e
      rw [if_neg hi]
      exact (r.slot i u e).mono g.same fun a z => hH a fun y => hi (r.sep i j a z y)
  · rw [List.length_set]
    by_cases hi : i = j
    · rw [hi]; exact hj
    · rw [if_neg hi] at z; exact r.out i a z
  · by_cases hi : i = j
    · rw [if_pos hi] at z
      rcases hP a z with z | z
      · exact r.fF j a z
      · exact r.tF a (.inr z)
    · rw [if_neg hi] at z; exact r.fF i a z
  · by_cases hi : i = j
    · rw [if_pos hi] at z
      rcases hP a z with z | z
      · exact fun t => r.fT j a z (.inl t)
      · exact dj a z
    · rw [if_neg hi] at z; exact fun t => r.fT i a z (.inl t)
  · by_cases hi : i = j
    · by_cases hi' : i' = j
      · rw [hi, hi']
      · rw [if_pos hi] at z; rw [if_neg hi'] at z'
        rcases hP a z with z | z
        · exact absurd (r.sep j i' a z z') (Ne.symm hi')
        · exact absurd (.inr z) (r.fT i' a z')
    · by_cases hi' : i' = j
      · rw [if_neg hi] at z; rw [if_pos hi'] at z'
        rcases hP a z' with z' | z'
        · exact absurd (r.sep i j a z z') hi
        · exact absurd (.inr z') (r.fT i a z)
      · rw [if_neg hi] at z; rw [if_neg hi'] at z'
        exact r.sep i i' a z z'
  · rw [(g a f).2]; exact r.fd a f
  · rw [hH a fun z => r.fT j a z (.inl t)]; exact r.td a (.inl t)
theorem lookup_no {m : Str} : ∀ {vs : List (Str × V)}, m ∉ vs.map Prod.fst → vs.lookup m = none
  | [], _ => rfl
  | (g, x) :: r, h => by
    simp only [List.map_cons, List.mem_cons, not_or] at h
    rw [List.lookup_cons, show (m == g) = false from beq_eq_false_iff_ne.mpr h.1]
    exact lookup_no h.2
theorem lookup_at {f : Str} {u : V} : ∀ {vs : List (Str × V)} {k : Nat}, (vs.map Prod.fst)[k]? = some f → (vs.map Prod.snd)[k]? = some u → f ∉ (vs.map Prod.fst).take k → vs.lookup f = some u
  | [], _, h, _, _ => by simp at h
  | (g, x) :: r, 0, h1, h2, _ => by
    simp at h1 h2
    rw [List.lookup_cons, ← h1, h2]; simp
  | (g, x) :: r, k + 1, h1, h2, h3 => by
    simp at h1 h2 h3
    rw [List.lookup_cons, show (f == g) = false from beq_eq_false_iff_ne.mpr h3.1]
    exact lookup_at (k := k) (by simpa using h1) (by simpa using h2) (by simpa using h3.2)
theorem putF_new {f : Str} {u : V} : ∀ {vs : List (Str × V)}, f ∉ vs.map Prod.fst → putF f u vs = vs ++ [(f, u)]
  | [], _ => rfl
  | (g, x) :: r, h => by
    simp only [List.map_cons, List.mem_cons, not_or] at h
    rw [putF, if_neg (Ne.symm h.1), putF_new h.2]; rfl
theorem putF_at {f : Str} {u : V} : ∀ {vs : List (Str × V)} {k : Nat}, (vs.map Prod.fst)[k]? = some f → f ∉ (vs.map Prod.fst).take k → (putF f u vs).map Prod.fst = vs.map Prod.fst ∧ (putF f u vs).map Prod.snd = (vs.map Prod.snd).set k u
  | [], _, h, _ => by simp at h
  | (g, x) :: r, 0, h1, _ => by
    simp at h1
    rw [putF, if_pos h1]; simp
  | (g, x) :: r, k + 1, h1, h3 => by
    simp at h1 h3
    obtain ⟨e1, e2⟩ := putF_at (u := u) (vs := r) (k := k) (by simpa using h1) (by simpa using h3.2)
    rw [putF, if_neg (Ne.symm h3.1)]
    simp only [List.map_cons, List.set_cons_succ, e1, e2]
    exact ⟨trivial, trivial⟩
end
end DL

/-! DL: instances: fields, methods, making. -/
namespace DL
open PySem PySem.Spec PyProof.Rows L2

/-! ### reading a field -/
@[simp] def dFld (j : Nat) (C : Addr) (ns : List Str) (k : Nat) : DT := fun ds Q => obAt ds j fun o => (o.C = C ∧ o.ns = ns) ∧ match o.fs[k]? with
  | some (.val d) => Q (.tmp d) ds
  | some (.own a _) => Q (.fld j k a) ds
  | none => False
section
variable {X : Cx} {K : PySem.W.Frag} {F T q : Ad} {σ : Sl} {H H' : Hp} {ds ds' : DS} {fp : Nat → Ad} {j k n lv : Nat} {o : Ob} {v : V} {s : SD} {C f : Addr} {ns : List Str} {a m x y : Str} {pos py apos p : Pos} {e : Expr} {es : List Expr} {te : TE} {ta : TA} {t : DT} {u : DTA} {g : DFO} {fd : FuncData} {ps : List Str}
theorem do_fld (c : Cls X.K C) (na : NoAttr X.K C a) (hk : ns[k]? = some a := by rfl) (h1 : a ∉ ns.take k := by decide) (hN : X.N[j]? = some y := by rfl) (hv : Vis X.env.scope y := by first | exact Or.inl rfl | exact Or.inr (Or.inl rfl) | exact Or.inr (Or.inr rfl)) (hd : (y == ("__debug__" : Str)) = false := by decide)
    (hcd : (y == ("__classdict__" : Str)) = false := by decide) (hb : attributeBase (.Name y py) a X.env (eval (.Name y py) X.env) = eval (.Name y py) X.env := by rfl) :
    DO X (.Attribute (.Name y py) a pos) (tFld X.K (tVar j) a) (dFld j C ns k) := ⟨pe_fld (pe_var hN hv hd hcd) hb, fun F T σ H ds fp Q R r h kk => by
  obtain ⟨o, ho, ⟨rfl, rfl⟩, h2⟩ := obAt_inv h
  obtain ⟨ov, _, ⟨dx, vs, hH, hn, hp⟩, _⟩ := r.slot j _ ho
  refine ⟨_, ov, o.a, o.C, dx, vs, ?_⟩
  cases hx : o.fs[k]? with
  | none => rw [hx] at h2; exact h2.elim
  | some w =>
    rw [hx] at h2
    obtain ⟨uu, hu, fu⟩ := paired_at2 hp hx
    rw [← hn] at hk h1
    refine ⟨uu, rfl, hH, c, na, lookup_at hk hu h1, ?_⟩
    cases w with
    | val d => exact kk _ _ _ _ _ _ _ h2 (.here r fu)
    | own b xs => exact kk _ _ _ _ _ _ _ h2 (.here r fu.1)⟩

/-! ### storing a field -/
@[simp] def toFD : SD → (FD → Prop) → Prop
  | .val d, P => P (.val d)
  | .own xs, P => ∀ b, P (.own b xs)
  | _, _ => False
/-- a new field -/
@[simp] def mFldN (j : Nat) (C : Addr) (ns : List Str) (a : Str) (t : DT) : DM := fun E ds => t ds fun h ds1 => sett h ds1 fun s ds2 => obAt ds2 j fun o => (o.C = C ∧ o.ns = ns ∧ ns.length < 900) ∧ toFD s fun x => E.nx (ds2.set j (.ob ⟨o.a, o.C, o.ns ++ [a], o.fs ++ [x]⟩))
/-- a field that stands -/
@[simp] def mFldS (j : Nat) (C : Addr) (ns : List Str) (k : Nat) (t : DT) : DM := fun E ds => t ds fun h ds1 => sett h ds1 fun s ds2 => obAt ds2 j fun o => (o.C = C ∧ o.ns = ns ∧ ns.length < 900) ∧ toFD s fun x => E.nx (ds2.set j (.ob ⟨o.a, o.C, o.ns, o.fs.set k x⟩))
theorem toFD_ok {P : FD → Prop} (so : SlotOk K (res F H) H (some (some v)) q s) (h : toFD s P) : ∃ x, P x ∧ FOk K (res F H) H v x ∧ ∀ b, x.ad = some b → q b := by
  cases s <;> first | exact h.elim | skip
  · obtain ⟨⟨v', e, i⟩, _⟩ := so
    cases e
    exact ⟨_, h, i, fun b e => nomatch e⟩
  · obtain ⟨b, vs, e, hq, h3, h4⟩ := so
    cases e
    exact ⟨_, h b, ⟨rfl, vs, h3, h4⟩, fun c e => by cases e; exact (hq b).mpr rfl⟩
theorem paired_set {α β : Type} {F : α → β → Prop} {a : α} {b : β} (h : F a b) : ∀ {xs : List α} {ys : List β} (k : Nat), Paired F xs ys → Paired F (xs.set k a) (ys.set k b)
  | _, _, _, .nil => .nil
  | _, _, 0, .cons h1 h2 => .cons h h2
  | _, _, k + 1, .cons h1 h2 => .cons h1 (paired_set h k h2)
theorem paired_app {α β : Type} {F : α → β → Prop} {zs : List α} {ws : List β} (h : Paired F zs ws) : ∀ {xs : List α} {ys : List β}, Paired F xs ys → Paired F (xs ++ zs) (ys ++ ws)
  | _, _, .nil => h
  | _, _, .cons h1 h2 => .cons h1 (paired_app h h2)
theorem owns_app {xs ys : List FD} : owns (xs ++ ys) = owns xs ++ owns ys := by simp [owns]
theorem owns_set {x : FD} : ∀ {xs : List FD} {k : Nat} {b : Addr}, b ∈ owns (xs.set k x) → b ∈ owns xs ∨ x.ad = some b := fun {xs k b} h => by
  obtain ⟨y, hy, e⟩ := owns_mem.mp h
  rcases List.mem_or_eq_of_mem_set hy with hy | rfl
  · exact .inl (owns_mem.mpr ⟨y, hy, e⟩)
  · exact .inr e
theorem owns_set_nodup {x : FD} : ∀ {xs : List FD} {k : Nat}, (owns xs).Nodup → (∀ b, x.ad = some b → b ∉ owns xs) → (owns (xs.set k x)).Nodup
  | [], _, h, _ => h
  | y :: ys, 0, h, hx => by
    have h2 : (owns ys).Nodup := by
      simp only [owns, List.filterMap_cons] at h ⊢
      split at h
      · exact h
      · exact (List.nodup_cons.mp h).2
    simp only [List.set_cons_zero]
    simp only [owns, List.filterMap_cons]
    split
    · exact h2
    · rename_i b e
      refine List.nodup_cons.mpr ⟨fun z => hx b e ?_, h2⟩
      simp only [owns, List.filterMap_cons]
      split
      · exact z
      · exact List.mem_cons_of_mem _ z
  | y :: ys, k + 1, h, hx => by
    simp only [List.set_cons_succ]
    have key : ∀ b, b ∈ owns ys → b ∈ owns (y :: ys) := fun b z => by
      simp only [owns, List.filterMap_cons]
      split
      · exact z
      · exact List.mem_cons_of_mem _ z
    have h2 : (owns ys).Nodup := by
      simp only [owns, List.filterMap_cons] at h
      split at h
      · exact h
      · exact (List.nodup_cons.mp h).2
    have ih := owns_set_nodup (k := k) h2 fun b e z => hx b e (key b z)
    show (owns (y :: ys.set k x)).Nodup
    simp only [owns, List.filterMap_cons] at h ⊢
    split
    · exact ih
    · rename_i b e
      rw [e] at h
      refine List.nodup_cons.mpr ⟨fun z => ?_, ih⟩
      rcases owns_set z with z | z
      · exact (List.nodup_cons.mp h).1 z
      · exact hx b z (by simp only [owns, List.filterMap_cons, e]; exact List.mem_cons_self)
/-- the object at slot j with another dict -/
theorem ob_change {o' : Ob} {dx : Addr} {vs ws : List (Str × V)} {E : DS → Prop} (r : Rep K F (Ad.nil.or q) σ H ds fp) (ho : ds[j]? = some (.ob o)) (hH : H o.a = some (.ins o.C dx vs)) (hp : Paired (FOk K (res F H) H) (ws.map Prod.snd) o'.fs)
    (ea : o'.a = o.a) (eC : o'.C = o.C) (en : ws.map Prod.fst = o'.ns) (hq : ∀ b, b ∈ owns o'.fs → b ∈ owns o.fs ∨ q b) (nd : (owns o'.fs).Nodup) :
    ∃ fp', Rep K F Ad.nil σ (upd H o.a (.ins o.C dx ws)) (ds.set j (.ob o')) fp' ∧ Grow F H F (upd H o.a (.ins o.C dx ws)) := by
  obtain ⟨ov, hfp, _, na, _⟩ := r.slot j _ ho
  have fa : fp j o.a := (hfp _).mpr (.inl rfl)
  have hne : ∀ b, b ∈ owns o'.fs → b ≠ o.a := fun b z e => by
    rcases hq b z with z | z
    · exact na (e ▸ z)
    · exact r.fT j o.a fa (.inr (e ▸ z))
  have smm : Same (res F H) (res F (upd H o.a (.ins o.C dx ws))) := fun b u e => by
    obtain ⟨f, e⟩ := res_some e
    rw [res_in f, upd_ne fun z => ?_]; exact e
    exact r.fF j o.a fa (z ▸ f)
  have p1 : ∀ b, (b = o'.a ∨ b ∈ owns o'.fs) → fp j b ∨ q b := fun b z => by
    rcases z with z | z
    · rw [z, ea]; exact .inl fa
    · rcases hq b z with z | z
      · exact .inl ((hfp b).mpr (.inr z))
      · exact .inr z
  have p2 : Paired (FOk K (res F (upd H o.a (.ins o.C dx ws))) (upd H o.a (.ins o.C dx ws))) (ws.map Prod.snd) o'.fs := fsOk_mono smm (fun x hx b hb => upd_ne (hne b (owns_mem.mpr ⟨x, hx, hb⟩))) hp
  have p3 : o'.a ∉ owns o'.fs := fun z => hne _ z ea
  obtain ⟨r', g'⟩ := r.change (j := j) (H' := upd H o.a (.ins o.C dx ws)) (s := .ob o') (fun _ _ z => z) (List.getElem?_eq_some_iff.mp ho).1 (fun b => b = o'.a ∨ b ∈ owns o'.fs) p1 (fun b z => upd_ne fun e => z (e ▸ fa)) ⟨by rw [ov]; show some (some (V.ref o.a)) = some (some (.ref o'.a)); rw [ea], fun _ => Iff.rfl, ⟨dx, ws, by rw [ea, eC, upd_same], en, p2⟩, p3, nd⟩
  exact ⟨_, r', g'⟩
theorem ds_fldN (c : Cls X.K C) (na : NoAttr X.K C a) (he : DO X e te t) (h1 : a ∉ ns := by decide) (hN : X.N[j]? = some y := by rfl) (hv : Vis X.env.scope y := by first | exact Or.inl rfl | exact Or.inr (Or.inl rfl) | exact Or.inr (Or.inr rfl)) (hd : (y == ("__debug__" : Str)) = false := by decide)
    (hcd : (y == ("__classdict__" : Str)) = false := by decide) (hs : swapsWith e (some (.Attribute (.Name y py) a apos)) pos.line X.env = pure false := by rfl) :
    DSt X (.Assign [.Attribute (.Name y py) a apos] e pos) (sFld X.K (tVar j) te a) (mFldN j C ns a t) := ⟨ps_fld (pe_var hN hv hd hcd) he.pe hs, fun F σ H ds fp E D r h k => by
  refine he.ok F _ σ H ds fp _ _ r h fun h ds' v H' F' fp' q b p => ?_
  obtain ⟨s, ds2, F2, fp2, q2, e2, r2, sub, g2, so⟩ := sett_ok p.rep p.qT p.r b
  obtain ⟨o, ho, ⟨rfl, rfl, hl⟩, e4⟩ := obAt_inv e2
  obtain ⟨x, e3, fx, hq⟩ := toFD_ok so e4
  obtain ⟨ov, hfp, ⟨dx, vs, hH, hn, hp⟩, na', nd⟩ := r2.slot j _ ho
  have hl2 : vs.length < 1000 := by have := congrArg List.length hn; simp at this; omega
  refine ⟨_, ov, o.a, o.C, dx, vs, rfl, hH, c, na, hl2, ?_⟩
  rw [← hn] at h1
  rw [putF_new h1]
  have fa : fp2 j o.a := (hfp _).mpr (.inl rfl)
  have q1 : ∀ b, b ∈ owns (o.fs ++ [x]) → b ∈ owns o.fs ∨ q2 b := fun b z => by
    rw [owns_app, List.mem_append] at z
    rcases z with z | z
    · exact .inl z
    · obtain ⟨w, hw, e⟩ := owns_mem.mp z
      simp at hw; subst hw
      exact .inr (hq b e)
  have q3 : (owns (o.fs ++ [x])).Nodup := by
    rw [owns_app]
    refine List.nodup_append.mpr ⟨nd, ?_, fun b hb c hc e => ?_⟩
    · cases x with
      | val d => exact List.nodup_nil
      | own b xs => exact List.nodup_cons.mpr ⟨by simp, List.nodup_nil⟩
    · obtain ⟨w, hw, e2⟩ := owns_mem.mp hc
      simp at hw; subst hw
      subst e
      exact r2.fT j b ((hfp b).mpr (.inr hb)) (.inr (hq b e2))
  obtain ⟨fp3, r3, g3⟩ := ob_change (o' := ⟨o.a, o.C, o.ns ++ [a], o.fs ++ [x]⟩) (ws := vs ++ [(a, v)]) (E := E.nx) r2 ho hH (by simpa using paired_app (.cons fx .nil) hp) rfl rfl (by simp [hn]) q1 q3
  exact k.nx _ _ _ _ fp3 e3 r3 ((p.g.trans g2).trans g3)⟩
theorem ds_fldS {kx : Nat} (c : Cls X.K C) (na : NoAttr X.K C a) (he : DO X e te t) (hk : ns[kx]? = some a := by rfl) (h1 : a ∉ ns.take kx := by decide) (hN : X.N[j]? = some y := by rfl) (hv : Vis X.env.scope y := by first | exact Or.inl rfl | exact Or.inr (Or.inl rfl) | exact Or.inr (Or.inr rfl)) (hd : (y == ("__debug__" : Str)) = false := by decide)
    (hcd : (y == ("__classdict__" : Str)) = false := by decide) (hs : swapsWith e (some (.Attribute (.Name y py) a apos)) pos.line X.env = pure false := by rfl) :
    DSt X (.Assign [.Attribute (.Name y py) a apos] e pos) (sFld X.K (tVar j) te a) (mFldS j C ns kx t) := ⟨ps_fld (pe_var hN hv hd hcd) he.pe hs, fun F σ H ds fp E D r h k => by
  refine he.ok F _ σ H ds fp _ _ r h fun h ds' v H' F' fp' q b p => ?_
  obtain ⟨s, ds2, F2, fp2, q2, e2, r2, sub, g2, so⟩ := sett_ok p.rep p.qT p.r b
  obtain ⟨o, ho, ⟨rfl, rfl, hl⟩, e4⟩ := obAt_inv e2
  obtain ⟨x, e3, fx, hq⟩ := toFD_ok so e4
  obtain ⟨ov, hfp, ⟨dx, vs, hH, hn, hp⟩, na', nd⟩ := r2.slot j _ ho
  have hl2 : vs.length < 1000 := by have := congrArg List.length hn; simp at this; omega
  refine ⟨_, ov, o.a, o.C, dx, vs, rfl, hH, c, na, hl2, ?_⟩
  rw [← hn] at hk h1
  obtain ⟨p1, p2⟩ := putF_at (u := v) hk h1
  obtain ⟨fp3, r3, g3⟩ := ob_change (o' := ⟨o.a, o.C, o.ns, o.fs.set kx x⟩) (ws := putF a v vs) (E := E.nx) r2 ho hH (by rw [p2]; exact paired_set fx kx hp) rfl rfl (by rw [p1, hn]) (fun b z => (owns_set z).imp id (hq b)) (owns_set_nodup nd fun b e z => r2.fT j b ((hfp b).mpr (.inr z)) (.inr (hq b e)))
  exact k.nx _ _ _ _ fp3 e3 r3 ((p.g.trans g2).trans g3)⟩
end
end DL

/-! DL: instances: lists of fields that grow, methods, making. -/
namespace DL
open PySem PySem.Spec PyProof.Rows L2

@[simp] def ownF (ds : DS) (j : Nat) (C : Addr) (ns : List Str) (k : Nat) (P : Ob → Addr → List D → Prop) : Prop := obAt ds j fun o => (o.C = C ∧ o.ns = ns) ∧ match o.fs[k]? with
  | some (.own a xs) => P o a xs
  | _ => False
theorem ownF_inv {ds : DS} {j : Nat} {C : Addr} {ns : List Str} {k : Nat} {P : Ob → Addr → List D → Prop} (h : ownF ds j C ns k P) : ∃ o a xs, ds[j]? = some (.ob o) ∧ (o.C = C ∧ o.ns = ns) ∧ o.fs[k]? = some (.own a xs) ∧ P o a xs := by
  obtain ⟨o, ho, h1, h2⟩ := obAt_inv h
  split at h2
  · exact ⟨o, _, _, ho, h1, ‹_›, h2⟩
  · exact h2.elim
/-- o.f.append(e) -/
@[simp] def mAppF (j : Nat) (C : Addr) (ns : List Str) (k : Nat) (t : DT) : DM := fun E ds => ownF ds j C ns k fun _ a _ => t ds fun h ds1 => take1 h ds1 fun d ds2 => ownF ds2 j C ns k fun o b xs => (b = a ∧ xs.length < sizeLine) ∧ E.nx (ds2.set j (.ob ⟨o.a, o.C, o.ns, o.fs.set k (.own b (xs ++ [d]))⟩))
section
variable {X : Cx} {K : PySem.W.Frag} {F T q : Ad} {σ : Sl} {H H' : Hp} {ds ds' : DS} {fp : Nat → Ad} {j k n lv : Nat} {o : Ob} {v : V} {s : SD} {C f : Addr} {ns : List Str} {a m x y : Str} {pos py apos cpos fpos p : Pos} {e : Expr} {es : List Expr} {te : TE} {ta : TA} {t : DT} {u : DTA} {g : DFO} {fd : FuncData} {ps : List Str}
theorem paired_set2 {α β : Type} {F : α → β → Prop} {b : β} : ∀ {xs : List α} {ys : List β} (k : Nat), (∀ a, xs[k]? = some a → F a b) → Paired F xs ys → Paired F xs (ys.set k b)
  | _, _, _, _, .nil => .nil
  | _, _, 0, h, .cons h1 h2 => .cons (h _ rfl) h2
  | _, _, k + 1, h, .cons h1 h2 => .cons h1 (paired_set2 k (fun a e => h a (by simpa using e)) h2)
theorem owns_set_same {b : Addr} {xs ys : List D} : ∀ {fs : List FD} {k : Nat}, fs[k]? = some (.own b xs) → owns (fs.set k (.own b ys)) = owns fs
  | [], _, h => by simp at h
  | w :: fs, 0, h => by
    simp at h; subst h
    simp [owns, FD.ad]
  | w :: fs, k + 1, h => by
    have ih := owns_set_same (ys := ys) (fs := fs) (k := k) (by simpa using h)
    simp only [List.set_cons_succ, owns, List.filterMap_cons] at ih ⊢
    rw [ih]
theorem owns_uniq {fs : List FD} (nd : (owns fs).Nodup) : ∀ {i k : Nat} {x y : FD} {b : Addr}, fs[i]? = some x → fs[k]? = some y → x.ad = some b → y.ad = some b → i = k := by
  induction fs with
  | nil => intro i k x y b h; simp at h
  | cons w fs ih =>
    intro i k x y b h1 h2 h3 h4
    have nd2 : (owns fs).Nodup := by
      simp only [owns, List.filterMap_cons] at nd ⊢
      split at nd
      · exact nd
      · exact (List.nodup_cons.mp nd).2
    have key : ∀ {i : Nat} {x : FD}, fs[i]? = some x → x.ad = some b → w.ad = some b → False := fun {i x} h e e2 => by
      simp only [owns, List.filterMap_cons, e2] at nd
      exact (List.nodup_cons.mp nd).1 (owns_mem.mpr ⟨x, List.mem_of_getElem? h, e⟩)
    cases i with
    | zero =>
      cases k with
      | zero => rfl
      | succ k =>
        simp at h1 h2; subst h1
        exact (key h2 h4 h3).elim
    | succ i =>
      cases k with
      | zero =>
        simp at h1 h2; subst h2
        exact (key h1 h3 h4).elim
      | succ k =>
        simp at h1 h2
        rw [ih nd2 h1 h2 h3 h4]
/-- the list of a field changes -/
theorem fld_change {xs ys : List D} {b : Addr} {ws : List V} (r : Rep K F Ad.nil σ H ds fp) (ho : ds[j]? = some (.ob o)) (hk : o.fs[k]? = some (.own b xs)) (hw : IsA K (res F H) ws ys) :
    ∃ fp', Rep K F Ad.nil σ (upd H b (.lst ws)) (ds.set j (.ob ⟨o.a, o.C, o.ns, o.fs.set k (.own b ys)⟩)) fp' ∧ Grow F H F (upd H b (.lst ws)) := by
  obtain ⟨ov, hfp, ⟨dx, vs, hH, hn, hp⟩, na, nd⟩ := r.slot j _ ho
  have hb : b ∈ owns o.fs := owns_mem.mpr ⟨_, List.mem_of_getElem? hk, rfl⟩
  have fb : fp j b := (hfp b).mpr (.inr hb)
  have hab : o.a ≠ b := fun e => na (e ▸ hb)
  have smm : Same (res F H) (res F (upd H b (.lst ws))) := fun c z e => by
    obtain ⟨f, e⟩ := res_some e
    rw [res_in f, upd_ne fun z => ?_]; exact e
    exact r.fF j b fb (z ▸ f)
  have hos : owns (o.fs.set k (.own b ys)) = owns o.fs := owns_set_same hk
  have hp2 : Paired (FOk K (res F (upd H b (.lst ws))) (upd H b (.lst ws))) (vs.map Prod.snd) (o.fs.set k (.own b ys)) := by
    -- item by item
    have gen : ∀ (us : List V) (fs : List FD) (off : Nat), (∀ i x, fs[i]? = some x → o.fs[off + i]? = some x) → Paired (FOk K (res F H) H) us fs → Paired (FOk K (res F (upd H b (.lst ws))) (upd H b (.lst ws))) us (fs.set (k - off) (if off ≤ k then .own b ys else (fs[k - off]?.getD (.val .none)))) := by
      intro us fs off hoff hpp
      induction hpp generalizing off with
      | nil => exact .nil
      | @cons u x us fs h1 h2 ih =>
        have hx0 : o.fs[off]? = some x := by simpa using hoff 0 x rfl
        have ih' := ih (off + 1) fun i y e => by
          have := hoff (i + 1) y (by simpa using e)
          rw [show off + (i + 1) = off + 1 + i from by omega] at this; exact this
        have h1' : off ≠ k → FOk K (res F (upd H b (.lst ws))) (upd H b (.lst ws)) u x := fun ne => h1.mono smm fun c hc => upd_ne fun e => ne (owns_uniq nd hx0 hk hc (by rw [e]; rfl))
        by_cases hko : off = k
        · subst hko
          simp only [Nat.sub_self, Nat.le_refl, if_true, List.set_cons_zero]
          rw [hk] at hx0; cases hx0
          refine .cons ⟨h1.1, ws, upd_same, hw.mono smm⟩ ?_
          have : ¬ off + 1 ≤ off := by omega
          rw [if_neg this] at ih'
          rw [show off - (off + 1) = 0 from by omega] at ih'
          cases fs with
          | nil => exact ih'
          | cons z zs => simpa using ih'
        · by_cases hlt : off < k
          · rw [if_pos (Nat.le_of_lt hlt)]
            rw [if_pos (show off + 1 ≤ k from hlt)] at ih'
            rw [show k - off = (k - (off + 1)) + 1 from by omega, List.set_cons_succ]
            exact .cons (h1' hko) ih'
          · rw [if_neg (show ¬ off ≤ k by omega)]
            rw [if_neg (show ¬ off + 1 ≤ k by omega)] at ih'
            rw [show k - off = 0 from by omega]
            rw [show k - (off + 1) = 0 from by omega] at ih'
            simp only [List.set_cons_zero, List.getElem?_cons_zero, Option.getD_some]
            refine .cons (h1' hko) ?_
            cases fs with
            | nil => exact ih'
            | cons z zs => simpa using ih'
    have := gen _ _ 0 (fun i x e => by simpa using e) hp
    simpa using this
  obtain ⟨r', g'⟩ := (r.less (T' := Ad.nil.or Ad.nil) fun _ z => z.elim id id).change (j := j) (H' := upd H b (.lst ws)) (s := .ob ⟨o.a, o.C, o.ns, o.fs.set k (.own b ys)⟩) (fun _ _ z => z) (List.getElem?_eq_some_iff.mp ho).1 (fun c => c = o.a ∨ c ∈ owns (o.fs.set k (.own b ys))) (fun c z => .inl ((hfp c).mpr (by rw [hos] at z; exact z)))
    (fun c z => upd_ne fun e => z (e ▸ fb)) ⟨ov, fun _ => Iff.rfl, ⟨dx, vs, by rw [upd_ne hab]; exact hH, hn, hp2⟩, by rw [hos]; exact na, by rw [hos]; exact nd⟩
  exact ⟨_, r', g'⟩
theorem ds_appF (c : Cls X.K C) (na : NoAttr X.K C a) (he : DO X e te t) (hk : ns[k]? = some a := by rfl) (h1 : a ∉ ns.take k := by decide) (hN : X.N[j]? = some y := by rfl) (hv : Vis X.env.scope y := by first | exact Or.inl rfl | exact Or.inr (Or.inl rfl) | exact Or.inr (Or.inr rfl)) (hd : (y == ("__debug__" : Str)) = false := by decide)
    (hcd : (y == ("__classdict__" : Str)) = false := by decide) (hb : attributeBase (.Name y py) a X.env (eval (.Name y py) X.env) = eval (.Name y py) X.env := by rfl) (hse : starEach [e] X.env = (false, eval e X.env) :: starEach [] X.env := by rfl)
    (hb1 : attributeBase (.Attribute (.Name y py) a fpos) "append" X.env (eval (.Attribute (.Name y py) a fpos) X.env) = eval (.Attribute (.Name y py) a fpos) X.env := by rfl)
    (h2 : ((backTo cpos (starEach [e] X.env)).all (fun x => !x.1) && (backToKw cpos (keywordEach [] X.env)).all (fun x => x.1.isSome) && decide (([e] : List Expr).length + ([] : List Keyword).length + (if ([] : List Keyword).isEmpty then 0 else 1) < 30)) = true := by rfl)
    (h3 : (apos.endLine == cpos.line) = true := by rfl) (h4 : (backTo cpos (starEach [] X.env)).any (·.1) = false := by rfl)
    (hs : swapsWith (.Call (.Attribute (.Attribute (.Name y py) a fpos) "append" apos) [e] [] cpos) none pos.line X.env = pure false := by rfl) :
    DSt X (.Expr (.Call (.Attribute (.Attribute (.Name y py) a fpos) "append" apos) [e] [] cpos) pos) (tDrop (tBM X.K "list" rAppend (tFld X.K (tVar j) a) (tCons te tNil))) (mAppF j C ns k t) := ⟨ps_expr (pe_bm PySem.F.plainAttrs_list PySem.F.slot_list_append PySem.F.type_list_append mt_append (pe_fld (pe_var hN hv hd hcd) hb) (pa_cons he.pe pa_nil hse) hb1 h2 h3 hse h4) hs, fun F σ H ds fp E D r h kk => by
  obtain ⟨o, b, xs, ho, ⟨rfl, rfl⟩, hx, h⟩ := ownF_inv h
  obtain ⟨ov, hfp, ⟨dx, vs, hH, hn, hp⟩, na', nd⟩ := r.slot j _ ho
  obtain ⟨uu, hu, rfl, ws, hb2, iw⟩ := paired_at2 hp hx
  have hk' := hk
  have h1' := h1
  rw [← hn] at hk' h1'
  refine ⟨_, ov, o.a, o.C, dx, vs, _, rfl, hH, c, na, lookup_at hk' hu h1', .inl ⟨rfl, _, .of hb2⟩, ?_⟩
  refine he.ok F _ σ H ds fp _ _ r h fun h ds1 v H1 F1 fp1 q c' p => ?_
  obtain ⟨d, ds2, F2, fp2, e2, r2, g2, i2⟩ := take1_ok p.rep p.qT p.r c'
  obtain ⟨o2, b2, ys, ho2, _, hx2, ⟨rfl, hz⟩, e3⟩ := ownF_inv e2
  obtain ⟨ov2, hfp2, ⟨dx2, vs2, hH2, hn2, hp2⟩, _, _⟩ := r2.slot j _ ho2
  obtain ⟨uu2, hu2, rfl, ws2, hb3, iw2⟩ := paired_at2 hp2 hx2
  obtain ⟨fp3, r3, g3⟩ := fld_change (ys := ys ++ [d]) (ws := ws2 ++ [v]) r2 ho2 hx2 (iw2.append (.cons i2 .nil))
  exact ⟨_, _, _, rfl, rfl, hb3, by rw [iw2.length]; exact hz, kk.nx _ _ _ _ fp3 e3 r3 ((p.g.trans g2).trans g3)⟩⟩
end
end DL

/-! DL: methods, making, a method's body. -/
namespace DL
open PySem PySem.Spec PyProof.Rows L2

/-- o.m(..), o at slot j -/
@[simp] def dMeth (j : Nat) (C : Addr) (ns : List Str) (g : DFO) (t : DTA) : DT := fun ds Q => obAt ds j fun o0 => (o0.C = C ∧ o0.ns = ns) ∧ t ds fun hs ds1 => lends (some j) hs ds1 fun dl b => obAt ds1 j fun o => o.a = o0.a ∧ g o dl fun r o' => o'.a = o.a ∧ (b = true → r.lf ∧ o'.lf = true) ∧ Q (hdOf r) (ds1.set j (.ob o'))
/-- e.m(..), e a new object -/
@[simp] def dMethN (C : Addr) (ns : List Str) (te : DT) (g : DFO) (t : DTA) : DT := fun ds Q => te ds fun h ds1 => match h with
  | .new (.ob o) => (o.C = C ∧ o.ns = ns) ∧ t ds1 fun hs ds2 => lends none hs ds2 fun dl b => g o dl fun r o' => o'.a = o.a ∧ (b = true → r.lf ∧ o'.lf = true) ∧ Q (hdOf r) ds2
  | _ => False
/-- C(..) -/
@[simp] def dMake (C : Addr) (g : DFO) (t : DTA) : DT := fun ds Q => t ds fun hs ds1 => lends none hs ds1 fun dl b => ∀ a, g ⟨a, C, [], []⟩ dl fun r o' => r = .val .none ∧ o'.a = a ∧ (b = true → o'.lf = true) ∧ Q (.new (.ob o')) ds1
section
variable {X : Cx} {K : PySem.W.Frag} {F T q : Ad} {σ : Sl} {H H' : Hp} {ds ds' : DS} {fp : Nat → Ad} {j k n lv : Nat} {o : Ob} {v : V} {s : SD} {C f : Addr} {ns : List Str} {a m x y : Str} {pos py apos cpos fpos p : Pos} {e : Expr} {es : List Expr} {te : TE} {ta : TA} {t : DT} {u : DTA} {g : DFO} {fd : FuncData} {ps : List Str} {b : Bool} {L : Ad}
theorem Lnt.push {vs : List V} (l : Lnt none H fp b L) (r : Rep K F T σ H ds fp) : Lnt (some ds.length) H (fun i => if i = ds.length then q else fp i) b L :=
  ⟨fun c z => by
    obtain ⟨i, _, y⟩ := l.at_ c z
    have hi := r.out i c y
    exact ⟨i, fun e => by cases e; omega, by rw [if_neg (by omega)]; exact y⟩, l.ls, l.no⟩
/-- a call on a new object -/
theorem callN_core {vs : List V} {dl : List D} {Q : SD → Ob → Prop} {R : VK} {E : XK} (r2 : Rep K F (T.or q) σ H ds fp) (dj : ∀ a, q a → ¬ T a) (so : SlotOk K (res F H) H (some (some (.ref o.a))) q (.ob o)) (l : Lnt none H fp b L) (ia : IsA K (res (F.or L) H) vs dl) (hn : vs.length = n)
    (h : ∃ P0 : SD → Ob → Prop, g o dl P0 ∧ ∀ r o', P0 r o' → o'.a = o.a ∧ (b = true → r.lf ∧ o'.lf = true) ∧ Q r o')
    (k : ∀ r o' v H' F' q' fp' p, Q r o' → o'.a = o.a → Rep K F' ((T.or q').or p) σ H' ds fp' → (∀ a, q' a → ¬ (T.or p) a) → (∀ a, p a → ¬ T a) → Grow F H F' H' → (∀ a, T a → H' a = H a) → HdR K F' H' σ v q' (hdOf r) → SlotOk K (res F' H') H' (some (some (.ref o.a))) p (.ob o') → R v H') : frm (spW K n (toW K g)) (.ref o.a :: vs) H R E := by
  have rp := r2.push (s := .wd (obWd K o)) (v := .ref o.a) dj so
  have l2 : Lnt (some ds.length) H (fun i => if i = ds.length then q else fp i) b L := l.push (vs := vs) r2
  have hj : (ds ++ [SD.wd (obWd K o)])[ds.length]? = some (.wd (obWd K o)) := by simp
  refine callW_coreL (w := obWd K o) (Q := fun h w' => ∃ r o', h = hdOf r ∧ w' = obWd K o' ∧ o'.a = o.a ∧ Q r o') rp hj l2 ia hn ⟨o, rfl, h.choose, h.choose_spec.1, fun r o' hp => by
    obtain ⟨ea, lf, qq⟩ := h.choose_spec.2 r o' hp
    exact ⟨by show V.ref o'.a = V.ref o.a; rw [ea], fun hb => ⟨(lf hb).1, obWd_lf (lf hb).2⟩, r, o', rfl, rfl, ea, qq⟩⟩ ?_
  · rintro h w' v H' F' q' fp' ⟨r, o', rfl, rfl, ea, qq⟩ p
    have r3 := p.rep
    have e1 : (ds ++ [SD.wd (obWd K o)]).set ds.length (.wd (obWd K o')) = ds ++ [.wd (obWd K o')] := by simp
    rw [e1] at r3
    obtain ⟨r4, d4, s4⟩ := r3.pop rfl
    have hv : HdR K F' H' σ v q' (hdOf r) := by
      have := p.r
      cases r <;> exact this
    refine k r o' v H' F' q' _ (fp' ds.length) qq ea r4 (fun a z y => ?_) (fun a z y => d4 a z (.inl y)) p.g p.t hv ?_
    · rcases y with y | y
      · exact p.qT a z y
      · exact d4 a y (.inr z)
    · exact s4
/-- a new instance -/
theorem Rep.ins {dx x C : Addr} (r : Rep K F T σ H ds fp) (hx : H x = none) (hd : H dx = none) (ne : dx ≠ x) :
    Rep K F (T.or (· = x)) σ (upd (upd H dx (.own x)) x (.ins C dx [])) ds fp ∧ (∀ a, a = x → ¬ T a) ∧ Grow F H F (upd (upd H dx (.own x)) x (.ins C dx [])) ∧ ∀ a, T a → upd (upd H dx (.own x)) x (.ins C dx []) a = H a := by
  obtain ⟨n1, n2, n3⟩ := r.new_ne hd
  have g0 : Grow F H F (upd H dx (.own x)) := fun a f => ⟨f, upd_ne (ne_by f n1)⟩
  have r0 : Rep K F T σ (upd H dx (.own x)) ds fp := r.go g0 (fun i a z => ⟨upd_ne (ne_by z (n3 i)), r.fF i a z, r.fT i a z⟩) r.tF (fun a f => by rw [(g0 a f).2]; exact r.fd a f) fun a t => by rw [upd_ne (ne_by t n2)]; exact r.td a t
  have hx0 : (upd H dx (.own x)) x = none := by rw [upd_ne (Ne.symm ne)]; exact hx
  obtain ⟨r1, g1, t1⟩ := r0.newT (o := .ins C dx []) hx0 trivial
  obtain ⟨_, m2, _⟩ := r0.new_ne hx0
  exact ⟨r1, fun a e => e ▸ m2, g0.trans g1, fun a t => (t1 a t).trans (upd_ne (ne_by t n2))⟩
theorem lnt_upd {H' : Hp} (l : Lnt none H fp b L) (r : Rep K F T σ H ds fp) (h : ∀ i a, fp i a → H' a = H a) : Lnt none H' fp b L :=
  ⟨l.at_, fun a z => by
    obtain ⟨i, _, y⟩ := l.at_ a z
    obtain ⟨ws, e⟩ := l.ls a z
    exact ⟨ws, by rw [h i a y]; exact e⟩, l.no⟩
theorem eok_make (ha : AOk K n ta u) : EOk K (tMake C (frm (spW K n (toW K g))) [] E0 ta) (dMake C g u) := fun F T σ H ds fp Q R rp e k => by
  refine ha F T σ H ds fp _ _ rp e fun hs ds1 vs H1 F1 fp1 q1 k1 p1 l1 => ?_
  obtain ⟨dl, b, F2, L, e2, r2, g2, l2, i2⟩ := lends_ok p1.r .refl p1.rep p1.qT k1
  intro x dx hx hd ne
  rw [List.append_nil]
  obtain ⟨r3, d3, g3, t3⟩ := r2.ins (C := C) hx hd ne
  have hfp : ∀ i a, fp1 i a → upd (upd H1 dx (.own x)) x (.ins C dx []) a = H1 a := fun i a z => by
    obtain ⟨o, e, _⟩ := r2.fdom z
    rw [upd_ne (ne_of_none e hx), upd_ne (ne_of_none e hd)]
  have l3 := lnt_upd l2 r2 hfp
  have i3 : IsA K (res (F2.or L) (upd (upd H1 dx (.own x)) x (.ins C dx []))) vs dl := i2.mono fun a o e => by
    obtain ⟨f, e⟩ := res_some e
    rw [res_in f, upd_ne (ne_of_none e hx), upd_ne (ne_of_none e hd)]; exact e
  have so : SlotOk K (res F2 (upd (upd H1 dx (.own x)) x (.ins C dx []))) (upd (upd H1 dx (.own x)) x (.ins C dx [])) (some (some (.ref x))) (· = x) (.ob ⟨x, C, [], []⟩) :=
    ⟨rfl, fun a => ⟨fun e => .inl e, fun e => e.elim id fun z => nomatch z⟩, ⟨dx, [], upd_same, rfl, .nil⟩, (fun z => nomatch z), List.nodup_nil⟩
  refine callN_core (o := ⟨x, C, [], []⟩) (Q := fun r o' => r = .val .none ∧ Q (.new (.ob o')) ds1) r3 d3 so l3 i3 l1 ⟨_, e2 x, fun r o' ⟨e1, e2, e3, e4⟩ => ⟨e2, fun hb => ⟨by rw [e1]; rfl, e3 hb⟩, e1, e4⟩⟩ ?_
  · rintro r o' v H' F' q' fp' p ⟨rfl, qq⟩ ea r4 d4 d5 g4 t4 hv s4
    refine ⟨?_, ?_⟩
    · cases (show Is K _ v .none from hv); rfl
    · refine k _ _ _ _ _ _ p qq ⟨r4.less fun a z => z.elim (fun z => .inl (.inl z)) .inr, d5, ((p1.g.trans g2).trans g3).trans g4, fun a z => (t4 a z).trans ((t3 a z).trans (p1.t a z)), ?_⟩
      exact s4
theorem do_make (M : Mk X.K C f) (F : FnOk X.prog X.w X.K X.mg X.base CX0 lv f fd ps (spO X.K n g)) (hr : Room (lv + 1) X.A) (hg : Gl X x) (hm : X.mg x = some (.ref C)) (hb : Binds X.K fd ps []) (ha : DA X (e :: es) ta u) (hn : (e :: es).length = n := by rfl)
    (hdb : (x == ("__debug__" : Str)) = false := by decide) (he : starEach (e :: es) X.env = (false, eval e X.env) :: starEach es X.env := by rfl) (hpl : (backTo pos (starEach es X.env)).any (·.1) = false := by rfl) :
    DO X (.Call (.Name x p) (e :: es) [] pos) (tMake C (frm (spO X.K n g)) [] E0 ta) (dMake C g u) :=
  ⟨pe_make M (frame_fn F) hr hg hm hb .nil pass0 ha.pa hdb he hpl, eok_make (hn ▸ ha.ok)⟩
theorem eok_meth {m : Str} (hno : m ∉ ns) (ha : AOk K n ta u) : EOk K (tMeth C m (frm (spO K n g)) [] E0 (tVar j) ta) (dMeth j C ns g u) := fun F T σ H ds fp Q R rp e k => by
  obtain ⟨o0, h0, ⟨rfl, rfl⟩, ee⟩ := obAt_inv e
  obtain ⟨ov, _, ⟨dx, vs0, hH, hn, hp⟩, _⟩ := rp.slot j _ h0
  refine ⟨_, ov, o0.a, dx, vs0, rfl, hH, lookup_no (by rw [hn]; exact hno), ?_⟩
  refine ha F T σ H ds fp _ _ rp ee fun hs ds1 vs H1 F1 fp1 q1 k1 p1 l1 => ?_
  obtain ⟨dl, b, F2, L, e2, r2, g2, l2, i2⟩ := lends_ok p1.r .refl p1.rep p1.qT k1
  obtain ⟨o, ho, ea, e3⟩ := obAt_inv e2
  rw [List.append_nil, show (obWd K o0).val = (obWd K o).val from congrArg V.ref ea.symm]
  have r3 : Rep K F2 T σ H1 (ds1.set j (.wd (obWd K o))) fp1 := r2.swap ho id
  have hlt : j < ds1.length := (List.getElem?_eq_some_iff.mp ho).1
  refine callW_coreL (w := obWd K o) (Q := fun h w' => ∃ o', w' = obWd K o' ∧ Q h (ds1.set j (.ob o'))) r3 (List.getElem?_set_self hlt) l2 i2 l1 ⟨o, rfl, _, e3, fun r o' ⟨ea, lf, qq⟩ => ⟨congrArg V.ref ea, fun hb => ⟨(lf hb).1, obWd_lf (lf hb).2⟩, o', rfl, qq⟩⟩ ?_
  rintro h w' v H' F' q fp' ⟨o', rfl, qh⟩ p
  have rr := p.rep
  rw [List.set_set] at rr
  have rr2 := rr.swap (j := j) (t := .ob o') (List.getElem?_set_self hlt) id
  rw [List.set_set] at rr2
  exact k _ _ _ _ _ fp' q qh ⟨rr2, p.qT, (p1.g.trans g2).trans p.g, fun a z => (p.t a z).trans (p1.t a z), p.r⟩
theorem do_meth {m : Str} {pl : Sem Bool} (c : Cls X.K C) (hm : Meth X.K C m f) (F : FnOk X.prog X.w X.K X.mg X.base CX0 lv f fd ps (spO X.K n g)) (hr : Room lv X.A) (hb : Binds X.K fd ps []) (ha : DA X (e :: es) ta u) (hno : m ∉ ns := by decide) (hn : (e :: es).length = n := by rfl)
    (hN : X.N[j]? = some y := by rfl) (hv : Vis X.env.scope y := by first | exact Or.inl rfl | exact Or.inr (Or.inl rfl) | exact Or.inr (Or.inr rfl)) (hd : (y == ("__debug__" : Str)) = false := by decide)
    (hcd : (y == ("__classdict__" : Str)) = false := by decide)
    (hst : starEach (e :: es) X.env = (false, eval e X.env) :: starEach es X.env := by rfl) (hpl : (backTo pos (starEach es X.env)).any (·.1) = false := by rfl)
    (ht : eval (.Call (.Attribute (.Name y py) m apos) (e :: es) [] pos) X.env = (do
      let ov ← eval (.Name y py) X.env
      standAt apos.atName
      let (f, first) ← holding [ov] (getMethod ov m pl)
      callWith pos f first (backTo pos (starEach (e :: es) X.env)) (backToKw pos (keywordEach [] X.env))) := by rfl) :
    DO X (.Call (.Attribute (.Name y py) m apos) (e :: es) [] pos) (tMeth C m (frm (spO X.K n g)) [] E0 (tVar j) ta) (dMeth j C ns g u) :=
  ⟨pe_meth (pe_var hN hv hd hcd) c hm (frame_fn F) hr hb .nil pass0 ha.pa hst hpl ht, eok_meth hno (hn ▸ ha.ok)⟩
/-- o.m() -/
theorem do_meth0 {m : Str} {pl : Sem Bool} (c : Cls X.K C) (hm : Meth X.K C m f) (F : FnOk X.prog X.w X.K X.mg X.base CX0 lv f fd ps (spO X.K 0 g)) (hr : Room lv X.A) (hb : Binds X.K fd ps []) (hno : m ∉ ns := by decide)
    (hN : X.N[j]? = some y := by rfl) (hv : Vis X.env.scope y := by first | exact Or.inl rfl | exact Or.inr (Or.inl rfl) | exact Or.inr (Or.inr rfl)) (hd : (y == ("__debug__" : Str)) = false := by decide)
    (hcd : (y == ("__classdict__" : Str)) = false := by decide)
    (ht : eval (.Call (.Attribute (.Name y py) m apos) [] [] pos) X.env = (do
      let ov ← eval (.Name y py) X.env
      standAt apos.atName
      let (f, first) ← holding [ov] (getMethod ov m pl)
      callWith pos f first (backTo pos (starEach [] X.env)) (backToKw pos (keywordEach [] X.env))) := by rfl) :
    DO X (.Call (.Attribute (.Name y py) m apos) [] [] pos) (tMeth C m (frm (spO X.K 0 g)) [] E0 (tVar j) tNil) (dMeth j C ns g aNil) :=
  ⟨pe_meth0 (pe_var hN hv hd hcd) c hm (frame_fn F) hr hb .nil pass0 ht, eok_meth hno aok_nil⟩
theorem eok_methN {m : Str} {t : DT} (hno : m ∉ ns) (he : EOk K te t) (ha : AOk K n ta u) : EOk K (tMeth C m (frm (spO K n g)) [] E0 te ta) (dMethN C ns t g u) := fun F T σ H ds fp Q R rp e k => by
  refine he F T σ H ds fp _ _ rp e fun h ds1 v H1 F1 fp1 q1 k1 p1 => ?_
  cases h with
  | tmp _ => exact False.elim k1
  | slot _ => exact False.elim k1
  | fld _ _ _ => exact False.elim k1
  | new s =>
    cases s with
    | no => exact False.elim k1
    | val _ => exact False.elim k1
    | own _ => exact False.elim k1
    | dic _ => exact False.elim k1
    | wd _ => exact False.elim k1
    | ob o =>
      obtain ⟨⟨rfl, rfl⟩, k1⟩ := k1
      obtain ⟨ov, hq, ⟨dx, vs0, hH, hn, hp⟩, hrest⟩ := p1.r
      cases ov
      refine ⟨o.a, dx, vs0, rfl, hH, lookup_no (by rw [hn]; exact hno), ?_⟩
      refine ha F1 (T.or q1) σ H1 ds1 fp1 _ _ p1.rep k1 fun hs ds2 vs H2 F2 fp2 q2 k2 p2 l2 => ?_
      obtain ⟨dl, b, F3, L, e3, r3, g3, l3, i3⟩ := lends_ok p2.r .refl p2.rep p2.qT k2
      rw [List.append_nil]
      have so : SlotOk K (res F3 H2) H2 (some (some (.ref o.a))) q1 (.ob o) := (SlotOk.mono p2.g.same (fun a z => p2.t a (.inr z)) (s := .ob o) ⟨rfl, hq, ⟨dx, vs0, hH, hn, hp⟩, hrest⟩ : SlotOk K (res F2 H2) H2 (some (some (.ref o.a))) q1 (.ob o)).mono g3.same fun _ _ => rfl
      refine callN_core (o := o) (Q := fun r o' => Q (hdOf r) ds2) r3 (fun a z => p1.qT a z) so l3 i3 l2 ⟨_, e3, fun r o' h => h⟩ ?_
      rintro r o' v H' F' q' fp' p qq ea r4 d4 d5 g4 t4 hv s4
      exact k _ _ _ _ _ _ q' qq ⟨r4.less fun a z => z.elim (fun z => .inl (.inl z)) fun z => .inl (.inr z), fun a z y => d4 a z (.inl y), ((p1.g.trans p2.g).trans g3).trans g4, fun a z => (t4 a z).trans ((p2.t a (.inl z)).trans (p1.t a z)), hv⟩
theorem do_methN {m : Str} {eo : Expr} {t : DT} {pl : Sem Bool} (c : Cls X.K C) (hm : Meth X.K C m f) (F : FnOk X.prog X.w X.K X.mg X.base CX0 lv f fd ps (spO X.K n g)) (hr : Room lv X.A) (hb : Binds X.K fd ps []) (ho : DO X eo te t) (ha : DA X (e :: es) ta u) (hno : m ∉ ns := by decide) (hn : (e :: es).length = n := by rfl)
    (hst : starEach (e :: es) X.env = (false, eval e X.env) :: starEach es X.env := by rfl) (hpl : (backTo pos (starEach es X.env)).any (·.1) = false := by rfl)
    (ht : eval (.Call (.Attribute eo m apos) (e :: es) [] pos) X.env = (do
      let ov ← eval eo X.env
      standAt apos.atName
      let (f, first) ← holding [ov] (getMethod ov m pl)
      callWith pos f first (backTo pos (starEach (e :: es) X.env)) (backToKw pos (keywordEach [] X.env))) := by rfl) :
    DO X (.Call (.Attribute eo m apos) (e :: es) [] pos) (tMeth C m (frm (spO X.K n g)) [] E0 te ta) (dMethN C ns t g u) :=
  ⟨pe_meth ho.pe c hm (frame_fn F) hr hb .nil pass0 ha.pa hst hpl ht, eok_methN hno ho.ok (hn ▸ ha.ok)⟩
end
/-! ### a method's body -/
@[simp] def enO (o : Ob) (P : SD → Ob → Prop) : En := ⟨fun ds => obAt ds 0 fun o' => o'.a = o.a ∧ P (.val .none) o', fun h ds => obAt ds 0 fun o' => o'.a = o.a ∧ retD h ds fun r => P r o', fun _ => False, fun _ => False⟩
@[simp] def slotsO (n : Nat) (o : Ob) (dl : List D) : DS := .ob o :: (dl.map .val ++ List.replicate (n - (dl.length + 1)) .no)
section
variable {P : Program} {w : World} {K : PySem.W.Frag} {mg : Str → Option Value} {base : Heap}
theorem dfunO {x qual : Str} {st : Stmt} {f : Addr} {fd : FuncData} {N ps : List Str} {k n : Nat} {g : DFO} {tb : DM} (F : Fun K x qual st f fd) (S : FnScope N ps (defScope st)) (hps : ps.length = n + 1)
    (hd : ∀ (cdv : Value) (A : Around) (outer : List Env) (s : Shared) (H : Hp) (E : XK), Room k (A.deeper (envOfC qual (defScope st) s.heap.objs.size f cdv)) → ∃ ts, DSs (cxOf CX0 P w K mg base N qual (defScope st) f cdv A outer s H E).nox (defBody st) ts tb)
    (hr : ∀ o dl Q, dl.length = n → g o dl Q → tb (enO o Q) (slotsO N.length o dl)) : FnOk P w K mg base CX0 (k + 1) f fd ps (spO K n g) := by
  refine F.ok S (fun vs H Q E h => by rw [hps]; exact h.1) (fun cdv A outer s H vs Q E hroom h => ?_)
  obtain ⟨hn, F0, wd, ws, dl, rfl, ia, sa, wo, wF, W0, ⟨o, rfl, W, hg, hW⟩, hk0⟩ := h
  have hk := fun r o' (e : W r o') => hk0 r _ (hW r o' e)
  obtain ⟨ts, b⟩ := hd cdv A outer s H E hroom
  refine ⟨ts, b.ps, ?_⟩
  have hl : dl.length = n := by rw [← ia.length]; exact Nat.succ.inj hn
  have r0 := isA_repW sa ia wo wF (N.length - (ws.length + 1))
  have r1 := r0.swap (j := 0) (t := .ob o) rfl id
  have e1 : ((.wd (obWd K o) :: (dl.map .val ++ List.replicate (N.length - (ws.length + 1)) .no) : DS)).set 0 (.ob o) = slotsO N.length o dl := by unfold slotsO; rw [ia.length]; rfl
  rw [e1] at r1
  have r : Rep K F0 Ad.nil (start N ((obWd K o).val :: ws)) H (slotsO N.length o dl) _ := r1
  refine b.ok F0 _ H _ _ _ _ r (hr o dl W hl hg) ⟨fun σ' H' ds' F' fp' e r' g' => ?_, fun h ds' v σ' H' F' fp' q e p => ?_, fun _ _ _ _ _ e => e.elim, fun _ _ _ _ _ e => e.elim⟩
  · obtain ⟨o', h0, ev, e⟩ := obAt_inv e
    obtain ⟨_, jf, jo⟩ := r'.slot 0 _ h0
    exact hk _ _ e H' .non F' Ad.nil g' r'.fd (fun _ z => z.elim) (congrArg V.ref ev) jo (fun a z => r'.fF 0 a ((jf a).mpr z)) ⟨⟨_, rfl, .non⟩, fun _ z => z⟩
  · obtain ⟨o', h0, ev, e⟩ := obAt_inv e
    have ev : (obWd K o').val = (obWd K o).val := congrArg V.ref ev
    obtain ⟨_, jf, jo⟩ := p.rep.slot 0 _ h0
    have jF : ∀ a, (obWd K o').fp a → ¬ F' a := fun a z => p.rep.fF 0 a ((jf a).mpr z)
    cases h with
    | tmp d => exact hk _ _ e H' v F' Ad.nil p.g p.rep.fd (fun _ z => z.elim) ev jo jF ⟨⟨_, rfl, p.r⟩, fun _ z => z⟩
    | new s => exact hk _ _ e H' v F' q p.g p.rep.fd (fun a z => ⟨p.rep.tF a (.inr z), fun y => p.rep.fT 0 a ((jf a).mpr y) (.inr z), p.rep.td a (.inr z)⟩) ev jo jF p.r
    | fld _ _ _ => exact False.elim e
    | slot i =>
      have hv : σ'[i]? = some (some v) := p.r
      cases hs : ds'[i]? with
      | none => simp [retD, hs] at e
      | some s =>
        have z := p.rep.slot i s hs
        cases s with
        | val d =>
          simp [retD, hs] at e
          obtain ⟨⟨v', e1, i1⟩, _⟩ := z
          rw [hv] at e1; cases e1
          exact hk _ _ e H' v F' Ad.nil p.g p.rep.fd (fun _ z => z.elim) ev jo jF ⟨⟨_, rfl, i1⟩, fun _ z => z⟩
        | own xs =>
          simp [retD, hs] at e
          rw [hv] at z
          have hi : i ≠ 0 := fun z0 => by subst z0; rw [h0] at hs; cases hs
          exact hk _ _ e H' v F' (fp' i) p.g p.rep.fd (fun a z => ⟨p.rep.fF i a z, fun y => hi (p.rep.sep i 0 a z ((jf a).mpr y)), p.rep.fdom z⟩) ev jo jF z
        | no => simp [retD, hs] at e
        | dic _ => simp [retD, hs] at e
        | wd _ => simp [retD, hs] at e
        | ob _ => simp [retD, hs] at e
end
end DL

/-! DL: zip and enumerate of lists, tuples, texts. -/
namespace DL
open PySem PySem.Spec PyProof.Rows L2

inductive Kd where
  | l
  | t
  | s
/-- what a value gives when it is walked -/
def Src (K : PySem.W.Frag) (H : Hp) : Kd → V → List V → Prop
  | .l, x, xs => ∃ a, x = .ref a ∧ SqL K H a xs
  | .t, x, xs => ∃ a, x = .ref a ∧ SqT K H a xs
  | .s, x, xs => ∃ z : Str, x = .str z ∧ xs = z.cps.toList.map fun c => V.str ⟨#[c]⟩
def ISt : Kd → Value → Addr → Nat → Heap → Prop
  | .l, .ref a, it, i, h => h.IsListIter it a i
  | .t, .ref a, it, i, h => h.IsTupleIter it a i
  | .s, .str z t, it, i, h => h.IsStrIter it (strIterType z) z t i
  | _, _, _, _, _ => False
def fpK : Kd → Value → List Addr
  | .l, .ref a => [a]
  | .t, .ref a => [a]
  | _, _ => []
theorem ISt.obj {k : Kd} {u : Value} {it : Addr} {i : Nat} {h : Heap} (st : ISt k u it i h) : ∃ o, h.get? it = some o ∧ ∀ v, o.data ≠ .cell v := by
  cases k <;> cases u <;> first | exact st.elim | skip
  all_goals
    obtain ⟨o, e, _, d⟩ := st
    exact ⟨o, e, fun v q => by rw [d] at q; cases q⟩
theorem ISt.keep {k : Kd} {u : Value} {it : Addr} {i : Nat} {h h' : Heap} (st : ISt k u it i h) (hk : ∀ o, h.get? it = some o → h'.get? it = some o) : ISt k u it i h' := by
  cases k <;> cases u <;> first | exact st.elim | skip
  all_goals
    obtain ⟨o, e, r⟩ := st
    exact ⟨o, hk o e, r⟩
section
variable {X : Cx} {K : PySem.W.Frag} {pins : List (Addr × Obj)} {σ : Sl} {H : Hp} {s : Shared} {k k1 k2 : Kd} {x y : V} {xs ys : List V} {u u1 u2 : Value} {it : Addr} {n : Nat}
theorem Src.inj (I : Inv X pins σ H s) (a : Src X.K H k x xs) (b : Src X.K H k x ys) : xs = ys := by
  cases k
  · obtain ⟨p, rfl, a⟩ := a
    obtain ⟨_, e, b⟩ := b
    cases e; exact I.list_inj a b
  · obtain ⟨p, rfl, a⟩ := a
    obtain ⟨_, e, b⟩ := b
    cases e; exact I.tuple_inj a b
  · obtain ⟨p, rfl, rfl⟩ := a
    obtain ⟨_, e, rfl⟩ := b
    cases e; rfl
theorem vals_get {xs : List V} {its : List Value} (r : Vals xs its) {i : Nat} {v : Value} (h : its.toArray[i]? = some v) : ∃ y, xs[i]? = some y ∧ RelV y v := by
  have h' : its[i]? = some v := by simpa using h
  obtain ⟨y, q1, q2⟩ := paired_at2 (G := RelV) r h'
  exact ⟨y, q1, q2⟩
theorem draws_of (I : Inv X pins σ H s) (hh : X.A.handled = none) (ru : RelV x u) (a : Src X.K H k x xs) (ne : ∀ b ∈ fpK k u, b ≠ it) :
    ∃ (P : Nat → Value → Prop) (St : Nat → Heap → Prop), Draws X.prog X.w X.A.in1 it (it :: fpK k u) xs.length P St ∧ (∀ i, ISt k u it i s.heap → St i s.heap) ∧ (∀ i h, St i h → ISt k u it i h) ∧ ∀ i v, P i v → ∃ y, xs[i]? = some y ∧ RelV y v := by
  cases k
  · obtain ⟨p, rfl, a⟩ := a
    obtain rfl : u = .ref p := ru
    obtain ⟨its, rv, pl, _⟩ := I.list a
    refine ⟨fun i v => its.toArray[i]? = some v, fun i h => h.IsListIter it p i ∧ h.IsList p its.toArray, ?_, fun i st => ⟨st, pl.isList⟩, fun i h st => st.1, fun i v h => vals_get rv h⟩
    have := Draws.list (prog := X.prog) (w := X.w) (A := X.A.in1) hh it p (ne p (by simp [fpK])) its.toArray
    rw [show its.toArray.size = xs.length by rw [List.size_toArray, rv.length]] at this
    exact this
  · obtain ⟨p, rfl, a⟩ := a
    obtain rfl : u = .ref p := ru
    obtain ⟨its, rv, pl, _⟩ := I.tuple a
    refine ⟨fun i v => its.toArray[i]? = some v, fun i h => h.IsTupleIter it p i ∧ h.IsTuple p its.toArray, ?_, fun i st => ⟨st, show s.heap.IsTuple p its.toArray from pl⟩, fun i h st => st.1, fun i v h => vals_get rv h⟩
    have := Draws.tuple (prog := X.prog) (w := X.w) (A := X.A.in1) hh it p (ne p (by simp [fpK])) its.toArray
    rw [show its.toArray.size = xs.length by rw [List.size_toArray, rv.length]] at this
    exact this
  · obtain ⟨z, rfl, rfl⟩ := a
    obtain ⟨t, rfl⟩ := ru
    refine ⟨fun i v => ∃ c u, z.cps[i]? = some c ∧ v = .str ⟨#[c]⟩ u, fun i h => h.IsStrIter it (strIterType z) z t i, ?_, fun i st => st, fun i h st => st, fun i v h => ?_⟩
    · have := Draws.text (prog := X.prog) (w := X.w) (A := X.A.in1) hh it z t
      rw [show z.cps.size = (z.cps.toList.map fun c => V.str ⟨#[c]⟩).length by simp] at this
      exact this
    · obtain ⟨c, t', hc, rfl⟩ := h
      exact ⟨.str ⟨#[c]⟩, by simp [hc], t', rfl⟩
def Itzg (K : PySem.W.Frag) (k1 : Kd) (x : V) (k2 : Kd) (y : V) : It :=
  ⟨fun i H => ∃ (xs ys : List V) (a b : V), Src K H k1 x xs ∧ Src K H k2 y ys ∧ xs[i]? = some a ∧ ys[i]? = some b,
    fun i H v H' => ∃ T a b, v = .ref T ∧ H T = none ∧ H' = upd H T (.tup [a, b]) ∧ (∀ xs, Src K H k1 x xs → xs[i]? = some a) ∧ ∀ ys, Src K H k2 y ys → ys[i]? = some b,
    fun i H => ∃ xs ys : List V, Src K H k1 x xs ∧ Src K H k2 y ys ∧ i ≤ xs.length ∧ i ≤ ys.length ∧ (xs.length = i ∨ ys.length = i)⟩
theorem turn_zipG {P : Program} {w : World} {elts : List Expr} {kk : Nat} {tpos : Pos} {z TI TO i1 i2 : Addr} (r1 : RelV x u1) (r2 : RelV y u2) (D : ZipSep2 z TI TO i1 i2 (i1 :: fpK k1 u1) (i2 :: fpK k2 u2)) (n1 : ∀ b ∈ fpK k1 u1, b ≠ i1) (n2 : ∀ b ∈ fpK k2 u2, b ≠ i2) :
    Turn P w K (.Tuple elts kk tpos) (Itzg K k1 x k2 y) [z, TI, TO, i1, i2] z (fun i h => IsZip h z TI TO .none ∧ IsTupOf2 h TI (.ref i1) (.ref i2) ∧ (∃ a b, IsTupOf2 h TO a b) ∧ ISt k1 u1 i1 i h ∧ ISt k2 u2 i2 i h) where
  mem := by simp
  obj := fun i h st c hc => by
    obtain ⟨hz, hTI, ⟨a, b, hTO⟩, h1, h2⟩ := st
    have e' : c = z ∨ c = TI ∨ c = TO ∨ c = i1 ∨ c = i2 := by simpa using hc
    rcases e' with q | q | q | q | q
    · rw [q]; exact ⟨_, hz, fun v q => nomatch q⟩
    · rw [q]; exact ⟨_, hTI, fun v q => nomatch q⟩
    · rw [q]; exact ⟨_, hTO, fun v q => nomatch q⟩
    · rw [q]; exact h1.obj
    · rw [q]; exact h2.obj
  keep := fun i h h' st k => by
    obtain ⟨hz, hTI, ⟨a, b, hTO⟩, h1, h2⟩ := st
    exact ⟨k z (by simp) _ hz, k TI (by simp) _ hTI, ⟨a, b, k TO (by simp) _ hTO⟩, h1.keep fun o q => k i1 (by simp) o q, h2.keep fun o q => k i2 (by simp) o q⟩
  item := by
    intro X hP hw hK hc i pins s σ H E I hf st hg
    subst hP hw hK
    obtain ⟨hz, hTI, ⟨a0, b0, hTO⟩, h1, h2⟩ := st
    obtain ⟨xs, ys, a, b, sx, sy, hx, hy⟩ := hg
    obtain ⟨P1, S1, D1, f1, g1, p1⟩ := draws_of I (I.ok.hd hc) r1 sx n1
    obtain ⟨P2, S2, D2, f2, g2, p2⟩ := draws_of I (I.ok.hd hc) r2 sy n2
    have hzl : z < s.heap.objs.size := Heap.lt_size hz
    have l1 : i < xs.length := (List.getElem?_eq_some_iff.mp hx).1
    have l2 : i < ys.length := (List.getElem?_eq_some_iff.mp hy).1
    refine wpAny_pyNext_zipD2_item D D1 D2 hz hTI hTO (f1 i h1) (f2 i h2) l1 l2 fun v1 v2 h' tk y1 y2 z' TO' h1' h2' hT hsz hk => ?_
    obtain ⟨a', ha', ra⟩ := p1 i v1 y1
    obtain ⟨b', hb', rb⟩ := p2 i v2 y2
    rw [hx] at ha'; cases ha'
    rw [hy] at hb'; cases hb'
    refine ⟨_, rfl, wpAny_letOwnedTupleGo_zip (s := { s with heap := h', toks := tk }) z' fun h'' z'' sb => ?_⟩
    have hT2 : h''.get? s.heap.objs.size = some { cls := .type "tuple", data := .seq #[v1, v2] } := (sb.2 _ (Nat.ne_of_gt hzl)).trans hT
    have new : ObjOk X.prog X.w (upd H s.heap.objs.size (.tup [a, b])) h'' s.heap.objs.size (.tup [a, b]) :=
      ⟨by show 2 ≤ sizeLine; decide, [v1, v2], .cons ra (.cons rb .nil), ⟨_, hT2, rfl, _, rfl⟩⟩
    have I1 : Inv X pins σ (upd H s.heap.objs.size (.tup [a, b])) { s with heap := h'', toks := tk } :=
      I.turnedNew (t' := tk) (ch := [z, TI, TO, i1, i2]) (fun c o hb q => (sb.2 c (fun q' => hb (by simp [q']))).trans (hk c o (fun q' => hb (by simp [q'])) (fun q' => hb (by simp [q'])) (fun q' => hb (by simp [q'])) (fun q' => hb (by simp [q'])) q)) hf (Nat.le_refl _) new
    refine ⟨.ref s.heap.objs.size, _, I1, rfl, ⟨_, a, b, rfl, I.hok.fresh (Nat.le_refl _), rfl, fun l hl => by rw [hl.inj I sx]; exact hx, fun l hl => by rw [hl.inj I sy]; exact hy⟩, ⟨z'', ?_, ⟨v1, v2, ?_⟩, ?_, ?_⟩, fun c hcm => ?_⟩
    · exact (sb.2 _ D.TIz).trans (hk _ _ D.TIz D.TITO D.TIi1 D.TIi2 hTI)
    · exact (sb.2 _ D.TOz).trans TO'
    · exact (g1 _ _ h1').keep fun o q => (sb.2 _ (Ne.symm D.zi1)).trans q
    · exact (g2 _ _ h2').keep fun o q => (sb.2 _ (Ne.symm D.zi2)).trans q
    · have hlt : c < s.heap.objs.size := by
        have e' : c = z ∨ c = TI ∨ c = TO ∨ c = i1 ∨ c = i2 := by simpa using hcm
        rcases e' with q | q | q | q | q
        · rw [q]; exact hzl
        · rw [q]; exact Heap.lt_size hTI
        · rw [q]; exact Heap.lt_size hTO
        · rw [q]; obtain ⟨_, e1, _⟩ := h1.obj; exact Heap.lt_size e1
        · rw [q]; obtain ⟨_, e2, _⟩ := h2.obj; exact Heap.lt_size e2
      rw [upd_ne (Nat.ne_of_lt hlt)]
      exact (hf c hcm).1
  done := by
    intro X hP hw hK hc i pins s σ H E I hf st hg
    subst hP hw hK
    obtain ⟨hz, hTI, ⟨a0, b0, hTO⟩, h1, h2⟩ := st
    obtain ⟨xs, ys, sx, sy, l1, l2, hend⟩ := hg
    obtain ⟨P1, S1, D1, f1, g1, p1⟩ := draws_of I (I.ok.hd hc) r1 sx n1
    obtain ⟨P2, S2, D2, f2, g2, p2⟩ := draws_of I (I.ok.hd hc) r2 sy n2
    exact wpAny_pyNext_zipD2_end D D1 D2 hz hTI hTO (f1 i h1) (f2 i h2) l1 l2 (hend.imp Eq.symm Eq.symm) fun h' tk hk => ⟨rfl, I.turnedL (t' := tk) (ch := [z, TI, TO, i1, i2]) (fun c o hb q =>
      hk c o (fun q' => hb (by simp [q'])) (fun q' => hb (by simp [q'])) (fun q' => hb (by simp [q'])) (fun q' => hb (by simp [q'])) q) hf⟩
  self := fun A i s Q E st h => wpAny_pyIter_zip st.1 h
/-- iter(v) begins -/
theorem begins_of (I : Inv X pins σ H s) (ru : RelV x u) (a : Src X.K H k x xs) : ∃ (o : Obj) (Hh : Heap → Prop), Begins u o Hh ∧ Hh s.heap ∧ (∀ (h' : Heap) (it : Addr), h'.get? it = some o → ISt k u it 0 h') ∧ ∀ b ∈ fpK k u, b < s.heap.objs.size := by
  cases k
  · obtain ⟨p, rfl, a⟩ := a
    obtain rfl : u = .ref p := ru
    obtain ⟨its, rv, pl, _⟩ := I.list a
    exact ⟨_, _, begins_list p its.toArray, pl.isList, fun h' it e => ⟨_, e, rfl, rfl⟩, fun b hb => by simp [fpK] at hb; subst hb; exact pl.lt⟩
  · obtain ⟨p, rfl, a⟩ := a
    obtain rfl : u = .ref p := ru
    obtain ⟨its, rv, pl, _⟩ := I.tuple a
    obtain ⟨o1, ho1, _⟩ := id pl
    exact ⟨_, _, begins_tuple p its.toArray, pl, fun h' it e => ⟨_, e, rfl, rfl⟩, fun b hb => by simp [fpK] at hb; subst hb; exact Heap.lt_size ho1⟩
  · obtain ⟨z, rfl, rfl⟩ := a
    obtain ⟨t, rfl⟩ := ru
    exact ⟨_, _, begins_text z t, trivial, fun h' it e => ⟨_, e, rfl, rfl⟩, fun b hb => by simp [fpK] at hb⟩
def iZipG (K : PySem.W.Frag) (ta : TA) : TI := fun σ H R => ta σ H fun vs H1 => ∃ x y k1 k2 xs ys, vs = [x, y] ∧ Src K H1 k1 x xs ∧ Src K H1 k2 y ys ∧ R (Itzg K k1 x k2 y) H1
theorem pi_zipG {e e2 : Expr} {ta : TA} {p pos tpos : Pos} {elts : List Expr} {kk : Nat} (hg : Gl X "zip") (hm : X.mg "zip" = none) (ha : PA X [e, e2] ta)
    (hs : starEach [e, e2] X.env = (false, eval e X.env) :: starEach [e2] X.env := by rfl) (hpl : (backTo pos (starEach [e2] X.env)).any (·.1) = false := by rfl) :
    PI X (.Tuple elts kk tpos) (.Call (.Name "zip" p) [e, e2] [] pos) (iZipG X.K ta) := by
  refine ⟨fun pins s σ H R I h => ?_⟩
  refine Call_ (ld_blt I hg hm PyProof.Rows.boot_zip (PyProof.Rows.callWith_type1 (thn (ha.run pos pins s σ H _ I h) fun us s1 ⟨vs, H1, I1, r1, q1⟩ => ?_) hs hpl))
  obtain ⟨x, y, k1, k2, xs, ys, ex, sx, sy, q⟩ := q1
  subst ex
  cases r1 with
  | cons r rr =>
    cases rr with
    | cons r' rr =>
      cases rr
      obtain ⟨o1, G1, B1, b1, c1, l1⟩ := begins_of I1 r sx
      obtain ⟨o2, G2, B2, b2, c2, l2⟩ := begins_of I1 r' sy
      refine zip_begins2 B1 B2 b1 b2 fun h' hz hTI hTO g1 g2 hsz hk => wpAny_pyIter_zip hz ?_
      have I2 : Inv X pins σ H1 { s1 with heap := h' } := I1.kept (t' := s1.toks) hk
      have fresh5 : ∀ c, c ∈ [s1.heap.objs.size + 4, s1.heap.objs.size + 2, s1.heap.objs.size + 3, s1.heap.objs.size, s1.heap.objs.size + 1] → FpOk X pins H1 c := fun c hcm => by
        have e' : c = s1.heap.objs.size + 4 ∨ c = s1.heap.objs.size + 2 ∨ c = s1.heap.objs.size + 3 ∨ c = s1.heap.objs.size ∨ c = s1.heap.objs.size + 1 := by simpa using hcm
        have hle : s1.heap.objs.size ≤ c := by
          rcases e' with z | z | z | z | z
          · rw [z]; exact Nat.le_add_right _ _
          · rw [z]; exact Nat.le_add_right _ _
          · rw [z]; exact Nat.le_add_right _ _
          · rw [z]; exact Nat.le_refl _
          · rw [z]; exact Nat.le_add_right _ _
        exact I1.fpOk hle (I1.hok.fresh hle)
      exact ⟨s1.heap.objs.size + 4, [s1.heap.objs.size + 4, s1.heap.objs.size + 2, s1.heap.objs.size + 3, s1.heap.objs.size, s1.heap.objs.size + 1], _, _, H1, rfl, I2,
        turn_zipG r r' (zip_sep2 l1 l2) (fun b hb e => Nat.lt_irrefl _ (e ▸ l1 b hb : s1.heap.objs.size < s1.heap.objs.size)) (fun b hb e => by have := l2 b hb; rw [e] at this; exact absurd this (Nat.not_lt.mpr (Nat.le_succ _))), ⟨hz, hTI, ⟨_, _, hTO⟩, c1 _ _ g1, c2 _ _ g2⟩, fresh5, q⟩
theorem walk_zipG (hn : n = min xs.length ys.length) : Walk (Itzg K k1 x k2 y) n (fun H => Src K H k1 x xs ∧ Src K H k2 y ys) (YPair (fun i => xs[i]?) (fun i => ys[i]?)) := by
  subst hn
  refine ⟨fun i _ hi q => ?_, fun _ q => ⟨xs, ys, q.1, q.2, Nat.min_le_left _ _, Nat.min_le_right _ _, by omega⟩, fun i H v H' _ q y => ?_⟩
  · have h1 : i < xs.length := by omega
    have h2 : i < ys.length := by omega
    exact ⟨xs, ys, xs[i], ys[i], q.1, q.2, by simp [h1], by simp [h2]⟩
  · obtain ⟨T, x, z, h1, h2, h3, h4, h5⟩ := y
    exact ⟨T, x, z, h1, h2, h3, h4 xs q.1, h5 ys q.2⟩
end
/-- the items that a datum gives when it is walked -/
@[simp] def seqD : D → Option (List D)
  | .list xs => some xs
  | .tuple xs => some xs
  | .str z => some (strItems z)
  | _ => none
theorem src_of {K : PySem.W.Frag} {R H : Hp} {v : V} {d : D} {xs : List D} (h : Is K R v d) (e : seqD d = some xs) : ∃ k vs, (∀ H, Same R H → Src K H k v vs) ∧ IsA K R vs xs := by
  cases d <;> first | (cases e; done) | skip
  · cases e
    cases h
    rename_i z
    refine ⟨.s, _, fun H _ => ⟨z, rfl, rfl⟩, ?_⟩
    unfold strItems
    generalize z.cps.toList = l
    induction l with
    | nil => exact .nil
    | cons c l ih => exact .cons (.str _) ih
  · cases e
    cases h with
    | lst ha hs => exact ⟨.l, _, fun H s => ⟨_, rfl, (same_l s ha).sq⟩, hs⟩
  · cases e
    cases h with
    | tup ha hs => exact ⟨.t, _, fun H s => ⟨_, rfl, same_t s ha⟩, hs⟩
@[simp] def iZg (t u : DT) : DIT := fun ds Q => t ds fun h ds1 => u ds1 fun h2 ds2 => takes [h, h2] ds2 fun dl ds3 => match dl with
  | [a, b] => match seqD a, seqD b with
    | some xs, some ys => Q (zipD xs ys) ds3
    | _, _ => False
  | _ => False
section
variable {X : Cx} {e b : Expr} {te tb : TE} {t u : DT} {p' pos tpos : Pos} {elts : List Expr} {kk : Nat}
theorem di_zipG (hg : Gl X "zip") (hm : X.mg "zip" = none) (h : DO X e te t) (h' : DO X b tb u) (hs : starEach [e, b] X.env = (false, eval e X.env) :: starEach [b] X.env := by rfl)
    (hs2 : starEach [b] X.env = (false, eval b X.env) :: starEach [] X.env := by rfl) (hpl : (backTo pos (starEach [b] X.env)).any (·.1) = false := by rfl) :
    DI X (.Tuple elts kk tpos) (.Call (.Name "zip" p') [e, b] [] pos) (iZipG X.K (tCons te (tCons tb tNil))) (iZg t u) :=
  ⟨pi_zipG hg hm (pa_cons h.pe (pa_cons h'.pe pa_nil hs2) hs) hs hpl, fun F T σ H ds fp Q R r a k => by
    refine aok_cons h.ok (aok_cons h'.ok aok_nil) F T σ H ds fp (fun hs ds2 => takes hs ds2 fun dl ds3 => match dl with
      | [a, b] => match seqD a, seqD b with
        | some xs, some ys => Q (zipD xs ys) ds3
        | _, _ => False
      | _ => False) _ r a fun hs ds1 vs H1 F1 fp1 q1 k1 p1 l1 => ?_
    obtain ⟨dl, ds2, F2, fp2, e2, r2, g2, i2⟩ := takes_ok p1.r .refl p1.rep p1.qT k1
    match dl, i2, e2 with
    | [a, b], .cons ia (.cons ib .nil), e2 =>
      cases ea : seqD a with
      | none => simp only [ea] at e2
      | some xs =>
        cases eb : seqD b with
        | none => simp only [ea, eb] at e2
        | some ys =>
          simp only [ea, eb] at e2
          obtain ⟨ka, va, sa, ja⟩ := src_of (H := H1) ia ea
          obtain ⟨kb, vb, sb, jb⟩ := src_of (H := H1) ib eb
          refine ⟨_, _, ka, kb, va, vb, rfl, sa H1 (res_same _ _), sb H1 (res_same _ _), k _ _ _ _ _ _ e2 r2 (p1.g.trans g2) p1.t (itd_zip (walk_zipG rfl) ja jb fun F' H' g => ⟨sa H' fun a o e => res_same _ _ a o (g.same a o e), sb H' fun a o e => res_same _ _ a o (g.same a o e)⟩)⟩⟩
end
end DL

/-! DL: enumerate of lists, tuples, texts. -/
namespace DL
open PySem PySem.Spec PyProof.Rows L2

section
open PySem.Sem (wp)
theorem meets_enum1 {v : Value} {o : Obj} {H : Heap → Prop} (B : Begins v o H) :
    Meets (Builtin.«enumerate.__new__» ⟨[.type "enumerate", v], []⟩) (fun _ R s => H s.heap ∧
      R (.ok (.ret (.ref (s.heap.push o).objs.size))) { s with heap := (s.heap.push o).push { cls := .type "enumerate", data := .fields #[.none, .bool false, .ref s.heap.objs.size, rawInt 0, .none, .none] } }) :=
  .of_wp fun prog w A R s h => by
    obtain ⟨hp, g, d, tk, os⟩ := s; obtain ⟨h1, h⟩ := h
    have hsub := sub_enumerate
    have q1 : ∀ {A' : Around} {E : Value → Shared → Prop} {Q : Value → Shared → Prop}, Q (.ref hp.objs.size) ⟨hp.push o, g, d, tk, os⟩ → wpAny (model prog w) A' (pyIter v) Q E ⟨hp, g, d, tk, os⟩ :=
      fun q => B.iter prog w _ _ ⟨hp, g, d, tk, os⟩ _ h1 q
    wp_walk using q1
    refine wpAny_stack_any fun st => wpAny_pure ?_
    split
    · rename_i c _ _ _ _ _
      cases (c == Value.type "enumerate")
      · wp_walk using q1
        exact ⟨_, rfl, h⟩
      · wp_walk using q1
        exact ⟨_, rfl, h⟩
    · wp_walk using q1
      exact ⟨_, rfl, h⟩
theorem enum_begins1 {prog : Program} {w : World} {A : Around} {E : Value → Shared → Prop} {s : Shared} {v : Value} {o : Obj} {H : Heap → Prop} {Q : Value → Shared → Prop} (B : Begins v o H) (h1 : H s.heap)
    (h : ∀ h', IsEnum h' (s.heap.objs.size + 1) s.heap.objs.size 0 .none → h'.get? s.heap.objs.size = some o → h'.objs.size = s.heap.objs.size + 2 →
      (∀ b o, s.heap.get? b = some o → h'.get? b = some o) → Q (.ref (s.heap.objs.size + 1)) { s with heap := h' }) :
    wpAny (model prog w) A (call (.type "enumerate") [v]) Q E s := by
  refine callType_new F.called_enumerate (by decide) (F.typeCall_enumerate_1 _) (F.newCall_enumerate_1 _) (fun obj => F.args_object_init_2 obj _) F.entry_enumerate_new
    (meets_enum1 B) ⟨h1, ?_⟩
  have hz : (s.heap.push o).objs.size = s.heap.objs.size + 1 := Heap.size_push ..
  show _ ∧ _
  rw [hz]
  have he : IsEnum ((s.heap.push o).push { cls := .type "enumerate", data := .fields #[.none, .bool false, .ref s.heap.objs.size, rawInt 0, .none, .none] }) (s.heap.objs.size + 1) s.heap.objs.size 0 .none := by
    have := Heap.get?_push_size (s.heap.push o) (o := { cls := .type "enumerate", data := .fields #[.none, .bool false, .ref s.heap.objs.size, rawInt 0, .none, .none] }) rfl
    rw [hz] at this; exact this
  refine ⟨⟨_, he, rfl⟩, h _ he (Heap.get?_push_of_some _ (Heap.get?_push_size _ B.free)) (by rw [Heap.size_push, hz]) fun b o x => Heap.get?_push_of_some _ (Heap.get?_push_of_some _ x)⟩
end
section
variable {X : Cx} {K : PySem.W.Frag} {pins : List (Addr × Obj)} {σ : Sl} {H : Hp} {s : Shared} {k : Kd} {x : V} {xs : List V} {u : Value} {n : Nat}
def Iteg (K : PySem.W.Frag) (k : Kd) (x : V) : It :=
  ⟨fun i H => ∃ (xs : List V) (a : V), Src K H k x xs ∧ xs[i]? = some a,
    fun i H v H' => ∃ T a, v = .ref T ∧ H T = none ∧ H' = upd H T (.tup [.int (i : Nat), a]) ∧ ∀ xs, Src K H k x xs → xs[i]? = some a,
    fun i H => ∃ xs : List V, Src K H k x xs ∧ xs.length = i⟩
theorem turn_enumG {P : Program} {w : World} {elts : List Expr} {kk : Nat} {tpos : Pos} {e it : Addr} (r : RelV x u) (ne : e ≠ it) (nf : e ∉ fpK k u) (n1 : ∀ b ∈ fpK k u, b ≠ it) :
    Turn P w K (.Tuple elts kk tpos) (Iteg K k x) [e, it] e (fun i h => (∃ old, IsEnum h e it ((i : Nat) : Int) old) ∧ ISt k u it i h) where
  mem := by simp
  obj := fun i h st b hb => by
    obtain ⟨⟨old, he⟩, hit⟩ := st
    have e' : b = e ∨ b = it := by simpa using hb
    rcases e' with z | z
    · rw [z]; exact ⟨_, he, fun v q => nomatch q⟩
    · rw [z]; exact hit.obj
  keep := fun i h h' st k => let ⟨⟨old, he⟩, hi⟩ := st; ⟨⟨old, k e (by simp) _ he⟩, hi.keep fun o q => k it (by simp) o q⟩
  item := by
    intro X hP hw hK hc i pins s σ H E I hf st hg
    subst hP hw hK
    obtain ⟨⟨old, he⟩, hit⟩ := st
    obtain ⟨xs, a, sx, hx⟩ := hg
    obtain ⟨P1, S1, D1, f1, g1, p1⟩ := draws_of I (I.ok.hd hc) r sx n1
    have hel : e < s.heap.objs.size := Heap.lt_size he
    have hil : it < s.heap.objs.size := by obtain ⟨_, q, _⟩ := hit.obj; exact Heap.lt_size q
    have l1 : i < xs.length := (List.getElem?_eq_some_iff.mp hx).1
    refine wpAny_pyNext_enum_itemD D1 he (f1 i hit) l1 ne (by
      intro z
      rcases List.mem_cons.mp z with z | z
      · exact ne z
      · exact nf z) fun v1 h' tk y1 ho hit' hT hsz hk => ?_
    obtain ⟨a', ha', ra⟩ := p1 i v1 y1
    rw [hx] at ha'; cases ha'
    refine ⟨_, rfl, wpAny_letOwnedTupleGo_enum (s := { s with heap := h', toks := tk + 1 }) ho fun h'' he' sb => ?_⟩
    have hT2 : h''.get? s.heap.objs.size = some { cls := .type "tuple", data := .seq #[.int i tk, v1] } := (sb.2 _ (Nat.ne_of_gt hel)).trans hT
    have new : ObjOk X.prog X.w (upd H s.heap.objs.size (.tup [.int (i : Nat), a])) h'' s.heap.objs.size (.tup [.int (i : Nat), a]) :=
      ⟨by show 2 ≤ sizeLine; decide, [.int i tk, v1], .cons ⟨_, rfl⟩ (.cons ra .nil), ⟨_, hT2, rfl, _, rfl⟩⟩
    have I1 : Inv X pins σ (upd H s.heap.objs.size (.tup [.int (i : Nat), a])) { s with heap := h'', toks := tk + 1 } :=
      I.turnedNew (ch := [e, it]) (fun b ob hb q => (sb.2 b (fun z => hb (by simp [z]))).trans (hk b ob (fun z => hb (by simp [z])) (fun z => hb (by simp [z])) q)) hf (Nat.le_refl _) new
    refine ⟨.ref s.heap.objs.size, _, I1, rfl, ⟨_, a, rfl, I.hok.fresh (Nat.le_refl _), rfl, fun ys hy => by rw [hy.inj I sx]; exact hx⟩, ⟨⟨v1, ?_⟩, (g1 _ _ hit').keep fun o q => (sb.2 it (Ne.symm ne)).trans q⟩, fun b hb => ?_⟩
    · have e1 : ((i + 1 : Nat) : Int) = (i : Int) + 1 := by omega
      rw [e1]; exact he'
    · have hb' : b < s.heap.objs.size := by
        have e' : b = e ∨ b = it := by simpa using hb
        rcases e' with z | z
        · rw [z]; exact hel
        · rw [z]; exact hil
      rw [upd_ne (Nat.ne_of_lt hb')]
      exact (hf b hb).1
  done := by
    intro X hP hw hK hc i pins s σ H E I hf st hg
    subst hP hw hK
    obtain ⟨⟨old, he⟩, hit⟩ := st
    obtain ⟨xs, sx, rfl⟩ := hg
    obtain ⟨P1, S1, D1, f1, g1, p1⟩ := draws_of I (I.ok.hd hc) r sx n1
    obtain ⟨f0, f1', f2, f3, f4, f5⟩ := hf it (by simp)
    exact wpAny_pyNext_enum_endD D1 he (f1 _ hit) fun h' eb => ⟨rfl, I.turned (t' := s.toks) (fun b o hb q => eb b o hb q) f0 f1' f3 f4 f5⟩
  self := fun A i s Q E st h => let ⟨⟨_, he⟩, _⟩ := st; wpAny_pyIter_enum he h
def iEnumG (K : PySem.W.Frag) (ta : TA) : TI := fun σ H R => ta σ H fun vs H1 => ∃ x k xs, vs = [x] ∧ Src K H1 k x xs ∧ R (Iteg K k x) H1
theorem pi_enumG {e : Expr} {ta : TA} {p pos tpos : Pos} {elts : List Expr} {kk : Nat} (hg : Gl X "enumerate") (hm : X.mg "enumerate" = none) (ha : PA X [e] ta) (hs : starEach [e] X.env = [(false, eval e X.env)] := by rfl) :
    PI X (.Tuple elts kk tpos) (.Call (.Name "enumerate" p) [e] [] pos) (iEnumG X.K ta) := by
  refine ⟨fun pins s σ H R I h => ?_⟩
  refine Call_ (ld_blt I hg hm boot_enumerate (PyProof.Rows.callWith_type1 (thn (ha.run pos pins s σ H _ I h) fun us s1 ⟨vs, H1, I1, r1, q1⟩ => ?_) hs rfl))
  obtain ⟨x, k, xs, ex, sx, q⟩ := q1
  subst ex
  cases r1 with
  | cons r rr =>
    cases rr
    obtain ⟨o1, G1, B1, b1, c1, l1⟩ := begins_of I1 r sx
    refine enum_begins1 B1 b1 fun h' he hit hsz hk => wpAny_pyIter_enum he ?_
    have I2 : Inv X pins σ H1 { s1 with heap := h' } := I1.kept (t' := s1.toks) hk
    refine ⟨s1.heap.objs.size + 1, [s1.heap.objs.size + 1, s1.heap.objs.size], _, _, H1, rfl, I2, turn_enumG r (Nat.succ_ne_self _) (fun z => absurd (l1 _ z) (Nat.not_lt.mpr (Nat.le_succ _))) (fun b hb e => Nat.lt_irrefl _ (e ▸ l1 b hb : s1.heap.objs.size < s1.heap.objs.size)), ⟨⟨.none, he⟩, c1 _ _ hit⟩, fun b hb => ?_, q⟩
    have e' : b = s1.heap.objs.size + 1 ∨ b = s1.heap.objs.size := by simpa using hb
    have hle : s1.heap.objs.size ≤ b := by
      rcases e' with z | z
      · rw [z]; exact Nat.le_add_right _ _
      · rw [z]; exact Nat.le_refl _
    exact I1.fpOk hle (I1.hok.fresh hle)
theorem walk_enumG : Walk (Iteg K k x) xs.length (fun H => Src K H k x xs) (YPair (fun i => some (.int (i : Nat))) (fun i => xs[i]?)) := by
  refine ⟨fun i _ hi q => ⟨xs, xs[i], q, by simp [hi]⟩, fun _ q => ⟨xs, q, rfl⟩, fun i H v H' _ q y => ?_⟩
  obtain ⟨T, x, h1, h2, h3, h4⟩ := y
  exact ⟨T, .int (i : Nat), x, h1, h2, h3, rfl, h4 xs q⟩
end
def enumF (i : Nat) : List D → List D
  | [] => []
  | d :: ds => .tuple [.int i, d] :: enumF (i + 1) ds
abbrev enumD (xs : List D) : List D := enumF 0 xs
theorem enumF_len : ∀ {xs : List D} {i : Nat}, (enumF i xs).length = xs.length
  | [], _ => rfl
  | _ :: xs, i => by simp [enumF, enumF_len (xs := xs)]
theorem enumF_get : ∀ {xs : List D} {i j : Nat}, (enumF i xs)[j]? = xs[j]?.map fun d => .tuple [.int (i + j : Nat), d]
  | [], _, _ => by simp [enumF]
  | d :: xs, i, 0 => by simp [enumF]
  | d :: xs, i, j + 1 => by
    simp only [enumF, List.getElem?_cons_succ, enumF_get (xs := xs)]
    congr 1; funext d; congr 3; omega
@[simp] def iEn (t : DT) : DIT := fun ds Q => t ds fun h ds1 => take1 h ds1 fun d ds2 => match seqD d with
  | some xs => Q (enumD xs) ds2
  | none => False
section
variable {X : Cx} {K : PySem.W.Frag} {e : Expr} {te : TE} {t : DT} {p' pos tpos : Pos} {elts : List Expr} {kk : Nat}
theorem itd_enum {F : Ad} {H : Hp} {J : It} {xs : List D} {G : Hp → Prop} {vs : List V} (w : Walk J vs.length G (YPair (fun i => some (.int (i : Nat))) fun i => vs[i]?)) (hv : IsA K (res F H) vs xs) (hG : ∀ F' H', Grow F H F' H' → G H') : ItD K F H J (enumD xs) := by
  have hl : (enumD xs).length = vs.length := by rw [enumF_len, hv.length]
  refine ⟨fun F' H' i g hi => w.goes i H' (by rw [hl] at hi; exact hi) (hG F' H' g), fun F' H' g => by rw [hl]; exact w.stops H' (hG F' H' g), fun F' H' i x H'' d g hd y => ?_⟩
  have hi : i < vs.length := by rw [← hl]; exact (List.getElem?_eq_some_iff.mp hd).1
  obtain ⟨p, a, b, rfl, hp, rfl, h1, h2⟩ := w.yields i H' x H'' hi (hG F' H' g) y
  cases h1
  obtain ⟨b', hb, ib⟩ := (hv.mono g.same).get' h2
  rw [enumF_get, hb] at hd
  simp at hd
  subst hd
  exact .inr ⟨p, _, hp, rfl, trivial, pair_new hp (.int _) ib⟩
theorem di_enum (hg : Gl X "enumerate") (hm : X.mg "enumerate" = none) (h : DO X e te t) (hs : starEach [e] X.env = (false, eval e X.env) :: starEach [] X.env := by rfl) (hs1 : starEach [e] X.env = [(false, eval e X.env)] := by rfl) :
    DI X (.Tuple elts kk tpos) (.Call (.Name "enumerate" p') [e] [] pos) (iEnumG X.K (tCons te tNil)) (iEn t) :=
  ⟨pi_enumG hg hm (pa_cons h.pe pa_nil hs) hs1, fun F T σ H ds fp Q R r a k => by
    refine h.ok F T σ H ds fp _ _ r a fun h1 ds1 v1 H1 F1 fp1 q1 k1 p1 => ?_
    obtain ⟨d, ds2, F2, fp2, e2, r2, g2, i2⟩ := take1_ok p1.rep p1.qT p1.r k1
    cases ea : seqD d with
    | none => rw [ea] at e2; exact e2.elim
    | some xs =>
      rw [ea] at e2
      obtain ⟨ka, va, sa, ja⟩ := src_of (H := H1) i2 ea
      exact ⟨_, ka, va, rfl, sa H1 (res_same _ _), k _ _ _ _ _ _ e2 r2 (p1.g.trans g2) p1.t (itd_enum walk_enumG ja fun F' H' g => sa H' fun a o e => res_same _ _ a o (g.same a o e))⟩⟩
end
end DL

/-! DL: ranges downwards, list(range), sorted texts, xs.pop(i), a name that holds one of two defs. -/
namespace DL
open PySem PySem.Spec PyProof.Rows L2

/-! ### range(a, b, -1) -/
def rngDn (lo : Int) (n : Nat) : List D := (List.range n).map fun i : Nat => .int (lo - (i : Int))
@[simp] def iRdn (t u : DT) : DIT := fun ds Q => t ds fun h ds1 => u ds1 fun h2 ds2 => pk ds2 h fun d => pk ds2 h2 fun d2 => match d, d2 with
  | .int m, .int n => (-(2 ^ 62) ≤ m ∧ m < 2 ^ 62 ∧ -(2 ^ 62) ≤ n ∧ n < 2 ^ 62) ∧ Q (rngDn m (m - n).toNat) ds2
  | _, _ => False
section
variable {X : Cx} {K : PySem.W.Frag} {F T q : Ad} {σ : Sl} {H : Hp} {ds : DS} {fp : Nat → Ad} {e b tg : Expr} {es : List Expr} {te tb : TE} {ta : TA} {t u : DT} {ut : DTA} {p p' pos pos' apos cpos px : Pos} {x y : Str} {n : Nat} {i j lv l1 l2 : Nat} {kk : Option Str}
theorem itd_rngDn {F : Ad} {H : Hp} {lo : Int} {n : Nat} : ItD K F H (Itc lo (-1) n) (rngDn lo n) := by
  have hl : (rngDn lo n).length = n := by unfold rngDn; rw [List.length_map, List.length_range]
  have w := walk_rangeC (lo := lo) (c := -1) (n := n)
  refine ⟨fun F' H' i g hi => w.goes i H' (by rw [hl] at hi; exact hi) trivial, fun F' H' g => by rw [hl]; exact w.stops H' trivial, fun F' H' i x H'' d g hd y => ?_⟩
  have hi : i < n := by rw [← hl]; exact (List.getElem?_eq_some_iff.mp hd).1
  obtain ⟨e1, e2⟩ := w.yields i H' x H'' hi trivial y
  unfold rngDn at hd
  rw [List.getElem?_map, List.getElem?_range hi] at hd
  simp at hd; subst hd
  refine .inl ⟨e1, ?_⟩
  rw [e2]
  have : lo + (i : Int) * (-1) = lo - i := by omega
  show Is K _ (V.int (lo + (i : Int) * (-1))) _
  rw [this]
  exact .int _
theorem di_rdn {c : Expr} (hg : Gl X "range") (hm : X.mg "range" = none) (h : DO X e te t) (h' : DO X b tb u) (hc : DO X c (tUn (rU fun i => .int (-i)) (tC (.int 1))) (d1 dNeg (dC (.int 1)))) (hs : starEach [e, b, c] X.env = (false, eval e X.env) :: starEach [b, c] X.env := by rfl)
    (hs2 : starEach [b, c] X.env = (false, eval b X.env) :: starEach [c] X.env := by rfl) (hs3 : starEach [c] X.env = (false, eval c X.env) :: starEach [] X.env := by rfl) (hpl : (backTo pos (starEach [b, c] X.env)).any (·.1) = false := by rfl) :
    DI X tg (.Call (.Name "range" p') [e, b, c] [] pos) (iRng3 (tCons te (tCons tb (tCons (tUn (rU fun i => .int (-i)) (tC (.int 1))) tNil)))) (iRdn t u) :=
  ⟨pi_range3 hg hm (pa_cons h.pe (pa_cons h'.pe (pa_cons hc.pe pa_nil hs3) hs2) hs) hs hpl, fun F T σ H ds fp Q R r a k => by
    refine two_ok h.ok h'.ok (Q := fun d d2 ds2 => match d, d2 with
      | .int m, .int n => (-(2 ^ 62) ≤ m ∧ m < 2 ^ 62 ∧ -(2 ^ 62) ≤ n ∧ n < 2 ^ 62) ∧ Q (rngDn m (m - n).toNat) ds2
      | _, _ => False) (R := fun x y H2 => ∃ z, V.int 1 = .int z ∧ ∃ (i j c : Int) (n : Nat), [x, y, V.int (-z)] = [V.int i, .int j, .int c] ∧ RgC i j c n ∧ R (Itc i c n) H2) r a fun d e ds' x y H' F' fp' h1 r1 g1 k1 i1 i2 => ?_
    cases d <;> cases e <;> first | exact False.elim h1 | skip
    rename_i m n
    rw [i1.int, i2.int]
    exact ⟨1, rfl, m, n, -1, _, rfl, RgC.neg h1.1.1 h1.1.2.1 h1.1.2.2.1 h1.1.2.2.2, k _ _ _ _ _ fp' h1.2 r1 g1 k1 itd_rngDn⟩⟩
/-! ### list(range(..)) -/
@[simp] def dLr1 (t : DT) : DT := fun ds Q => t ds fun h ds1 => pk ds1 h fun d => match d with
  | .int n => n ≤ 16777216 ∧ 0 ≤ n ∧ Q (.new (.own (rngD 0 n.toNat))) ds1
  | _ => False
@[simp] def dLr2 (t u : DT) : DT := fun ds Q => t ds fun h ds1 => u ds1 fun h2 ds2 => pk ds2 h fun d => pk ds2 h2 fun d2 => match d, d2 with
  | .int m, .int n => (-(2 ^ 62) ≤ m ∧ m < 2 ^ 62 ∧ -(2 ^ 62) ≤ n ∧ n < 2 ^ 62 ∧ n - m ≤ 16777216) ∧ Q (.new (.own (rngD m (n - m).toNat))) ds2
  | _, _ => False
theorem isA_rg {R : Hp} (a b : Int) : IsA K R (rgV a b) (rngD a (b - a).toNat) := by
  unfold rgV rngD
  generalize (List.range (b - a).toNat) = l
  induction l with
  | nil => exact .nil
  | cons c l ih => exact .cons (.int _) ih
theorem do_lr1 (hc : X.calm = true) (hg : Gl X "list") (hm : X.mg "list" = none) (hg2 : Gl X "range") (hm2 : X.mg "range" = none) (h : DO X e te t) (hs : starEach [e] X.env = (false, eval e X.env) :: starEach [] X.env := by rfl)
    (hs1 : starEach [.Call (.Name "range" p') [e] [] pos'] X.env = (false, eval (.Call (.Name "range" p') [e] [] pos') X.env) :: starEach [] X.env := by rfl) :
    DO X (.Call (.Name "list" p) [.Call (.Name "range" p') [e] [] pos'] [] pos) (tLstRg (tRg1 te)) (dLr1 t) :=
  ⟨pe_listRg hc hg hm (prg_1 hg2 hm2 h.pe hs) hs1, fun F T σ H ds fp Q R r a k => by
    refine h.ok F T σ H ds fp _ _ r a fun h ds1 v H1 F1 fp1 q c p => ?_
    obtain ⟨d, i, k2⟩ := pk_ok p.rep p.r c
    cases d <;> first | exact False.elim k2 | skip
    rename_i n
    rw [i.int]
    refine ⟨n, rfl, RgOk.of_le (by omega) k2.1 (by omega) k2.2.1, fun q hq => ?_⟩
    have k3 := k2.2.2
    have e0 : n.toNat = (n - 0).toNat := by omega
    rw [e0] at k3
    exact k _ _ _ _ _ _ _ k3 ((Pst.list (p.rep.less fun a z => .inl z) (isA_rg 0 n) hq).pre p.g p.t)⟩
theorem do_lr2 (hc : X.calm = true) (hg : Gl X "list") (hm : X.mg "list" = none) (hg2 : Gl X "range") (hm2 : X.mg "range" = none) (h : DO X e te t) (h' : DO X b tb u) (hs : starEach [e, b] X.env = (false, eval e X.env) :: starEach [b] X.env := by rfl)
    (hs2 : starEach [b] X.env = (false, eval b X.env) :: starEach [] X.env := by rfl) (hp : (backTo pos' (starEach [b] X.env)).any (·.1) = false := by rfl)
    (hs1 : starEach [.Call (.Name "range" p') [e, b] [] pos'] X.env = (false, eval (.Call (.Name "range" p') [e, b] [] pos') X.env) :: starEach [] X.env := by rfl) :
    DO X (.Call (.Name "list" p) [.Call (.Name "range" p') [e, b] [] pos'] [] pos) (tLstRg (tRg2 te tb)) (dLr2 t u) :=
  ⟨pe_listRg hc hg hm (prg_2 hg2 hm2 h.pe h'.pe hs hs2 hp) hs1, fun F T σ H ds fp Q R r a k => by
    refine two_ok h.ok h'.ok (Q := fun d d2 ds2 => match d, d2 with
      | .int m, .int n => (-(2 ^ 62) ≤ m ∧ m < 2 ^ 62 ∧ -(2 ^ 62) ≤ n ∧ n < 2 ^ 62 ∧ n - m ≤ 16777216) ∧ Q (.new (.own (rngD m (n - m).toNat))) ds2
      | _, _ => False) (R := fun x y H2 => ∃ i j, x = V.int i ∧ y = V.int j ∧ RgOk i j ∧ ∀ q, H2 q = none → R (.ref q) (upd H2 q (.lst (rgV i j)))) r a fun d e ds' x y H' F' fp' h1 r1 g1 k1 i1 i2 => ?_
    cases d <;> cases e <;> first | exact False.elim h1 | skip
    rename_i m n
    rw [i1.int, i2.int]
    refine ⟨m, n, rfl, rfl, ⟨h1.1.1, h1.1.2.1, h1.1.2.2.1, h1.1.2.2.2.1, by have := h1.1.2.2.2.2; omega⟩, fun q hq => ?_⟩
    exact k _ _ _ _ _ _ _ h1.2 ((Pst.list r1 (isA_rg m n) hq).pre g1 k1)⟩
/-! ### xs.pop(i) -/
/-- of a list that slot j alone holds -/
@[simp] def dPopAt (j : Nat) (t : DT) : DT := fun ds Q => ownAt ds j fun _ => t ds fun h ds1 => pk ds1 h fun d => ownAt ds1 j fun xs => match d with
  | .int i => (-(2 ^ 63) ≤ i ∧ i < 2 ^ 63) ∧ ∃ k y, seqIndex? i xs.length = some k ∧ xs[k]? = some y ∧ Q (.tmp y) (ds1.set j (.own (xs.eraseIdx k)))
  | _ => False
theorem Rep.relistT {xs ys : List D} (r : Rep K F T σ H ds fp) (e : ds[i]? = some (.own xs)) :
    ∃ a vs, σ[i]? = some (some (.ref a)) ∧ H a = some (.lst vs) ∧ IsA K (res F H) vs xs ∧ ∀ ws, IsA K (res F H) ws ys → Rep K F T σ (upd H a (.lst ws)) (ds.set i (.own ys)) fp ∧ Grow F H F (upd H a (.lst ws)) ∧ ∀ b, T b → upd H a (.lst ws) b = H b := r.relist e
theorem do_popAt (he : DO X e te t) (hi : X.N[j]? = some x := by rfl) (hv : Vis X.env.scope x := by first | exact Or.inl rfl | exact Or.inr (Or.inl rfl) | exact Or.inr (Or.inr rfl)) (hd : (x == ("__debug__" : Str)) = false := by decide)
    (hcd : (x == ("__classdict__" : Str)) = false := by decide) (hse : starEach [e] X.env = (false, eval e X.env) :: starEach [] X.env := by rfl)
    (h1 : attributeBase (.Name x px) "pop" X.env (eval (.Name x px) X.env) = eval (.Name x px) X.env := by rfl)
    (h2 : ((backTo cpos (starEach [e] X.env)).all (fun x => !x.1) && (backToKw cpos (keywordEach [] X.env)).all (fun x => x.1.isSome) && decide (([e] : List Expr).length + ([] : List Keyword).length + (if ([] : List Keyword).isEmpty then 0 else 1) < 30)) = true := by rfl)
    (h3 : (apos.endLine == cpos.line) = true := by rfl) (h4 : (backTo cpos (starEach [] X.env)).any (·.1) = false := by rfl) :
    DO X (.Call (.Attribute (.Name x px) "pop" apos) [e] [] cpos) (tBM X.K "list" rPopAt (tVar j) (tCons te tNil)) (dPopAt j t) := ⟨pe_bm PySem.F.plainAttrs_list PySem.F.slot_list_pop PySem.F.type_list_pop mt_popAt (pe_var hi hv hd hcd) (pa_cons he.pe pa_nil hse) h1 h2 h3 hse h4, fun F T σ H ds fp Q R r a k => by
  obtain ⟨xs0, h0, a⟩ := ownAt_inv a
  obtain ⟨b, vs0, e0, _, hb, _⟩ := r.slot j _ h0
  refine ⟨.ref b, e0, .inl ⟨rfl, _, .of hb⟩, ?_⟩
  refine he.ok F T σ H ds fp _ _ r a fun h ds1 v H1 F1 fp1 q c p => ?_
  obtain ⟨d, i, c2⟩ := pk_ok p.rep p.r c
  obtain ⟨xs, h2, c3⟩ := ownAt_inv c2
  cases d <;> first | exact False.elim c3 | skip
  obtain ⟨hlo, kx, y, hk, hy, qq⟩ := c3
  obtain ⟨b', vs, e1, hb', ib, rl⟩ := (p.rep.less fun a z => .inl z : Rep _ _ T _ _ _ _).relist (ys := xs.eraseIdx kx) h2
  rw [e0] at e1; cases e1
  obtain ⟨w, hw, iw⟩ := ib.get hy
  obtain ⟨r5, g5, t5⟩ := rl (vs.eraseIdx kx) (ib.eraseIdx kx)
  rw [i.int]
  exact ⟨_, vs, _, kx, w, rfl, rfl, hb', hlo.1, hlo.2, by rw [ib.length]; exact hk, hw, k _ _ _ _ _ _ _ qq ((Pst.is r5 (iw.mono g5.same)).pre (p.g.trans g5) fun a z => (t5 a z).trans (p.t a z))⟩⟩
/-! ### a name that holds one of two defs -/
def fnW (f : Addr) : Wd where
  val := .ref f
  fp := fun _ => False
  ok := fun _ _ => True
  mono := fun _ _ h => h
  dom := fun _ z => z.elim
@[simp] def dFn (f : Addr) : DT := fun ds Q => Q (.new (.wd (fnW f))) ds
theorem do_fn {f : Addr} (hg : Gl X x) (hm : X.mg x = some (.ref f)) (hd : (x == ("__debug__" : Str)) = false := by decide) : DO X (.Name x pos) (tC (.ref f)) (dFn f) :=
  ⟨pe_glob hg hm rfl hd, fun F T σ H ds fp Q R r h k => k _ _ _ _ _ _ Ad.nil h ⟨r.less or_empty, fun _ z => z.elim, .refl, fun _ _ => rfl, ⟨rfl, fun _ => Iff.rfl, trivial⟩⟩⟩
@[simp] def dCallV (i : Nat) (f1 f2 : Addr) (g1 g2 : DF) (t : DTA) : DT := fun ds Q => (ds[i]? = some (.wd (fnW f1)) ∧ dCallL g1 t ds Q) ∨ (ds[i]? = some (.wd (fnW f2)) ∧ dCallL g2 t ds Q)
theorem do_callV {f1 f2 : Addr} {fd1 fd2 : FuncData} {ps1 ps2 : List Str} {g1 g2 : DF} (F1 : FnOk X.prog X.w X.K X.mg X.base CX0 l1 f1 fd1 ps1 (spP X.K n g1)) (F2 : FnOk X.prog X.w X.K X.mg X.base CX0 l2 f2 fd2 ps2 (spP X.K n g2)) (hr : Room lv X.A) (hk1 : l1 ≤ lv) (hk2 : l2 ≤ lv)
    (kp1 : PySem.W.keepIn X.K (.ref f1) = true) (kp2 : PySem.W.keepIn X.K (.ref f2) = true) (b1 : Binds X.K fd1 ps1 []) (b2 : Binds X.K fd2 ps2 []) (ha : DA X (e :: es) ta ut) (hn : (e :: es).length = n := by rfl) (hN : X.N[i]? = some x := by rfl) (hv : Vis X.env.scope x := by first | exact Or.inl rfl | exact Or.inr (Or.inl rfl) | exact Or.inr (Or.inr rfl))
    (hd : (x == ("__debug__" : Str)) = false := by decide) (hcd : (x == ("__classdict__" : Str)) = false := by decide)
    (he : starEach (e :: es) X.env = (false, eval e X.env) :: starEach es X.env := by rfl) (hpl : (backTo pos (starEach es X.env)).any (·.1) = false := by rfl) :
    DO X (.Call (.Name x p) (e :: es) [] pos) (C8.tCallV i f1 f2 (frm (spP X.K n g1)) (frm (spP X.K n g2)) ta) (dCallV i f1 f2 g1 g2 ut) :=
  ⟨C8.pe_cv ⟨fd1, ps1, frame_fn F1, kp1, b1⟩ ⟨fd2, ps2, frame_fn F2, kp2, b2⟩ hr hk1 hk2 hN hv ha.pa hd hcd he hpl, fun F T σ H ds fp Q R r h k => by
    rcases h with ⟨h1, h2⟩ | ⟨h1, h2⟩
    · obtain ⟨ov, _⟩ := r.slot i _ h1
      have := eok_callL (hn ▸ ha.ok) F T σ H ds fp Q R r h2 k
      refine .inl ⟨ov, ?_⟩
      simp only [tCall, List.append_nil] at this
      exact this
    · obtain ⟨ov, _⟩ := r.slot i _ h1
      have := eok_callL (hn ▸ ha.ok) F T σ H ds fp Q R r h2 k
      refine .inr ⟨ov, ?_⟩
      simp only [tCall, List.append_nil] at this
      exact this⟩
end
end DL

/-! DL: sorted texts. -/
namespace DL
open PySem PySem.Spec PyProof.Rows L2

/-! ### the sequence of texts -/
theorem ltC_irrefl : ∀ a : List Nat, ltCps a a = false
  | [] => rfl
  | a :: r => by simp [ltCps, ltC_irrefl r]
theorem ltC_total : ∀ {a b : List Nat}, ltCps a b = false → ltCps b a = false → a = b
  | [], [], _, _ => rfl
  | [], _ :: _, h, _ => by cases h
  | _ :: _, [], _, h => by cases h
  | a :: r, b :: t, h1, h2 => by
    simp [ltCps] at h1 h2
    have e : a = b := by omega
    subst e
    rw [ltC_total (h1.2 rfl) (h2.2 rfl)]
/-- x ≤ y, as texts -/
def leT (x y : Str) : Bool := !ltCps y.cps.toList x.cps.toList
theorem ltC_trans : ∀ {a b c : List Nat}, ltCps a b = true → ltCps b c = true → ltCps a c = true
  | [], [], _, h, _ => by cases h
  | [], _ :: _, [], _, h => by cases h
  | [], _ :: _, _ :: _, _, _ => rfl
  | _ :: _, [], _, h, _ => by cases h
  | _ :: _, _ :: _, [], _, h => by cases h
  | a :: r, b :: t, c :: u, h1, h2 => by
    simp only [ltCps, Bool.or_eq_true, decide_eq_true_eq, Bool.and_eq_true, beq_iff_eq] at h1 h2 ⊢
    rcases h1 with h1 | ⟨rfl, h1⟩
    · rcases h2 with h2 | ⟨rfl, h2⟩
      · exact .inl (by omega)
      · exact .inl h1
    · rcases h2 with h2 | ⟨rfl, h2⟩
      · exact .inl h2
      · exact .inr ⟨rfl, ltC_trans h1 h2⟩
theorem leT_trans {x y z : Str} (h1 : leT x y = true) (h2 : leT y z = true) : leT x z = true := by
  unfold leT at *
  simp only [Bool.not_eq_true'] at *
  cases e : ltCps z.cps.toList x.cps.toList with
  | false => rfl
  | true =>
    cases e2 : ltCps x.cps.toList y.cps.toList with
    | true => rw [ltC_trans e e2] at h2; cases h2
    | false =>
      have := ltC_total e2 h1
      rw [this] at e
      rw [e] at h2; cases h2
theorem leT_anti {x y : Str} (h1 : leT x y = true) (h2 : leT y x = true) : x = y := by
  unfold leT at *
  simp only [Bool.not_eq_true'] at *
  have := ltC_total h2 h1
  obtain ⟨⟨l⟩⟩ := x
  obtain ⟨⟨m⟩⟩ := y
  simp at this
  rw [this]
theorem leT_total (x y : Str) : (leT x y || leT y x) = true := by
  unfold leT
  cases e : ltCps y.cps.toList x.cps.toList with
  | false => rfl
  | true =>
    cases e2 : ltCps x.cps.toList y.cps.toList with
    | false => rfl
    | true =>
      have := ltC_trans e e2
      rw [ltC_irrefl] at this; cases this
theorem rising_pw : ∀ {p : Str} {xs : List Str}, risingS p xs = true → (p :: xs).Pairwise fun a b => leT a b = true
  | p, [], _ => by simp
  | p, x :: r, h => by
    simp only [risingS, Bool.and_eq_true] at h
    have ih := rising_pw h.2
    refine List.pairwise_cons.mpr ⟨fun b hb => ?_, ih⟩
    have hp : leT p x = true := h.1
    rcases List.mem_cons.mp hb with rfl | hb
    · exact hp
    · exact leT_trans hp ((List.pairwise_cons.mp ih).1 b hb)
theorem sortedS_pw : ∀ {xs : List Str}, sortedS xs = true → xs.Pairwise fun a b => leT a b = true
  | [], _ => .nil
  | _ :: _, h => rising_pw h
/-- the texts in their sequence -/
def srtS (zs : List Str) : List Str := zs.mergeSort leT
theorem srtS_perm (zs : List Str) : (srtS zs).Perm zs := List.mergeSort_perm ..
theorem srtS_pw (zs : List Str) : (srtS zs).Pairwise fun a b => leT a b = true := List.pairwise_mergeSort (le := leT) (fun _ _ _ => leT_trans) leT_total zs
theorem srtS_uniq {ys zs : List Str} (p : ys.Perm zs) (h : ys.Pairwise fun a b => leT a b = true) : ys = srtS zs :=
  (p.trans (srtS_perm zs).symm).eq_of_pairwise (fun a b _ _ h1 h2 => leT_anti h1 h2) h (srtS_pw zs)
theorem srtS_congr {ys zs : List Str} (p : ys.Perm zs) : srtS ys = srtS zs := srtS_uniq ((srtS_perm ys).trans p) (srtS_pw ys)
theorem srtS_one (z : Str) : srtS [z] = [z] := (srtS_uniq (.refl _) (List.pairwise_singleton ..)).symm
theorem srtS_nil : srtS [] = [] := (srtS_uniq (.refl _) .nil).symm
@[simp] def bSortS : DN := fun dl Q => match dl with
  | [.list xs] => ∃ zs : List Str, xs = zs.map .str ∧ zs.length < 64 ∧ Q (.new (.own ((srtS zs).map .str)))
  | _ => False
section
variable {K : PySem.W.Frag}
theorem cok_sortS : COk K (rSortedS K) bSortS := by
  intro F T σ H ds fp vs dl Q R rp pv h k
  match dl, pv, h with
  | [.list xs], pv, h =>
    obtain ⟨zs, rfl, h64, h⟩ := h
    obtain ⟨v, rfl, i⟩ := one_of pv rfl
    obtain ⟨a, ws, rfl, ha, ia⟩ := i.list
    have e := ia.strs
    subst e
    refine ⟨a, zs, rfl, ha.sq, h64, fun ys p hp hs hn => ?_⟩
    rw [srtS_uniq hp (sortedS_pw hs)]
    exact k _ _ _ _ _ h (.list rp (IsA.of_strs _) hn)
end
end DL

/-! DL: a, b = x, y by way of a tuple. -/
namespace DL
open PySem PySem.Spec PyProof.Rows L2
section
variable {X : Cx} {K : PySem.W.Frag} {i j : Nat} {x y : Str} {e a b : Expr} {te ta tb : TE} {t u : DT} {pos pos' px py pt pt2 : Pos} {kt k2 : Nat}
theorem ds_par2 (hN : X.N.Nodup) (ha : DO X a ta t) (hb : DO X b tb u) (hc : X.calm = true := by rfl) (hi : X.N[i]? = some x := by rfl) (hj : X.N[j]? = some y := by rfl)
    (hx : Loc X.env.scope x := by first | exact .inl rfl | exact .inr rfl) (hy : Loc X.env.scope y := by first | exact .inl rfl | exact .inr rfl)
    (hfx : X.fn x = true ∨ X.env.scope.names.lookup x = some .local := by first | exact .inl rfl | exact .inr rfl | assumption) (hfy : X.fn y = true ∨ X.env.scope.names.lookup y = some .local := by first | exact .inl rfl | exact .inr rfl | assumption)
    (h1 : starEach [a, b] X.env = (false, eval a X.env) :: starEach [b] X.env := by rfl) (h2 : starEach [b] X.env = (false, eval b X.env) :: starEach [] X.env := by rfl)
    (hst1 : (assignEach [.Name x px, .Name y py] X.env).map (·.2) = assign (.Name x px) X.env :: (assignEach [.Name y py] X.env).map (·.2) := by rfl) (hst2 : (assignEach [.Name y py] X.env).map (·.2) = assign (.Name y py) X.env :: (assignEach [] X.env).map (·.2) := by rfl)
    (hn : (assignEach [.Name x px, .Name y py] X.env).length = 2 := by rfl) (hfi : (assignEach [.Name x px, .Name y py] X.env).findIdx? (·.1) = none := by rfl)
    (hs : swapsWithSole [.Tuple [.Name x px, .Name y py] kt pt] (.Tuple [a, b] k2 pt2) pos.line X.env = pure false := by rfl)
    (hw : swappedStores [.Tuple [.Name x px, .Name y py] kt pt] (.Tuple [a, b] k2 pt2) X.env = pure none := by rfl)
    (hm : (assignEach [.Tuple [.Name x px, .Name y py] kt pt] X.env).map (·.2) = [assign (.Tuple [.Name x px, .Name y py] kt pt) X.env] := by rfl) :
    DSt X (.Assign [.Tuple [.Name x px, .Name y py] kt pt] (.Tuple [a, b] k2 pt2) pos) (tAsg (tTup (tCons ta (tCons tb tNil))) (gTup X.K 2 (gCons (gName i) (gCons (gName j) gNil)))) (mPar i j t u) := ⟨ps_asg (pe_tup (pa_cons ha.pe (pa_cons hb.pe pa_nil h2) h1)) (pg_tup hc (pgs_cons (pg_name hN hi hx hfx) (pgs_cons (pg_name hN hj hy hfy) pgs_nil hst2) hst1) hn hfi) hs hw hm, fun F σ H ds fp E D r h k => by
  refine ha.ok F _ σ H ds fp _ _ r h fun h1 ds1 v1 H1 F1 fp1 q1 k1 p1 => ?_
  refine hb.ok F1 (Ad.nil.or q1) σ H1 ds1 fp1 _ _ p1.rep k1 fun h2 ds2 v2 H2 F2 fp2 q2 k2 p2 => ?_
  refine ⟨by show 2 ≤ sizeLine; decide, fun p hp => ?_⟩
  have x1 := p1.r.keep p2.g fun a z => p2.t a (.inr z)
  have r2 : Rep X.K F2 (q2.or q1) σ H2 ds2 fp2 := p2.rep.less fun a z => z.elim .inr fun z => .inl (.inr z)
  obtain ⟨s3, ds3, F3, fp3, q3, e3, r3, sub3, g3, so3⟩ := sett_ok r2 (fun a z y => p2.qT a y (.inr z)) x1 k2
  have r3' : Rep X.K F3 (q3.or q2) σ H2 ds3 fp3 := r3.less fun a z => z.elim .inr .inl
  obtain ⟨s4, ds4, F4, fp4, q4, e4, r4, sub4, g4, so4⟩ := sett_ok r3' (fun a z y => p2.qT a z (.inr (sub3 a y))) (p2.r.keep g3 fun _ _ => rfl) e3
  have r4' : Rep X.K F4 (q4.or q3) σ H2 ds4 fp4 := r4.less fun a z => z.elim .inr .inl
  obtain ⟨r5, g5, t5⟩ := r4'.newF (o := .tup [v1, v2]) hp trivial
  have so3' := (so3.mono g4.same fun _ _ => rfl).mono g5.same fun a z => t5 a (.inr z)
  have so4' := so4.mono g5.same fun a z => t5 a (.inl z)
  obtain ⟨e5, fp5, r6⟩ := put_ok r5 (fun a z y => p2.qT a (sub4 a y) (.inr (sub3 a z))) so3' e4
  have r6' : Rep X.K (F4.or (· = p)) (Ad.nil.or q4) (σ.set i (some v1)) _ (ds4.set i s3) fp5 := r6.less fun a z => z.elim (fun z => z.elim) id
  obtain ⟨e6, fp6, r7⟩ := put_ok r6' (fun _ _ z => z) so4' e5
  refine ⟨p, [v1, v2], rfl, .of upd_same, rfl, v1, [v2], rfl, ?_⟩
  refine ⟨v2, [], rfl, rfl, ?_⟩
  exact k.nx _ _ _ _ fp6 e6 r7 ((((p1.g.trans p2.g).trans g3).trans g4).trans g5)⟩
end
end DL

/-! DL: promises of nothing. -/
namespace DL
open PySem PySem.Spec PyProof.Rows L2
section
variable {P : Program} {w : World} {K : PySem.W.Frag} {mg : Str → Option Value} {base : Heap} {k : Nat} {f : Addr} {fd : FuncData} {ps : List Str} {n : Nat}
theorem fnOk_none {g : DF} (hps : ps.length = n) (hz : ∀ dl Q, ¬ g dl Q) : FnOk P w K mg base CX0 k f fd ps (spP K n g) :=
  ⟨fun vs H Q E h => by rw [hps]; exact h.1, fun _ _ _ _ _ _ _ _ _ _ _ _ _ ⟨_, _, dl, _, _, W, h, _⟩ => (hz dl W h).elim⟩
theorem fnOk_noneO {g : DFO} (hps : ps.length = n + 1) (hz : ∀ o dl Q, ¬ g o dl Q) : FnOk P w K mg base CX0 k f fd ps (spO K n g) :=
  ⟨fun vs H Q E h => by rw [hps]; exact h.1, fun _ _ _ _ _ _ _ _ _ _ _ _ _ ⟨_, _, _, _, dl, _, _, _, _, _, W, ⟨o, _, W2, h, _⟩, _⟩ => (hz o dl W2 h).elim⟩
end
/-! a key asked for, as a test -/
section
variable {X : Cx} {x : Str} {d : Addr} {es : Array DictEntry} {n : Nat} {kvs : List (Str × D)} {e : Expr} {te : TE} {t : DT} {p pos : Pos}
theorem db_kin (C : KD X.K X.w X.mg x d es n kvs) (hg : Gl X x) (he : DO X e te t) (hd : (x == ("__debug__" : Str)) = false := by decide) (hm : behindInMarks .In (.Name x p) = false := by first | exact nomark _ | rfl) :
    DB X (.Compare e [.In] [.Name x p] pos) (tTest (tOp (rKin X.K d) te (tC (.ref d)))) (bT (dKin false kvs t)) :=
  ⟨pt_cmpR (op_in_kd C.k) he.pe (pe_glob hg C.m rfl hd) hm, bt_val (do_kin (p := p) (pos := pos) C hg he hd hm).ok⟩
theorem db_knin (C : KD X.K X.w X.mg x d es n kvs) (hg : Gl X x) (he : DO X e te t) (hd : (x == ("__debug__" : Str)) = false := by decide) (hm : behindInMarks .NotIn (.Name x p) = false := by first | exact nomark _ | rfl) :
    DB X (.Compare e [.NotIn] [.Name x p] pos) (tTest (tOp (rKnin X.K d) te (tC (.ref d)))) (bT (dKin true kvs t)) :=
  ⟨pt_cmpR (op_notIn_kd C.k) he.pe (pe_glob hg C.m rfl hd) hm, bt_val (do_knin (p := p) (pos := pos) C hg he hd hm).ok⟩
theorem di_enum' {e tg : Expr} {te : TE} {t : DT} {p' pos : Pos} (hg : Gl X "enumerate") (hm : X.mg "enumerate" = none) (h : DO X e te t) (htg : ∃ elts kk tpos, tg = .Tuple elts kk tpos := by exact ⟨_, _, _, rfl⟩) (hs : starEach [e] X.env = (false, eval e X.env) :: starEach [] X.env := by rfl) (hs1 : starEach [e] X.env = [(false, eval e X.env)] := by rfl) :
    DI X tg (.Call (.Name "enumerate" p') [e] [] pos) (iEnumG X.K (tCons te tNil)) (iEn t) := by
  obtain ⟨_, _, _, rfl⟩ := htg
  exact di_enum hg hm h hs hs1
theorem di_zipG' {e b tg : Expr} {te tb : TE} {t u : DT} {p' pos : Pos} (hg : Gl X "zip") (hm : X.mg "zip" = none) (h : DO X e te t) (h' : DO X b tb u) (htg : ∃ elts kk tpos, tg = .Tuple elts kk tpos := by exact ⟨_, _, _, rfl⟩) (hs : starEach [e, b] X.env = (false, eval e X.env) :: starEach [b] X.env := by rfl)
    (hs2 : starEach [b] X.env = (false, eval b X.env) :: starEach [] X.env := by rfl) (hpl : (backTo pos (starEach [b] X.env)).any (·.1) = false := by rfl) :
    DI X tg (.Call (.Name "zip" p') [e, b] [] pos) (iZipG X.K (tCons te (tCons tb tNil))) (iZg t u) := by
  obtain ⟨_, _, _, rfl⟩ := htg
  exact di_zipG hg hm h h' hs hs2 hpl
end
/-! comprehensions whose target is a tuple -/
def gStar (K : PySem.W.Frag) (us : List Nat) (t : DGT) : TG := fun v σ H R => ∃ (F T : Ad) (ds : DS) (fp : Nat → Ad) (d : D) (Q : DS → Prop), Rep K F T σ H ds fp ∧ Is K (res F H) v d ∧ t d ds Q ∧
  ∀ σ' ds' fp', Q ds' → Rep K F T σ' H ds' fp' → σ'.length = σ.length → (∀ j, j ∉ us → σ'[j]? = σ[j]?) → R σ' H
theorem DG.star {X : Cx} {tg : Expr} {g : TG} {us : List Nat} {t : DGT} (h : DG X tg g us t) : DG X tg (gStar X.K us t) us t :=
  ⟨⟨fun pins s σ H v u Q I r ⟨F, T, ds, fp, d, D, rp, i, a, k⟩ => h.pg.run pins s σ H v u Q I r (h.ok F T σ H ds fp v d D _ rp i a k)⟩, fun F T σ H ds fp v d Q R r x a k => ⟨F, T, ds, fp, d, Q, r, x, a, k⟩⟩
section
variable {X : Cx} {elt tg iter : Expr} {ifs : List Expr} {scope : Scope} {own : List (Str × Nat)} {wi : TI} {ti : DIT} {gt : DGT} {us : List Nat} {ct : DTT} {et : DT} {pos spos py : Pos} {y : Str} {i : Nat}
theorem do_compG (hN : X.N.Nodup) (hi : DI X tg iter wi ti) (ok : BlkOk X.N X.env.scope scope own) (us : List Nat)
    (hg : ∀ (s : Shared) (H : Hp) (C : Addr) (cl : List (Str × Addr)) (fp : List Addr), ∃ g, DG (X.blk s H scope (compEnvC scope cl C X.env) fp) tg g us gt)
    (ht : ∀ (s : Shared) (H : Hp) (C : Addr) (cl : List (Str × Addr)) (fp : List Addr), ∃ tt, DCs (X.blk s H scope (compEnvC scope cl C X.env) fp) ifs tt ct)
    (he : ∀ (s : Shared) (H : Hp) (C : Addr) (cl : List (Str × Addr)) (fp : List Addr), ∃ te, DO (X.blk s H scope (compEnvC scope cl C X.env) fp) elt te et)
    (hsub : ∀ i ∈ us, i ∈ own.map (·.2)) (hc : X.calm = true) (hs : ∀ x, foldedSetIterable iter X.env x = pure x) :
    DO X (.ListComp elt [⟨tg, iter, ifs, 0⟩] scope pos) (tLc wi (gStar X.K us gt) (tStarB X.K ct) (tStar X.K et) (own.map (·.2))) (dComp ti gt ct et (own.map (·.2))) :=
  do_comp hN hi ok (fun s H C cl fp => (hg s H C cl fp).elim fun _ z => z.star) ht he hsub hc hs
theorem ds_setcG (hN : X.N.Nodup) (hi : DI X tg iter wi ti) (ok : BlkOk X.N X.env.scope scope own) (us : List Nat)
    (hg : ∀ (s : Shared) (H : Hp) (C : Addr) (cl : List (Str × Addr)) (fp : List Addr), ∃ g, DG (X.blk s H scope (compEnvC scope cl C X.env) fp) tg g us gt)
    (ht : ∀ (s : Shared) (H : Hp) (C : Addr) (cl : List (Str × Addr)) (fp : List Addr), ∃ tt, DCs (X.blk s H scope (compEnvC scope cl C X.env) fp) ifs tt ct)
    (he : ∀ (s : Shared) (H : Hp) (C : Addr) (cl : List (Str × Addr)) (fp : List Addr), ∃ te, DO (X.blk s H scope (compEnvC scope cl C X.env) fp) elt te et)
    (hsw : swapsWith (.ListComp elt [⟨tg, iter, ifs, 0⟩] scope pos) (some (.Name y py)) spos.line X.env = pure true)
    (hy : X.N[i]? = some y := by rfl) (hyl : X.env.scope.names.lookup y = some .local := by rfl)
    (hsub : ∀ i ∈ us, i ∈ own.map (·.2)) (hc : X.calm = true) (hs : ∀ x, foldedSetIterable iter X.env x = pure x) :
    DSt X (.Assign [.Name y py] (.ListComp elt [⟨tg, iter, ifs, 0⟩] scope pos) spos) (tAsg (tLc wi (gStar X.K us gt) (tStarB X.K ct) (tStar X.K et) (own.map (·.2))) (gName i)) (mSet i (dComp ti gt ct et (own.map (·.2)))) :=
  ds_setc hN hi ok (fun s H C cl fp => (hg s H C cl fp).elim fun _ z => z.star) ht he hsw hy hyl hsub hc hs
end
end DL

/-! DL: x is True, x a truth or None. -/
namespace DL
open PySem PySem.Spec PyProof.Rows L2
def rNB : R2 := fun x y H Q => ∃ b : Bool, x = .non ∧ y = .bl b ∧ Q (.bl false) H
def rNNB : R2 := fun x y H Q => ∃ b : Bool, x = .non ∧ y = .bl b ∧ Q (.bl true) H
section
variable {X : Cx} {K : PySem.W.Frag}
theorem op_isNB : OpR X (compareOp .Is) rNB := by
  intro pins s σ H x y v u Q I rx ry h
  obtain ⟨b, rfl, rfl, q⟩ := h
  cases (show v = Value.none from rx)
  cases (show u = Value.bool b from ry)
  exact wpAny_is_other rfl (fun z => nomatch z) ⟨.bl false, H, I, rfl, q⟩
theorem op_notNB : OpR X (compareOp .IsNot) rNNB := by
  intro pins s σ H x y v u Q I rx ry h
  obtain ⟨b, rfl, rfl, q⟩ := h
  cases (show v = Value.none from rx)
  cases (show u = Value.bool b from ry)
  exact wpAny_isNot_other rfl (fun z => nomatch z) ⟨.bl true, H, I, rfl, q⟩
def rIsT : R2 := fun x y H Q => rIsB x y H Q ∨ rNB x y H Q
def rNotT : R2 := fun x y H Q => rNotB x y H Q ∨ rNNB x y H Q
theorem op_isT : OpR X (compareOp .Is) rIsT := OpR.or op_isBl op_isNB
theorem op_notT : OpR X (compareOp .IsNot) rNotT := OpR.or op_notBl op_notNB
@[simp] def dIsT (neg : Bool) : D2
  | .bool a, .bool b, Q => Q (.tmp (.bool (if neg then !decide (a = b) else decide (a = b))))
  | .none, .bool _, Q => Q (.tmp (.bool neg))
  | _, _, _ => False
theorem rok_isT : ROk K rIsT (dIsT false) := by
  intro F T σ H ds fp x y d e Q R r px py h k
  cases d <;> cases e <;> first | exact False.elim h | skip
  · rw [px.none, py.bool]
    exact .inr ⟨_, rfl, rfl, k _ _ _ _ _ h (.here r (.bl _))⟩
  · rw [px.bool, py.bool]
    exact .inl ⟨_, _, rfl, rfl, k _ _ _ _ _ h (.here r (.bl _))⟩
theorem rok_notT : ROk K rNotT (dIsT true) := by
  intro F T σ H ds fp x y d e Q R r px py h k
  cases d <;> cases e <;> first | exact False.elim h | skip
  · rw [px.none, py.bool]
    exact .inr ⟨_, rfl, rfl, k _ _ _ _ _ h (.here r (.bl _))⟩
  · rw [px.bool, py.bool]
    exact .inl ⟨_, _, rfl, rfl, k _ _ _ _ _ h (.here r (.bl _))⟩
end
end DL

/-! BK: the defs on inputs that the laws share, for any datum. -/
namespace BK
open PySem PySem.Spec PyProof.Rows L2 DL
/-! is_between, is_headed -/
def g_is_between : DF := fun dl P => ∃ lo d hi, dl = [.int lo, d, .int hi] ∧ P (.val (.bool (betw lo hi d)))
@[simp] theorem at_is_between {lo hi : Int} {d : D} {P : SD → Prop} : g_is_between [.int lo, d, .int hi] P = P (.val (.bool (betw lo hi d))) := by
  refine propext ⟨?_, fun h => ⟨_, _, _, rfl, h⟩⟩
  rintro ⟨_, _, _, e, h⟩
  cases e; exact h
def tb_is_between : DM := (mRet (dAnd (dCall g_is_integer (aCons (dVar 1) aNil)) (dChain dLe dLe (dVar 0) (dVar 1) (dVar 2))))
theorem rd_is_between : ∀ dl Q, dl.length = 3 → g_is_between dl Q → tb_is_between (enF Q) (slots0 3 dl) := by
  rintro dl Q - ⟨lo, d, hi, rfl, h⟩
  cases d with
  | int v => by_cases h1 : lo ≤ v <;> by_cases h2 : v ≤ hi <;> simpa [tb_is_between, h1, h2] using h
  | _ => simpa [tb_is_between, betw] using h
def headB (w : Str) (n : Int) : D → Bool
  | .tuple xs => decide ((xs.length : Int) = n) && match xs with | .str z :: _ => decide (z = w) | _ => false
  | _ => false
def g_is_headed : DF := fun dl P => ∃ w n d, dl = [.str w, .int n, d] ∧ 1 ≤ n ∧ P (.val (.bool (headB w n d)))
@[simp] theorem at_is_headed {w : Str} {n : Int} {d : D} {P : SD → Prop} : g_is_headed [.str w, .int n, d] P = (1 ≤ n ∧ P (.val (.bool (headB w n d)))) := by
  refine propext ⟨?_, fun h => ⟨_, _, _, rfl, h⟩⟩
  rintro ⟨_, _, _, e, h⟩
  cases e; exact h
def tb_is_headed : DM := (mRet (dAnd (dCall g_is_tuple_of (aCons (dVar 1) (aCons (dVar 2) aNil))) (dAnd (dIsi "str" (d2 dIx (dVar 2) (dC (.int 0)))) (d2 dEq (d2 dIx (dVar 2) (dC (.int 0))) (dVar 0)))))
theorem rd_is_headed : ∀ dl Q, dl.length = 3 → g_is_headed dl Q → tb_is_headed (enF Q) (slots0 3 dl) := by
  rintro dl Q - ⟨w, n, d, rfl, hn, h⟩
  cases d with
  | tuple xs =>
    by_cases e : (xs.length : Int) = n
    · match xs, e, h with
      | [], e, h => simp at e; omega
      | x :: r, e, h =>
        have e' : (r.length : Int) + 1 = n := by simpa using e
        cases x <;> simpa [tb_is_headed, headB, e', isT_str] using h
    · simpa [tb_is_headed, headB, e] using h
  | _ => simpa [tb_is_headed, headB] using h
/-! is_word -/
def lowB (c : Nat) : Bool := decide (97 ≤ c ∧ c ≤ 122)
def wordB : D → Bool
  | .str z => decide (1 ≤ z.length ∧ z.length ≤ 10) && z.cps.toList.all lowB
  | _ => false
def strFit : D → Prop
  | .str z => z.length ≤ sizeLine
  | _ => True
def g_is_word : DF := fun dl P => ∃ d, dl = [d] ∧ strFit d ∧ P (.val (.bool (wordB d)))
@[simp] theorem at_is_word {d : D} {P : SD → Prop} : g_is_word [d] P = (strFit d ∧ P (.val (.bool (wordB d)))) := by
  refine propext ⟨?_, fun h => ⟨_, rfl, h⟩⟩
  rintro ⟨_, e, h⟩
  cases e; exact h
def ce_is_word_1 : DT := (dChain dLe dLe (dC (.str "a")) (dVar 1) (dC (.str "z")))
def tb_is_word : DM := (mRet (dAnd (dIsi "str" (dVar 0)) (dAnd (dChain dLe dLe (dC (.int 1)) (dB bLen (aCons (dVar 0) aNil)) (dC (.int 10))) (dB bAll (aCons (dComp (iSeq (dVar 0)) (gNm 1) cYes ce_is_word_1 [1]) aNil)))))
def signF : D → D
  | .str z => .bool (lowB (z.cps.toList.headD 0))
  | d => d
theorem signF_one (c : Nat) : signF (.str ⟨#[c]⟩) = .bool (lowB c) := rfl
theorem lt_one (c d : Nat) : decide ([c] < [d]) = decide (c < d) := by
  rw [decide_eq_decide]
  simp [List.cons_lt_cons_iff]
theorem rd_is_word : ∀ dl Q, dl.length = 1 → g_is_word dl Q → tb_is_word (enF Q) (slots0 2 dl) := by
  rintro dl Q - ⟨d, rfl, hs, h⟩
  cases d with
  | str z =>
    have hs : z.length ≤ sizeLine := hs
    by_cases h1 : 1 ≤ z.length
    · by_cases h2 : z.length ≤ 10
      · have i1 : (1 : Int) ≤ (z.length : Int) := by omega
        have i2 : (z.length : Int) ≤ 10 := by omega
        have sz : (strItems z).length ≤ sizeLine := by
          unfold strItems
          rw [List.length_map, Array.length_toList]; exact hs
        simp [tb_is_word, isT_str, hs, i1, i2, sz]
        refine compD_map signF _ _ _ (fun d hd L hL => ?_) ?_
        · unfold strItems at hd
          obtain ⟨c, _, rfl⟩ := List.mem_map.mp hd
          have e1 : ("a" : Str).cps.toList = [97] := by decide +kernel
          have e2 : ("z" : Str).cps.toList = [122] := by decide +kernel
          by_cases c1 : c < 97
          · have : lowB c = false := by unfold lowB; rw [decide_eq_false]; omega
            rw [signF_one, this] at hL
            simpa [ce_is_word_1, e1, e2, c1, List.cons_lt_cons_iff] using hL
          · by_cases c2 : 122 < c
            · have : lowB c = false := by unfold lowB; rw [decide_eq_false]; omega
              rw [signF_one, this] at hL
              simpa [ce_is_word_1, e1, e2, c1, c2, List.cons_lt_cons_iff] using hL
            · have : lowB c = true := by unfold lowB; rw [decide_eq_true]; omega
              rw [signF_one, this] at hL
              simpa [ce_is_word_1, e1, e2, c1, c2, List.cons_lt_cons_iff] using hL
        · refine ⟨z.cps.toList.map lowB, ?_, ?_⟩
          · unfold strItems
            simp [List.map_map, Function.comp_def, signF_one]
          · have e : ((z.cps.toList.map lowB).all id) = z.cps.toList.all lowB := by simp [List.all_map, Function.comp_def]
            simp only [wordB, h1, h2] at h
            rw [e]
            simpa using h
      · have i1 : (1 : Int) ≤ (z.length : Int) := by omega
        have i2 : ¬ (z.length : Int) ≤ 10 := by omega
        simpa [tb_is_word, isT_str, hs, i1, i2, wordB, h2] using h
    · have i1 : ¬ (1 : Int) ≤ (z.length : Int) := by omega
      simpa [tb_is_word, isT_str, hs, i1, wordB, h1] using h
  | _ => simpa [tb_is_word, isT_str, wordB] using h
end BK

/-! BK: is_kind. -/
namespace BK
open PySem PySem.Spec PyProof.Rows L2 DL
def strsOf (ws : List D) : List Str := ws.map fun d => match d with | .str z => z | _ => Str.empty
def unlikeB (ws : List D) : Bool := decide (uniqN (strsOf ws) = ws.length)
theorem strsOf_map (zs : List Str) : strsOf (zs.map .str) = zs := by
  unfold strsOf
  rw [List.map_map]
  exact List.map_id _
/-- words alone -/
def allStr (ws : List D) : Prop := ∃ zs : List Str, ws = zs.map .str
def g_are_unlike : DF := fun dl P => ∃ ws, (dl = [.tuple ws] ∨ dl = [.list ws]) ∧ allStr ws ∧ ws.length + 1 < scanBound ∧ P (.val (.bool (unlikeB ws)))
theorem at_unlikeT {ws : List D} {P : SD → Prop} (hz : allStr ws) (hl : ws.length + 1 < scanBound) (h : P (.val (.bool (unlikeB ws)))) : g_are_unlike [.tuple ws] P := ⟨ws, .inl rfl, hz, hl, h⟩
theorem at_unlikeL {ws : List D} {P : SD → Prop} (hz : allStr ws) (hl : ws.length + 1 < scanBound) (h : P (.val (.bool (unlikeB ws)))) : g_are_unlike [.list ws] P := ⟨ws, .inr rfl, hz, hl, h⟩
def tb_are_unlike : DM := (mRet (d2 dEq (dLenS (dVar 0)) (dB bLen (aCons (dVar 0) aNil))))
theorem rd_are_unlike : ∀ dl Q, dl.length = 1 → g_are_unlike dl Q → tb_are_unlike (enF Q) (slots0 1 dl) := by
  rintro dl Q - ⟨ws, hd, ⟨zs, rfl⟩, hl, h⟩
  have e : unlikeB (zs.map .str) = decide ((uniqN zs : Int) = (zs.length : Int)) := by
    unfold unlikeB
    rw [strsOf_map, List.length_map, decide_eq_decide]; omega
  rw [e] at h
  rw [List.length_map] at hl
  rcases hd with rfl | rfl
  · simp [tb_are_unlike]
    exact ⟨zs, rfl, hl, h⟩
  · simp [tb_are_unlike]
    exact ⟨zs, rfl, hl, h⟩
/-! is_kind -/
def pickB : D → Bool
  | .tuple [_, .tuple ws] => decide (1 ≤ ws.length ∧ ws.length ≤ 6)
  | _ => false
def wordsOf : D → List D
  | .tuple [_, .tuple ws] => ws
  | _ => []
def intB3 : D → Bool
  | .tuple [_, .int a, b] => betw (-1000000) 1000000 (.int a) && betw a 1000000 b
  | _ => false
def kindB (d : D) : Bool := if headB "int" 3 d = true then intB3 d else if (headB "pick" 2 d && pickB d) = true then (wordsOf d).all wordB && unlikeB (wordsOf d) else headB "truth" 1 d
def fitK (d : D) : Prop := ∀ w ∈ wordsOf d, strFit w
def g_is_kind : DF := fun dl P => ∃ d, dl = [d] ∧ fitK d ∧ P (.val (.bool (kindB d)))
@[simp] theorem at_is_kind {d : D} {P : SD → Prop} : g_is_kind [d] P = (fitK d ∧ P (.val (.bool (kindB d)))) := by
  refine propext ⟨?_, fun h => ⟨_, rfl, h⟩⟩
  rintro ⟨_, e, h⟩
  cases e; exact h
def ce_is_kind_1 : DT := (dCall g_is_word (aCons (dVar 1) aNil))
def tb_is_kind : DM := (mSeq (mIf (bT (dCall g_is_headed (aCons (dC (.str "int")) (aCons (dC (.int 3)) (aCons (dVar 0) aNil))))) (mRet (dAnd (dCall g_is_between (aCons (d1 dNeg (dC (.int 1000000))) (aCons (d2 dIx (dVar 0) (dC (.int 1))) (aCons (dC (.int 1000000)) aNil)))) (dCall g_is_between (aCons (d2 dIx (dVar 0) (dC (.int 1))) (aCons (d2 dIx (dVar 0) (dC (.int 2))) (aCons (dC (.int 1000000)) aNil)))))) mNil)
    (mSeq (mIf (bAnd (bT (dCall g_is_headed (aCons (dC (.str "pick")) (aCons (dC (.int 2)) (aCons (dVar 0) aNil))))) (bAnd (bT (dIsi "tuple" (d2 dIx (dVar 0) (dC (.int 1))))) (bT (dChain dLe dLe (dC (.int 1)) (dB bLen (aCons (d2 dIx (dVar 0) (dC (.int 1))) aNil)) (dC (.int 6)))))) (mRet (dAnd (dB bAll (aCons (dComp (iSeq (d2 dIx (dVar 0) (dC (.int 1)))) (gNm 1) cYes ce_is_kind_1 [1]) aNil)) (dCall g_are_unlike (aCons (d2 dIx (dVar 0) (dC (.int 1))) aNil)))) mNil)
    (mRet (dCall g_is_headed (aCons (dC (.str "truth")) (aCons (dC (.int 1)) (aCons (dVar 0) aNil)))))))
theorem head3 {w : Str} {d : D} (h : headB w 3 d = true) : ∃ a b, d = .tuple [.str w, a, b] := by
  unfold headB at h
  split at h
  · rename_i xs
    match xs, h with
    | [], h => simp at h
    | [_], h => simp at h
    | [_, _], h => simp at h
    | [x, a, b], h => cases x <;> simp at h; subst h; exact ⟨a, b, rfl⟩
    | _ :: _ :: _ :: _ :: r, h => simp at h; omega
  · cases h
theorem head2 {w : Str} {d : D} (h : headB w 2 d = true) : ∃ a, d = .tuple [.str w, a] := by
  unfold headB at h
  split at h
  · rename_i xs
    match xs, h with
    | [], h => simp at h
    | [_], h => simp at h
    | [x, a], h => cases x <;> simp at h; subst h; exact ⟨a, rfl⟩
    | _ :: _ :: _ :: r, h => simp at h; omega
  · cases h
theorem head1 {w : Str} {d : D} (h : headB w 1 d = true) : d = .tuple [.str w] := by
  unfold headB at h
  split at h
  · rename_i xs
    match xs, h with
    | [], h => simp at h
    | [x], h => cases x <;> simp at h; subst h; rfl
    | _ :: _ :: r, h => simp at h; omega
  · cases h
theorem betw_is {lo hi : Int} {d : D} (h : betw lo hi d = true) : ∃ v, d = .int v := by
  cases d <;> first | exact ⟨_, rfl⟩ | cases h
theorem words_all {ws : List D} (h : ws.all wordB = true) : allStr ws := by
  induction ws with
  | nil => exact ⟨[], rfl⟩
  | cons d r ih =>
    simp only [List.all_cons, Bool.and_eq_true] at h
    obtain ⟨zs, rfl⟩ := ih h.2
    cases d <;> first | exact ⟨_ :: zs, rfl⟩ | cases h.1
theorem rd_is_kind : ∀ dl Q, dl.length = 1 → g_is_kind dl Q → tb_is_kind (enF Q) (slots0 2 dl) := by
  rintro dl Q - ⟨d, rfl, hf, h⟩
  cases h3 : headB "int" 3 d with
  | true =>
    obtain ⟨a, b, rfl⟩ := head3 h3
    simp only [kindB, h3, if_true] at h
    cases ha : betw (-1000000) 1000000 a with
    | false =>
      have : intB3 (.tuple [.str "int", a, b]) = false := by
        cases a <;> first | rfl | simp [intB3, ha]
      rw [this] at h
      simpa [tb_is_kind, h3, ha] using h
    | true =>
      obtain ⟨v, rfl⟩ := betw_is ha
      have : intB3 (.tuple [.str "int", .int v, b]) = betw v 1000000 b := by simp [intB3, ha]
      rw [this] at h
      have ha' : -1000000 ≤ v ∧ v ≤ 1000000 := by simpa using ha
      simpa [tb_is_kind, h3, ha'] using h
  | false =>
    cases h2 : headB "pick" 2 d with
    | false =>
      simp only [kindB, h3, h2, Bool.false_and] at h
      simpa [tb_is_kind, h3, h2] using h
    | true =>
      obtain ⟨a, rfl⟩ := head2 h2
      simp only [kindB, h3, h2, Bool.true_and] at h
      have no : pickB (.tuple [.str "pick", a]) = false → Q (.val (.bool (headB "truth" 1 (.tuple [.str "pick", a])))) := fun z => by simpa [z] using h
      cases a with
      | tuple ws =>
        by_cases w1 : 1 ≤ ws.length
        · by_cases w2 : ws.length ≤ 6
          · have i1 : (1 : Int) ≤ (ws.length : Int) := by omega
            have i2 : (ws.length : Int) ≤ 6 := by omega
            have sz : ws.length ≤ sizeLine := by have : 6 ≤ sizeLine := by decide +kernel
                                                 omega
            have pk : pickB (.tuple [.str "pick", .tuple ws]) = true := by simp [pickB, w1, w2]
            simp only [pk, if_true] at h
            simp [tb_is_kind, h3, h2, isT_tuple, i1, i2, sz]
            refine compD_map (fun d => .bool (wordB d)) _ _ _ (fun d hd L hL => ?_) ?_
            · have : strFit d := hf d hd
              simpa [ce_is_kind_1, this] using hL
            · refine ⟨ws.map wordB, by simp [List.map_map, Function.comp_def], ?_⟩
              have mem : (false ∈ ws.map wordB) ↔ ws.all wordB = false := by
                rw [List.all_eq_false, List.mem_map]
                exact ⟨fun ⟨a, b, c⟩ => ⟨a, b, by rw [c]; exact Bool.false_ne_true⟩, fun ⟨a, b, c⟩ => ⟨a, b, by simpa using c⟩⟩
              simp only [mem]
              have h' : Q (.val (.bool (ws.all wordB && unlikeB ws))) := h
              cases hw : ws.all wordB with
              | false => rw [hw] at h'; simpa using h'
              | true =>
                rw [hw] at h'
                simp
                exact at_unlikeT (words_all hw) (by have : 1000 ≤ scanBound := by decide +kernel
                                                    omega) (by simpa using h')
          · have i2 : ¬ (ws.length : Int) ≤ 6 := by omega
            have i1 : (1 : Int) ≤ (ws.length : Int) := by omega
            simpa [tb_is_kind, h3, h2, isT_tuple, i1, i2] using no (by simp [pickB, w2])
        · have i1 : ¬ (1 : Int) ≤ (ws.length : Int) := by omega
          simpa [tb_is_kind, h3, h2, isT_tuple, i1] using no (by simp [pickB, w1])
      | _ => simpa [tb_is_kind, h3, h2, isT_tuple] using no rfl
end BK

/-! BK: is_inputs, check_inputs, check_count. -/
namespace BK
open PySem PySem.Spec PyProof.Rows L2 DL
def oneB : D → Bool
  | .tuple [n, k] => wordB n && kindB k
  | _ => false
def nameOf : D → D
  | .tuple [n, _] => n
  | d => d
def inputsB : D → Bool
  | .tuple xs => decide (1 ≤ xs.length ∧ xs.length ≤ 6) && (xs.all oneB && unlikeB (xs.map nameOf))
  | _ => false
def fitOne : D → Prop
  | .tuple [n, k] => strFit n ∧ fitK k
  | _ => True
def fitI : D → Prop
  | .tuple xs => ∀ x ∈ xs, fitOne x
  | _ => True
def g_is_inputs : DF := fun dl P => ∃ d, dl = [d] ∧ fitI d ∧ P (.val (.bool (inputsB d)))
@[simp] theorem at_is_inputs {d : D} {P : SD → Prop} : g_is_inputs [d] P = (fitI d ∧ P (.val (.bool (inputsB d)))) := by
  refine propext ⟨?_, fun h => ⟨_, rfl, h⟩⟩
  rintro ⟨_, e, h⟩
  cases e; exact h
def ce_is_inputs_1 : DT := (dVar 1)
def ce_is_inputs_2 : DT := (dAnd (dCall g_is_tuple_of (aCons (dC (.int 2)) (aCons (dVar 3) aNil))) (dAnd (dCall g_is_word (aCons (d2 dIx (dVar 3) (dC (.int 0))) aNil)) (dCall g_is_kind (aCons (d2 dIx (dVar 3) (dC (.int 1))) aNil))))
def tb_is_inputs : DM := (mSeq (mIf (bOr (bNot (bT (dIsi "tuple" (dVar 0)))) (bNot (bT (dChain dLe dLe (dC (.int 1)) (dB bLen (aCons (dVar 0) aNil)) (dC (.int 6)))))) (mRet (dC (.bool false))) mNil)
    (mSeq (mIf (bNot (bT (dB bAll (aCons (dComp (iSeq (dVar 0)) (gNm 3) cYes ce_is_inputs_2 [3]) aNil)))) (mRet (dC (.bool false))) mNil)
    (mRet (dCall g_are_unlike (aCons (dComp (iSeq (dVar 0)) (gTp 2 (gsCons (gNm 1) (gsCons (gNm 2) gsNil))) cYes ce_is_inputs_1 [1, 2]) aNil)))))

theorem tupN2_no {d : D} (h : tupN 2 d = false) : oneB d = false := by
  unfold oneB
  split
  · simp at h
  · rfl
theorem tup2 {d : D} (h : tupN 2 d = true) : ∃ x y, d = .tuple [x, y] := by
  cases d with
  | tuple xs =>
    match xs, h with
    | [x, y], _ => exact ⟨x, y, rfl⟩
    | [], h => simp at h
    | [_], h => simp at h
    | _ :: _ :: _ :: r, h => simp at h; omega
  | _ => simp at h
theorem rd_is_inputs : ∀ dl Q, dl.length = 1 → g_is_inputs dl Q → tb_is_inputs (enF Q) (slots0 4 dl) := by
  rintro dl Q - ⟨d, rfl, hf, h⟩
  cases d with
  | tuple xs =>
    by_cases w1 : 1 ≤ xs.length
    · by_cases w2 : xs.length ≤ 6
      · have i1 : (1 : Int) ≤ (xs.length : Int) := by omega
        have i2 : (xs.length : Int) ≤ 6 := by omega
        have six : 6 ≤ sizeLine := by decide +kernel
        have sz : xs.length ≤ sizeLine := by omega
        have mem : (false ∈ xs.map oneB) ↔ xs.all oneB = false := by
          rw [List.all_eq_false, List.mem_map]
          exact ⟨fun ⟨a, b, c⟩ => ⟨a, b, by rw [c]; exact Bool.false_ne_true⟩, fun ⟨a, b, c⟩ => ⟨a, b, by simpa using c⟩⟩
        have h' : Q (.val (.bool (xs.all oneB && unlikeB (xs.map nameOf)))) := by simpa [inputsB, w1, w2] using h
        simp [tb_is_inputs, isT_tuple, i1, i2, sz]
        refine compD_map (fun d => .bool (oneB d)) _ _ _ (fun d hd L hL => ?_) ?_
        · cases ht : tupN 2 d with
          | false =>
            rw [tupN2_no ht] at hL
            simpa [ce_is_inputs_2, ht] using hL
          | true =>
            obtain ⟨n, k, rfl⟩ := tup2 ht
            obtain ⟨f1, f2⟩ : fitOne (.tuple [n, k]) := hf _ hd
            have e : oneB (.tuple [n, k]) = (wordB n && kindB k) := rfl
            rw [e] at hL
            cases hw : wordB n with
            | false => rw [hw] at hL; simpa [ce_is_inputs_2, f1, f2, hw] using hL
            | true => rw [hw] at hL; simpa [ce_is_inputs_2, f1, f2, hw] using hL
        · refine ⟨xs.map oneB, by simp [List.map_map, Function.comp_def], ?_⟩
          simp only [List.all_map, mem]
          cases ha : xs.all oneB with
          | false => rw [ha] at h'; simpa [mem, ha] using h'
          | true =>
            rw [ha] at h'
            have two : ∀ d ∈ xs, ∃ n k, d = .tuple [n, k] ∧ wordB n = true := fun d hd => by
              have := List.all_eq_true.mp ha d hd
              unfold oneB at this
              split at this
              · rename_i n k
                exact ⟨n, k, rfl, by cases hw : wordB n <;> simp [hw] at this ⊢⟩
              · cases this
            simp [mem, ha, sz]
            refine compD_map nameOf _ _ _ (fun d hd L hL => ?_) ?_
            · obtain ⟨n, k, rfl, _⟩ := two d hd
              simpa [ce_is_inputs_1, nameOf] using hL
            · simp
              have big : (xs.map nameOf).length + 1 < scanBound := by
                have : 1000 ≤ scanBound := by decide +kernel
                rw [List.length_map]; omega
              refine at_unlikeL (words_all (List.all_eq_true.mpr fun x hx => ?_)) big (by simpa using h')
              obtain ⟨d, hd, rfl⟩ := List.mem_map.mp hx
              obtain ⟨n, k, rfl, hw⟩ := two d hd
              exact hw
      · have i1 : (1 : Int) ≤ (xs.length : Int) := by omega
        have i2 : ¬ (xs.length : Int) ≤ 6 := by omega
        simpa [tb_is_inputs, isT_tuple, i1, i2, inputsB, w2] using h
    · have i1 : ¬ (1 : Int) ≤ (xs.length : Int) := by omega
      simpa [tb_is_inputs, isT_tuple, i1, inputsB, w1] using h
  | _ => simpa [tb_is_inputs, isT_tuple, inputsB] using h
/-! the checks, where all is right -/
def g_check_inputs : DF := fun dl P => ∃ d, dl = [d] ∧ fitI d ∧ inputsB d = true ∧ P (.val .none)
@[simp] theorem at_check_inputs {d : D} {P : SD → Prop} : g_check_inputs [d] P = (fitI d ∧ inputsB d = true ∧ P (.val .none)) := by
  refine propext ⟨?_, fun h => ⟨_, rfl, h⟩⟩
  rintro ⟨_, e, h⟩
  cases e; exact h
def tb_check_inputs : DM := (mIf (bNot (bT (dCall g_is_inputs (aCons (dVar 0) aNil)))) mNever mNil)
theorem rd_check_inputs : ∀ dl Q, dl.length = 1 → g_check_inputs dl Q → tb_check_inputs (enF Q) (slots0 1 dl) := by
  rintro dl Q - ⟨d, rfl, hf, hi, h⟩
  simpa [tb_check_inputs, hf, hi] using h
def g_check_count : DF := fun dl P => ∃ n : Int, dl = [.int n] ∧ 0 ≤ n ∧ P (.val .none)
@[simp] theorem at_check_count {n : Int} {P : SD → Prop} : g_check_count [.int n] P = (0 ≤ n ∧ P (.val .none)) := by
  refine propext ⟨?_, fun h => ⟨_, rfl, h⟩⟩
  rintro ⟨_, e, h⟩
  cases e; exact h
def tb_check_count : DM := (mIf (bOr (bNot (bT (dCall g_is_integer (aCons (dVar 0) aNil)))) (bT (d2 dLt (dVar 0) (dC (.int 0))))) mNever mNil)
theorem rd_check_count : ∀ dl Q, dl.length = 1 → g_check_count dl Q → tb_check_count (enF Q) (slots0 1 dl) := by
  rintro dl Q - ⟨n, rfl, hn, h⟩
  have : ¬ n < 0 := by omega
  simpa [tb_check_count, this] using h
end BK

/-! BK: kinds, their ends and widths; how many files inputs have, and which one has a number. -/
namespace BK
open PySem PySem.Spec PyProof.Rows L2 DL
inductive Knd where
  | truth
  | int (lo hi : Int)
  | pick (ws : List Str)
def Knd.d : Knd → D
  | .truth => .tuple [.str "truth"]
  | .int lo hi => .tuple [.str "int", .int lo, .int hi]
  | .pick ws => .tuple [.str "pick", .tuple (ws.map .str)]
def Knd.lo : Knd → Int
  | .int lo _ => lo
  | _ => 0
def Knd.hi : Knd → Int
  | .truth => 1
  | .int _ hi => hi
  | .pick ws => ws.length - 1
def g_ends_of : DF := fun dl P => ∃ k : Knd, dl = [k.d] ∧ P (.val (.tuple [.int k.lo, .int k.hi]))
@[simp] theorem at_ends_of {k : Knd} {P : SD → Prop} (h : P (.val (.tuple [.int k.lo, .int k.hi]))) : g_ends_of [k.d] P := ⟨k, rfl, h⟩
def tb_ends_of : DM := (mSeq (mIf (bT (d2 dEq (d2 dIx (dVar 0) (dC (.int 0))) (dC (.str "int")))) (mRet (dTup (aCons (d2 dIx (dVar 0) (dC (.int 1))) (aCons (d2 dIx (dVar 0) (dC (.int 2))) aNil)))) mNil)
    (mRet (dIf (bT (d2 dEq (d2 dIx (dVar 0) (dC (.int 0))) (dC (.str "truth")))) (dTup (aCons (dC (.int 0)) (aCons (dC (.int 1)) aNil))) (dTup (aCons (dC (.int 0)) (aCons (d2 dSub (dB bLen (aCons (d2 dIx (dVar 0) (dC (.int 1))) aNil)) (dC (.int 1))) aNil))))))
theorem rd_ends_of : ∀ dl Q, dl.length = 1 → g_ends_of dl Q → tb_ends_of (enF Q) (slots0 1 dl) := by
  rintro dl Q - ⟨k, rfl, h⟩
  have n1 : ¬ ("truth" : Str) = "int" := by decide +kernel
  have n2 : ¬ ("pick" : Str) = "int" := by decide +kernel
  have n3 : ¬ ("pick" : Str) = "truth" := by decide +kernel
  cases k with
  | truth => simpa [tb_ends_of, Knd.d, Knd.lo, Knd.hi, n1] using h
  | int lo hi => simpa [tb_ends_of, Knd.d, Knd.lo, Knd.hi] using h
  | pick ws => simpa [tb_ends_of, Knd.d, Knd.lo, Knd.hi, n2, n3] using h
def Knd.wid (k : Knd) : Int := k.hi - k.lo + 1
def g_width_of : DF := fun dl P => ∃ k : Knd, dl = [k.d] ∧ P (.val (.int k.wid))
theorem at_width_of {k : Knd} {P : SD → Prop} (h : P (.val (.int k.wid))) : g_width_of [k.d] P := ⟨k, rfl, h⟩
def tb_width_of : DM := (mSeq (mUnp (dCall g_ends_of (aCons (dVar 0) aNil)) (gTp 2 (gsCons (gNm 1) (gsCons (gNm 2) gsNil))))
    (mRet (d2 dAdd (d2 dSub (dVar 2) (dVar 1)) (dC (.int 1)))))
theorem rd_width_of : ∀ dl Q, dl.length = 1 → g_width_of dl Q → tb_width_of (enF Q) (slots0 3 dl) := by
  rintro dl Q - ⟨k, rfl, h⟩
  simp [tb_width_of]
  refine at_ends_of ?_
  simpa [Knd.wid] using h
/-! inputs -/
abbrev Ins := List (Str × Knd)
def insD (ins : Ins) : D := .tuple (ins.map fun p => .tuple [.str p.1, p.2.d])
def wids : Ins → Int
  | [] => 1
  | p :: r => p.2.wid * wids r
/-- widths are right -/
def Knd.fit (k : Knd) : Prop := 1 ≤ k.wid ∧ k.wid ≤ 3000000
def okIns (ins : Ins) : Prop := fitI (insD ins) ∧ inputsB (insD ins) = true ∧ ins.length ≤ 6 ∧ ∀ p ∈ ins, p.2.fit
def g_file_count : DF := fun dl P => ∃ ins : Ins, dl = [insD ins] ∧ okIns ins ∧ P (.val (.int (wids ins)))
theorem at_file_count {ins : Ins} {P : SD → Prop} (h : okIns ins) (p : P (.val (.int (wids ins)))) : g_file_count [insD ins] P := ⟨ins, rfl, h, p⟩
theorem wids_app (a b : Ins) : wids (a ++ b) = wids a * wids b := by
  induction a with
  | nil => simp [wids]
  | cons p r ih => rw [List.cons_append, wids, wids, ih, Int.mul_assoc]
theorem wids_pos {ins : Ins} (h : ∀ p ∈ ins, p.2.fit) : 1 ≤ wids ins := by
  induction ins with
  | nil => exact Int.le_refl _
  | cons p r ih =>
    have h1 := (h p List.mem_cons_self).1
    have h2 := ih fun q hq => h q (List.mem_cons_of_mem _ hq)
    have := Int.mul_pos (show 0 < p.2.wid by omega) (show 0 < wids r by omega)
    show 1 ≤ p.2.wid * wids r
    omega
def lb_file_count_1 : DM := (mSet 1 (d2 dMulA (dVar 1) (dCall g_width_of (aCons (dVar 3) aNil))))
def tb_file_count : DM := (mSeq (mExpr (dCall g_check_inputs (aCons (dVar 0) aNil)))
    (mSeq (mSet 1 (dC (.int 1)))
    (mSeq (mFor (iSeq (dVar 0)) (gTp 2 (gsCons (gNm 2) (gsCons (gNm 3) gsNil))) lb_file_count_1)
    (mRet (dVar 1)))))
theorem rd_file_count : ∀ dl Q, dl.length = 1 → g_file_count dl Q → tb_file_count (enF Q) (slots0 4 dl) := by
  rintro dl Q - ⟨ins, rfl, ⟨h1, h2, h3, h4⟩, h⟩
  simp [tb_file_count, h1, h2]
  unfold insD
  simp
  refine loopD_ind (fun r ds => ∃ (done rest : Ins) (a b : SD), done ++ rest = ins ∧ r = rest.map (fun p => PyData.tuple [.str p.1, p.2.d]) ∧ ds = [.val (insD ins), .val (.int (wids done)), a, b]) ?_ ?_ _ _ ⟨[], ins, _, _, rfl, rfl, rfl⟩
  · rintro ds ⟨done, rest, a, b, e, er, rfl⟩
    have : rest = [] := by cases rest with
      | nil => rfl
      | cons _ _ => cases er
    subst this
    rw [List.append_nil] at e
    subst e
    simpa using h
  · rintro d r ds L hL ⟨done, rest, a, b, e, er, rfl⟩
    cases rest with
    | nil => cases er
    | cons p rest =>
      cases er
      have hp := h4 p (by rw [← e]; simp)
      have m : MulOk (wids done) p.2.wid := MulOk.r ⟨by have := hp.1; omega, by have := hp.2; omega⟩
      simp [lb_file_count_1]
      refine at_width_of ?_
      simp [m]
      have ew : wids (done ++ [p]) = wids done * p.2.wid := by rw [wids_app]; simp [wids]
      refine hL _ ⟨done ++ [p], rest, .val (.str p.1), .val p.2.d, by simpa using e, rfl, by rw [ew]⟩
end BK

/-! BK: the file that has a number. -/
namespace BK
open PySem PySem.Spec PyProof.Rows L2 DL
def valK : Knd → D → Prop
  | .truth, d => ∃ b, d = .bool b
  | k, d => ∃ i : Int, d = .int i ∧ k.lo ≤ i ∧ i ≤ k.hi
def fileOk (ins : Ins) (fs : List D) : Prop := Paired (fun p d => valK p.2 d) ins fs
def g_file_at : DF := fun dl P => ∃ (ins : Ins) (n : Int), dl = [insD ins, .int n] ∧ okIns ins ∧ (0 ≤ n ∧ n < wids ins) ∧ ∀ fs, fileOk ins fs → P (.val (.tuple fs))
def lb_file_at_1 : DM := (mSeq (mSet 5 (d2 dMod (dVar 1) (dCall g_width_of (aCons (dVar 4) aNil))))
    (mSeq (mSet 1 (d2 dFdiv (dVar 1) (dCall g_width_of (aCons (dVar 4) aNil))))
    (mApp 2 (dIf (bT (d2 dEq (d2 dIx (dVar 4) (dC (.int 0))) (dC (.str "truth")))) (d2 dEq (dVar 5) (dC (.int 1))) (d2 dAdd (d2 dIx (dCall g_ends_of (aCons (dVar 4) aNil)) (dC (.int 0))) (dVar 5))))))
def tb_file_at : DM := (mSeq (mExpr (dCall g_check_inputs (aCons (dVar 0) aNil)))
    (mSeq (mExpr (dCall g_check_count (aCons (dVar 1) aNil)))
    (mSeq (mSet 2 (dLst aNil))
    (mSeq (mFor (iRevD (dVar 0)) (gTp 2 (gsCons (gNm 3) (gsCons (gNm 4) gsNil))) lb_file_at_1)
    (mRet (dIf (bT (d2 dEq (dVar 1) (dC (.int 0)))) (dTupRev (dVar 2)) (dC .none)))))))
theorem rd_file_at : ∀ dl Q, dl.length = 2 → g_file_at dl Q → tb_file_at (enF Q) (slots0 6 dl) := by
  rintro dl Q - ⟨ins, n, rfl, ⟨h1, h2, h3, h4⟩, ⟨n0, n1⟩, h⟩
  simp [tb_file_at, h1, h2, n0]
  unfold insD
  simp
  refine loopD_ind (fun r ds => ∃ (rest done : Ins) (fs : List D) (m : Int) (a b c : SD), rest ++ done = ins ∧ r = rest.reverse.map (fun p => PyData.tuple [.str p.1, p.2.d]) ∧ fileOk done fs ∧ (0 ≤ m ∧ m < wids rest) ∧ ds = [.val (insD ins), .val (.int m), .own fs.reverse, a, b, c]) ?_ ?_ _ _ ⟨ins, [], [], n, _, _, _, by simp, by simp, .nil, ⟨n0, n1⟩, rfl⟩
  · rintro ds ⟨rest, done, fs, m, a, b, c, e, er, hf, ⟨m0, m1⟩, rfl⟩
    have : rest = [] := by
      cases rest with
      | nil => rfl
      | cons _ _ => simp at er
    subst this
    rw [List.nil_append] at e
    subst e
    have : m = 0 := by
      have : wids [] = 1 := rfl
      omega
    subst this
    simpa using h fs hf
  · rintro d r ds L hL ⟨rest, done, fs, m, a, b, c, e, er, hf, ⟨m0, m1⟩, rfl⟩
    rcases List.eq_nil_or_concat rest with rfl | ⟨rest, p, rfl⟩
    · simp at er
    rw [List.concat_eq_append] at *
    rw [List.reverse_append] at er
    cases er
    have hp := h4 p (by rw [← e]; simp)
    have w0 : 0 < p.2.wid := by have := hp.1; omega
    have f0 := Int.fmod_nonneg_of_pos m w0
    have f1 := Int.fmod_lt_of_pos m w0
    have dv : DivOk p.2.wid := DivOk.of (b := 30) (by omega) (by have := hp.2; omega) (by decide)
    have ew : wids (rest ++ [p]) = wids rest * p.2.wid := by rw [wids_app]; simp [wids]
    rw [ew] at m1
    have q0 : 0 ≤ m.fdiv p.2.wid := Int.fdiv_nonneg m0 (by omega)
    have q1 : m.fdiv p.2.wid < wids rest := by
      rw [Int.fdiv_eq_ediv_of_nonneg _ (by omega)]
      exact Int.ediv_lt_of_lt_mul w0 m1
    have nz : ¬ p.2.wid = 0 := by omega
    have go : ∀ v : D, valK p.2 v → L [.val (insD ins), .val (.int (m.fdiv p.2.wid)), .own (fs.reverse ++ [v]), .val (.str p.1), .val p.2.d, .val (.int (m.fmod p.2.wid))] := fun v hv =>
      hL _ ⟨rest, p :: done, v :: fs, _, _, _, _, by rw [← e]; simp, rfl, .cons hv hf, ⟨q0, q1⟩, by rw [List.reverse_cons]⟩
    have room : fs.length < sizeLine := by
      have l1 : fs.length = done.length := by
        clear h hL e go
        induction hf with
        | nil => rfl
        | cons _ _ ih => simp [ih]
      have l2 : done.length ≤ 6 := by rw [← e] at h3; simp at h3; omega
      have : 6 < sizeLine := by decide +kernel
      omega
    simp [lb_file_at_1]
    refine at_width_of ?_
    simp [nz]
    refine at_width_of ?_
    simp [dv]
    have n2 : ¬ ("pick" : Str) = "truth" := by decide +kernel
    have n3 : ¬ ("int" : Str) = "truth" := by decide +kernel
    obtain ⟨nm, k⟩ := p
    dsimp only at f0 f1 go
    cases k with
    | truth =>
      simpa [Knd.d, room] using go (.bool (decide (m.fmod (Knd.truth).wid = 1))) ⟨_, rfl⟩
    | int lo hi =>
      simp [Knd.d, n3]
      refine at_ends_of (k := .int lo hi) ?_
      have z := go (.int (lo + m.fmod (Knd.int lo hi).wid)) ⟨_, rfl, by show lo ≤ _; omega, by show _ ≤ hi; have : (Knd.int lo hi).wid = hi - lo + 1 := rfl; omega⟩
      simpa [Knd.d, Knd.lo, Knd.hi, room] using z
    | pick ws =>
      simp [Knd.d, n2]
      refine at_ends_of (k := .pick ws) ?_
      have z := go (.int (0 + m.fmod (Knd.pick ws).wid)) ⟨_, rfl, by show (0 : Int) ≤ _; omega, by show _ ≤ (ws.length : Int) - 1; have : (Knd.pick ws).wid = (ws.length : Int) - 1 - 0 + 1 := rfl; omega⟩
      simpa [Knd.d, Knd.lo, Knd.hi, room] using z
end BK

/-! EX: written texts; expressions. -/
namespace EX
open PySem PySem.Spec PyProof.Rows L2 DL BK

/-! ### written texts -/
@[simp] theorem ofStr_inj {a b : String} : (Str.ofString a = Str.ofString b) = (a = b) := by
  refine propext ⟨fun h => ?_, fun h => by rw [h]⟩
  rw [Str.ofString_eq_toList, Str.ofString_eq_toList] at h
  have h1 : a.toList.map Char.toNat = b.toList.map Char.toNat := by
    have := congrArg (fun z : Str => z.cps.toList) h
    simpa using this
  have inj : ∀ {l m : List Char}, l.map Char.toNat = m.map Char.toNat → l = m := by
    intro l
    induction l with
    | nil => intro m h; cases m with
      | nil => rfl
      | cons _ _ => cases h
    | cons c l ih =>
      intro m h
      cases m with
      | nil => cases h
      | cons d m =>
        simp at h
        have e : c = d := Char.toNat_inj.mp h.1
        rw [e, ih (by simpa using h.2)]
  exact String.toList_inj.mp (inj h1)
@[simp] theorem ofStr_beq {a b : String} : ((Str.ofString a) == (Str.ofString b)) = (a == b) := by
  cases h : (a == b) with
  | true => rw [beq_iff_eq] at h; rw [h]; exact beq_self_eq_true _
  | false =>
    have h : ¬ a = b := by intro e; rw [e] at h; simp at h
    exact beq_eq_false_iff_ne.mpr (by rw [Ne, ofStr_inj]; exact h)
abbrev S (s : String) : Str := Str.ofString s

/-! ### expressions -/
inductive Rnd where
  | down
  | up
  | near
def Rnd.s : Rnd → String
  | .down => "down"
  | .up => "up"
  | .near => "near"
inductive Ex where
  | num (n : Int)
  | input (i : Nat)
  | given (k : Nat)
  | add (a b : Ex)
  | take (a b : Ex)
  | times (n : Int) (a : Ex)
  | share (a : Ex) (p q : Int) (w : Rnd)
  | least (a b : Ex)
  | most (a b : Ex)
  | ite (t a b : Ex)
  | yes (i : Nat)
  | told (k : Nat)
  | isw (i x : Nat)
  | less (a b : Ex)
  | same (a b : Ex)
  | not (t : Ex)
  | and (t u : Ex)
  | or (t u : Ex)
def Ex.d : Ex → D
  | .num n => .tuple [.str (S "num"), .int n]
  | .input i => .tuple [.str (S "input"), .int i]
  | .given k => .tuple [.str (S "given"), .int k]
  | .add a b => .tuple [.str (S "add"), a.d, b.d]
  | .take a b => .tuple [.str (S "take"), a.d, b.d]
  | .times n a => .tuple [.str (S "times"), .int n, a.d]
  | .share a p q w => .tuple [.str (S "share"), a.d, .int p, .int q, .str (S w.s)]
  | .least a b => .tuple [.str (S "least"), a.d, b.d]
  | .most a b => .tuple [.str (S "most"), a.d, b.d]
  | .ite t a b => .tuple [.str (S "if"), t.d, a.d, b.d]
  | .yes i => .tuple [.str (S "yes"), .int i]
  | .told k => .tuple [.str (S "told"), .int k]
  | .isw i x => .tuple [.str (S "is"), .int i, .int x]
  | .less a b => .tuple [.str (S "less"), a.d, b.d]
  | .same a b => .tuple [.str (S "same"), a.d, b.d]
  | .not t => .tuple [.str (S "not"), t.d]
  | .and t u => .tuple [.str (S "and"), t.d, u.d]
  | .or t u => .tuple [.str (S "or"), t.d, u.d]
def Ex.kids : Ex → List Ex
  | .add a b => [a, b]
  | .take a b => [a, b]
  | .times _ a => [a]
  | .share a _ _ _ => [a]
  | .least a b => [a, b]
  | .most a b => [a, b]
  | .ite t a b => [t, a, b]
  | .less a b => [a, b]
  | .same a b => [a, b]
  | .not t => [t]
  | .and t u => [t, u]
  | .or t u => [t, u]
  | _ => []
def Ex.deep : Ex → Nat
  | .add a b => max a.deep b.deep + 1
  | .take a b => max a.deep b.deep + 1
  | .times _ a => a.deep + 1
  | .share a _ _ _ => a.deep + 1
  | .least a b => max a.deep b.deep + 1
  | .most a b => max a.deep b.deep + 1
  | .ite t a b => max t.deep (max a.deep b.deep) + 1
  | .less a b => max a.deep b.deep + 1
  | .same a b => max a.deep b.deep + 1
  | .not t => t.deep + 1
  | .and t u => max t.deep u.deep + 1
  | .or t u => max t.deep u.deep + 1
  | _ => 1
def Ex.size : Ex → Nat
  | .add a b => a.size + b.size + 1
  | .take a b => a.size + b.size + 1
  | .times _ a => a.size + 1
  | .share a _ _ _ => a.size + 1
  | .least a b => a.size + b.size + 1
  | .most a b => a.size + b.size + 1
  | .ite t a b => t.size + a.size + b.size + 1
  | .less a b => a.size + b.size + 1
  | .same a b => a.size + b.size + 1
  | .not t => t.size + 1
  | .and t u => t.size + u.size + 1
  | .or t u => t.size + u.size + 1
  | _ => 1
/-- what may stand in a place: true: an amount -/
def Ex.ty (ins : Ins) (ks : List Bool) : Ex → Bool → Prop
  | .num n, s => s = true ∧ -1000000 ≤ n ∧ n ≤ 1000000
  | .input i, s => s = true ∧ ∃ x lo hi, ins[i]? = some (x, .int lo hi)
  | .given k, s => s = true ∧ ks[k]? = some true
  | .add a b, s => s = true ∧ a.ty ins ks true ∧ b.ty ins ks true
  | .take a b, s => s = true ∧ a.ty ins ks true ∧ b.ty ins ks true
  | .times n a, s => s = true ∧ (-1000 ≤ n ∧ n ≤ 1000) ∧ a.ty ins ks true
  | .share a p q _, s => s = true ∧ ((0 ≤ p ∧ p ≤ 1000) ∧ 1 ≤ q ∧ q ≤ 1000) ∧ a.ty ins ks true
  | .least a b, s => s = true ∧ a.ty ins ks true ∧ b.ty ins ks true
  | .most a b, s => s = true ∧ a.ty ins ks true ∧ b.ty ins ks true
  | .ite t a b, s => s = true ∧ t.ty ins ks false ∧ a.ty ins ks true ∧ b.ty ins ks true
  | .yes i, s => s = false ∧ ∃ x, ins[i]? = some (x, .truth)
  | .told k, s => s = false ∧ ks[k]? = some false
  | .isw i x, s => s = false ∧ ∃ y ws, ins[i]? = some (y, .pick ws) ∧ x < ws.length
  | .less a b, s => s = false ∧ a.ty ins ks true ∧ b.ty ins ks true
  | .same a b, s => s = false ∧ a.ty ins ks true ∧ b.ty ins ks true
  | .not t, s => s = false ∧ t.ty ins ks false
  | .and t u, s => s = false ∧ t.ty ins ks false ∧ u.ty ins ks false
  | .or t u, s => s = false ∧ t.ty ins ks false ∧ u.ty ins ks false
theorem Ex.deep_pos (e : Ex) : 1 ≤ e.deep := by cases e <;> simp [Ex.deep]
theorem Ex.size_pos (e : Ex) : 1 ≤ e.size := by cases e <;> simp [Ex.size]
theorem strOk_S (s : String) : PyData.canLay0 (.str (S s)) = true := by
  have e : (S s).cps = (s.toList.map Char.toNat).toArray := by show (Str.ofString s).cps = _; rw [Str.ofString_eq_toList]
  simp only [PyData.canLay0, PyData.strOk, e]
  simp
  intro c _
  have := c.valid
  have h : c.toNat < 1114112 := by
    have h2 : c.val.toNat.isValidChar := this
    rcases h2 with h2 | h2
    · exact Nat.lt_trans h2 (by decide)
    · exact h2.2
  exact h
theorem Shp.strS {n : Nat} (s : String) : Shp (n + 1) (.str (S s)) := ⟨strOk_S s, by simp [PyData.depth]⟩
theorem shpT {n : Nat} {xs : List D} (h : ∀ x ∈ xs, Shp n x) : Shp (n + 1) (.tuple xs) := Shp.tuple h
theorem Ex.shp : ∀ e : Ex, Shp (e.deep + 1) e.d
  | .num n => shpT fun x h => by simp [Ex.d] at h; rcases h with rfl | rfl; exact Shp.strS _; exact Shp.int
  | .input n => shpT fun x h => by simp at h; rcases h with rfl | rfl; exact Shp.strS _; exact Shp.int
  | .given n => shpT fun x h => by simp at h; rcases h with rfl | rfl; exact Shp.strS _; exact Shp.int
  | .yes n => shpT fun x h => by simp at h; rcases h with rfl | rfl; exact Shp.strS _; exact Shp.int
  | .told n => shpT fun x h => by simp at h; rcases h with rfl | rfl; exact Shp.strS _; exact Shp.int
  | .isw n m => shpT fun x h => by simp at h; rcases h with rfl | rfl | rfl; exact Shp.strS _; exact Shp.int; exact Shp.int
  | .add a b => shpT fun x h => by simp at h; rcases h with rfl | rfl | rfl; exact Shp.strS _; exact a.shp.mono (by simp only [Ex.deep]; omega); exact b.shp.mono (by simp only [Ex.deep]; omega)
  | .take a b => shpT fun x h => by simp at h; rcases h with rfl | rfl | rfl; exact Shp.strS _; exact a.shp.mono (by simp only [Ex.deep]; omega); exact b.shp.mono (by simp only [Ex.deep]; omega)
  | .least a b => shpT fun x h => by simp at h; rcases h with rfl | rfl | rfl; exact Shp.strS _; exact a.shp.mono (by simp only [Ex.deep]; omega); exact b.shp.mono (by simp only [Ex.deep]; omega)
  | .most a b => shpT fun x h => by simp at h; rcases h with rfl | rfl | rfl; exact Shp.strS _; exact a.shp.mono (by simp only [Ex.deep]; omega); exact b.shp.mono (by simp only [Ex.deep]; omega)
  | .less a b => shpT fun x h => by simp at h; rcases h with rfl | rfl | rfl; exact Shp.strS _; exact a.shp.mono (by simp only [Ex.deep]; omega); exact b.shp.mono (by simp only [Ex.deep]; omega)
  | .same a b => shpT fun x h => by simp at h; rcases h with rfl | rfl | rfl; exact Shp.strS _; exact a.shp.mono (by simp only [Ex.deep]; omega); exact b.shp.mono (by simp only [Ex.deep]; omega)
  | .and a b => shpT fun x h => by simp at h; rcases h with rfl | rfl | rfl; exact Shp.strS _; exact a.shp.mono (by simp only [Ex.deep]; omega); exact b.shp.mono (by simp only [Ex.deep]; omega)
  | .or a b => shpT fun x h => by simp at h; rcases h with rfl | rfl | rfl; exact Shp.strS _; exact a.shp.mono (by simp only [Ex.deep]; omega); exact b.shp.mono (by simp only [Ex.deep]; omega)
  | .ite t a b => shpT fun x h => by simp at h; rcases h with rfl | rfl | rfl | rfl; exact Shp.strS _; exact t.shp.mono (by simp only [Ex.deep]; omega); exact a.shp.mono (by simp only [Ex.deep]; omega); exact b.shp.mono (by simp only [Ex.deep]; omega)
  | .not t => shpT fun x h => by simp at h; rcases h with rfl | rfl; exact Shp.strS _; exact t.shp
  | .times n a => shpT fun x h => by simp at h; rcases h with rfl | rfl | rfl; exact Shp.strS _; exact Shp.int; exact a.shp
  | .share a p q w => shpT fun x h => by simp at h; rcases h with rfl | rfl | rfl | rfl | rfl; exact Shp.strS _; exact a.shp; exact Shp.int; exact Shp.int; exact Shp.strS _
/-! ### worths -/
inductive Rs where
  | is (d : D)
  | hangs (k : Nat)
def Rs.d : Rs → D
  | .is d => .tuple [.str (S "is"), d]
  | .hangs k => .tuple [.str (S "hangs"), .int k]
@[simp] def Rs.bind : Rs → (D → Rs) → Rs
  | .is d, f => f d
  | .hangs k, _ => .hangs k
def divd (t b : Int) : Rnd → Int
  | .down => t.fdiv b
  | .up => -((-t).fdiv b)
  | .near => (2 * t + b).fdiv (2 * b)
@[simp] def toI : D → Int
  | .int i => i
  | _ => 0
@[simp] def toB : D → Bool
  | .bool b => b
  | _ => false
def lookG (gi : List D) (k : Nat) : Rs := match gi[k]? with
  | some .none => .hangs k
  | some d => .is d
  | none => .hangs k
def Ex.ev (fi gi : List D) : Ex → Rs
  | .num n => .is (.int n)
  | .input i => .is ((fi[i]?).getD .none)
  | .given k => lookG gi k
  | .add a b => (a.ev fi gi).bind fun x => (b.ev fi gi).bind fun y => .is (.int (toI x + toI y))
  | .take a b => (a.ev fi gi).bind fun x => (b.ev fi gi).bind fun y => .is (.int (toI x - toI y))
  | .times n a => (a.ev fi gi).bind fun x => .is (.int (n * toI x))
  | .share a p q w => (a.ev fi gi).bind fun x => .is (.int (divd (toI x * p) q w))
  | .least a b => (a.ev fi gi).bind fun x => (b.ev fi gi).bind fun y => .is (.int (min (toI x) (toI y)))
  | .most a b => (a.ev fi gi).bind fun x => (b.ev fi gi).bind fun y => .is (.int (max (toI x) (toI y)))
  | .ite t a b => (t.ev fi gi).bind fun c => if toB c then a.ev fi gi else b.ev fi gi
  | .yes i => .is ((fi[i]?).getD .none)
  | .told k => lookG gi k
  | .isw i x => .is (.bool (decide (toI ((fi[i]?).getD .none) = x)))
  | .less a b => (a.ev fi gi).bind fun x => (b.ev fi gi).bind fun y => .is (.bool (decide (toI x < toI y)))
  | .same a b => (a.ev fi gi).bind fun x => (b.ev fi gi).bind fun y => .is (.bool (decide (toI x = toI y)))
  | .not t => (t.ev fi gi).bind fun x => .is (.bool (!toB x))
  | .and t u => (t.ev fi gi).bind fun x => if toB x then u.ev fi gi else .is (.bool false)
  | .or t u => (t.ev fi gi).bind fun x => if toB x then .is (.bool true) else u.ev fi gi
def tyD : Bool → D → Prop
  | true, d => ∃ i, d = .int i
  | false, d => ∃ b, d = .bool b
/-- the worths of the elder definitions -/
def eldOk (ks : List Bool) (gi : List D) : Prop := Paired (fun s d => d = .none ∨ tyD s d) ks gi
def rsOk (ks : List Bool) (gi : List D) (s : Bool) : Rs → Prop
  | .is d => tyD s d
  | .hangs k => k < ks.length ∧ gi[k]? = some .none
theorem paired_at {α β : Type} {F : α → β → Prop} : ∀ {l₁ : List α} {l₂ : List β} {i : Nat} {a : α}, Paired F l₁ l₂ → l₁[i]? = some a → ∃ b, l₂[i]? = some b ∧ F a b
  | _, _, _, _, .nil, e => by simp at e
  | _, _, 0, _, .cons h1 h2, e => by simp at e; subst e; exact ⟨_, rfl, h1⟩
  | _, _, i + 1, _, .cons h1 h2, e => by
    obtain ⟨a, q1, q2⟩ := paired_at (i := i) h2 (by simpa using e)
    exact ⟨a, by simpa using q1, q2⟩
theorem look_ok {ks : List Bool} {gi : List D} {k : Nat} {s : Bool} (h : eldOk ks gi) (e : ks[k]? = some s) : rsOk ks gi s (lookG gi k) := by
  obtain ⟨d, hd, o⟩ := paired_at h e
  have hk : k < ks.length := (List.getElem?_eq_some_iff.mp e).1
  unfold lookG
  rw [hd]
  rcases o with rfl | o
  · exact ⟨hk, hd⟩
  · cases s <;> obtain ⟨v, rfl⟩ := o
    · exact ⟨v, rfl⟩
    · exact ⟨v, rfl⟩
theorem bind_ok {ks : List Bool} {gi : List D} {s s' : Bool} {r : Rs} {f : D → Rs} (h : rsOk ks gi s r) (k : ∀ d, tyD s d → rsOk ks gi s' (f d)) : rsOk ks gi s' (r.bind f) := by
  cases r with
  | is d => exact k d h
  | hangs j => exact h
theorem Ex.ev_ok {ins : Ins} {ks : List Bool} {fi gi : List D} (hf : fileOk ins fi) (hg : eldOk ks gi) : ∀ (e : Ex) (s : Bool), e.ty ins ks s → rsOk ks gi s (e.ev fi gi)
  | .num n, s, h => by obtain ⟨rfl, _⟩ := h; exact ⟨_, rfl⟩
  | .input i, s, h => by
    obtain ⟨rfl, x, lo, hi, e⟩ := h
    obtain ⟨d, hd, v, rfl, _⟩ := paired_at hf e
    exact ⟨v, by rw [hd]; rfl⟩
  | .given k, s, h => by obtain ⟨rfl, e⟩ := h; exact look_ok hg e
  | .yes i, s, h => by
    obtain ⟨rfl, x, e⟩ := h
    obtain ⟨d, hd, v, rfl⟩ := paired_at hf e
    exact ⟨v, by rw [hd]; rfl⟩
  | .told k, s, h => by obtain ⟨rfl, e⟩ := h; exact look_ok hg e
  | .isw i x, s, h => by obtain ⟨rfl, _⟩ := h; exact ⟨_, rfl⟩
  | .add a b, s, h => by obtain ⟨rfl, h1, h2⟩ := h; exact bind_ok (ev_ok hf hg a true h1) fun x _ => bind_ok (ev_ok hf hg b true h2) fun y _ => ⟨_, rfl⟩
  | .take a b, s, h => by obtain ⟨rfl, h1, h2⟩ := h; exact bind_ok (ev_ok hf hg a true h1) fun x _ => bind_ok (ev_ok hf hg b true h2) fun y _ => ⟨_, rfl⟩
  | .times n a, s, h => by obtain ⟨rfl, _, h1⟩ := h; exact bind_ok (ev_ok hf hg a true h1) fun x _ => ⟨_, rfl⟩
  | .share a p q w, s, h => by obtain ⟨rfl, _, h1⟩ := h; exact bind_ok (ev_ok hf hg a true h1) fun x _ => ⟨_, rfl⟩
  | .least a b, s, h => by obtain ⟨rfl, h1, h2⟩ := h; exact bind_ok (ev_ok hf hg a true h1) fun x _ => bind_ok (ev_ok hf hg b true h2) fun y _ => ⟨_, rfl⟩
  | .most a b, s, h => by obtain ⟨rfl, h1, h2⟩ := h; exact bind_ok (ev_ok hf hg a true h1) fun x _ => bind_ok (ev_ok hf hg b true h2) fun y _ => ⟨_, rfl⟩
  | .ite t a b, s, h => by
    obtain ⟨rfl, h0, h1, h2⟩ := h
    refine bind_ok (ev_ok hf hg t false h0) fun x _ => ?_
    by_cases c : toB x = true
    · rw [if_pos c]; exact ev_ok hf hg a true h1
    · rw [if_neg c]; exact ev_ok hf hg b true h2
  | .less a b, s, h => by obtain ⟨rfl, h1, h2⟩ := h; exact bind_ok (ev_ok hf hg a true h1) fun x _ => bind_ok (ev_ok hf hg b true h2) fun y _ => ⟨_, rfl⟩
  | .same a b, s, h => by obtain ⟨rfl, h1, h2⟩ := h; exact bind_ok (ev_ok hf hg a true h1) fun x _ => bind_ok (ev_ok hf hg b true h2) fun y _ => ⟨_, rfl⟩
  | .not t, s, h => by obtain ⟨rfl, h1⟩ := h; exact bind_ok (ev_ok hf hg t false h1) fun x _ => ⟨_, rfl⟩
  | .and t u, s, h => by
    obtain ⟨rfl, h1, h2⟩ := h
    refine bind_ok (ev_ok hf hg t false h1) fun x _ => ?_
    by_cases c : toB x = true
    · rw [if_pos c]; exact ev_ok hf hg u false h2
    · rw [if_neg c]; exact ⟨_, rfl⟩
  | .or t u, s, h => by
    obtain ⟨rfl, h1, h2⟩ := h
    refine bind_ok (ev_ok hf hg t false h1) fun x _ => ?_
    by_cases c : toB x = true
    · rw [if_pos c]; exact ⟨_, rfl⟩
    · rw [if_neg c]; exact ev_ok hf hg u false h2
end EX

/-! EX: the parts of an expression. -/
namespace EX
open PySem PySem.Spec PyProof.Rows L2 DL BK

def cst_MOST_WORDS : D := .int (6)
def cst_GREATEST_values : D := .int (1000000)
def cst_MOST_INPUTS : D := .int (6)
def cst_BOUNDS : List (Str × D) := [("n", .tuple [(.int (-1000000)), (.int (1000000))]), ("m", .tuple [(.int (-1000)), (.int (1000))]), ("p", .tuple [(.int (0)), (.int (1000))]), ("q", .tuple [(.int (1)), (.int (1000))])]
def cst_ROUNDINGS : D := .tuple [(.str "down"), (.str "up"), (.str "near")]
def cst_ELDER_KINDS : List (Str × D) := [("g", .str "int"), ("o", .str "truth")]
def cst_INPUT_KINDS : List (Str × D) := [("i", .str "int"), ("y", .str "truth"), ("k", .str "pick")]
def cst_FORMS : List (Str × D) := [("num", .str "n"), ("input", .str "i"), ("given", .str "g"), ("add", .str "aa"), ("take", .str "aa"), ("times", .str "ma"), ("share", .str "apqw"), ("least", .str "aa"), ("most", .str "aa"), ("if", .str "taa"), ("yes", .str "y"), ("told", .str "o"), ("is", .str "kx"), ("less", .str "aa"), ("same", .str "aa"), ("not", .str "t"), ("and", .str "tt"), ("or", .str "tt")]
def cst_AMOUNTS : D := .tuple [(.str "num"), (.str "input"), (.str "given"), (.str "add"), (.str "take"), (.str "times"), (.str "share"), (.str "least"), (.str "most"), (.str "if")]
def cst_MOST_DEEP_expressions : D := .int (12)
def cst_MOST_TUPLES : D := .int (60)
def cst_RESULT : D := .int (6)
def cst_CONDITION : D := .int (5)
def cst_MOST_EXCEPTIONS : D := .int (5)
def cst_MOST_DEEP_books : D := .int (12)
def cst_MOST_RULES : D := .int (40)
def cst_MOST_BESIDE : D := .int (6)
def cst_SORTS : D := .tuple [(.str "int"), (.str "truth")]
def cst_MOST_DEFINITIONS : D := .int (8)
@[simp] theorem in_at_a {Q : Hd → Prop} : dIn false (.str (Str.ofString "a")) (.str (Str.ofString "at")) Q = Q (.tmp (.bool true)) := by
  have h1 : (Str.ofString "a").cps.size = 1 := by decide +kernel
  have h2 : decide ((Str.ofString "a").cps.getD 0 0 ∈ (Str.ofString "at").cps.toList) = true := by decide +kernel
  simp only [dIn, h1, h2, true_and]; rfl
@[simp] theorem in_at_t {Q : Hd → Prop} : dIn false (.str (Str.ofString "t")) (.str (Str.ofString "at")) Q = Q (.tmp (.bool true)) := by
  have h1 : (Str.ofString "t").cps.size = 1 := by decide +kernel
  have h2 : decide ((Str.ofString "t").cps.getD 0 0 ∈ (Str.ofString "at").cps.toList) = true := by decide +kernel
  simp only [dIn, h1, h2, true_and]; rfl
@[simp] theorem in_at_n {Q : Hd → Prop} : dIn false (.str (Str.ofString "n")) (.str (Str.ofString "at")) Q = Q (.tmp (.bool false)) := by
  have h1 : (Str.ofString "n").cps.size = 1 := by decide +kernel
  have h2 : decide ((Str.ofString "n").cps.getD 0 0 ∈ (Str.ofString "at").cps.toList) = false := by decide +kernel
  simp only [dIn, h1, h2, true_and]; rfl
@[simp] theorem in_at_m {Q : Hd → Prop} : dIn false (.str (Str.ofString "m")) (.str (Str.ofString "at")) Q = Q (.tmp (.bool false)) := by
  have h1 : (Str.ofString "m").cps.size = 1 := by decide +kernel
  have h2 : decide ((Str.ofString "m").cps.getD 0 0 ∈ (Str.ofString "at").cps.toList) = false := by decide +kernel
  simp only [dIn, h1, h2, true_and]; rfl
@[simp] theorem in_at_i {Q : Hd → Prop} : dIn false (.str (Str.ofString "i")) (.str (Str.ofString "at")) Q = Q (.tmp (.bool false)) := by
  have h1 : (Str.ofString "i").cps.size = 1 := by decide +kernel
  have h2 : decide ((Str.ofString "i").cps.getD 0 0 ∈ (Str.ofString "at").cps.toList) = false := by decide +kernel
  simp only [dIn, h1, h2, true_and]; rfl
@[simp] theorem in_at_g {Q : Hd → Prop} : dIn false (.str (Str.ofString "g")) (.str (Str.ofString "at")) Q = Q (.tmp (.bool false)) := by
  have h1 : (Str.ofString "g").cps.size = 1 := by decide +kernel
  have h2 : decide ((Str.ofString "g").cps.getD 0 0 ∈ (Str.ofString "at").cps.toList) = false := by decide +kernel
  simp only [dIn, h1, h2, true_and]; rfl
@[simp] theorem in_at_p {Q : Hd → Prop} : dIn false (.str (Str.ofString "p")) (.str (Str.ofString "at")) Q = Q (.tmp (.bool false)) := by
  have h1 : (Str.ofString "p").cps.size = 1 := by decide +kernel
  have h2 : decide ((Str.ofString "p").cps.getD 0 0 ∈ (Str.ofString "at").cps.toList) = false := by decide +kernel
  simp only [dIn, h1, h2, true_and]; rfl
@[simp] theorem in_at_q {Q : Hd → Prop} : dIn false (.str (Str.ofString "q")) (.str (Str.ofString "at")) Q = Q (.tmp (.bool false)) := by
  have h1 : (Str.ofString "q").cps.size = 1 := by decide +kernel
  have h2 : decide ((Str.ofString "q").cps.getD 0 0 ∈ (Str.ofString "at").cps.toList) = false := by decide +kernel
  simp only [dIn, h1, h2, true_and]; rfl
@[simp] theorem in_at_w {Q : Hd → Prop} : dIn false (.str (Str.ofString "w")) (.str (Str.ofString "at")) Q = Q (.tmp (.bool false)) := by
  have h1 : (Str.ofString "w").cps.size = 1 := by decide +kernel
  have h2 : decide ((Str.ofString "w").cps.getD 0 0 ∈ (Str.ofString "at").cps.toList) = false := by decide +kernel
  simp only [dIn, h1, h2, true_and]; rfl
@[simp] theorem in_at_y {Q : Hd → Prop} : dIn false (.str (Str.ofString "y")) (.str (Str.ofString "at")) Q = Q (.tmp (.bool false)) := by
  have h1 : (Str.ofString "y").cps.size = 1 := by decide +kernel
  have h2 : decide ((Str.ofString "y").cps.getD 0 0 ∈ (Str.ofString "at").cps.toList) = false := by decide +kernel
  simp only [dIn, h1, h2, true_and]; rfl
@[simp] theorem in_at_o {Q : Hd → Prop} : dIn false (.str (Str.ofString "o")) (.str (Str.ofString "at")) Q = Q (.tmp (.bool false)) := by
  have h1 : (Str.ofString "o").cps.size = 1 := by decide +kernel
  have h2 : decide ((Str.ofString "o").cps.getD 0 0 ∈ (Str.ofString "at").cps.toList) = false := by decide +kernel
  simp only [dIn, h1, h2, true_and]; rfl
@[simp] theorem in_at_k {Q : Hd → Prop} : dIn false (.str (Str.ofString "k")) (.str (Str.ofString "at")) Q = Q (.tmp (.bool false)) := by
  have h1 : (Str.ofString "k").cps.size = 1 := by decide +kernel
  have h2 : decide ((Str.ofString "k").cps.getD 0 0 ∈ (Str.ofString "at").cps.toList) = false := by decide +kernel
  simp only [dIn, h1, h2, true_and]; rfl
@[simp] theorem in_at_x {Q : Hd → Prop} : dIn false (.str (Str.ofString "x")) (.str (Str.ofString "at")) Q = Q (.tmp (.bool false)) := by
  have h1 : (Str.ofString "x").cps.size = 1 := by decide +kernel
  have h2 : decide ((Str.ofString "x").cps.getD 0 0 ∈ (Str.ofString "at").cps.toList) = false := by decide +kernel
  simp only [dIn, h1, h2, true_and]; rfl
theorem items_aa : strItems (Str.ofString "aa") = [.str (Str.ofString "a"), .str (Str.ofString "a")] := by unfold strItems; rw [Str.ofString_eq_toList]; rfl
theorem items_apqw : strItems (Str.ofString "apqw") = [.str (Str.ofString "a"), .str (Str.ofString "p"), .str (Str.ofString "q"), .str (Str.ofString "w")] := by unfold strItems; rw [Str.ofString_eq_toList]; rfl
theorem items_g : strItems (Str.ofString "g") = [.str (Str.ofString "g")] := by unfold strItems; rw [Str.ofString_eq_toList]; rfl
theorem items_i : strItems (Str.ofString "i") = [.str (Str.ofString "i")] := by unfold strItems; rw [Str.ofString_eq_toList]; rfl
theorem items_kx : strItems (Str.ofString "kx") = [.str (Str.ofString "k"), .str (Str.ofString "x")] := by unfold strItems; rw [Str.ofString_eq_toList]; rfl
theorem items_ma : strItems (Str.ofString "ma") = [.str (Str.ofString "m"), .str (Str.ofString "a")] := by unfold strItems; rw [Str.ofString_eq_toList]; rfl
theorem items_n : strItems (Str.ofString "n") = [.str (Str.ofString "n")] := by unfold strItems; rw [Str.ofString_eq_toList]; rfl
theorem items_o : strItems (Str.ofString "o") = [.str (Str.ofString "o")] := by unfold strItems; rw [Str.ofString_eq_toList]; rfl
theorem items_t : strItems (Str.ofString "t") = [.str (Str.ofString "t")] := by unfold strItems; rw [Str.ofString_eq_toList]; rfl
theorem items_taa : strItems (Str.ofString "taa") = [.str (Str.ofString "t"), .str (Str.ofString "a"), .str (Str.ofString "a")] := by unfold strItems; rw [Str.ofString_eq_toList]; rfl
theorem items_tt : strItems (Str.ofString "tt") = [.str (Str.ofString "t"), .str (Str.ofString "t")] := by unfold strItems; rw [Str.ofString_eq_toList]; rfl
theorem items_y : strItems (Str.ofString "y") = [.str (Str.ofString "y")] := by unfold strItems; rw [Str.ofString_eq_toList]; rfl
def Ex.w : Ex → String
  | .num _ => "num"
  | .input _ => "input"
  | .given _ => "given"
  | .add _ _ => "add"
  | .take _ _ => "take"
  | .times _ _ => "times"
  | .share _ _ _ _ => "share"
  | .least _ _ => "least"
  | .most _ _ => "most"
  | .ite _ _ _ => "if"
  | .yes _ => "yes"
  | .told _ => "told"
  | .isw _ _ => "is"
  | .less _ _ => "less"
  | .same _ _ => "same"
  | .not _ => "not"
  | .and _ _ => "and"
  | .or _ _ => "or"
def Ex.args : Ex → List (String × D)
  | .num n => [("n", .int n)]
  | .input i => [("i", .int i)]
  | .given k => [("g", .int k)]
  | .add a b => [("a", a.d), ("a", b.d)]
  | .take a b => [("a", a.d), ("a", b.d)]
  | .times n a => [("m", .int n), ("a", a.d)]
  | .share a p q w => [("a", a.d), ("p", .int p), ("q", .int q), ("w", .str (S w.s))]
  | .least a b => [("a", a.d), ("a", b.d)]
  | .most a b => [("a", a.d), ("a", b.d)]
  | .ite t a b => [("t", t.d), ("a", a.d), ("a", b.d)]
  | .yes i => [("y", .int i)]
  | .told k => [("o", .int k)]
  | .isw i x => [("k", .int i), ("x", .int x)]
  | .less a b => [("a", a.d), ("a", b.d)]
  | .same a b => [("a", a.d), ("a", b.d)]
  | .not t => [("t", t.d)]
  | .and t u => [("t", t.d), ("t", u.d)]
  | .or t u => [("t", t.d), ("t", u.d)]
def Ex.pairs (e : Ex) : List D := e.args.map fun p => .tuple [.str (S p.1), p.2]
theorem Ex.d_eq (e : Ex) : e.d = .tuple (.str (S e.w) :: e.args.map (·.2)) := by cases e <;> rfl
def formOf (e : Ex) : Str := match cst_FORMS.lookup (S e.w) with
  | some (.str z) => z
  | _ => Str.empty
theorem form_look (e : Ex) : cst_FORMS.lookup (S e.w) = some (.str (formOf e)) ∧ zipD (strItems (formOf e)) (e.args.map (·.2)) = e.pairs := by
  cases e <;> (refine ⟨?_, ?_⟩) <;> simp [Ex.w, cst_FORMS, formOf, List.lookup, zipD, Ex.args, Ex.pairs, S, items_aa, items_apqw, items_g, items_i, items_kx, items_ma, items_n, items_o, items_t, items_taa, items_tt, items_y]
theorem cut1 (x : D) (xs : List D) : DL.cutD (x :: xs) (some 1) none = xs := by
  unfold DL.cutD
  have h1 : HT.sIx (x :: xs).length 0 (some 1) = 1 := by
    simp [HT.sIx]
    try omega
  have h2 : HT.sIx (x :: xs).length (x :: xs).length none = (x :: xs).length := by simp [HT.sIx]
  rw [h1, h2]
  simp
/-- zip(FORMS[e[0]], e[1:]) -/
theorem it_form {i : Nat} {e : Ex} {ds : DS} {Q : List D → DS → Prop} (h : ds[i]? = some (.val e.d)) (q : Q e.pairs ds) :
    iZg (dKix cst_FORMS (d2 dIx (dVar i) (dC (.int 0)))) (dSl (dVar i) (pSome (dC (.int 1))) pNone) ds Q := by
  obtain ⟨h1, h2⟩ := form_look e
  rw [Ex.d_eq] at h
  simp [h, h1, cut1, h2, atI_nat (j := 0)]
  exact q
end EX

/-! EX: worths of expressions. -/
namespace EX
open PySem PySem.Spec PyProof.Rows L2 DL BK
theorem le_line {n : Nat} (h : n ≤ 1000) : n ≤ sizeLine := by rw [sizeLine_eq]; omega
@[simp high] theorem eq_S {a b : String} {Q : Hd → Prop} : dEqB false (.str (Str.ofString a)) (.str (Str.ofString b)) Q = Q (.tmp (.bool (a == b))) := by
  have : decide (Str.ofString a = Str.ofString b) = (a == b) := by
    rw [← ofStr_beq]
    cases h : (Str.ofString a == Str.ofString b) with
    | true => exact decide_eq_true (beq_iff_eq.mp h)
    | false => exact decide_eq_false (beq_eq_false_iff_ne.mp h)
  show Q (.tmp (.bool (if false then _ else decide (Str.ofString a = Str.ofString b)))) = _
  rw [this]; rfl
@[simp high] theorem ne_S {a b : String} {Q : Hd → Prop} : dEqB true (.str (Str.ofString a)) (.str (Str.ofString b)) Q = Q (.tmp (.bool (!(a == b)))) := by
  have : decide (Str.ofString a = Str.ofString b) = (a == b) := by
    rw [← ofStr_beq]
    cases h : (Str.ofString a == Str.ofString b) with
    | true => exact decide_eq_true (beq_iff_eq.mp h)
    | false => exact decide_eq_false (beq_eq_false_iff_ne.mp h)
  show Q (.tmp (.bool (if true then !decide (Str.ofString a = Str.ofString b) else _))) = _
  rw [this]; rfl
/-! statements, one behind the other -/
theorem seq1 {a b : DM} {E : En} {ds : DS} (ds1 : DS) (h1 : ∀ k : DS → Prop, k ds1 → a { E with nx := k } ds) (h2 : b E ds1) : mSeq a b E ds := h1 _ h2
theorem seq_no {c : DTT} {t b : DM} {E : En} {ds : DS} (h1 : EvB c ds false) (h2 : b E ds) : mSeq (mIf c t mNil) b E ds := h1 _ (by rw [if_neg Bool.false_ne_true]; exact h2)
theorem seq_yes {c : DTT} {t b u : DM} {E : En} {ds : DS} (h1 : EvB c ds true) (h2 : t { E with nx := b E } ds) : mSeq (mIf c t u) b E ds := h1 _ (by rw [if_pos rfl]; exact h2)
theorem if_no {c : DTT} {t u : DM} {E : En} {ds : DS} (h1 : EvB c ds false) (h2 : u E ds) : mIf c t u E ds := h1 _ (by rw [if_neg Bool.false_ne_true]; exact h2)
theorem if_yes {c : DTT} {t u : DM} {E : En} {ds : DS} (h1 : EvB c ds true) (h2 : t E ds) : mIf c t u E ds := h1 _ (by rw [if_pos rfl]; exact h2)
theorem ret_is {t : DT} {E : En} {ds : DS} {d : D} (h : EvT t ds d) (k : ∀ h, HdIs ds h d → E.rt h ds) : mRet t E ds := h _ k
/-! kids_of -/
def g_kids_of : DF := fun dl P => ∃ e : Ex, dl = [e.d] ∧ P (.own (e.kids.map Ex.d))
def cc_kids_of_1 : DTT := (bT (d2 (dIn false) (dVar 1) (dC (.str "at"))))
def ce_kids_of_1 : DT := (dVar 2)
def tb_kids_of : DM := (mRet (dComp (iZg (dKix cst_FORMS (d2 dIx (dVar 0) (dC (.int 0)))) (dSl (dVar 0) (pSome (dC (.int 1))) pNone)) (gTp 2 (gsCons (gNm 1) (gsCons (gNm 2) gsNil))) cc_kids_of_1 ce_kids_of_1 [1, 2]))
theorem rd_kids_of : ∀ dl Q, dl.length = 1 → g_kids_of dl Q → tb_kids_of (enF Q) (slots0 3 dl) := by
  rintro dl Q - ⟨e, rfl, h⟩
  unfold tb_kids_of
  simp only [mRet, dComp]
  refine it_form (i := 0) (e := e) (ds := slots0 3 [e.d]) rfl ⟨le_line (by cases e <;> simp [Ex.pairs, Ex.args]), ?_⟩
  cases e <;> simpa [Ex.pairs, Ex.args, compD, cc_kids_of_1, ce_kids_of_1, S, Ex.kids] using h
/-! divided -/
def g_divided : DF := fun dl P => ∃ (t b : Int) (w : Rnd), dl = [.int t, .int b, .str (S w.s)] ∧ 1 ≤ b ∧ b ≤ 1000 ∧ P (.val (.int (divd t b w)))
def tb_divided : DM := (mSeq (mIf (bT (d2 dEq (dVar 2) (dC (.str "down")))) (mRet (d2 dFdiv (dVar 0) (dVar 1))) mNil)
    (mRet (dIf (bT (d2 dEq (dVar 2) (dC (.str "up")))) (d1 dNeg (d2 dFdiv (d1 dNeg (dVar 0)) (dVar 1))) (d2 dFdiv (d2 dAdd (d2 dMulA (dC (.int 2)) (dVar 0)) (dVar 1)) (d2 dMulA (dC (.int 2)) (dVar 1))))))
theorem rd_divided : ∀ dl Q, dl.length = 3 → g_divided dl Q → tb_divided (enF Q) (slots0 3 dl) := by
  rintro dl Q - ⟨t, b, w, rfl, h1, h2, h⟩
  have d1 : DivOk b := DivOk.of (b := 30) (by omega) (by omega) (by decide)
  have d2 : DivOk (2 * b) := DivOk.of (b := 30) (by omega) (by omega) (by decide)
  have m1 : MulOk 2 t := MulOk.l ⟨by decide, by decide⟩
  have m2 : MulOk 2 b := MulOk.l ⟨by decide, by decide⟩
  cases w <;> simpa [tb_divided, Rnd.s, S, d1, d2, m1, m2, divd] using h
/-! of_two -/
inductive Two : String → D → D → D → Prop
  | and (x y : D) : Two "and" x y y
  | or (x y : D) : Two "or" x y y
  | less (i j : Int) : Two "less" (.int i) (.int j) (.bool (decide (i < j)))
  | same (i j : Int) : Two "same" (.int i) (.int j) (.bool (decide (i = j)))
  | add (i j : Int) : Two "add" (.int i) (.int j) (.int (i + j))
  | take (i j : Int) : Two "take" (.int i) (.int j) (.int (i - j))
  | least (i j : Int) : Two "least" (.int i) (.int j) (.int (min i j))
  | most (i j : Int) : Two "most" (.int i) (.int j) (.int (max i j))
def g_of_two : DF := fun dl P => ∃ w x y r, dl = [.str (S w), x, y] ∧ Two w x y r ∧ P (.val r)
def tb_of_two : DM := (mSeq (mIf (bT (d2 (dIn false) (dVar 0) (dTup (aCons (dC (.str "and")) (aCons (dC (.str "or")) aNil))))) (mRet (dVar 2)) mNil)
    (mSeq (mIf (bOr (bT (d2 dEq (dVar 0) (dC (.str "less")))) (bT (d2 dEq (dVar 0) (dC (.str "same"))))) (mRet (dIf (bT (d2 dEq (dVar 0) (dC (.str "less")))) (d2 dLt (dVar 1) (dVar 2)) (d2 dEq (dVar 1) (dVar 2)))) mNil)
    (mSeq (mIf (bOr (bT (d2 dEq (dVar 0) (dC (.str "add")))) (bT (d2 dEq (dVar 0) (dC (.str "take"))))) (mRet (dIf (bT (d2 dEq (dVar 0) (dC (.str "add")))) (d2 dAdd (dVar 1) (dVar 2)) (d2 dSub (dVar 1) (dVar 2)))) mNil)
    (mRet (dIf (bT (d2 dEq (dVar 0) (dC (.str "least")))) (dB bMin (aCons (dVar 1) (aCons (dVar 2) aNil))) (dB bMax (aCons (dVar 1) (aCons (dVar 2) aNil))))))))
theorem in_two {a b w : String} {Q : Hd → Prop} : dIn false (.str (S w)) (.tuple [.str (S a), .str (S b)]) Q = Q (.tmp (.bool (decide (a = w) || decide (b = w)))) := by
  simp [dIn, flatD, inD, PyData.eqv, S]
  rfl
theorem rd_of_two : ∀ dl Q, dl.length = 3 → g_of_two dl Q → tb_of_two (enF Q) (slots0 3 dl) := by
  rintro dl Q - ⟨w, x, y, r, rfl, ht, h⟩
  unfold tb_of_two
  cases ht with
  | and x y => exact seq_yes (fun Q q => by simpa [in_two] using q) (by simpa using h)
  | or x y => exact seq_yes (fun Q q => by simpa [in_two] using q) (by simpa using h)
  | less i j => exact seq_no (fun Q q => by simpa [in_two] using q) (seq_yes (fun Q q => by simpa using q) (by simpa using h))
  | same i j => exact seq_no (fun Q q => by simpa [in_two] using q) (seq_yes (fun Q q => by simpa using q) (by simpa using h))
  | add i j => exact seq_no (fun Q q => by simpa [in_two] using q) (seq_no (fun Q q => by simpa using q) (seq_yes (fun Q q => by simpa using q) (by simpa using h)))
  | take i j => exact seq_no (fun Q q => by simpa [in_two] using q) (seq_no (fun Q q => by simpa using q) (seq_yes (fun Q q => by simpa using q) (by simpa using h)))
  | least i j => exact seq_no (fun Q q => by simpa [in_two] using q) (seq_no (fun Q q => by simpa using q) (seq_no (fun Q q => by simpa using q) (by simpa using h)))
  | most i j => exact seq_no (fun Q q => by simpa [in_two] using q) (seq_no (fun Q q => by simpa using q) (seq_no (fun Q q => by simpa using q) (by simpa using h)))
/-! of_one -/
inductive One : Ex → D → D → Prop
  | not (t : Ex) (b : Bool) : One (.not t) (.bool b) (.bool (!b))
  | times (n : Int) (a : Ex) (v : Int) : -1000 ≤ n ∧ n ≤ 1000 → One (.times n a) (.int v) (.int (n * v))
  | share (a : Ex) (p q : Int) (w : Rnd) (v : Int) : (0 ≤ p ∧ p ≤ 1000) ∧ 1 ≤ q ∧ q ≤ 1000 → One (.share a p q w) (.int v) (.int (divd (v * p) q w))
def g_of_one : DF := fun dl P => ∃ e x r, dl = [e.d, x] ∧ One e x r ∧ P (.val r)
def tb_of_one : DM := (mSeq (mIf (bT (d2 dEq (d2 dIx (dVar 0) (dC (.int 0))) (dC (.str "not")))) (mRet (dNot (dVar 1))) mNil)
    (mSeq (mIf (bT (d2 dEq (d2 dIx (dVar 0) (dC (.int 0))) (dC (.str "times")))) (mRet (d2 dMulA (d2 dIx (dVar 0) (dC (.int 1))) (dVar 1))) mNil)
    (mRet (dCall g_divided (aCons (d2 dMulA (dVar 1) (d2 dIx (dVar 0) (dC (.int 2)))) (aCons (d2 dIx (dVar 0) (dC (.int 3))) (aCons (d2 dIx (dVar 0) (dC (.int 4))) aNil)))))))
theorem rd_of_one : ∀ dl Q, dl.length = 2 → g_of_one dl Q → tb_of_one (enF Q) (slots0 2 dl) := by
  rintro dl Q - ⟨e, x, r, rfl, ht, h⟩
  cases ht with
  | not t b => simpa [tb_of_one, Ex.d, S] using h
  | times n a v hn =>
    have m1 : MulOk n v := MulOk.l ⟨by omega, by omega⟩
    simpa [tb_of_one, Ex.d, S, m1] using h
  | share a p q w v hp =>
    have m1 : MulOk v p := MulOk.r ⟨by omega, by omega⟩
    simp [tb_of_one, Ex.d, S, m1]
    exact ⟨_, _, _, rfl, hp.2.1, hp.2.2, by simpa using h⟩
/-! at_once -/
def g_at_once : DF := fun dl P => ∃ (e : Ex) (ins : Ins) (ks : List Bool) (s : Bool) (fi gi : List D), dl = [e.d, .tuple fi, .tuple gi] ∧ e.kids = [] ∧ e.ty ins ks s ∧ fileOk ins fi ∧ eldOk ks gi ∧ P (.val (e.ev fi gi).d)
def tb_at_once : DM := (mSeq (mPar 3 4 (d2 dIx (dVar 0) (dC (.int 0))) (d2 dIx (dVar 0) (dC (.int 1))))
    (mSeq (mIf (bT (d2 (dIn false) (dVar 3) (dTup (aCons (dC (.str "given")) (aCons (dC (.str "told")) aNil))))) (mRet (dIf (bT (d2 (dIsN false) (d2 dIx (dVar 2) (dVar 4)) (dC .none))) (dTup (aCons (dC (.str "hangs")) (aCons (dVar 4) aNil))) (dTup (aCons (dC (.str "is")) (aCons (d2 dIx (dVar 2) (dVar 4)) aNil))))) mNil)
    (mSeq (mIf (bT (d2 dEq (dVar 3) (dC (.str "is")))) (mRet (dTup (aCons (dC (.str "is")) (aCons (d2 dEq (d2 dIx (dVar 1) (dVar 4)) (d2 dIx (dVar 0) (dC (.int 2)))) aNil)))) mNil)
    (mRet (dTup (aCons (dC (.str "is")) (aCons (dIf (bT (d2 dEq (dVar 3) (dC (.str "num")))) (dVar 4) (d2 dIx (dVar 1) (dVar 4))) aNil)))))))
theorem atI_of {xs : List D} {i : Nat} {d : D} (h : xs[i]? = some d) : atI xs (i : Int) = some d := atI_nat h
theorem rd_at_once : ∀ dl Q, dl.length = 3 → g_at_once dl Q → tb_at_once (enF Q) (slots0 5 dl) := by
  rintro dl Q - ⟨e, ins, ks, s, fi, gi, rfl, hk, ht, hf, hg, h⟩
  have giv : ∀ {k : Nat} {s : Bool}, ks[k]? = some s → (gi[k]? = some .none ∧ lookG gi k = .hangs k) ∨ ∃ d, gi[k]? = some d ∧ tyD s d ∧ lookG gi k = .is d := fun {k s} e => by
    obtain ⟨d, hd, o⟩ := paired_at hg e
    rcases o with rfl | o
    · exact .inl ⟨hd, by unfold lookG; rw [hd]⟩
    · cases s <;> obtain ⟨v, rfl⟩ := o <;> exact .inr ⟨_, hd, ⟨v, rfl⟩, by unfold lookG; rw [hd]⟩
  cases e <;> first | (simp [Ex.kids] at hk; done) | skip
  · simpa [tb_at_once, Ex.d, S, in_two, Ex.ev, Rs.d] using h
  · obtain ⟨rfl, x, lo, hi, e⟩ := ht
    obtain ⟨d, hd, v, rfl, _⟩ := paired_at hf e
    simpa [tb_at_once, Ex.d, S, in_two, Ex.ev, Rs.d, hd, atI_of hd] using h
  · obtain ⟨rfl, e⟩ := ht
    rcases giv e with ⟨h1, h2⟩ | ⟨_, h1, ⟨v, rfl⟩, h3⟩
    · simpa [tb_at_once, Ex.d, S, in_two, Ex.ev, Rs.d, h1, h2, atI_of h1] using h
    · simpa [tb_at_once, Ex.d, S, in_two, Ex.ev, Rs.d, h1, h3, atI_of h1] using h
  · obtain ⟨rfl, x, e⟩ := ht
    obtain ⟨d, hd, v, rfl⟩ := paired_at hf e
    simpa [tb_at_once, Ex.d, S, in_two, Ex.ev, Rs.d, hd, atI_of hd] using h
  · obtain ⟨rfl, e⟩ := ht
    rcases giv e with ⟨h1, h2⟩ | ⟨_, h1, ⟨v, rfl⟩, h3⟩
    · simpa [tb_at_once, Ex.d, S, in_two, Ex.ev, Rs.d, h1, h2, atI_of h1] using h
    · simpa [tb_at_once, Ex.d, S, in_two, Ex.ev, Rs.d, h1, h3, atI_of h1] using h
  · obtain ⟨rfl, x, ws, e, _⟩ := ht
    obtain ⟨d, hd, v, rfl, _⟩ := paired_at hf e
    simpa [tb_at_once, Ex.d, S, in_two, Ex.ev, Rs.d, hd, atI_of hd] using h
end EX

/-! EX: evaluated. -/
namespace EX
open PySem PySem.Spec PyProof.Rows L2 DL BK
inductive View (ins : Ins) (ks : List Bool) (fi gi : List D) : Ex → Prop
  | leaf {e : Ex} : e.kids = [] → View ins ks fi gi e
  | one {e : Ex} (a : Ex) (sa : Bool) (f : D → Rs) : e.kids = [a] → a.ty ins ks sa → a.deep < e.deep → e.ev fi gi = (a.ev fi gi).bind f → (∀ x, tyD sa x → ∃ r, One e x r ∧ f x = .is r) → (e.w == "if") = false → View ins ks fi gi e
  | two {e : Ex} (a b : Ex) (sa : Bool) (f : D → D → Rs) : e.kids = [a, b] → a.ty ins ks sa → b.ty ins ks sa → a.deep < e.deep → b.deep < e.deep → e.ev fi gi = ((a.ev fi gi).bind fun x => (b.ev fi gi).bind fun y => f x y) →
      (∀ x y, tyD sa x → tyD sa y → ∃ r, Two e.w x y r ∧ f x y = .is r) → (e.w == "if") = false → ¬ "and" = e.w → ¬ "or" = e.w → View ins ks fi gi e
  | ite (t a b : Ex) : t.ty ins ks false → a.ty ins ks true → b.ty ins ks true → View ins ks fi gi (.ite t a b)
  | and (t u : Ex) : t.ty ins ks false → u.ty ins ks false → View ins ks fi gi (.and t u)
  | or (t u : Ex) : t.ty ins ks false → u.ty ins ks false → View ins ks fi gi (.or t u)
theorem view {ins : Ins} {ks : List Bool} {fi gi : List D} {e : Ex} {s : Bool} (h : e.ty ins ks s) : View ins ks fi gi e := by
  cases e with
  | num n => exact .leaf rfl
  | input n => exact .leaf rfl
  | given n => exact .leaf rfl
  | yes n => exact .leaf rfl
  | told n => exact .leaf rfl
  | isw n m => exact .leaf rfl
  | ite t a b => exact .ite t a b h.2.1 h.2.2.1 h.2.2.2
  | and t u => exact .and t u h.2.1 h.2.2
  | or t u => exact .or t u h.2.1 h.2.2
  | not t => exact .one t false _ rfl h.2 (by simp only [Ex.deep]; omega) rfl (fun x ⟨b, e⟩ => by subst e; exact ⟨_, .not t b, rfl⟩) (by simp [Ex.w])
  | times n a => exact .one a true _ rfl h.2.2 (by simp only [Ex.deep]; omega) rfl (fun x ⟨b, e⟩ => by subst e; exact ⟨_, .times n a b h.2.1, rfl⟩) (by simp [Ex.w])
  | share a p q w => exact .one a true _ rfl h.2.2 (by simp only [Ex.deep]; omega) rfl (fun x ⟨b, e⟩ => by subst e; exact ⟨_, .share a p q w b h.2.1, rfl⟩) (by simp [Ex.w])
  | add a b => exact .two a b true _ rfl h.2.1 h.2.2 (by simp only [Ex.deep]; omega) (by simp only [Ex.deep]; omega) rfl (fun x y ⟨i, e⟩ ⟨j, e'⟩ => by subst e; subst e'; exact ⟨_, .add i j, rfl⟩) (by simp [Ex.w]) (by simp [Ex.w]) (by simp [Ex.w])
  | take a b => exact .two a b true _ rfl h.2.1 h.2.2 (by simp only [Ex.deep]; omega) (by simp only [Ex.deep]; omega) rfl (fun x y ⟨i, e⟩ ⟨j, e'⟩ => by subst e; subst e'; exact ⟨_, .take i j, rfl⟩) (by simp [Ex.w]) (by simp [Ex.w]) (by simp [Ex.w])
  | least a b => exact .two a b true _ rfl h.2.1 h.2.2 (by simp only [Ex.deep]; omega) (by simp only [Ex.deep]; omega) rfl (fun x y ⟨i, e⟩ ⟨j, e'⟩ => by subst e; subst e'; exact ⟨_, .least i j, rfl⟩) (by simp [Ex.w]) (by simp [Ex.w]) (by simp [Ex.w])
  | most a b => exact .two a b true _ rfl h.2.1 h.2.2 (by simp only [Ex.deep]; omega) (by simp only [Ex.deep]; omega) rfl (fun x y ⟨i, e⟩ ⟨j, e'⟩ => by subst e; subst e'; exact ⟨_, .most i j, rfl⟩) (by simp [Ex.w]) (by simp [Ex.w]) (by simp [Ex.w])
  | less a b => exact .two a b true _ rfl h.2.1 h.2.2 (by simp only [Ex.deep]; omega) (by simp only [Ex.deep]; omega) rfl (fun x y ⟨i, e⟩ ⟨j, e'⟩ => by subst e; subst e'; exact ⟨_, .less i j, rfl⟩) (by simp [Ex.w]) (by simp [Ex.w]) (by simp [Ex.w])
  | same a b => exact .two a b true _ rfl h.2.1 h.2.2 (by simp only [Ex.deep]; omega) (by simp only [Ex.deep]; omega) rfl (fun x y ⟨i, e⟩ ⟨j, e'⟩ => by subst e; subst e'; exact ⟨_, .same i j, rfl⟩) (by simp [Ex.w]) (by simp [Ex.w]) (by simp [Ex.w])
theorem kid_deep {e k : Ex} (h : k ∈ e.kids) : k.deep < e.deep := by
  cases e <;> simp [Ex.kids] at h <;> simp only [Ex.deep] <;> (rcases h with rfl | rfl | rfl) <;> omega
theorem kids_shp (e : Ex) : Shp (e.deep + 2) (.list (e.kids.map Ex.d)) := Shp.list fun x hx => by
  obtain ⟨k, hk, rfl⟩ := List.mem_map.mp hx
  exact k.shp.mono (by have := kid_deep hk; omega)
@[simp] theorem atI0 {x : D} {xs : List D} : atI (x :: xs) 0 = some x := atI_nat (j := 0) rfl
@[simp high] theorem ix0 {e : Ex} {Q : Hd → Prop} : dIx e.d (.int 0) Q = Q (.tmp (.str (Str.ofString e.w))) := by
  have e1 : atI (PyData.str (S e.w) :: List.map (fun x => x.2) e.args) 0 = some (.str (S e.w)) := atI_nat (j := 0) rfl
  rw [Ex.d_eq]
  simp [dIx, e1]
def gn_evaluated (n : Nat) : DF := fun dl P => ∃ (e : Ex) (ins : Ins) (ks : List Bool) (s : Bool) (fi gi : List D), dl = [e.d, .tuple fi, .tuple gi] ∧ (e.deep ≤ n ∧ n ≤ 50) ∧ e.ty ins ks s ∧ fileOk ins fi ∧ eldOk ks gi ∧ P (.val (e.ev fi gi).d)
theorem nz_evaluated : ∀ dl Q, ¬ gn_evaluated 0 dl Q := by
  rintro dl Q ⟨e, _, _, _, _, _, _, ⟨h, _⟩, _⟩
  have := e.deep_pos; omega
def tb_evaluated (g : DF) : DM := (mSeq (mPar 3 4 (d2 dIx (dVar 0) (dC (.int 0))) (dCall g_kids_of (aCons (dVar 0) aNil)))
    (mSeq (mIf (bT (d2 dEq (dVar 4) (dLst aNil))) (mRet (dCall g_at_once (aCons (dVar 0) (aCons (dVar 1) (aCons (dVar 2) aNil))))) mNil)
    (mSeq (mSet 5 (dCall g (aCons (d2 dIx (dVar 4) (dC (.int 0))) (aCons (dVar 1) (aCons (dVar 2) aNil)))))
    (mSeq (mIf (bT (d2 dEq (d2 dIx (dVar 5) (dC (.int 0))) (dC (.str "hangs")))) (mRet (dVar 5)) mNil)
    (mSeq (mIf (bT (d2 dEq (dVar 3) (dC (.str "if")))) (mRet (dCall g (aCons (dIf (bT (d2 dIx (dVar 5) (dC (.int 1)))) (d2 dIx (dVar 4) (dC (.int 1))) (d2 dIx (dVar 4) (dC (.int 2)))) (aCons (dVar 1) (aCons (dVar 2) aNil))))) mNil)
    (mSeq (mIf (bT (d2 dEq (dB bLen (aCons (dVar 4) aNil)) (dC (.int 1)))) (mRet (dTup (aCons (dC (.str "is")) (aCons (dCall g_of_one (aCons (dVar 0) (aCons (d2 dIx (dVar 5) (dC (.int 1))) aNil))) aNil)))) mNil)
    (mSeq (mIf (bAnd (bT (d2 (dIn false) (dVar 3) (dTup (aCons (dC (.str "and")) (aCons (dC (.str "or")) aNil))))) (bT (d2 dEq (d2 dIx (dVar 5) (dC (.int 1))) (d2 dEq (dVar 3) (dC (.str "or")))))) (mRet (dVar 5)) mNil)
    (mSeq (mSet 6 (dCall g (aCons (d2 dIx (dVar 4) (dC (.int 1))) (aCons (dVar 1) (aCons (dVar 2) aNil)))))
    (mRet (dIf (bT (d2 dEq (d2 dIx (dVar 6) (dC (.int 0))) (dC (.str "hangs")))) (dVar 6) (dTup (aCons (dC (.str "is")) (aCons (dCall g_of_two (aCons (dVar 3) (aCons (d2 dIx (dVar 5) (dC (.int 1))) (aCons (d2 dIx (dVar 6) (dC (.int 1))) aNil)))) aNil)))))))))))))
@[simp high] theorem eq_bb {a b : Bool} {Q : Hd → Prop} : dEqB false (.bool a) (.bool b) Q = Q (.tmp (.bool (a == b))) := by
  have e : PyData.eqv (.bool a) (.bool b) = (a == b) := by cases a <;> cases b <;> rfl
  have z : ∀ c, SeqAt.shaped (.bool c) = true := fun c => (Shp.bool (n := 0)).shaped
  refine propext ⟨fun h => ?_, fun h => ⟨z _, z _, ?_⟩⟩
  · have := h.2.2
    simpa [e] using this
  · simpa [e] using h
@[simp high] theorem ne_bb {a b : Bool} {Q : Hd → Prop} : dEqB true (.bool a) (.bool b) Q = Q (.tmp (.bool (!(a == b)))) := by
  have e : PyData.eqv (.bool a) (.bool b) = (a == b) := by cases a <;> cases b <;> rfl
  have z : ∀ c, SeqAt.shaped (.bool c) = true := fun c => (Shp.bool (n := 0)).shaped
  refine propext ⟨fun h => ?_, fun h => ⟨z _, z _, ?_⟩⟩
  · have := h.2.2
    simpa [e] using this
  · simpa [e] using h
theorem rd_evaluated (n : Nat) : ∀ dl Q, dl.length = 3 → gn_evaluated (n + 1) dl Q → tb_evaluated (gn_evaluated n) (enF Q) (slots0 7 dl) := by
  rintro dl Q - ⟨e, ins, ks, s, fi, gi, rfl, ⟨hn, hm⟩, ht, hf, hg, h⟩
  unfold tb_evaluated
  have kz := (kids_shp e).shaped (by omega)
  refine seq1 [.val e.d, .val (.tuple fi), .val (.tuple gi), .val (.str (S e.w)), .own (e.kids.map Ex.d), .no, .no] (fun k q => ?_) ?_
  · have he := Ex.d_eq e
    rw [he] at q ⊢
    simp
    exact ⟨e, by rw [he], q⟩
  have call : ∀ {a : Ex} {sa : Bool}, a.ty ins ks sa → a.deep < e.deep → ∀ {P : SD → Prop}, P (.val (a.ev fi gi).d) → gn_evaluated n [a.d, .tuple fi, .tuple gi] P := fun {a sa} h1 h2 {P} p => ⟨a, ins, ks, sa, fi, gi, rfl, ⟨by omega, by omega⟩, h1, hf, hg, p⟩
  have nk : ∀ {k : Ex} {r : List Ex}, e.kids = k :: r → EvB (bT (d2 dEq (dVar 4) (dLst aNil))) [.val e.d, .val (.tuple fi), .val (.tuple gi), .val (.str (S e.w)), .own (e.kids.map Ex.d), .no, .no] false := fun {k r} hk Q q => by
    have z : SeqAt.shaped (.list []) = true := rfl
    rw [hk] at kz q ⊢
    rw [List.map_cons] at kz q ⊢
    simp [kz, z, eqv_nil]
    exact q
  have hgs : ∀ {r : Rs} {b0 : SD} (ds : DS), ds[5]? = some (.val r.d) → EvB (bT (d2 dEq (d2 dIx (dVar 5) (dC (.int 0))) (dC (.str "hangs")))) ds (match r with | .is _ => false | .hangs _ => true) := fun {r b0} ds hd Q q => by
    cases r <;> simp [hd, Rs.d, S] <;> exact q
  rcases view (fi := fi) (gi := gi) ht with hk | ⟨a, sa, f, hk, ta, da, ev, hone, hw⟩ | ⟨a, b, sa, f, hk, ta, tb, da, db, ev, htwo, w1, w2, w3⟩ | ⟨t, a, b, h0, h1, h2⟩ | ⟨t, u, h0, h1⟩ | ⟨t, u, h0, h1⟩
  · refine seq_yes (fun Q q => ?_) ?_
    · have z : SeqAt.shaped (.list []) = true := rfl
      rw [hk] at q ⊢
      simp [z, eqv_nil]
      exact q
    · simp
      exact ⟨e, ins, ks, s, fi, gi, rfl, hk, ht, hf, hg, h⟩
  · refine seq_no (nk hk) ?_
    rw [hk]
    refine seq1 [.val e.d, .val (.tuple fi), .val (.tuple gi), .val (.str (S e.w)), .own [a.d], .val (a.ev fi gi).d, .no] (fun k q => ?_) ?_
    · simp
      exact call ta da q
    rw [ev] at h
    have ro := a.ev_ok hf hg sa ta
    cases ra : a.ev fi gi with
    | hangs k =>
      rw [ra] at h
      refine seq_yes (hgs (r := .hangs k) (b0 := .no) _ rfl) ?_
      simpa using h
    | is x =>
      rw [ra] at h ro
      refine seq_no (hgs (r := .is x) (b0 := .no) _ rfl) ?_
      refine seq_no (fun Q q => by simpa [hw] using q) ?_
      refine seq_yes (fun Q q => by simpa using q) ?_
      obtain ⟨r, h1, h2⟩ := hone x ro
      simp [Rs.d]
      refine ⟨e, x, r, rfl, h1, ?_⟩
      simpa [h2, Rs.d, S] using h
  · refine seq_no (nk hk) ?_
    rw [hk]
    refine seq1 [.val e.d, .val (.tuple fi), .val (.tuple gi), .val (.str (S e.w)), .own [a.d, b.d], .val (a.ev fi gi).d, .no] (fun k q => ?_) ?_
    · simp
      exact call ta da q
    rw [ev] at h
    have ro := a.ev_ok hf hg sa ta
    have rb := b.ev_ok hf hg sa tb
    cases ra : a.ev fi gi with
    | hangs k =>
      rw [ra] at h
      refine seq_yes (hgs (r := .hangs k) (b0 := .no) _ rfl) ?_
      simpa using h
    | is x =>
      rw [ra] at h ro
      refine seq_no (hgs (r := .is x) (b0 := .no) _ rfl) ?_
      refine seq_no (fun Q q => by simpa [w1] using q) ?_
      refine seq_no (fun Q q => by simpa using q) ?_
      refine seq_no (fun Q q => by simpa [in_two, w2, w3] using q) ?_
      refine seq1 [.val e.d, .val (.tuple fi), .val (.tuple gi), .val (.str (S e.w)), .own [a.d, b.d], .val (Rs.is x).d, .val (b.ev fi gi).d] (fun k q => ?_) ?_
      · simp
        exact call tb db q
      cases rb' : b.ev fi gi with
      | hangs k =>
        rw [rb'] at h
        simpa [Rs.d, S] using h
      | is y =>
        rw [rb'] at h rb
        obtain ⟨r, h1, h2⟩ := htwo x y ro rb
        simp [Rs.d, S]
        refine ⟨_, x, y, r, rfl, h1, ?_⟩
        simpa [h2, Rs.d, S] using h
  · refine seq_no (nk (k := t) (r := [a, b]) rfl) ?_
    refine seq1 [.val (Ex.ite t a b).d, .val (.tuple fi), .val (.tuple gi), .val (.str (S "if")), .own [t.d, a.d, b.d], .val (t.ev fi gi).d, .no] (fun k q => ?_) ?_
    · simp [Ex.kids]
      exact call h0 (by simp only [Ex.deep]; omega) q
    have ro := t.ev_ok hf hg false h0
    cases ra : t.ev fi gi with
    | hangs k =>
      simp only [Ex.ev, ra] at h
      refine seq_yes (hgs (r := .hangs k) (b0 := .no) _ rfl) ?_
      simpa using h
    | is x =>
      rw [ra] at ro
      obtain ⟨c, rfl⟩ := ro
      simp only [Ex.ev, ra] at h
      refine seq_no (hgs (r := .is (.bool c)) (b0 := .no) _ rfl) ?_
      refine seq_yes (fun Q q => by simpa using q) ?_
      cases c with
      | true =>
        simp [Rs.d]
        exact call h1 (by simp only [Ex.deep]; omega) (by simpa using h)
      | false =>
        simp [Rs.d]
        exact call h2 (by simp only [Ex.deep]; omega) (by simpa using h)
  · refine seq_no (nk (k := t) (r := [u]) rfl) ?_
    refine seq1 [.val (Ex.and t u).d, .val (.tuple fi), .val (.tuple gi), .val (.str (S "and")), .own [t.d, u.d], .val (t.ev fi gi).d, .no] (fun k q => ?_) ?_
    · simp [Ex.kids]
      exact call h0 (by simp only [Ex.deep]; omega) q
    have ro := t.ev_ok hf hg false h0
    cases ra : t.ev fi gi with
    | hangs k =>
      simp only [Ex.ev, ra] at h
      refine seq_yes (hgs (r := .hangs k) (b0 := .no) _ rfl) ?_
      simpa using h
    | is x =>
      rw [ra] at ro
      obtain ⟨c, rfl⟩ := ro
      simp only [Ex.ev, ra] at h
      refine seq_no (hgs (r := .is (.bool c)) (b0 := .no) _ rfl) ?_
      refine seq_no (fun Q q => by simpa using q) ?_
      refine seq_no (fun Q q => by simpa using q) ?_
      cases c with
      | false =>
        refine seq_yes (fun Q q => by simpa [in_two, Rs.d, S] using q) ?_
        simpa [Rs.d] using h
      | true =>
        refine seq_no (fun Q q => by simpa [in_two, Rs.d, S] using q) ?_
        refine seq1 [.val (Ex.and t u).d, .val (.tuple fi), .val (.tuple gi), .val (.str (S "and")), .own [t.d, u.d], .val (Rs.is (.bool true)).d, .val (u.ev fi gi).d] (fun k q => ?_) ?_
        · simp
          exact call h1 (by simp only [Ex.deep]; omega) q
        cases rb' : u.ev fi gi with
        | hangs k =>
          rw [rb'] at h
          simpa [Rs.d, S] using h
        | is y =>
          rw [rb'] at h
          simp [Rs.d, S]
          refine ⟨"and", _, y, y, rfl, .and _ y, ?_⟩
          simpa [Rs.d, S] using h
  · refine seq_no (nk (k := t) (r := [u]) rfl) ?_
    refine seq1 [.val (Ex.or t u).d, .val (.tuple fi), .val (.tuple gi), .val (.str (S "or")), .own [t.d, u.d], .val (t.ev fi gi).d, .no] (fun k q => ?_) ?_
    · simp [Ex.kids]
      exact call h0 (by simp only [Ex.deep]; omega) q
    have ro := t.ev_ok hf hg false h0
    cases ra : t.ev fi gi with
    | hangs k =>
      simp only [Ex.ev, ra] at h
      refine seq_yes (hgs (r := .hangs k) (b0 := .no) _ rfl) ?_
      simpa using h
    | is x =>
      rw [ra] at ro
      obtain ⟨c, rfl⟩ := ro
      simp only [Ex.ev, ra] at h
      refine seq_no (hgs (r := .is (.bool c)) (b0 := .no) _ rfl) ?_
      refine seq_no (fun Q q => by simpa using q) ?_
      refine seq_no (fun Q q => by simpa using q) ?_
      cases c with
      | true =>
        refine seq_yes (fun Q q => by simpa [in_two, Rs.d, S] using q) ?_
        simpa [Rs.d] using h
      | false =>
        refine seq_no (fun Q q => by simpa [in_two, Rs.d, S] using q) ?_
        refine seq1 [.val (Ex.or t u).d, .val (.tuple fi), .val (.tuple gi), .val (.str (S "or")), .own [t.d, u.d], .val (Rs.is (.bool false)).d, .val (u.ev fi gi).d] (fun k q => ?_) ?_
        · simp
          exact call h1 (by simp only [Ex.deep]; omega) q
        cases rb' : u.ev fi gi with
        | hangs k =>
          rw [rb'] at h
          simpa [Rs.d, S] using h
        | is y =>
          rw [rb'] at h
          simp [Rs.d, S]
          refine ⟨"or", _, y, y, rfl, .or _ y, ?_⟩
          simpa [Rs.d, S] using h
end EX

/-! EX: files that are right, expressions that are right. -/
namespace EX
open PySem PySem.Spec PyProof.Rows L2 BK
open DL hiding g_is_between tb_is_between rd_is_between
/-! is_of -/
def g_is_of : DF := fun dl P => ∃ (k : Knd) (v : D), dl = [k.d, v] ∧ valK k v ∧ P (.val (.bool true))
def tb_is_of : DM := (mSeq (mIf (bT (d2 dEq (d2 dIx (dVar 0) (dC (.int 0))) (dC (.str "truth")))) (mRet (dIsi "bool" (dVar 1))) mNil)
    (mSeq (mUnp (dCall g_ends_of (aCons (dVar 0) aNil)) (gTp 2 (gsCons (gNm 2) (gsCons (gNm 3) gsNil))))
    (mRet (dCall g_is_between (aCons (dVar 2) (aCons (dVar 1) (aCons (dVar 3) aNil)))))))
theorem rd_is_of : ∀ dl Q, dl.length = 2 → g_is_of dl Q → tb_is_of (enF Q) (slots0 4 dl) := by
  rintro dl Q - ⟨k, v, rfl, hv, h⟩
  unfold tb_is_of
  have rest : ∀ i : Int, v = .int i → k.lo ≤ i → i ≤ k.hi → (EvB (bT (d2 dEq (d2 dIx (dVar 0) (dC (.int 0))) (dC (.str "truth")))) (slots0 4 [k.d, v]) false) → tb_is_of (enF Q) (slots0 4 [k.d, v]) := fun i hi l1 l2 hn => by
    subst hi
    unfold tb_is_of
    refine seq_no hn ?_
    refine seq1 [.val k.d, .val (.int i), .val (.int k.lo), .val (.int k.hi)] (fun kk q => ?_) ?_
    · simp
      refine at_ends_of ?_
      simpa using q
    · simp [betw, l1, l2]
      exact h
  cases k with
  | truth =>
    obtain ⟨b, rfl⟩ := hv
    refine seq_yes (fun Q q => by simpa [Knd.d] using q) ?_
    simpa [isT_bool] using h
  | int lo hi =>
    obtain ⟨i, rfl, l1, l2⟩ := hv
    exact rest i rfl l1 l2 (fun Q q => by simpa [Knd.d] using q)
  | pick ws =>
    obtain ⟨i, rfl, l1, l2⟩ := hv
    exact rest i rfl l1 l2 (fun Q q => by simpa [Knd.d] using q)
/-! fault_in -/
def g_fault_in : DF := fun dl P => ∃ (ins : Ins) (fi : List D), dl = [insD ins, .tuple fi] ∧ ins.length ≤ 100 ∧ fileOk ins fi ∧ P (.val .none)
def cc_fault_in_1 : DTT := (bNot (bT (dCall g_is_of (aCons (d2 dIx (dVar 4) (dC (.int 1))) (aCons (d2 dIx (dVar 1) (dVar 3)) aNil)))))
def ce_fault_in_1 : DT := (dVar 3)
def tb_fault_in : DM := (mSeq (mIf (bNot (bT (dCallL g_is_tuple_of (aCons (dB bLen (aCons (dVar 0) aNil)) (aCons (dVar 1) aNil))))) (mRet (dC (.int 0))) mNil)
    (mSeq (mSet 2 (dComp (iEn (dVar 0)) (gTp 2 (gsCons (gNm 3) (gsCons (gNm 4) gsNil))) cc_fault_in_1 ce_fault_in_1 [3, 4]))
    (mRet (dIf (bT (d2 dNe (dVar 2) (dLst aNil))) (d2 dIx (dVar 2) (dC (.int 0))) (dC .none)))))
theorem file_len {ins : Ins} {fi : List D} (h : fileOk ins fi) : fi.length = ins.length := (Paired.length h).symm
theorem rd_fault_in : ∀ dl Q, dl.length = 2 → g_fault_in dl Q → tb_fault_in (enF Q) (slots0 5 dl) := by
  rintro dl Q - ⟨ins, fi, rfl, hl, hf, h⟩
  unfold tb_fault_in
  have fl := file_len hf
  refine seq_no (fun Q q => ?_) ?_
  · unfold insD
    simp [tupN, fl]
    exact q
  refine seq1 [.val (insD ins), .val (.tuple fi), .own [], .no, .no] (fun k q => ?_) ?_
  · unfold insD
    simp only [mSet, dComp, iEn, dVar, slots0]
    simp
    refine ⟨by rw [enumF_len, List.length_map]; exact le_line (by omega), ?_⟩
    have key : ∀ (r : Ins) (n : Nat), (∀ j p, r[j]? = some p → ∃ v, fi[n + j]? = some v ∧ valK p.2 v) → ∀ (P : List D → DS → Prop), P [] [.val (insD ins), .val (.tuple fi), .no, .no, .no] →
        compD (gTp 2 (gsCons (gNm 3) (gsCons (gNm 4) gsNil))) cc_fault_in_1 ce_fault_in_1 [3, 4] (enumF n (r.map fun p => PyData.tuple [.str p.1, p.2.d])) [] [.val (insD ins), .val (.tuple fi), .no, .no, .no] P := by
      intro r
      induction r with
      | nil => intro n _ P p; exact p
      | cons p r ih =>
        intro n hr P pp
        obtain ⟨v, hv, vk⟩ := hr 0 p rfl
        have e1 : atI fi (n : Int) = some v := atI_nat (by simpa using hv)
        have e2 : atI [PyData.str p.1, p.2.d] 1 = some p.2.d := atI_nat (j := 1) rfl
        simp [enumF, compD, cc_fault_in_1, e1, e2]
        refine ⟨p.2, v, rfl, vk, ?_⟩
        simp
        exact ih (n + 1) (fun j q hq => by
          have := hr (j + 1) q (by simpa using hq)
          rw [show n + (j + 1) = n + 1 + j from by omega] at this; exact this) P pp
    refine key ins 0 (fun j p hp => ?_) _ ?_
    · obtain ⟨v, q1, q2⟩ := paired_at hf hp
      exact ⟨v, by simpa using q1, q2⟩
    · simpa [insD] using q
  · have z : SeqAt.shaped (.list []) = true := rfl
    simp [z, eqv_nil]
    exact h
/-! check_file -/
def g_check_file : DF := fun dl P => ∃ (ins : Ins) (fi : List D), dl = [insD ins, .tuple fi] ∧ ins.length ≤ 100 ∧ fileOk ins fi ∧ P (.val .none)
def tb_check_file : DM := (mSeq (mSet 2 (dCall g_fault_in (aCons (dVar 0) (aCons (dVar 1) aNil))))
    (mIf (bT (d2 (dIsN true) (dVar 2) (dC .none))) mNever mNil))
theorem rd_check_file : ∀ dl Q, dl.length = 2 → g_check_file dl Q → tb_check_file (enF Q) (slots0 3 dl) := by
  rintro dl Q - ⟨ins, fi, rfl, hl, hf, h⟩
  unfold tb_check_file
  simp
  exact ⟨ins, fi, rfl, hl, hf, by simpa using h⟩
end EX

/-! EX: expressions that are right. -/
namespace EX
open PySem PySem.Spec PyProof.Rows L2 BK
open DL hiding g_is_between tb_is_between rd_is_between
def kindD (b : Bool) : D := .str (S (if b then "int" else "truth"))
def kindsD (ks : List Bool) : D := .tuple (ks.map kindD)
def sortS (b : Bool) : String := if b then "a" else "t"
/-! is_plain -/
inductive Plain (ins : Ins) (ks : List Bool) : String → D → Prop
  | n (n : Int) : -1000000 ≤ n ∧ n ≤ 1000000 → Plain ins ks "n" (.int n)
  | m (n : Int) : -1000 ≤ n ∧ n ≤ 1000 → Plain ins ks "m" (.int n)
  | p (n : Int) : 0 ≤ n ∧ n ≤ 1000 → Plain ins ks "p" (.int n)
  | q (n : Int) : 1 ≤ n ∧ n ≤ 1000 → Plain ins ks "q" (.int n)
  | w (r : Rnd) : Plain ins ks "w" (.str (S r.s))
  | i (i : Nat) (x : Str) (lo hi : Int) : ins[i]? = some (x, .int lo hi) → Plain ins ks "i" (.int i)
  | y (i : Nat) (x : Str) : ins[i]? = some (x, .truth) → Plain ins ks "y" (.int i)
  | k (i : Nat) (x : Str) (ws : List Str) : ins[i]? = some (x, .pick ws) → Plain ins ks "k" (.int i)
  | g (k : Nat) : ks[k]? = some true → Plain ins ks "g" (.int k)
  | o (k : Nat) : ks[k]? = some false → Plain ins ks "o" (.int k)
def g_is_plain : DF := fun dl P => ∃ (ins : Ins) (ks : List Bool) (s : String) (v : D), dl = [insD ins, kindsD ks, .str (S s), v] ∧ Plain ins ks s v ∧ P (.val (.bool true))
def tb_is_plain : DM := (mSeq (mIf (bT (dKin false cst_INPUT_KINDS (dVar 2))) (mRet (dAnd (dCall g_is_between (aCons (dC (.int 0)) (aCons (dVar 3) (aCons (d2 dSub (dB bLen (aCons (dVar 0) aNil)) (dC (.int 1))) aNil)))) (d2 dEq (d2 dIx (d2 dIx (d2 dIx (dVar 0) (dVar 3)) (dC (.int 1))) (dC (.int 0))) (dKix cst_INPUT_KINDS (dVar 2))))) mNil)
    (mSeq (mIf (bT (dKin false cst_ELDER_KINDS (dVar 2))) (mRet (dAnd (dCall g_is_between (aCons (dC (.int 0)) (aCons (dVar 3) (aCons (d2 dSub (dB bLen (aCons (dVar 1) aNil)) (dC (.int 1))) aNil)))) (d2 dEq (d2 dIx (dVar 1) (dVar 3)) (dKix cst_ELDER_KINDS (dVar 2))))) mNil)
    (mSeq (mIf (bT (d2 dEq (dVar 2) (dC (.str "w")))) (mRet (dAnd (dIsi "str" (dVar 3)) (d2 (dIn false) (dVar 3) (dC cst_ROUNDINGS)))) mNil)
    (mSeq (mUnp (dKix cst_BOUNDS (dVar 2)) (gTp 2 (gsCons (gNm 4) (gsCons (gNm 5) gsNil))))
    (mRet (dCall g_is_between (aCons (dVar 4) (aCons (dVar 3) (aCons (dVar 5) aNil)))))))))
theorem ins_at {ins : Ins} {i : Nat} {x : Str} {k : Knd} (h : ins[i]? = some (x, k)) : (i : Int) < ins.length ∧ atI (ins.map fun p => PyData.tuple [.str p.1, p.2.d]) (i : Int) = some (.tuple [.str x, k.d]) := by
  have hi : i < ins.length := (List.getElem?_eq_some_iff.mp h).1
  exact ⟨by omega, atI_nat (by simp [h])⟩
theorem atI1 {x y : D} {xs : List D} : atI (x :: y :: xs) 1 = some y := atI_nat (j := 1) rfl
theorem ks_at {ks : List Bool} {i : Nat} {b : Bool} (h : ks[i]? = some b) : (i : Int) < ks.length ∧ atI (ks.map kindD) (i : Int) = some (kindD b) := by
  have hi : i < ks.length := (List.getElem?_eq_some_iff.mp h).1
  exact ⟨by omega, atI_nat (by simp [h])⟩
theorem in_rnd {r : Rnd} {Q : Hd → Prop} (h : Q (.tmp (.bool true))) : dIn false (.str (S r.s)) cst_ROUNDINGS Q := by
  cases r <;> simpa [cst_ROUNDINGS, dIn, flatD, inD, PyData.eqv, S, Rnd.s] using h
theorem rd_is_plain : ∀ dl Q, dl.length = 4 → g_is_plain dl Q → tb_is_plain (enF Q) (slots0 6 dl) := by
  rintro dl Q - ⟨ins, ks, s, v, rfl, hp, h⟩
  unfold tb_is_plain
  have bnd : ∀ (t : String) (lo hi n : Int), cst_INPUT_KINDS.lookup (S t) = none → cst_ELDER_KINDS.lookup (S t) = none → (t == "w") = false → cst_BOUNDS.lookup (S t) = some (.tuple [.int lo, .int hi]) → lo ≤ n ∧ n ≤ hi → tb_is_plain (enF Q) (slots0 6 [insD ins, kindsD ks, .str (S t), .int n]) := fun t lo hi n h1 h2 h3 h4 h5 => by
    unfold tb_is_plain
    refine seq_no (fun Q q => by simpa [h1] using q) ?_
    refine seq_no (fun Q q => by simpa [h2] using q) ?_
    refine seq_no (fun Q q => by simpa [h3] using q) ?_
    simp [h4, betw, h5.1, h5.2]
    exact h
  have inp : ∀ (t u : String) (i : Nat) (x : Str) (k : Knd), cst_INPUT_KINDS.lookup (S t) = some (.str (S u)) → ins[i]? = some (x, k) → (∃ r, k.d = .tuple (.str (S u) :: r)) → tb_is_plain (enF Q) (slots0 6 [insD ins, kindsD ks, .str (S t), .int i]) := fun t u i x k h1 h2 h3 => by
    unfold tb_is_plain
    obtain ⟨l, e⟩ := ins_at h2
    obtain ⟨r, h3⟩ := h3
    refine seq_yes (fun Q q => by simpa [h1] using q) ?_
    have l2 : (i : Int) ≤ (ins.length : Int) - 1 := by omega
    unfold insD
    simp [betw, l2, e, atI1, h3, h1]
    exact h
  have eld : ∀ (t u : String) (i : Nat) (b : Bool), cst_INPUT_KINDS.lookup (S t) = none → cst_ELDER_KINDS.lookup (S t) = some (kindD b) → ks[i]? = some b → tb_is_plain (enF Q) (slots0 6 [insD ins, kindsD ks, .str (S t), .int i]) := fun t u i b h1 h2 h3 => by
    unfold tb_is_plain
    obtain ⟨l, e⟩ := ks_at h3
    refine seq_no (fun Q q => by simpa [h1] using q) ?_
    refine seq_yes (fun Q q => by simpa [h2] using q) ?_
    have l2 : (i : Int) ≤ (ks.length : Int) - 1 := by omega
    unfold kindsD
    simp [betw, l2, e, h2, kindD]
    simpa [kindD] using h
  cases hp with
  | n n hn => exact bnd "n" (-1000000) 1000000 n (by simp [cst_INPUT_KINDS, List.lookup, S]) (by simp [cst_ELDER_KINDS, List.lookup, S]) (by decide) (by simp [cst_BOUNDS, List.lookup, S]) hn
  | m n hn => exact bnd "m" (-1000) 1000 n (by simp [cst_INPUT_KINDS, List.lookup, S]) (by simp [cst_ELDER_KINDS, List.lookup, S]) (by decide) (by simp [cst_BOUNDS, List.lookup, S]) hn
  | p n hn => exact bnd "p" 0 1000 n (by simp [cst_INPUT_KINDS, List.lookup, S]) (by simp [cst_ELDER_KINDS, List.lookup, S]) (by decide) (by simp [cst_BOUNDS, List.lookup, S]) hn
  | q n hn => exact bnd "q" 1 1000 n (by simp [cst_INPUT_KINDS, List.lookup, S]) (by simp [cst_ELDER_KINDS, List.lookup, S]) (by decide) (by simp [cst_BOUNDS, List.lookup, S]) hn
  | w r =>
    have h1 : cst_INPUT_KINDS.lookup (S "w") = none := by simp [cst_INPUT_KINDS, List.lookup, S]
    have h2 : cst_ELDER_KINDS.lookup (S "w") = none := by simp [cst_ELDER_KINDS, List.lookup, S]
    refine seq_no (fun Q q => by simpa [h1] using q) ?_
    refine seq_no (fun Q q => by simpa [h2] using q) ?_
    refine seq_yes (fun Q q => by simpa using q) ?_
    simp [isT_str]
    exact in_rnd (by simpa using h)
  | i i x lo hi hi => exact inp "i" "int" i x _ (by simp [cst_INPUT_KINDS, List.lookup, S]) hi ⟨_, rfl⟩
  | y i x hi => exact inp "y" "truth" i x _ (by simp [cst_INPUT_KINDS, List.lookup, S]) hi ⟨_, rfl⟩
  | k i x ws hi => exact inp "k" "pick" i x _ (by simp [cst_INPUT_KINDS, List.lookup, S]) hi ⟨_, rfl⟩
  | g k hk => exact eld "g" "int" k true (by simp [cst_INPUT_KINDS, List.lookup, S]) (by simp [cst_ELDER_KINDS, List.lookup, S, kindD]) hk
  | o k hk => exact eld "o" "truth" k false (by simp [cst_INPUT_KINDS, List.lookup, S]) (by simp [cst_ELDER_KINDS, List.lookup, S, kindD]) hk
/-! has_form -/
def Ex.isAm : Ex → Bool
  | .num _ => true
  | .input _ => true
  | .given _ => true
  | .add _ _ => true
  | .take _ _ => true
  | .times _ _ => true
  | .share _ _ _ _ => true
  | .least _ _ => true
  | .most _ _ => true
  | .ite _ _ _ => true
  | _ => false
theorem ty_am {ins : Ins} {ks : List Bool} {e : Ex} {s : Bool} (h : e.ty ins ks s) : e.isAm = s := by
  cases e <;> (obtain ⟨rfl, _⟩ := h; rfl)
def g_has_form : DF := fun dl P => ∃ e : Ex, dl = [e.d, .str (S (sortS e.isAm))] ∧ e.deep ≤ 50 ∧ P (.val (.bool true))
def tb_has_form : DM := (mSeq (mIf (bOr (bNot (bT (dIsi "tuple" (dVar 0)))) (bOr (bT (d2 dEq (dVar 0) (dTup aNil))) (bOr (bNot (bT (dIsi "str" (d2 dIx (dVar 0) (dC (.int 0)))))) (bT (dKin true cst_FORMS (d2 dIx (dVar 0) (dC (.int 0)))))))) (mRet (dC (.bool false))) mNil)
    (mRet (dAnd (d2 dEq (d2 (dIn false) (d2 dIx (dVar 0) (dC (.int 0))) (dC cst_AMOUNTS)) (d2 dEq (dVar 1) (dC (.str "a")))) (d2 dEq (dB bLen (aCons (dVar 0) aNil)) (d2 dAdd (dC (.int 1)) (dB bLen (aCons (dKix cst_FORMS (d2 dIx (dVar 0) (dC (.int 0)))) aNil)))))))
theorem form_len (e : Ex) : (formOf e).length = e.args.length := by
  have h := (form_look e).2
  have h1 := congrArg List.length h
  unfold zipD Ex.pairs at h1
  simp at h1
  have h2 : (strItems (formOf e)).length = (formOf e).length := by unfold strItems; rw [List.length_map, Array.length_toList]; rfl
  cases e <;> (simp [formOf, Ex.w, cst_FORMS, List.lookup, S, Ex.args]; rw [Str.ofString_eq_toList]; rfl)
theorem in_am (e : Ex) {Q : Hd → Prop} (h : Q (.tmp (.bool e.isAm))) : dIn false (.str (Str.ofString e.w)) cst_AMOUNTS Q := by
  cases e <;> simpa [cst_AMOUNTS, dIn, flatD, inD, PyData.eqv, S, Ex.w, Ex.isAm] using h
theorem rd_has_form : ∀ dl Q, dl.length = 2 → g_has_form dl Q → tb_has_form (enF Q) (slots0 2 dl) := by
  rintro dl Q - ⟨e, rfl, hd, h⟩
  unfold tb_has_form
  have sh := e.shp.shaped (by omega)
  have he := Ex.d_eq e
  obtain ⟨f1, f2⟩ := form_look e
  have fl := form_len e
  have al : e.args.length ≤ 4 := by cases e <;> simp [Ex.args]
  have z : SeqAt.shaped (.tuple []) = true := rfl
  rw [he] at sh ⊢
  refine seq_no (fun Q q => ?_) ?_
  · simp [z, sh, eqv_nilT, isT_str, f1]
    exact q
  have key : dIn false (.str (Str.ofString e.w)) cst_AMOUNTS = fun Q => dIn false (.str (Str.ofString e.w)) cst_AMOUNTS Q := rfl
  have sl : (formOf e).length ≤ sizeLine := le_line (by omega)
  simp only [mRet, dAnd, bT, d2, dVar, slots0, dC, aCons, aNil, dB]
  simp
  refine in_am e ?_
  cases ha : e.isAm with
  | true =>
    simp [sortS, f1, sl, fl]
    have : (e.args.length : Int) + 1 = 1 + (e.args.length : Int) := by omega
    simp [this]
    exact ⟨le_line (by omega), h⟩
  | false =>
    simp [sortS, f1, sl, fl]
    have : (e.args.length : Int) + 1 = 1 + (e.args.length : Int) := by omega
    simp [this]
    exact ⟨le_line (by omega), h⟩
end EX

/-! EX: how many tuples are left. -/
namespace EX
open PySem PySem.Spec PyProof.Rows L2 BK
open DL hiding g_is_between tb_is_between rd_is_between
def gn_parts_left (n : Nat) : DF := fun dl P => ∃ (ins : Ins) (ks : List Bool) (e : Ex) (s : Bool) (left deep : Nat), dl = [insD ins, kindsD ks, .str (S (sortS s)), e.d, .int left, .int deep] ∧ e.ty ins ks s ∧ (e.deep ≤ n ∧ n ≤ 50) ∧ e.size ≤ left ∧ e.deep ≤ deep ∧ P (.val (.int ((left - e.size : Nat) : Int)))
theorem nz_parts_left : ∀ dl Q, ¬ gn_parts_left 0 dl Q := by
  rintro dl Q ⟨_, _, e, _, _, _, _, _, ⟨h, _⟩, _⟩
  have := e.deep_pos; omega
def lb_parts_left_1 (g : DF) : DM := (mIf (bAnd (bT (d2 dGe (dVar 4) (dC (.int 0)))) (bT (d2 (dIn false) (dVar 6) (dC (.str "at"))))) (mSet 4 (dCall g (aCons (dVar 0) (aCons (dVar 1) (aCons (dVar 6) (aCons (dVar 7) (aCons (dVar 4) (aCons (d2 dSub (dVar 5) (dC (.int 1))) aNil)))))))) (mIf (bAnd (bT (d2 dGe (dVar 4) (dC (.int 0)))) (bT (d2 dEq (dVar 6) (dC (.str "x"))))) (mSet 4 (dIf (bT (dCall g_is_between (aCons (dC (.int 0)) (aCons (dVar 7) (aCons (d2 dIx (dCall g_ends_of (aCons (d2 dIx (d2 dIx (dVar 0) (d2 dIx (dVar 3) (dC (.int 1)))) (dC (.int 1))) aNil)) (dC (.int 1))) aNil))))) (dVar 4) (d1 dNeg (dC (.int 1))))) (mIf (bAnd (bT (d2 dGe (dVar 4) (dC (.int 0)))) (bNot (bT (dCall g_is_plain (aCons (dVar 0) (aCons (dVar 1) (aCons (dVar 6) (aCons (dVar 7) aNil)))))))) (mSet 4 (d1 dNeg (dC (.int 1)))) mNil)))
def tb_parts_left (g : DF) : DM := (mSeq (mIf (bOr (bT (d2 dLt (dVar 4) (dC (.int 1)))) (bOr (bT (d2 dLt (dVar 5) (dC (.int 1)))) (bNot (bT (dCall g_has_form (aCons (dVar 3) (aCons (dVar 2) aNil))))))) (mRet (d1 dNeg (dC (.int 1)))) mNil)
    (mSeq (mDec 4 (dC (.int 1)))
    (mSeq (mFor (iZg (dKix cst_FORMS (d2 dIx (dVar 3) (dC (.int 0)))) (dSl (dVar 3) (pSome (dC (.int 1))) pNone)) (gTp 2 (gsCons (gNm 6) (gsCons (gNm 7) gsNil))) (lb_parts_left_1 g))
    (mRet (dVar 4)))))
/-- a member behind the head, and how many tuples it has -/
inductive Arg (ins : Ins) (ks : List Bool) (n deep : Nat) (e1 : D) : String × D → Nat → Prop
  | kid (k : Ex) (b : Bool) : k.ty ins ks b → k.deep ≤ n → k.deep ≤ deep → Arg ins ks n deep e1 (sortS b, k.d) k.size
  | plain (s : String) (v : D) : Plain ins ks s v → Arg ins ks n deep e1 (s, v) 0
  | x (i x : Nat) (y : Str) (ws : List Str) : e1 = .int i → ins[i]? = some (y, .pick ws) → x < ws.length → Arg ins ks n deep e1 ("x", .int x) 0
theorem plain_no {ins : Ins} {ks : List Bool} {s : String} {v : D} (h : Plain ins ks s v) : (∀ Q : Hd → Prop, Q (.tmp (.bool false)) → dIn false (.str (Str.ofString s)) (.str (Str.ofString "at")) Q) ∧ (s == "x") = false := by
  cases h <;> exact ⟨fun Q q => by simpa using q, by decide⟩
theorem loop_args {ins : Ins} {ks : List Bool} {n deep : Nat} {e1 so : D} {er : List D} {E : En} (hn : n ≤ 50) : ∀ (as : List (String × D)) (ws : List Nat) (left : Nat) (a6 a7 : SD), Paired (Arg ins ks n deep e1) as ws → ws.sum ≤ left →
    (∀ a6 a7, E.nx [.val (insD ins), .val (kindsD ks), .val so, .val (.tuple (er.headD .none :: e1 :: er.tail)), .val (.int ((left - ws.sum : Nat) : Int)), .val (.int ((deep + 1 : Nat) : Int)), a6, a7]) →
    loopD (gTp 2 (gsCons (gNm 6) (gsCons (gNm 7) gsNil))) (lb_parts_left_1 (gn_parts_left n)) (as.map fun p => .tuple [.str (S p.1), p.2]) E [.val (insD ins), .val (kindsD ks), .val so, .val (.tuple (er.headD .none :: e1 :: er.tail)), .val (.int (left : Int)), .val (.int ((deep + 1 : Nat) : Int)), a6, a7]
  | [], _, left, a6, a7, .nil, _, k => by simpa [loopD] using k a6 a7
  | (s, v) :: as, w :: ws, left, a6, a7, .cons ha hr, hl, k => by
    rw [List.sum_cons] at hl
    have go := fun a6 a7 => loop_args (ins := ins) (ks := ks) (n := n) (deep := deep) (e1 := e1) (so := so) (er := er) (E := E) hn as ws (left - w) a6 a7 hr (by omega) (fun a b => by
      have := k a b
      rw [List.sum_cons] at this
      rw [show left - w - ws.sum = left - (w + ws.sum) from by omega]; exact this)
    have l0 : (0 : Int) ≤ (left : Int) := by omega
    rw [List.map_cons]
    simp only [loopD]
    simp only [gTp, gsCons, gNm, gsNil, put]
    simp
    unfold lb_parts_left_1
    cases ha with
    | kid kk b hk d1 d2 =>
      have is : ∀ Q : Hd → Prop, Q (.tmp (.bool true)) → dIn false (.str (Str.ofString (sortS b))) (.str (Str.ofString "at")) Q := fun Q q => by cases b <;> simpa [sortS] using q
      refine if_yes (fun Q q => ?_) ?_
      · simp [l0]
        exact is _ (by simpa using q)
      · simp
        refine ⟨ins, ks, kk, b, left, deep, rfl, hk, ⟨d1, hn⟩, by omega, d2, ?_⟩
        simpa [lb_parts_left_1] using go _ _
    | plain _ _ hp =>
      obtain ⟨p1, p2⟩ := plain_no hp
      have g2 := go
      rw [show left - 0 = left from rfl] at g2
      refine if_no (fun Q q => ?_) ?_
      · simp [l0]
        exact p1 _ (by simpa using q)
      refine if_no (fun Q q => by simpa [l0, p2] using q) ?_
      refine if_no (fun Q q => ?_) ?_
      · simp [l0]
        exact ⟨ins, ks, s, v, rfl, hp, by simpa using q⟩
      · simpa [lb_parts_left_1] using g2 _ _
    | x i xx y wss he hi hx =>
      have g2 := go
      rw [show left - 0 = left from rfl] at g2
      obtain ⟨q1, q2⟩ := ins_at hi
      subst he
      refine if_no (fun Q q => by simpa [l0] using q) ?_
      refine if_yes (fun Q q => by simpa [l0] using q) ?_
      have hx' : (xx : Int) ≤ (wss.length : Int) - 1 := by omega
      have e2 : atI (er.headD .none :: PyData.int i :: er.tail) 1 = some (.int i) := atI_nat (j := 1) rfl
      unfold insD
      simp [e2, q2, atI1]
      refine ⟨.pick wss, rfl, ?_⟩
      simp [atI1, Knd.hi, betw, hx']
      have := g2 (.val (.str (Str.ofString "x"))) (.val (.int xx))
      unfold insD at this
      simpa [lb_parts_left_1] using this
/-- the members of an expression that is right -/
theorem args_ok {ins : Ins} {ks : List Bool} {e : Ex} {s : Bool} {n deep : Nat} (ht : e.ty ins ks s) (h1 : e.deep ≤ n + 1) (h2 : e.deep ≤ deep + 1) : ∃ (e1 : D) (er : List D) (ws : List Nat), e.d = .tuple (er.headD .none :: e1 :: er.tail) ∧ Paired (Arg ins ks n deep e1) e.args ws ∧ ws.sum + 1 = e.size := by
  have K : ∀ {e1 : D} {k : Ex} (b : Bool) (t : String), t = sortS b → k.ty ins ks b → k.deep ≤ n → k.deep ≤ deep → Arg ins ks n deep e1 (t, k.d) k.size := fun b t ht h d1 d2 => by subst ht; exact .kid _ b h d1 d2
  cases e with
  | num n => exact ⟨_, [.str (S "num")], [0], rfl, .cons (.plain _ _ (.n n ht.2)) .nil, rfl⟩
  | input i => obtain ⟨_, x, lo, hi, h⟩ := ht; exact ⟨_, [.str (S "input")], [0], rfl, .cons (.plain _ _ (.i i x lo hi h)) .nil, rfl⟩
  | given k => exact ⟨_, [.str (S "given")], [0], rfl, .cons (.plain _ _ (.g k ht.2)) .nil, rfl⟩
  | yes i => obtain ⟨_, x, h⟩ := ht; exact ⟨_, [.str (S "yes")], [0], rfl, .cons (.plain _ _ (.y i x h)) .nil, rfl⟩
  | told k => exact ⟨_, [.str (S "told")], [0], rfl, .cons (.plain _ _ (.o k ht.2)) .nil, rfl⟩
  | isw i x => obtain ⟨_, y, ws, h, hx⟩ := ht; exact ⟨_, [.str (S "is"), .int x], [0, 0], rfl, .cons (.plain _ _ (.k i y ws h)) (.cons (.x i x y ws rfl h hx) .nil), rfl⟩
  | add a b => simp only [Ex.deep] at h1 h2; exact ⟨_, [.str (S "add"), b.d], [a.size, b.size], rfl, .cons (K true _ rfl ht.2.1 (by omega) (by omega)) (.cons (K true _ rfl ht.2.2 (by omega) (by omega)) .nil), by simp [Ex.size]⟩
  | take a b => simp only [Ex.deep] at h1 h2; exact ⟨_, [.str (S "take"), b.d], [a.size, b.size], rfl, .cons (K true _ rfl ht.2.1 (by omega) (by omega)) (.cons (K true _ rfl ht.2.2 (by omega) (by omega)) .nil), by simp [Ex.size]⟩
  | least a b => simp only [Ex.deep] at h1 h2; exact ⟨_, [.str (S "least"), b.d], [a.size, b.size], rfl, .cons (K true _ rfl ht.2.1 (by omega) (by omega)) (.cons (K true _ rfl ht.2.2 (by omega) (by omega)) .nil), by simp [Ex.size]⟩
  | most a b => simp only [Ex.deep] at h1 h2; exact ⟨_, [.str (S "most"), b.d], [a.size, b.size], rfl, .cons (K true _ rfl ht.2.1 (by omega) (by omega)) (.cons (K true _ rfl ht.2.2 (by omega) (by omega)) .nil), by simp [Ex.size]⟩
  | less a b => simp only [Ex.deep] at h1 h2; exact ⟨_, [.str (S "less"), b.d], [a.size, b.size], rfl, .cons (K true _ rfl ht.2.1 (by omega) (by omega)) (.cons (K true _ rfl ht.2.2 (by omega) (by omega)) .nil), by simp [Ex.size]⟩
  | same a b => simp only [Ex.deep] at h1 h2; exact ⟨_, [.str (S "same"), b.d], [a.size, b.size], rfl, .cons (K true _ rfl ht.2.1 (by omega) (by omega)) (.cons (K true _ rfl ht.2.2 (by omega) (by omega)) .nil), by simp [Ex.size]⟩
  | and a b => simp only [Ex.deep] at h1 h2; exact ⟨_, [.str (S "and"), b.d], [a.size, b.size], rfl, .cons (K false _ rfl ht.2.1 (by omega) (by omega)) (.cons (K false _ rfl ht.2.2 (by omega) (by omega)) .nil), by simp [Ex.size]⟩
  | or a b => simp only [Ex.deep] at h1 h2; exact ⟨_, [.str (S "or"), b.d], [a.size, b.size], rfl, .cons (K false _ rfl ht.2.1 (by omega) (by omega)) (.cons (K false _ rfl ht.2.2 (by omega) (by omega)) .nil), by simp [Ex.size]⟩
  | ite t a b => simp only [Ex.deep] at h1 h2; exact ⟨_, [.str (S "if"), a.d, b.d], [t.size, a.size, b.size], rfl, .cons (K false _ rfl ht.2.1 (by omega) (by omega)) (.cons (K true _ rfl ht.2.2.1 (by omega) (by omega)) (.cons (K true _ rfl ht.2.2.2 (by omega) (by omega)) .nil)), by simp [Ex.size]; omega⟩
  | not t => simp only [Ex.deep] at h1 h2; exact ⟨_, [.str (S "not")], [t.size], rfl, .cons (K false _ rfl ht.2 (by omega) (by omega)) .nil, by simp [Ex.size]⟩
  | times m a => simp only [Ex.deep] at h1 h2; exact ⟨_, [.str (S "times"), a.d], [0, a.size], rfl, .cons (.plain _ _ (.m m ht.2.1)) (.cons (K true _ rfl ht.2.2 (by omega) (by omega)) .nil), by simp [Ex.size]⟩
  | share a p q w => simp only [Ex.deep] at h1 h2; exact ⟨_, [.str (S "share"), .int p, .int q, .str (S w.s)], [a.size, 0, 0, 0], rfl, .cons (K true _ rfl ht.2.2 (by omega) (by omega)) (.cons (.plain _ _ (.p p ht.2.1.1)) (.cons (.plain _ _ (.q q ht.2.1.2)) (.cons (.plain _ _ (.w w)) .nil))), by simp [Ex.size]⟩
theorem rd_parts_left (n : Nat) : ∀ dl Q, dl.length = 6 → gn_parts_left (n + 1) dl Q → tb_parts_left (gn_parts_left n) (enF Q) (slots0 8 dl) := by
  rintro dl Q - ⟨ins, ks, e, s, left, deep, rfl, ht, ⟨hn, hm⟩, hz, hd, h⟩
  unfold tb_parts_left
  have p1 := e.size_pos
  have p2 := e.deep_pos
  obtain ⟨deep, rfl⟩ : ∃ m, deep = m + 1 := ⟨deep - 1, by omega⟩
  have am := ty_am ht
  refine seq_no (fun Q q => ?_) ?_
  · have c1 : ¬ (left : Int) < 1 := by omega
    have c2 : ¬ (((deep + 1 : Nat) : Int)) < 1 := by omega
    simp at c2
    simp [c1, c2]
    exact ⟨e, by rw [am], by omega, by simpa using q⟩
  refine seq1 [.val (insD ins), .val (kindsD ks), .val (.str (S (sortS s))), .val e.d, .val (.int ((left - 1 : Nat) : Int)), .val (.int ((deep + 1 : Nat) : Int)), .no, .no] (fun k q => ?_) ?_
  · have e1 : (left : Int) - 1 = ((left - 1 : Nat) : Int) := by omega
    simp [e1]
    simpa using q
  obtain ⟨e1, er, ws, he, hp, hs⟩ := args_ok (n := n) (deep := deep) ht hn hd
  simp only [mSeq, mFor]
  refine it_form (i := 3) (e := e) rfl ?_
  unfold Ex.pairs
  rw [he]
  refine loop_args (by omega) e.args ws (left - 1) _ _ hp (by omega) (fun a6 a7 => ?_)
  rw [show left - 1 - ws.sum = left - e.size from by omega]
  simpa using h
def ExOk (ins : Ins) (ks : List Bool) (s : Bool) (e : Ex) : Prop := e.ty ins ks s ∧ e.deep ≤ 12 ∧ e.size ≤ 60
def g_is_amount : DF := fun dl P => ∃ (ins : Ins) (ks : List Bool) (e : Ex), dl = [insD ins, kindsD ks, e.d] ∧ (fitI (insD ins) ∧ inputsB (insD ins) = true) ∧ ExOk ins ks true e ∧ P (.val (.bool true))
def g_is_truth : DF := fun dl P => ∃ (ins : Ins) (ks : List Bool) (e : Ex), dl = [insD ins, kindsD ks, e.d] ∧ (fitI (insD ins) ∧ inputsB (insD ins) = true) ∧ ExOk ins ks false e ∧ P (.val (.bool true))
def tb_is_amount : DM := (mSeq (mExpr (dCall g_check_inputs (aCons (dVar 0) aNil)))
    (mRet (d2 dGe (dCall (gn_parts_left 13) (aCons (dVar 0) (aCons (dVar 1) (aCons (dC (.str "a")) (aCons (dVar 2) (aCons (dC cst_MOST_TUPLES) (aCons (dC cst_MOST_DEEP_expressions) aNil))))))) (dC (.int 0)))))
def tb_is_truth : DM := (mSeq (mExpr (dCall g_check_inputs (aCons (dVar 0) aNil)))
    (mRet (d2 dGe (dCall (gn_parts_left 13) (aCons (dVar 0) (aCons (dVar 1) (aCons (dC (.str "t")) (aCons (dVar 2) (aCons (dC cst_MOST_TUPLES) (aCons (dC cst_MOST_DEEP_expressions) aNil))))))) (dC (.int 0)))))
theorem rd_is_amount : ∀ dl Q, dl.length = 3 → g_is_amount dl Q → tb_is_amount (enF Q) (slots0 3 dl) := by
  rintro dl Q - ⟨ins, ks, e, rfl, ⟨f1, f2⟩, ⟨h1, h2, h3⟩, h⟩
  unfold tb_is_amount
  refine seq1 [.val (insD ins), .val (kindsD ks), .val e.d] (fun k q => ?_) ?_
  · simp [f1, f2]
    exact q
  simp [cst_MOST_TUPLES, cst_MOST_DEEP_expressions]
  exact ⟨ins, ks, e, true, 60, 12, rfl, h1, ⟨by omega, by omega⟩, h3, h2, by simpa using h⟩
theorem rd_is_truth : ∀ dl Q, dl.length = 3 → g_is_truth dl Q → tb_is_truth (enF Q) (slots0 3 dl) := by
  rintro dl Q - ⟨ins, ks, e, rfl, ⟨f1, f2⟩, ⟨h1, h2, h3⟩, h⟩
  unfold tb_is_truth
  refine seq1 [.val (insD ins), .val (kindsD ks), .val e.d] (fun k q => ?_) ?_
  · simp [f1, f2]
    exact q
  simp [cst_MOST_TUPLES, cst_MOST_DEEP_expressions]
  exact ⟨ins, ks, e, false, 60, 12, rfl, h1, ⟨by omega, by omega⟩, h3, h2, by simpa using h⟩
end EX

/-! EX: rules; the look at a book that is right. -/
namespace EX
open PySem PySem.Spec PyProof.Rows L2 BK
open DL hiding g_is_between tb_is_between rd_is_between
inductive Rule where
  | mk (label : Str) (exs : List Rule) (cond res : Ex)
mutual
def Rule.d : Rule → D
  | .mk l xs c e => .tuple [.str l, .tuple (Rule.ds xs), c.d, e.d]
def Rule.ds : List Rule → List D
  | [] => []
  | r :: rs => r.d :: Rule.ds rs
end
mutual
def Rule.deep : Rule → Nat
  | .mk _ xs _ _ => Rule.deeps xs + 1
def Rule.deeps : List Rule → Nat
  | [] => 0
  | r :: rs => max r.deep (Rule.deeps rs)
end
mutual
def Rule.labels : Rule → List Str
  | .mk l xs _ _ => l :: Rule.labelss xs
def Rule.labelss : List Rule → List Str
  | [] => []
  | r :: rs => r.labels ++ Rule.labelss rs
end
mutual
def Rule.ok (ins : Ins) (ks : List Bool) (s : Bool) : Rule → Prop
  | .mk l xs c e => wordB (.str l) = true ∧ xs.length ≤ 5 ∧ ExOk ins ks false c ∧ ExOk ins ks s e ∧ Rule.oks ins ks s xs
def Rule.oks (ins : Ins) (ks : List Bool) (s : Bool) : List Rule → Prop
  | [] => True
  | r :: rs => r.ok ins ks s ∧ Rule.oks ins ks s rs
end
theorem ds_len : ∀ rs : List Rule, (Rule.ds rs).length = rs.length
  | [] => rfl
  | r :: rs => by simp [Rule.ds, ds_len rs]
theorem ds_map : ∀ rs : List Rule, Rule.ds rs = rs.map Rule.d
  | [] => rfl
  | r :: rs => by simp [Rule.ds, ds_map rs]
theorem word_fit {l : Str} (h : wordB (.str l) = true) : l.length ≤ sizeLine := by
  simp [wordB] at h
  exact le_line (by omega)
abbrev ns_Look : List Str := ["inputs", "sorts", "labels"]
abbrev lookO (C a al : Addr) (ins : Ins) (ks : List Bool) (L : List Str) : Ob := ⟨a, C, ns_Look, [.val (insD ins), .val (kindsD ks), .own al (L.map .str)]⟩
theorem nx_mk {f r b c} {ds : DS} (h : f ds) : (En.mk f r b c).nx ds := h
theorem in_L {l : Str} {L : List Str} {Q : Hd → Prop} (h : l ∉ L) (q : Q (.tmp (.bool false))) : dIn false (.str l) (.list (L.map .str)) Q := by
  have e : inD (.str l) (L.map .str) = false := by
    simp only [inD, List.any_eq_false, List.mem_map]
    rintro _ ⟨m, hm, rfl⟩ hc
    simp [PyData.eqv] at hc
    exact h (hc ▸ hm)
  refine ⟨rfl, ?_, ?_⟩
  · simp only [List.all_eq_true, List.mem_map]
    rintro _ ⟨m, _, rfl⟩; rfl
  · simpa [e] using q
/-! Look.__init__ -/
def g_Look___init__ (C : Addr) : DFO := fun o dl P => ∃ (a : Addr) (ins : Ins), o = ⟨a, C, [], []⟩ ∧ dl = [insD ins] ∧ ∀ al, P (.val .none) (lookO C a al ins [] [])
def tb_Look___init__ (C_Look : Addr) : DM := (mSeq (mFldN 0 C_Look (ns_Look.take 0) "inputs" (dVar 1))
    (mSeq (mFldN 0 C_Look (ns_Look.take 1) "sorts" (dTup aNil))
    (mFldN 0 C_Look (ns_Look.take 2) "labels" (dLst aNil))))
theorem rd_Look___init__ (C_Look : Addr) : ∀ o dl Q, dl.length = 1 → g_Look___init__ C_Look o dl Q → tb_Look___init__ C_Look (enO o Q) (slotsO 2 o dl) := by
  rintro o dl Q - ⟨a, ins, rfl, rfl, h⟩
  unfold tb_Look___init__
  simp
  exact h
/-! rule_fault -/
structure InOk (ins : Ins) : Prop where
  f : fitI (insD ins)
  b : inputsB (insD ins) = true
def gn_Look_rule_fault (C : Addr) (n : Nat) : DFO := fun o dl P => ∃ (a al : Addr) (ins : Ins) (ks : List Bool) (s : Bool) (L : List Str) (r : Rule) (pl : List D) (deep : Nat), o = lookO C a al ins ks L ∧ dl = [r.d, .tuple pl, kindD s, .int deep] ∧ InOk ins ∧ r.ok ins ks s ∧ (r.deep ≤ n ∧ n ≤ 50) ∧ deep + r.deep ≤ 13 ∧ (L ++ r.labels).Nodup ∧ (L ++ r.labels).length ≤ 40 ∧ (pl.length + r.deep ≤ 100) ∧ P (.val .none) (lookO C a al ins ks (L ++ r.labels))
theorem nz_Look_rule_fault (C : Addr) : ∀ o dl Q, ¬ gn_Look_rule_fault C 0 o dl Q := by
  rintro o dl Q ⟨_, _, _, _, _, _, r, _, _, _, _, _, _, ⟨h, _⟩, _⟩
  cases r; simp [Rule.deep] at h
def lb_Look_rule_fault_1 (F_is_amount : Addr) (F_is_truth : Addr) (C_Look : Addr) (g : DFO) : DM := (mSeq (mSet 7 (dMeth 0 C_Look ns_Look g (aCons (dVar 6) (aCons (d2 dAdd (dVar 2) (dTup (aCons (dVar 5) aNil))) (aCons (dVar 3) (aCons (d2 dAdd (dVar 4) (dC (.int 1))) aNil))))))
    (mIf (bT (d2 (dIsN true) (dVar 7) (dC .none))) (mRet (dVar 7)) mNil))
def tb_Look_rule_fault (F_is_amount : Addr) (F_is_truth : Addr) (C_Look : Addr) (g : DFO) : DM := (mSeq (mIf (bOr (bNot (bT (dCall g_is_tuple_of (aCons (dC (.int 4)) (aCons (dVar 1) aNil))))) (bOr (bNot (bT (dCall g_is_word (aCons (d2 dIx (dVar 1) (dC (.int 0))) aNil)))) (bT (d2 (dIn false) (d2 dIx (dVar 1) (dC (.int 0))) (dFld 0 C_Look ns_Look 2))))) (mRet (dVar 2)) mNil)
    (mSeq (mIf (bOr (bT (d2 dEq (dB bLen (aCons (dFld 0 C_Look ns_Look 2) aNil)) (dC cst_MOST_RULES))) (bT (d2 dGt (dVar 4) (dC cst_MOST_DEEP_books)))) (mRet (dVar 2)) mNil)
    (mSeq (mIf (bOr (bNot (bT (dIsi "tuple" (d2 dIx (dVar 1) (dC (.int 1)))))) (bT (d2 dGt (dB bLen (aCons (d2 dIx (dVar 1) (dC (.int 1))) aNil)) (dC cst_MOST_EXCEPTIONS)))) (mRet (dVar 2)) mNil)
    (mSeq (mAppF 0 C_Look ns_Look 2 (d2 dIx (dVar 1) (dC (.int 0))))
    (mSeq (mFor (iEn (d2 dIx (dVar 1) (dC (.int 1)))) (gTp 2 (gsCons (gNm 5) (gsCons (gNm 6) gsNil))) (lb_Look_rule_fault_1 F_is_amount F_is_truth C_Look g))
    (mSeq (mIf (bNot (bT (dCall g_is_truth (aCons (dFld 0 C_Look ns_Look 0) (aCons (dFld 0 C_Look ns_Look 1) (aCons (d2 dIx (dVar 1) (dC (.int 2))) aNil)))))) (mRet (d2 dAdd (dVar 2) (dTup (aCons (dC cst_CONDITION) aNil)))) mNil)
    (mSeq (mSet 8 (dIf (bT (d2 dEq (dVar 3) (dC (.str "int")))) (dFn F_is_amount) (dFn F_is_truth)))
    (mRet (dIf (bT (dCallV 8 F_is_amount F_is_truth g_is_amount g_is_truth (aCons (dFld 0 C_Look ns_Look 0) (aCons (dFld 0 C_Look ns_Look 1) (aCons (d2 dIx (dVar 1) (dC (.int 3))) aNil))))) (dC .none) (d2 dAdd (dVar 2) (dTup (aCons (dC cst_RESULT) aNil))))))))))))

theorem loop_rules {C F1 F2 a al : Addr} {ins : Ins} {ks : List Bool} {s : Bool} {n deep : Nat} {pl : List D} {rd : D} {E : En} (hi : InOk ins) (hn : n ≤ 50) : ∀ (rs : List Rule) (k : Nat) (L : List Str) (a5 a6 a7 : SD), Rule.oks ins ks s rs → Rule.deeps rs ≤ n → deep + 1 + Rule.deeps rs ≤ 13 → (L ++ Rule.labelss rs).Nodup → (L ++ Rule.labelss rs).length ≤ 40 → pl.length + 1 + Rule.deeps rs ≤ 100 →
    (∀ a5 a6 a7, E.nx [.ob (lookO C a al ins ks (L ++ Rule.labelss rs)), .val rd, .val (.tuple pl), .val (kindD s), .val (.int deep), a5, a6, a7, .no]) →
    loopD (gTp 2 (gsCons (gNm 5) (gsCons (gNm 6) gsNil))) (lb_Look_rule_fault_1 F1 F2 C (gn_Look_rule_fault C n)) (enumF k (Rule.ds rs)) E [.ob (lookO C a al ins ks L), .val rd, .val (.tuple pl), .val (kindD s), .val (.int deep), a5, a6, a7, .no]
  | [], k, L, a5, a6, a7, _, _, _, _, _, _, h => by simpa [Rule.ds, enumF, loopD, Rule.labelss] using h a5 a6 a7
  | r :: rs, k, L, a5, a6, a7, ho, hd, hd2, hu, hl, hp, h => by
    simp only [Rule.oks] at ho
    simp only [Rule.deeps] at hd hd2 hp
    simp only [Rule.labelss, ← List.append_assoc] at hu hl h
    have go := fun a5 a6 a7 => loop_rules (C := C) (F1 := F1) (F2 := F2) (a := a) (al := al) (rd := rd) (E := E) hi hn rs (k + 1) (L ++ r.labels) a5 a6 a7 ho.2 (by omega) (by omega) hu hl (by omega) h
    simp only [Rule.ds, enumF, loopD]
    simp only [gTp, gsCons, gNm, gsNil, put]
    simp
    unfold lb_Look_rule_fault_1
    refine seq1 [.ob (lookO C a al ins ks (L ++ r.labels)), .val rd, .val (.tuple pl), .val (kindD s), .val (.int deep), .val (.int k), .val r.d, .val .none, .no] (fun q h2 => ?_) ?_
    · have lp : pl.length + 1 ≤ sizeLine := le_line (by omega)
      unfold kindD
      simp [lp]
      refine ⟨a, al, ins, ks, s, L, r, pl ++ [.int k], deep + 1, rfl, rfl, hi, ho.1, ⟨by omega, hn⟩, by omega, (List.nodup_append.mp hu).1, ?_, ?_, ?_⟩
      · simp at hl ⊢; omega
      · simp; omega
      · simpa [kindD] using h2
    · refine if_no (fun Q q => by simpa using q) ?_
      have := go (.val (.int k)) (.val r.d) (.val .none)
      simpa [lb_Look_rule_fault_1] using this
theorem rd_Look_rule_fault (F_is_amount : Addr) (F_is_truth : Addr) (C_Look : Addr) (n : Nat) : ∀ o dl Q, dl.length = 4 → gn_Look_rule_fault C_Look (n + 1) o dl Q → tb_Look_rule_fault F_is_amount F_is_truth C_Look (gn_Look_rule_fault C_Look n) (enO o Q) (slotsO 9 o dl) := by
  rintro o dl Q - ⟨a, al, ins, ks, s, L, r, pl, deep, rfl, rfl, hi, ho, ⟨hd, hn⟩, hd2, hu, hl, hp, h⟩
  obtain ⟨l, xs, c, e⟩ := r
  unfold tb_Look_rule_fault
  simp only [Rule.d]
  simp only [Rule.ok] at ho
  simp only [Rule.deep] at hd hd2 hp
  simp only [Rule.labels] at hu hl h
  obtain ⟨hw, hx, hc, he, hos⟩ := ho
  have u0 : l ∉ L := fun z => (List.nodup_append.mp hu).2.2 l z l (List.mem_cons_self) rfl
  have hlL : L.length < 40 := by simp at hl; omega
  refine seq_no (fun Q q => ?_) ?_
  · simp [hw]
    refine ⟨word_fit hw, in_L u0 ?_⟩
    simpa using q
  refine seq_no (fun Q q => ?_) ?_
  · have c1 : ¬ (L.length : Int) = 40 := by omega
    have c2 : ¬ (deep : Int) > 12 := by omega
    have c3 : decide ((12 : Int) < deep) = false := decide_eq_false (by omega)
    simp [cst_MOST_RULES, cst_MOST_DEEP_books, c1, c3]
    simpa using q
  refine seq_no (fun Q q => ?_) ?_
  · have c2 : decide ((5 : Int) < (xs.length : Int)) = false := decide_eq_false (by omega)
    have c4 : isT "tuple" (.tuple (Rule.ds xs)) = true := rfl
    simp [cst_MOST_EXCEPTIONS, ds_len, c2, c4]
    simpa using q
  refine seq1 (slotsO 9 (lookO C_Look a al ins ks (L ++ [l])) [.tuple [.str l, .tuple (Rule.ds xs), c.d, e.d], .tuple pl, kindD s, .int deep]) (fun k q => ?_) ?_
  · have := le_line (n := L.length + 1) (by omega)
    simp
    refine ⟨by omega, ?_⟩
    simpa [lookO] using q
  simp only [mSeq, mFor, iEn, slotsO]
  simp
  refine loop_rules (rd := .tuple [.str l, .tuple (Rule.ds xs), c.d, e.d]) hi (by omega) xs 0 (L ++ [l]) .no .no .no hos (by omega) (by omega) (by simpa using hu) (by simpa using hl) (by omega) (fun a5 a6 a7 => ?_)
  rw [show L ++ [l] ++ Rule.labelss xs = L ++ l :: Rule.labelss xs from by simp]
  refine nx_mk ?_
  refine seq_no (fun Q q => ?_) ?_
  · simp
    exact ⟨ins, ks, c, rfl, ⟨hi.f, hi.b⟩, hc, by simpa using q⟩
  cases s with
  | true =>
    refine seq1 [.ob (lookO C_Look a al ins ks (L ++ l :: Rule.labelss xs)), .val (.tuple [.str l, .tuple (Rule.ds xs), c.d, e.d]), .val (.tuple pl), .val (kindD true), .val (.int deep), a5, a6, a7, .wd (fnW F_is_amount)] (fun k q => ?_) ?_
    · simp [kindD, S]
      simpa [kindD] using q
    · simp
      refine .inl ⟨ins, ks, e, rfl, ⟨hi.f, hi.b⟩, he, ?_⟩
      simpa using h
  | false =>
    refine seq1 [.ob (lookO C_Look a al ins ks (L ++ l :: Rule.labelss xs)), .val (.tuple [.str l, .tuple (Rule.ds xs), c.d, e.d]), .val (.tuple pl), .val (kindD false), .val (.int deep), a5, a6, a7, .wd (fnW F_is_truth)] (fun k q => ?_) ?_
    · simp [kindD, S]
      simpa [kindD] using q
    · simp
      refine .inr ⟨ins, ks, e, rfl, ⟨hi.f, hi.b⟩, he, ?_⟩
      simpa using h
end EX

/-! EX: definitions; the look at a book that is right, to its end. -/
namespace EX
open PySem PySem.Spec PyProof.Rows L2 BK
open DL hiding g_is_between tb_is_between rd_is_between
theorem lfA_all {xs : List D} (h : ∀ x ∈ xs, lfD x = true) : lfA xs = true := by
  induction xs with
  | nil => rfl
  | cons x xs ih => simp [lfA, h x (by simp), ih (fun y m => h y (by simp [m]))]
theorem lf_kinds (ks : List Bool) : lfD (kindsD ks) = true := lfA_all fun x h => by
  obtain ⟨b, _, rfl⟩ := List.mem_map.mp h; rfl
theorem lf_ins (ins : Ins) : lfD (insD ins) = true := lfA_all fun x h => by
  obtain ⟨p, _, rfl⟩ := List.mem_map.mp h
  have e : lfD p.2.d = true := by
    cases p.2 with
    | truth => rfl
    | int _ _ => rfl
    | pick ws =>
      simp [Knd.d, lfD, lfA]
      exact lfA_all fun x h => by obtain ⟨b, _, rfl⟩ := List.mem_map.mp h; rfl
  simp [lfD, lfA, e]
theorem lf_strs (L : List Str) : lfA (L.map .str) = true := lfA_all fun x h => by
  obtain ⟨b, _, rfl⟩ := List.mem_map.mp h; rfl
theorem lf_look {C a al : Addr} {ins : Ins} {ks : List Bool} {L : List Str} : (lookO C a al ins ks L).lf = true := by
  simp [Ob.lf, lf_ins, lf_kinds, lf_strs]
structure Defn where
  name : Str
  sort : Bool
  rules : List Rule
def Defn.d (x : Defn) : D := .tuple [.str x.name, kindD x.sort, .tuple (Rule.ds x.rules)]
structure DefnOk (ins : Ins) (ks : List Bool) (x : Defn) : Prop where
  w : wordB (.str x.name) = true
  l : 1 ≤ x.rules.length ∧ x.rules.length ≤ 6
  o : Rule.oks ins ks x.sort x.rules
  p : Rule.deeps x.rules ≤ 12
/-! definition_fault -/
def g_Look_definition_fault (C : Addr) : DFO := fun o dl P => ∃ (a al : Addr) (ins : Ins) (ks : List Bool) (L : List Str) (x : Defn) (pl : List D) (ns : List Str), o = lookO C a al ins ks L ∧ dl = [x.d, .tuple pl, .list (ns.map .str)] ∧ InOk ins ∧ ks.length ≤ 100 ∧ DefnOk ins ks x ∧ (L ++ Rule.labelss x.rules).Nodup ∧ (L ++ Rule.labelss x.rules).length ≤ 40 ∧ pl.length ≤ 10 ∧ x.name ∉ ns ∧ P (.val .none) (lookO C a al ins (ks ++ [x.sort]) (L ++ Rule.labelss x.rules))
def lb_Look_definition_fault_1 (C_Look : Addr) : DM := (mSeq (mSet 9 (dMeth 0 C_Look ns_Look (gn_Look_rule_fault C_Look 13) (aCons (dVar 8) (aCons (d2 dAdd (dVar 2) (dTup (aCons (dVar 7) aNil))) (aCons (dVar 5) (aCons (dC (.int 1)) aNil))))))
    (mIf (bT (d2 (dIsN true) (dVar 9) (dC .none))) (mRet (dVar 9)) mNil))
def tb_Look_definition_fault (C_Look : Addr) : DM := (mSeq (mIf (bOr (bNot (bT (dCall g_is_tuple_of (aCons (dC (.int 3)) (aCons (dVar 1) aNil))))) (bOr (bNot (bT (dCall g_is_word (aCons (d2 dIx (dVar 1) (dC (.int 0))) aNil)))) (bT (d2 (dIn false) (d2 dIx (dVar 1) (dC (.int 0))) (dVar 3))))) (mRet (dVar 2)) mNil)
    (mSeq (mUnp (dVar 1) (gTp 3 (gsCons (gNm 4) (gsCons (gNm 5) (gsCons (gNm 6) gsNil)))))
    (mSeq (mIf (bOr (bNot (bT (dIsi "str" (dVar 5)))) (bT (d2 (dIn true) (dVar 5) (dC cst_SORTS)))) (mRet (dVar 2)) mNil)
    (mSeq (mIf (bOr (bNot (bT (dIsi "tuple" (dVar 6)))) (bNot (bT (dChain dLe dLe (dC (.int 1)) (dB bLen (aCons (dVar 6) aNil)) (dC cst_MOST_BESIDE))))) (mRet (dVar 2)) mNil)
    (mSeq (mFor (iEn (dVar 6)) (gTp 2 (gsCons (gNm 7) (gsCons (gNm 8) gsNil))) (lb_Look_definition_fault_1 C_Look))
    (mSeq (mFldS 0 C_Look ns_Look 1 (d2 dAdd (dFld 0 C_Look ns_Look 1) (dTup (aCons (dVar 5) aNil))))
    (mRet (dC .none))))))))

theorem loop_def {C a al : Addr} {ins : Ins} {ks : List Bool} {s : Bool} {pl : List D} {d1 d3 d4 d6 : D} {E : En} (hi : InOk ins) : ∀ (rs : List Rule) (k : Nat) (L : List Str) (a7 a8 a9 : SD), Rule.oks ins ks s rs → Rule.deeps rs ≤ 12 → (L ++ Rule.labelss rs).Nodup → (L ++ Rule.labelss rs).length ≤ 40 → pl.length ≤ 10 →
    (∀ a7 a8 a9, E.nx [.ob (lookO C a al ins ks (L ++ Rule.labelss rs)), .val d1, .val (.tuple pl), .val d3, .val d4, .val (kindD s), .val d6, a7, a8, a9]) →
    loopD (gTp 2 (gsCons (gNm 7) (gsCons (gNm 8) gsNil))) (lb_Look_definition_fault_1 C) (enumF k (Rule.ds rs)) E [.ob (lookO C a al ins ks L), .val d1, .val (.tuple pl), .val d3, .val d4, .val (kindD s), .val d6, a7, a8, a9]
  | [], k, L, a5, a6, a7, _, _, _, _, _, h => by simpa [Rule.ds, enumF, loopD, Rule.labelss] using h a5 a6 a7
  | r :: rs, k, L, a5, a6, a7, ho, hd, hu, hl, hp, h => by
    simp only [Rule.oks] at ho
    simp only [Rule.deeps] at hd
    simp only [Rule.labelss, ← List.append_assoc] at hu hl h
    have go := fun a5 a6 a7 => loop_def (C := C) (a := a) (al := al) (d1 := d1) (d3 := d3) (d4 := d4) (d6 := d6) (E := E) hi rs (k + 1) (L ++ r.labels) a5 a6 a7 ho.2 (by omega) hu hl (by omega) h
    simp only [Rule.ds, enumF, loopD]
    simp only [gTp, gsCons, gNm, gsNil, put]
    simp
    unfold lb_Look_definition_fault_1
    refine seq1 [.ob (lookO C a al ins ks (L ++ r.labels)), .val d1, .val (.tuple pl), .val d3, .val d4, .val (kindD s), .val d6, .val (.int k), .val r.d, .val .none] (fun q h2 => ?_) ?_
    · have lp : pl.length + 1 ≤ sizeLine := le_line (by omega)
      unfold kindD
      simp [lp]
      refine ⟨a, al, ins, ks, s, L, r, pl ++ [.int k], 1, rfl, rfl, hi, ho.1, ⟨by omega, by omega⟩, by omega, (List.nodup_append.mp hu).1, ?_, ?_, ?_⟩
      · simp at hl ⊢; omega
      · simp; omega
      · simpa [kindD] using h2
    · refine if_no (fun Q q => by simpa using q) ?_
      have := go (.val (.int k)) (.val r.d) (.val .none)
      simpa [lb_Look_definition_fault_1] using this
theorem rd_Look_definition_fault (C_Look : Addr) : ∀ o dl Q, dl.length = 3 → g_Look_definition_fault C_Look o dl Q → tb_Look_definition_fault C_Look (enO o Q) (slotsO 10 o dl) := by
  rintro o dl Q - ⟨a, al, ins, ks, L, ⟨name, s, rs⟩, pl, ns, rfl, rfl, hi, hk, ⟨hw, hl, ho, hp⟩, hu, hll, hpl, hn, h⟩
  unfold tb_Look_definition_fault
  simp only [Defn.d]
  simp only at hw hl ho hp hn h hu hll
  refine seq_no (fun Q q => ?_) ?_
  · simp [hw]
    refine ⟨word_fit hw, in_L hn ?_⟩
    simpa using q
  refine seq1 [.ob (lookO C_Look a al ins ks L), .val (.tuple [.str name, kindD s, .tuple (Rule.ds rs)]), .val (.tuple pl), .val (.list (ns.map .str)), .val (.str name), .val (kindD s), .val (.tuple (Rule.ds rs)), .no, .no, .no] (fun k q => ?_) ?_
  · simp
    simpa using q
  refine seq_no (fun Q q => ?_) ?_
  · have c1 : isT "str" (kindD s) = true := rfl
    simp [c1]
    have c2 : ∀ R : Hd → Prop, R (.tmp (.bool false)) → dIn true (kindD s) cst_SORTS R := fun R r => by
      cases s <;> simpa [dIn, cst_SORTS, kindD, flatD, inD, PyData.eqv, S] using r
    exact c2 _ (by simpa using q)
  refine seq_no (fun Q q => ?_) ?_
  · have c4 : isT "tuple" (.tuple (Rule.ds rs)) = true := rfl
    have c5 : (1 : Int) ≤ (rs.length : Int) := by omega
    have c6 : (rs.length : Int) ≤ 6 := by omega
    simp [c4, cst_MOST_BESIDE, ds_len, c5, c6]
    simpa using q
  simp only [mSeq, mFor, iEn]
  simp
  refine loop_def hi rs 0 L .no .no .no ho hp hu hll hpl (fun a7 a8 a9 => ?_)
  refine nx_mk ?_
  have lk : ks.length + 1 ≤ sizeLine := le_line (by omega)
  refine seq1 [.ob (lookO C_Look a al ins (ks ++ [s]) (L ++ Rule.labelss rs)), .val (.tuple [.str name, kindD s, .tuple (Rule.ds rs)]), .val (.tuple pl), .val (.list (ns.map .str)), .val (.str name), .val (kindD s), .val (.tuple (Rule.ds rs)), a7, a8, a9] (fun k q => ?_) ?_
  · simp [kindsD, lk]
    simpa [lookO, kindsD] using q
  · simpa using h
/-! books -/
structure Book where
  ins : Ins
  defs : List Defn
def defsD (xs : List Defn) : D := .tuple (xs.map Defn.d)
def Book.d (b : Book) : D := .tuple [insD b.ins, defsD b.defs]
def labsOf (xs : List Defn) : List Str := (xs.map fun x => Rule.labelss x.rules).flatten
def DefsOk (ins : Ins) : List Bool → List Defn → Prop
  | _, [] => True
  | ks, x :: xs => DefnOk ins ks x ∧ DefsOk ins (ks ++ [x.sort]) xs
structure BookOk (b : Book) : Prop where
  i : InOk b.ins
  l : 1 ≤ b.defs.length ∧ b.defs.length ≤ 8
  d : DefsOk b.ins [] b.defs
  n : (b.defs.map Defn.name).Nodup
  u : (labsOf b.defs).Nodup
  m : (labsOf b.defs).length ≤ 40
def g_fault_of : DF := fun dl P => ∃ b : Book, dl = [b.d] ∧ BookOk b ∧ P (.val .none)
def g_check_book : DF := fun dl P => ∃ b : Book, dl = [b.d] ∧ BookOk b ∧ P (.val .none)
def lb_fault_of_1 (C_Look : Addr) : DM := (mSeq (mSet 7 (dMeth 3 C_Look ns_Look (g_Look_definition_fault C_Look) (aCons (dVar 6) (aCons (dTup (aCons (dC (.int 1)) (aCons (dVar 5) aNil))) (aCons (dVar 4) aNil)))))
    (mSeq (mIf (bT (d2 (dIsN true) (dVar 7) (dC .none))) (mRet (dVar 7)) mNil)
    (mApp 4 (d2 dIx (dVar 6) (dC (.int 0))))))
def tb_fault_of (C_Look : Addr) : DM := (mSeq (mIf (bNot (bT (dCall g_is_tuple_of (aCons (dC (.int 2)) (aCons (dVar 0) aNil))))) (mRet (dTup aNil)) mNil)
    (mSeq (mUnp (dVar 0) (gTp 2 (gsCons (gNm 1) (gsCons (gNm 2) gsNil))))
    (mSeq (mIf (bNot (bT (dCall g_is_inputs (aCons (dVar 1) aNil)))) (mRet (dTup (aCons (dC (.int 0)) aNil))) mNil)
    (mSeq (mIf (bOr (bNot (bT (dIsi "tuple" (dVar 2)))) (bNot (bT (dChain dLe dLe (dC (.int 1)) (dB bLen (aCons (dVar 2) aNil)) (dC cst_MOST_DEFINITIONS))))) (mRet (dTup (aCons (dC (.int 1)) aNil))) mNil)
    (mSeq (mPar 3 4 (dMake C_Look (g_Look___init__ C_Look) (aCons (dVar 1) aNil)) (dLst aNil))
    (mSeq (mFor (iEn (dVar 2)) (gTp 2 (gsCons (gNm 5) (gsCons (gNm 6) gsNil))) (lb_fault_of_1 C_Look))
    (mRet (dC .none))))))))
def tb_check_book : DM := (mSeq (mSet 1 (dCall g_fault_of (aCons (dVar 0) aNil)))
    (mIf (bT (d2 (dIsN true) (dVar 1) (dC .none))) mNever mNil))

theorem loop_book {C a al : Addr} {ins : Ins} {d0 d1 d2 : D} {E : En} (hi : InOk ins) : ∀ (xs : List Defn) (k : Nat) (ks : List Bool) (L ns : List Str) (a5 a6 a7 : SD), DefsOk ins ks xs → (ns ++ xs.map Defn.name).Nodup → (L ++ labsOf xs).Nodup → (L ++ labsOf xs).length ≤ 40 → ks.length + xs.length ≤ 100 → ns.length + xs.length ≤ 100 →
    (∀ o ns a5 a6 a7, E.nx [.val d0, .val d1, .val d2, .ob o, .own ns, a5, a6, a7]) →
    loopD (gTp 2 (gsCons (gNm 5) (gsCons (gNm 6) gsNil))) (lb_fault_of_1 C) (enumF k (xs.map Defn.d)) E [.val d0, .val d1, .val d2, .ob (lookO C a al ins ks L), .own (ns.map .str), a5, a6, a7]
  | [], k, ks, L, ns, a5, a6, a7, _, _, _, _, _, _, h => by simpa [enumF, loopD] using h _ _ a5 a6 a7
  | x :: xs, k, ks, L, ns, a5, a6, a7, ho, hn, hu, hl, hk, hns, h => by
    obtain ⟨h1, h2⟩ := ho
    have el : labsOf (x :: xs) = Rule.labelss x.rules ++ labsOf xs := rfl
    rw [el, ← List.append_assoc] at hu hl
    simp only [List.map_cons] at hn
    have go := fun a5 a6 a7 => loop_book (C := C) (a := a) (al := al) (d0 := d0) (d1 := d1) (d2 := d2) (E := E) hi xs (k + 1) (ks ++ [x.sort]) (L ++ Rule.labelss x.rules) (ns ++ [x.name]) a5 a6 a7 h2 (by simpa using hn) hu hl (by simp at hk ⊢; omega) (by simp at hns ⊢; omega) h
    simp only [List.map_cons, enumF, loopD]
    simp only [gTp, gsCons, gNm, gsNil, put]
    simp
    unfold lb_fault_of_1
    refine seq1 [.val d0, .val d1, .val d2, .ob (lookO C a al ins (ks ++ [x.sort]) (L ++ Rule.labelss x.rules)), .own (ns.map .str), .val (.int k), .val x.d, .val .none] (fun q h3 => ?_) ?_
    · simp
      refine ⟨a, al, ins, ks, L, x, [.int 1, .int k], ns, rfl, rfl, hi, by simp at hk; omega, h1, (List.nodup_append.mp hu).1, by simp at hl ⊢; omega, by simp, ?_, ?_⟩
      · intro z
        exact (List.nodup_append.mp hn).2.2 _ z _ (by simp) rfl
      · have e : lfD .none = true := rfl
        simp [lf_look, e]
        simpa using h3
    · refine seq_no (fun Q q => by simpa using q) ?_
      have ll : ns.length < sizeLine := by have := le_line (n := ns.length + 1) (by simp at hns; omega); omega
      unfold Defn.d
      simp [ll]
      have := go (.val (.int k)) (.val x.d) (.val .none)
      unfold Defn.d at this
      simpa [lb_fault_of_1] using this
theorem rd_fault_of (C_Look : Addr) : ∀ dl Q, dl.length = 1 → g_fault_of dl Q → tb_fault_of C_Look (enF Q) (slots0 8 dl) := by
  rintro dl Q - ⟨⟨ins, xs⟩, rfl, ⟨hi, hl, hd, hn, hu, hm⟩, h⟩
  unfold tb_fault_of
  simp only [Book.d]
  simp only at hi hl hd hn hu hm
  refine seq_no (fun Q q => ?_) ?_
  · simpa using q
  refine seq1 [.val (.tuple [insD ins, defsD xs]), .val (insD ins), .val (defsD xs), .no, .no, .no, .no, .no] (fun k q => ?_) ?_
  · simpa using q
  refine seq_no (fun Q q => ?_) ?_
  · simp [hi.f, hi.b]
    simpa using q
  refine seq_no (fun Q q => ?_) ?_
  · have c4 : isT "tuple" (defsD xs) = true := rfl
    have c5 : (1 : Int) ≤ (xs.length : Int) := by omega
    have c6 : (xs.length : Int) ≤ 8 := by omega
    simp [c4]
    unfold defsD at q ⊢
    simp [cst_MOST_DEFINITIONS, c5, c6]
    simpa using q
  simp only [mSeq, mPar, mFor, iEn]
  simp
  refine fun a => ⟨a, ins, rfl, rfl, fun al => ⟨rfl, rfl, ?_⟩⟩
  refine loop_book (al := al) (ns := []) hi xs 0 [] [] .no .no .no hd (by simpa using hn) (by simpa using hu) (by simpa using hm) (by simp; omega) (by simp; omega) (fun o ns a5 a6 a7 => ?_)
  simpa using h
theorem rd_check_book : ∀ dl Q, dl.length = 1 → g_check_book dl Q → tb_check_book (enF Q) (slots0 2 dl) := by
  rintro dl Q - ⟨b, rfl, hb, h⟩
  unfold tb_check_book
  simp
  exact ⟨b, rfl, hb, by simpa using h⟩
end EX

/-! EX: the reading. -/
namespace EX
open PySem PySem.Spec PyProof.Rows L2 BK
open DL hiding g_is_between tb_is_between rd_is_between
def Rule.label : Rule → Str
  | .mk l _ _ _ => l
def Rule.res : Rule → Ex
  | .mk _ _ _ e => e
inductive Dc where
  | ok (l : List Rule)
  | hangs (k : Nat)
mutual
def Rule.dec (fi gi : List D) : Rule → Dc
  | .mk l xs c e => match Rule.decs fi gi xs with
    | .hangs k => .hangs k
    | .ok (y :: ys) => .ok (y :: ys)
    | .ok [] => match c.ev fi gi with
      | .hangs k => .hangs k
      | .is d => if toB d = true then .ok [.mk l xs c e] else .ok []
def Rule.decs (fi gi : List D) : List Rule → Dc
  | [] => .ok []
  | r :: rs => match r.dec fi gi with
    | .hangs k => .hangs k
    | .ok a => match Rule.decs fi gi rs with
      | .hangs k => .hangs k
      | .ok b => .ok (a ++ b)
end
/-! what is decided is right -/
mutual
theorem dec_ok {ins : Ins} {ks : List Bool} {s : Bool} {fi gi : List D} : ∀ (r : Rule) (l : List Rule), r.dec fi gi = .ok l → r.ok ins ks s → ∀ x ∈ l, x.ok ins ks s ∧ x.deep ≤ r.deep
  | .mk w xs c e, l, h, ho, x, hx => by
    have ho2 := ho
    simp only [Rule.ok] at ho
    have ih := decs_ok (s := s) (ks := ks) (ins := ins) (fi := fi) (gi := gi) xs
    unfold Rule.dec at h
    split at h
    · cases h
    · rename_i y ys hq
      cases h
      obtain ⟨h1, h2⟩ := ih _ hq ho.2.2.2.2 x hx
      exact ⟨h1, by simp only [Rule.deep]; omega⟩
    · split at h
      · cases h
      · split at h
        · cases h
          simp at hx; subst hx
          exact ⟨ho2, Nat.le_refl _⟩
        · cases h; cases hx
theorem decs_ok {ins : Ins} {ks : List Bool} {s : Bool} {fi gi : List D} : ∀ (rs : List Rule) (l : List Rule), Rule.decs fi gi rs = .ok l → Rule.oks ins ks s rs → ∀ x ∈ l, x.ok ins ks s ∧ x.deep ≤ Rule.deeps rs
  | [], l, h, ho, x, hx => by unfold Rule.decs at h; cases h; cases hx
  | r :: rs, l, h, ho, x, hx => by
    simp only [Rule.oks] at ho
    unfold Rule.decs at h
    split at h
    · cases h
    · rename_i a ha
      split at h
      · cases h
      · rename_i b hb
        cases h
        rcases List.mem_append.mp hx with hx | hx
        · obtain ⟨h1, h2⟩ := dec_ok r a ha ho.1 x hx
          exact ⟨h1, by simp only [Rule.deeps]; omega⟩
        · obtain ⟨h1, h2⟩ := decs_ok rs b hb ho.2 x hx
          exact ⟨h1, by simp only [Rule.deeps]; omega⟩
end
mutual
theorem dec_len {fi gi : List D} : ∀ (r : Rule) (l : List Rule), r.dec fi gi = .ok l → l.length ≤ r.labels.length
  | .mk w xs c e, l, h => by
    have ih := decs_len (fi := fi) (gi := gi) xs
    unfold Rule.dec at h
    simp only [Rule.labels, List.length_cons]
    split at h
    · cases h
    · rename_i y ys hq
      cases h
      have := ih _ hq
      omega
    · split at h
      · cases h
      · split at h
        · cases h; simp
        · cases h; simp
theorem decs_len {fi gi : List D} : ∀ (rs : List Rule) (l : List Rule), Rule.decs fi gi rs = .ok l → l.length ≤ (Rule.labelss rs).length
  | [], l, h => by unfold Rule.decs at h; cases h; simp
  | r :: rs, l, h => by
    unfold Rule.decs at h
    simp only [Rule.labelss, List.length_append]
    split at h
    · cases h
    · rename_i a ha
      split at h
      · cases h
      · rename_i b hb
        cases h
        have := dec_len r a ha
        have := decs_len rs b hb
        simp; omega
end
theorem word_lay {l : Str} (h : wordB (.str l) = true) : PyData.canLay0 (.str l) = true := by
  simp only [PyData.canLay0, PyData.strOk]
  simp [wordB, lowB] at h
  have h := h.2
  simp
  intro x hx

  exact Nat.lt_of_le_of_lt (h x hx).2 (by decide)
theorem rule_shp {ins : Ins} {ks : List Bool} {s : Bool} : ∀ (n : Nat) (r : Rule), r.ok ins ks s → r.deep ≤ n → Shp (2 * n + 14) r.d := by
  intro n
  induction n with
  | zero => intro r _ h; cases r; simp [Rule.deep] at h
  | succ n ih =>
    rintro ⟨l, xs, c, e⟩ ho hd
    simp only [Rule.ok] at ho
    simp only [Rule.deep] at hd
    obtain ⟨hw, _, hc, he, hos⟩ := ho
    have hxs : ∀ (zs : List Rule), Rule.oks ins ks s zs → Rule.deeps zs ≤ n → ∀ x ∈ Rule.ds zs, Shp (2 * n + 14) x := by
      intro zs
      induction zs with
      | nil => intro _ _ x hx; simp [Rule.ds] at hx
      | cons z zs ih2 =>
        intro h1 h2 x hx
        simp only [Rule.oks] at h1
        simp only [Rule.deeps] at h2
        simp only [Rule.ds, List.mem_cons] at hx
        rcases hx with rfl | hx
        · exact ih z h1.1 (by omega)
        · exact ih2 h1.2 (by omega) x hx
    simp only [Rule.d]
    refine (shpT (n := 2 * n + 15) fun x h => ?_).mono (by omega)
    simp at h
    rcases h with rfl | rfl | rfl | rfl
    · exact ⟨word_lay hw, by simp [PyData.depth]⟩
    · exact shpT (hxs xs hos (by omega))
    · exact c.shp.mono (by have := hc.2.1; omega)
    · exact e.shp.mono (by have := he.2.1; omega)
theorem rules_shaped {ins : Ins} {ks : List Bool} {s : Bool} {l : List Rule} (h : ∀ x ∈ l, x.ok ins ks s ∧ x.deep ≤ 20) : SeqAt.shaped (.list (l.map Rule.d)) = true := by
  have : Shp 55 (.list (l.map Rule.d)) := Shp.list fun x hx => by
    obtain ⟨r, hr, rfl⟩ := List.mem_map.mp hx
    obtain ⟨h1, h2⟩ := h r hr
    exact (rule_shp 20 r h1 h2).mono (by omega)
  exact this.shaped (by decide)
abbrev ns_Reading : List Str := ["facts", "elders", "hangs"]
abbrev readO (C a : Addr) (fi gi : List D) (h : D) : Ob := ⟨a, C, ns_Reading, [.val (.tuple fi), .val (.tuple gi), .val h]⟩
/-! Reading.__init__, worth_of -/
def g_Reading___init__ (C : Addr) : DFO := fun o dl P => ∃ (a : Addr) (fi gi : List D), o = ⟨a, C, [], []⟩ ∧ dl = [.tuple fi, .tuple gi] ∧ P (.val .none) (readO C a fi gi .none)
def g_Reading_worth_of (C : Addr) : DFO := fun o dl P => ∃ (a : Addr) (ins : Ins) (ks : List Bool) (s : Bool) (fi gi : List D) (h0 : D) (e : Ex), o = readO C a fi gi h0 ∧ dl = [e.d] ∧ e.deep ≤ 12 ∧ e.ty ins ks s ∧ fileOk ins fi ∧ eldOk ks gi ∧ match e.ev fi gi with
  | .is d => P (.val d) (readO C a fi gi h0)
  | .hangs k => P (.val .none) (readO C a fi gi (Rs.hangs k).d)
def tb_Reading___init__ (C_Reading : Addr) : DM := (mSeq (mFldN 0 C_Reading (ns_Reading.take 0) "facts" (dVar 1))
    (mSeq (mFldN 0 C_Reading (ns_Reading.take 1) "elders" (dVar 2))
    (mFldN 0 C_Reading (ns_Reading.take 2) "hangs" (dC .none))))
def tb_Reading_worth_of (C_Reading : Addr) : DM := (mSeq (mSet 2 (dCall (gn_evaluated 13) (aCons (dVar 1) (aCons (dFld 0 C_Reading ns_Reading 0) (aCons (dFld 0 C_Reading ns_Reading 1) aNil)))))
    (mSeq (mIf (bT (d2 dEq (d2 dIx (dVar 2) (dC (.int 0))) (dC (.str "hangs")))) (mSeq (mFldS 0 C_Reading ns_Reading 2 (dVar 2))
    (mRet (dC .none))) mNil)
    (mRet (d2 dIx (dVar 2) (dC (.int 1))))))
theorem rd_Reading___init__ (C_Reading : Addr) : ∀ o dl Q, dl.length = 2 → g_Reading___init__ C_Reading o dl Q → tb_Reading___init__ C_Reading (enO o Q) (slotsO 3 o dl) := by
  rintro o dl Q - ⟨a, fi, gi, rfl, rfl, h⟩
  unfold tb_Reading___init__
  simp
  exact h
theorem rd_Reading_worth_of (C_Reading : Addr) : ∀ o dl Q, dl.length = 1 → g_Reading_worth_of C_Reading o dl Q → tb_Reading_worth_of C_Reading (enO o Q) (slotsO 3 o dl) := by
  rintro o dl Q - ⟨a, ins, ks, s, fi, gi, h0, e, rfl, rfl, hd, ht, hf, hg, h⟩
  unfold tb_Reading_worth_of
  refine seq1 [.ob (readO C_Reading a fi gi h0), .val e.d, .val (e.ev fi gi).d] (fun k q => ?_) ?_
  · simp
    exact ⟨e, ins, ks, s, fi, gi, rfl, ⟨by omega, by omega⟩, ht, hf, hg, by simpa using q⟩
  cases he : e.ev fi gi with
  | is d =>
    rw [he] at h
    refine seq_no (fun Q q => ?_) ?_
    · simp [Rs.d]
      simpa [Rs.d] using q
    · simp [Rs.d, atI1]
      simpa using h
  | hangs k =>
    rw [he] at h
    refine seq_yes (fun Q q => ?_) ?_
    · simp [Rs.d]
      simpa [Rs.d] using q
    · simp [Rs.d]
      simpa [Rs.d] using h
end EX

/-! EX: decide. -/
namespace EX
open PySem PySem.Spec PyProof.Rows L2 BK
open DL hiding g_is_between tb_is_between rd_is_between
def gn_Reading_decide (C : Addr) (n : Nat) : DFO := fun o dl P => ∃ (a : Addr) (ins : Ins) (ks : List Bool) (s : Bool) (fi gi : List D) (rs : List Rule), o = readO C a fi gi .none ∧ dl = [.tuple (Rule.ds rs)] ∧ (Rule.deeps rs + 1 ≤ n ∧ n ≤ 21) ∧ Rule.oks ins ks s rs ∧ (Rule.labelss rs).length ≤ 100 ∧ fileOk ins fi ∧ eldOk ks gi ∧ match Rule.decs fi gi rs with
  | .ok l => P (.own (l.map Rule.d)) (readO C a fi gi .none)
  | .hangs k => ∀ l, P (.own l) (readO C a fi gi (Rs.hangs k).d)
theorem nz_Reading_decide (C : Addr) : ∀ o dl Q, ¬ gn_Reading_decide C 0 o dl Q := by
  rintro o dl Q ⟨_, _, _, _, _, _, _, _, _, ⟨h, _⟩, _⟩
  omega
def lb_Reading_decide_1 (C_Reading : Addr) (g : DFO) : DM := (mSeq (mSet 4 (dMeth 0 C_Reading ns_Reading g (aCons (d2 dIx (dVar 3) (dC (.int 1))) aNil)))
    (mSeq (mIf (bAnd (bT (d2 (dIsN false) (dFld 0 C_Reading ns_Reading 2) (dC .none))) (bT (d2 dEq (dVar 4) (dLst aNil)))) (mIf (bT (d2 (dIsT false) (dMeth 0 C_Reading ns_Reading (g_Reading_worth_of C_Reading) (aCons (d2 dIx (dVar 3) (dC (.int 2))) aNil)) (dC (.bool true)))) (mSet 4 (dLst (aCons (dVar 3) aNil))) mNil) mNil)
    (mSeq (mIf (bT (d2 (dIsN true) (dFld 0 C_Reading ns_Reading 2) (dC .none))) (mRet (dVar 2)) mNil)
    (mAug 2 (dVar 4)))))
def tb_Reading_decide (C_Reading : Addr) (g : DFO) : DM := (mSeq (mSet 2 (dLst aNil))
    (mSeq (mFor (iSeq (dVar 1)) (gNm 3) (lb_Reading_decide_1 C_Reading g))
    (mRet (dVar 2))))

theorem loop_dec {C a : Addr} {ins : Ins} {ks : List Bool} {s : Bool} {fi gi : List D} {n : Nat} {d1 : D} {E : En} (hf : fileOk ins fi) (hg : eldOk ks gi) (hn : n ≤ 20) : ∀ (rs acc : List Rule) (a3 a4 : SD), Rule.oks ins ks s rs → Rule.deeps rs ≤ n → (Rule.labelss rs).length + acc.length ≤ 100 →
    (match Rule.decs fi gi rs with
      | .ok l => ∀ a3 a4, E.nx [.ob (readO C a fi gi .none), .val d1, .own ((acc ++ l).map Rule.d), a3, a4]
      | .hangs k => ∀ l a3 a4, E.rt (.slot 2) [.ob (readO C a fi gi (Rs.hangs k).d), .val d1, .own l, a3, a4]) →
    loopD (gNm 3) (lb_Reading_decide_1 C (gn_Reading_decide C n)) (Rule.ds rs) E [.ob (readO C a fi gi .none), .val d1, .own (acc.map Rule.d), a3, a4]
  | [], acc, a3, a4, _, _, _, h => by
    unfold Rule.decs at h
    simpa [Rule.ds, loopD] using h a3 a4
  | .mk w xs c e :: rs, acc, a3, a4, ho, hd, hl, h => by
    simp only [Rule.oks] at ho
    obtain ⟨ho1, ho2⟩ := ho
    simp only [Rule.deeps, Rule.deep] at hd
    simp only [Rule.labelss, Rule.labels, List.length_append, List.length_cons] at hl
    have hok := ho1
    simp only [Rule.ok] at ho1
    obtain ⟨hw, hx, hc, he, hos⟩ := ho1
    simp only [Rule.ds, loopD]
    simp only [gNm, put]
    simp
    unfold lb_Reading_decide_1
    simp only [Rule.d]
    unfold Rule.decs at h
    have z0 : SeqAt.shaped (.list []) = true := rfl
    -- the call within
    have step : ∀ (E' : En) (b : DM), (match Rule.decs fi gi xs with
        | .ok l => b E' [.ob (readO C a fi gi .none), .val d1, .own (acc.map Rule.d), .val (.tuple [.str w, .tuple (Rule.ds xs), c.d, e.d]), .own (l.map Rule.d)]
        | .hangs k => ∀ l, b E' [.ob (readO C a fi gi (Rs.hangs k).d), .val d1, .own (acc.map Rule.d), .val (.tuple [.str w, .tuple (Rule.ds xs), c.d, e.d]), .own l]) →
        mSeq (mSet 4 (dMeth 0 C ns_Reading (gn_Reading_decide C n) (aCons (d2 dIx (dVar 3) (dC (.int 1))) aNil))) b E' [.ob (readO C a fi gi .none), .val d1, .own (acc.map Rule.d), .val (.tuple [.str w, .tuple (Rule.ds xs), c.d, e.d]), a4] := by
      intro E' b hb
      simp [atI1]
      refine ⟨a, ins, ks, s, fi, gi, xs, rfl, rfl, ⟨by omega, by omega⟩, hos, by omega, hf, hg, ?_⟩
      cases hq : Rule.decs fi gi xs with
      | ok l => rw [hq] at hb; simpa using hb
      | hangs k => rw [hq] at hb; intro l; simpa using hb l
    refine step _ _ ?_
    -- what hangs
    have hang : ∀ (k : Nat) (E' : En) (b : DM) (a4 : SD), E'.rt (.slot 2) [.ob (readO C a fi gi (Rs.hangs k).d), .val d1, .own (acc.map Rule.d), .val (.tuple [.str w, .tuple (Rule.ds xs), c.d, e.d]), a4] →
        mSeq (mIf (bT (d2 (dIsN true) (dFld 0 C ns_Reading 2) (dC .none))) (mRet (dVar 2)) mNil) b E' [.ob (readO C a fi gi (Rs.hangs k).d), .val d1, .own (acc.map Rule.d), .val (.tuple [.str w, .tuple (Rule.ds xs), c.d, e.d]), a4] := by
      intro k E' b a4 q
      refine seq_yes (fun Q q => ?_) ?_
      · simp [Rs.d]
        simpa [Rs.d] using q
      · simpa using q
    -- what is found
    have add : ∀ (l : List Rule) (E' : En), l.length ≤ 100 → acc.length ≤ 100 → E'.nx [.ob (readO C a fi gi .none), .val d1, .own ((acc ++ l).map Rule.d), .val (.tuple [.str w, .tuple (Rule.ds xs), c.d, e.d]), .own (l.map Rule.d)] →
        mSeq (mIf (bT (d2 (dIsN true) (dFld 0 C ns_Reading 2) (dC .none))) (mRet (dVar 2)) mNil) (mAug 2 (dVar 4)) E' [.ob (readO C a fi gi .none), .val d1, .own (acc.map Rule.d), .val (.tuple [.str w, .tuple (Rule.ds xs), c.d, e.d]), .own (l.map Rule.d)] := by
      intro l E' hl ha q
      refine seq_no (fun Q q => by simpa using q) ?_
      have := le_line (n := acc.length + l.length) (by omega)
      simp [this]
      simpa using q
    have next : ∀ (l : List Rule) (a3 a4 : SD), l.length ≤ (Rule.labelss xs).length + 1 → (match Rule.decs fi gi rs with
        | .ok b => ∀ a3 a4, E.nx [.ob (readO C a fi gi .none), .val d1, .own ((acc ++ (l ++ b)).map Rule.d), a3, a4]
        | .hangs k => ∀ l a3 a4, E.rt (.slot 2) [.ob (readO C a fi gi (Rs.hangs k).d), .val d1, .own l, a3, a4]) →
        loopD (gNm 3) (lb_Reading_decide_1 C (gn_Reading_decide C n)) (Rule.ds rs) E [.ob (readO C a fi gi .none), .val d1, .own ((acc ++ l).map Rule.d), a3, a4] := by
      intro l a3 a4 h1 h2
      refine loop_dec hf hg hn rs (acc ++ l) a3 a4 ho2 (by omega) (by simp; omega) ?_
      cases hr : Rule.decs fi gi rs with
      | ok b =>
        rw [hr] at h2
        intro a3 a4
        simpa using h2 a3 a4
      | hangs k => rw [hr] at h2; exact h2
    have fin : ∀ (l : List Rule), l.length ≤ (Rule.labelss xs).length + 1 → (∀ r : Dc, r = Rule.decs fi gi rs → match (match r with | .hangs k => Dc.hangs k | .ok b => Dc.ok (l ++ b)) with
        | .ok l => ∀ a3 a4, E.nx [.ob (readO C a fi gi .none), .val d1, .own ((acc ++ l).map Rule.d), a3, a4]
        | .hangs k => ∀ l a3 a4, E.rt (.slot 2) [.ob (readO C a fi gi (Rs.hangs k).d), .val d1, .own l, a3, a4]) → ∀ a3 a4,
        loopD (gNm 3) (lb_Reading_decide_1 C (gn_Reading_decide C n)) (Rule.ds rs) E [.ob (readO C a fi gi .none), .val d1, .own ((acc ++ l).map Rule.d), a3, a4] := by
      intro l h1 h2 a3 a4
      refine next l a3 a4 h1 ?_
      have := h2 _ rfl
      cases hr : Rule.decs fi gi rs with
      | ok b => rw [hr] at this; exact this
      | hangs k => rw [hr] at this; exact this
    unfold Rule.dec at h
    cases hq : Rule.decs fi gi xs with
    | hangs k =>
      rw [hq] at h
      intro l
      refine seq_no (fun Q q => ?_) ?_
      · simp [Rs.d]
        simpa [Rs.d] using q
      · exact hang k _ _ _ (h _ _ _)
    | ok ys =>
      rw [hq] at h
      have yl := decs_len xs ys hq
      have yo := decs_ok (ins := ins) (ks := ks) (s := s) xs ys hq hos
      have sh : SeqAt.shaped (.list (ys.map Rule.d)) = true := rules_shaped fun x hx => ⟨(yo x hx).1, by have := (yo x hx).2; omega⟩
      cases ys with
      | cons y ys =>
        refine seq_no (fun Q q => ?_) ?_
        · simp at sh
          simp [sh, z0, eqv_nil]
          simpa using q
        · refine add _ _ (by omega) (by omega) ?_
          exact fin (y :: ys) (by omega) (fun r hr => by subst hr; exact h) _ _
      | nil =>
        refine seq_yes (fun Q q => ?_) ?_
        · simp [z0, eqv_nil]
          simpa using q
        have evo := Ex.ev_ok hf hg c false hc.1
        cases hev : c.ev fi gi with
        | hangs k =>
          rw [hev] at h
          have h0 : ∀ a4 : SD, E.rt (.slot 2) [.ob (readO C a fi gi (Rs.hangs k).d), .val d1, .own (acc.map Rule.d), .val (.tuple [.str w, .tuple (Rule.ds xs), c.d, e.d]), a4] := fun a4 => h _ _ _
          have h1 := fun b' => hang k ⟨fun _ => False, E.rt, fun _ => False, fun _ => False⟩ b' (.own []) (h0 _)
          simp [atI]
          refine ⟨a, ins, ks, false, fi, gi, .none, c, rfl, rfl, hc.2.1, hc.1, hf, hg, ?_⟩
          rw [hev]
          simp [Rs.d]
          simpa [Rs.d] using h0 (.own [])
        | is d =>
          rw [hev] at h evo
          obtain ⟨b, rfl⟩ := evo
          have fins := fin
          unfold lb_Reading_decide_1 at fins
          have nn := le_line (n := acc.length + 1) (by omega)
          have nn0 := le_line (n := acc.length) (by omega)
          simp [atI]
          refine ⟨a, ins, ks, false, fi, gi, .none, c, rfl, rfl, hc.2.1, hc.1, hf, hg, ?_⟩
          rw [hev]
          cases b with
          | true =>
            simp [nn]
            have := fins [.mk w xs c e] (by simp) (fun r hr => by subst hr; exact h) (.val (Rule.mk w xs c e).d) (.own [(Rule.mk w xs c e).d])
            simpa [Rule.d] using this
          | false =>
            simp [nn0]
            have := fins [] (by simp) (fun r hr => by subst hr; exact h) (.val (Rule.mk w xs c e).d) (.own [])
            simpa [Rule.d] using this
theorem rd_Reading_decide (C_Reading : Addr) (n : Nat) : ∀ o dl Q, dl.length = 1 → gn_Reading_decide C_Reading (n + 1) o dl Q → tb_Reading_decide C_Reading (gn_Reading_decide C_Reading n) (enO o Q) (slotsO 5 o dl) := by
  rintro o dl Q - ⟨a, ins, ks, s, fi, gi, rs, rfl, rfl, ⟨hd, hn⟩, ho, hl, hf, hg, h⟩
  unfold tb_Reading_decide
  refine seq1 [.ob (readO C_Reading a fi gi .none), .val (.tuple (Rule.ds rs)), .own [], .no, .no] (fun k q => ?_) ?_
  · simpa using q
  simp only [mSeq, mFor]
  simp
  refine loop_dec hf hg (by omega) rs [] .no .no ho (by omega) (by simpa using hl) ?_
  cases hq : Rule.decs fi gi rs with
  | ok l =>
    rw [hq] at h
    intro a3 a4
    simpa using h
  | hangs k =>
    rw [hq] at h
    intro l a3 a4
    simpa using h l
end EX

/-! EX: outcomes. -/
namespace EX
open PySem PySem.Spec PyProof.Rows L2 BK
open DL hiding g_is_between tb_is_between rd_is_between
inductive Outc where
  | lacks
  | clash (ls : List Str)
  | is (d : D) (l : Str)
  | hangs (k : Nat)
def Outc.d : Outc → D
  | .lacks => .tuple [.str (S "lacks")]
  | .clash ls => .tuple [.str (S "clash"), .tuple (ls.map .str)]
  | .is d l => .tuple [.str (S "is"), d, .str l]
  | .hangs k => (Rs.hangs k).d
def Outc.w : Outc → D
  | .is d _ => d
  | _ => .none
def outc (fi gi : List D) (rs : List Rule) : Outc := match Rule.decs fi gi rs with
  | .hangs k => .hangs k
  | .ok [] => .lacks
  | .ok [r] => match r.res.ev fi gi with
    | .hangs k => .hangs k
    | .is d => .is d r.label
  | .ok l => .clash (srtS (l.map Rule.label))
def outs (fi : List D) : List D → List Defn → List Outc
  | _, [] => []
  | gi, x :: xs => outc fi gi x.rules :: outs fi (gi ++ [(outc fi gi x.rules).w]) xs
def g_Reading_outcome (C : Addr) : DFO := fun o dl P => ∃ (a : Addr) (ins : Ins) (ks : List Bool) (fi gi : List D) (x : Defn), o = readO C a fi gi .none ∧ dl = [.tuple (Rule.ds x.rules)] ∧ DefnOk ins ks x ∧ (Rule.labelss x.rules).length ≤ 40 ∧ fileOk ins fi ∧ eldOk ks gi ∧ ∀ h, P (.val (outc fi gi x.rules).d) (readO C a fi gi h)
def ce_Reading_outcome_1 (C_Reading : Addr) : DT := (d2 dIx (dVar 4) (dC (.int 0)))
def tb_Reading_outcome (C_Reading : Addr) : DM := (mSeq (mSet 2 (dMeth 0 C_Reading ns_Reading (gn_Reading_decide C_Reading 14) (aCons (dVar 1) aNil)))
    (mSeq (mSet 3 (dIf (bAnd (bT (d2 (dIsN false) (dFld 0 C_Reading ns_Reading 2) (dC .none))) (bT (d2 dEq (dB bLen (aCons (dVar 2) aNil)) (dC (.int 1))))) (dMeth 0 C_Reading ns_Reading (g_Reading_worth_of C_Reading) (aCons (d2 dIx (d2 dIx (dVar 2) (dC (.int 0))) (dC (.int 3))) aNil)) (dC .none)))
    (mSeq (mIf (bT (d2 (dIsN true) (dFld 0 C_Reading ns_Reading 2) (dC .none))) (mRet (dFld 0 C_Reading ns_Reading 2)) mNil)
    (mSeq (mIf (bT (d2 dEq (dVar 2) (dLst aNil))) (mRet (dTup (aCons (dC (.str "lacks")) aNil))) mNil)
    (mSeq (mIf (bT (d2 dGt (dB bLen (aCons (dVar 2) aNil)) (dC (.int 1)))) (mRet (dTup (aCons (dC (.str "clash")) (aCons (dB bTuple (aCons (dB bSortS (aCons (dComp (iSeq (dVar 2)) (gNm 4) cYes (ce_Reading_outcome_1 C_Reading) [4]) aNil)) aNil)) aNil)))) mNil)
    (mRet (dTup (aCons (dC (.str "is")) (aCons (dVar 3) (aCons (d2 dIx (d2 dIx (dVar 2) (dC (.int 0))) (dC (.int 0))) aNil))))))))))

theorem labels_comp {C : Addr} (rs : List Rule) (s0 s1 s2 s3 : SD) (P : List D → DS → Prop) (h : P (rs.map fun r => .str r.label) [s0, s1, s2, s3, .no]) :
    compD (gNm 4) cYes (ce_Reading_outcome_1 C) [4] (rs.map Rule.d) [] [s0, s1, s2, s3, .no] P := by
  have key : ∀ (rs : List Rule) (acc : List D), P (acc ++ rs.map fun r => .str r.label) [s0, s1, s2, s3, .no] → compD (gNm 4) cYes (ce_Reading_outcome_1 C) [4] (rs.map Rule.d) acc [s0, s1, s2, s3, .no] P := by
    intro rs
    induction rs with
    | nil => intro acc q; simpa [compD] using q
    | cons r rs ih =>
      intro acc q
      cases r with
      | mk w xs c e =>
        simp [compD, ce_Reading_outcome_1, Rule.d]
        refine ih _ ?_
        simpa [Rule.label] using q
  exact key rs [] (by simpa using h)
theorem rd_Reading_outcome (C_Reading : Addr) : ∀ o dl Q, dl.length = 1 → g_Reading_outcome C_Reading o dl Q → tb_Reading_outcome C_Reading (enO o Q) (slotsO 5 o dl) := by
  rintro o dl Q - ⟨a, ins, ks, fi, gi, ⟨name, s, rs⟩, rfl, rfl, ⟨hw, hl, ho, hp⟩, hll, hf, hg, h⟩
  unfold tb_Reading_outcome
  simp only at hl ho hp hll h
  have z0 : SeqAt.shaped (.list []) = true := rfl
  have step : ∀ (E' : En) (b : DM), (match Rule.decs fi gi rs with
      | .ok l => b E' [.ob (readO C_Reading a fi gi .none), .val (.tuple (Rule.ds rs)), .own (l.map Rule.d), .no, .no]
      | .hangs k => ∀ l, b E' [.ob (readO C_Reading a fi gi (Rs.hangs k).d), .val (.tuple (Rule.ds rs)), .own l, .no, .no]) →
      mSeq (mSet 2 (dMeth 0 C_Reading ns_Reading (gn_Reading_decide C_Reading 14) (aCons (dVar 1) aNil))) b E' [.ob (readO C_Reading a fi gi .none), .val (.tuple (Rule.ds rs)), .no, .no, .no] := by
    intro E' b hb
    simp
    refine ⟨a, ins, ks, s, fi, gi, rs, rfl, rfl, ⟨by omega, by omega⟩, ho, by omega, hf, hg, ?_⟩
    cases hq : Rule.decs fi gi rs with
    | ok l => rw [hq] at hb; simpa using hb
    | hangs k => rw [hq] at hb; intro l; simpa using hb l
  refine step _ _ ?_
  unfold outc at h
  cases hq : Rule.decs fi gi rs with
  | hangs k =>
    rw [hq] at h
    intro l
    refine seq1 [.ob (readO C_Reading a fi gi (Rs.hangs k).d), .val (.tuple (Rule.ds rs)), .own l, .val .none, .no] (fun q h2 => ?_) ?_
    · simp [Rs.d]
      simpa [Rs.d] using h2
    refine seq_yes (fun Q q => ?_) ?_
    · simp [Rs.d]
      simpa [Rs.d] using q
    · simp [Rs.d]
      simpa [Rs.d, Outc.d] using h _
  | ok l =>
    rw [hq] at h
    have yl := decs_len rs l hq
    have yo := decs_ok (ins := ins) (ks := ks) (s := s) rs l hq ho
    have sh : SeqAt.shaped (.list (l.map Rule.d)) = true := rules_shaped fun x hx => ⟨(yo x hx).1, by have := (yo x hx).2; omega⟩
    match l, h, yl, yo, sh with
    | [], h, yl, yo, sh =>
      refine seq1 [.ob (readO C_Reading a fi gi .none), .val (.tuple (Rule.ds rs)), .own [], .val .none, .no] (fun q h2 => ?_) ?_
      · simp
        simpa using h2
      refine seq_no (fun Q q => by simpa using q) ?_
      refine seq_yes (fun Q q => by simpa [z0, eqv_nil] using q) ?_
      simpa [Outc.d] using h _
    | [.mk w xs c e], h, yl, yo, sh =>
      obtain ⟨ro, rd⟩ := yo (.mk w xs c e) (List.mem_singleton.mpr rfl)
      simp only [Rule.ok] at ro
      obtain ⟨_, _, _, he, _⟩ := ro
      have go : ∀ (E' : En) (b : DM), (match e.ev fi gi with
          | .is d => b E' [.ob (readO C_Reading a fi gi .none), .val (.tuple (Rule.ds rs)), .own [(Rule.mk w xs c e).d], .val d, .no]
          | .hangs k => b E' [.ob (readO C_Reading a fi gi (Rs.hangs k).d), .val (.tuple (Rule.ds rs)), .own [(Rule.mk w xs c e).d], .val .none, .no]) →
          mSeq (mSet 3 (dIf (bAnd (bT (d2 (dIsN false) (dFld 0 C_Reading ns_Reading 2) (dC .none))) (bT (d2 dEq (dB bLen (aCons (dVar 2) aNil)) (dC (.int 1))))) (dMeth 0 C_Reading ns_Reading (g_Reading_worth_of C_Reading) (aCons (d2 dIx (d2 dIx (dVar 2) (dC (.int 0))) (dC (.int 3))) aNil)) (dC .none))) b E' [.ob (readO C_Reading a fi gi .none), .val (.tuple (Rule.ds rs)), .own [(Rule.mk w xs c e).d], .no, .no] := by
        intro E' b hb
        simp [Rule.d, atI]
        refine ⟨a, ins, ks, s, fi, gi, .none, e, rfl, rfl, he.2.1, he.1, hf, hg, ?_⟩
        cases hev : e.ev fi gi with
        | is d => rw [hev] at hb; simpa [Rule.d] using hb
        | hangs k => rw [hev] at hb; simpa [Rule.d] using hb
      refine go _ _ ?_
      simp only [Rule.res, Rule.label] at h
      cases hev : e.ev fi gi with
      | hangs k =>
        rw [hev] at h
        refine seq_yes (fun Q q => ?_) ?_
        · simp [Rs.d]
          simpa [Rs.d] using q
        · simp [Rs.d]
          simpa [Rs.d, Outc.d] using h _
      | is d =>
        rw [hev] at h
        refine seq_no (fun Q q => by simpa using q) ?_
        refine seq_no (fun Q q => by simp at sh; simp [sh, z0, eqv_nil]; simpa using q) ?_
        refine seq_no (fun Q q => by simpa using q) ?_
        simp [Rule.d]
        simpa [Outc.d] using h _
    | r1 :: r2 :: l, h, yl, yo, sh =>
      refine seq1 [.ob (readO C_Reading a fi gi .none), .val (.tuple (Rule.ds rs)), .own ((r1 :: r2 :: l).map Rule.d), .val .none, .no] (fun q h2 => ?_) ?_
      · have e : ¬ ((l.length : Int) + 1 + 1 = 1) := by omega
        simp [e]
        simpa using h2
      refine seq_no (fun Q q => by simpa using q) ?_
      refine seq_no (fun Q q => by simp at sh; simp [sh, z0, eqv_nil]; simpa using q) ?_
      refine seq_yes (fun Q q => ?_) ?_
      · have e : decide ((1 : Int) < (l.length : Int) + 1 + 1) = true := decide_eq_true (by omega)
        simp [e]
        simpa using q
      have l64 : ((r1 :: r2 :: l).map Rule.label).length < 64 := by simp at yl ⊢; omega
      have ll := le_line (n := ((r1 :: r2 :: l).map Rule.d).length) (by simp at yl ⊢; omega)
      simp only [mRet, dTup, aCons, dC, dB, dComp, iSeq, dVar, aNil]
      simp at ll
      simp [ll]
      refine labels_comp (r1 :: r2 :: l) _ _ _ _ _ ?_
      simp
      refine ⟨(r1 :: r2 :: l).map Rule.label, by simp [Function.comp_def], l64, ?_⟩
      simpa [Outc.d] using h _


def OutsOk (ins : Ins) (ks : List Bool) (xs : List Defn) : Prop := DefsOk ins ks xs ∧ ∀ x ∈ xs, (Rule.labelss x.rules).length ≤ 40
def g_outcomes_of : DF := fun dl P => ∃ (b : Book) (fi : List D) (m : Nat), dl = [b.d, .tuple fi, .int m] ∧ b.defs.length ≤ 8 ∧ OutsOk b.ins [] b.defs ∧ fileOk b.ins fi ∧ P (.val (.tuple ((outs fi [] (b.defs.take m)).map Outc.d)))
def g_decided : DF := fun dl P => ∃ (b : Book) (fi : List D), dl = [b.d, .tuple fi] ∧ BookOk b ∧ fileOk b.ins fi ∧ P (.val (.tuple ((outs fi [] b.defs).map Outc.d)))
def labsIs : List Outc → List Str
  | [] => []
  | .is _ l :: r => l :: labsIs r
  | _ :: r => labsIs r
def g_deciding : DF := fun dl P => ∃ (b : Book) (fi : List D), dl = [b.d, .tuple fi] ∧ BookOk b ∧ fileOk b.ins fi ∧ P (.val (.tuple ((srtS (labsIs (outs fi [] b.defs))).map .str)))
def lb_outcomes_of_1 (C_Reading : Addr) : DM := (mSeq (mSet 8 (dMethN C_Reading ns_Reading (dMake C_Reading (g_Reading___init__ C_Reading) (aCons (dVar 1) (aCons (dB bTuple (aCons (dVar 4) aNil)) aNil))) (g_Reading_outcome C_Reading) (aCons (dVar 7) aNil)))
    (mSeq (mApp 3 (dVar 8))
    (mApp 4 (dIf (bT (d2 dEq (d2 dIx (dVar 8) (dC (.int 0))) (dC (.str "is")))) (d2 dIx (dVar 8) (dC (.int 1))) (dC .none)))))
def tb_outcomes_of (C_Reading : Addr) : DM := (mSeq (mPar 3 4 (dLst aNil) (dLst aNil))
    (mSeq (mFor (iSeq (dSl (d2 dIx (dVar 0) (dC (.int 1))) pNone (pSome (dVar 2)))) (gTp 3 (gsCons (gNm 5) (gsCons (gNm 6) (gsCons (gNm 7) gsNil)))) (lb_outcomes_of_1 C_Reading))
    (mRet (dB bTuple (aCons (dVar 3) aNil)))))
def tb_decided : DM := (mSeq (mExpr (dCall g_check_book (aCons (dVar 0) aNil)))
    (mSeq (mExpr (dCall g_check_file (aCons (d2 dIx (dVar 0) (dC (.int 0))) (aCons (dVar 1) aNil))))
    (mRet (dCall g_outcomes_of (aCons (dVar 0) (aCons (dVar 1) (aCons (dB bLen (aCons (d2 dIx (dVar 0) (dC (.int 1))) aNil)) aNil)))))))
def cc_deciding_1 : DTT := (bT (d2 dEq (d2 dIx (dVar 2) (dC (.int 0))) (dC (.str "is"))))
def ce_deciding_1 : DT := (d2 dIx (dVar 2) (dC (.int 2)))
def tb_deciding : DM := (mRet (dB bTuple (aCons (dB bSortS (aCons (dComp (iSeq (dCall g_decided (aCons (dVar 0) (aCons (dVar 1) aNil)))) (gNm 2) cc_deciding_1 ce_deciding_1 [2]) aNil)) aNil)))

theorem paired_snoc {α β : Type} {F : α → β → Prop} {a : α} {b : β} (h : F a b) : ∀ {xs : List α} {ys : List β}, Paired F xs ys → Paired F (xs ++ [a]) (ys ++ [b])
  | _, _, .nil => .cons h .nil
  | _, _, .cons h1 h2 => .cons h1 (paired_snoc h h2)
theorem outc_w {ins : Ins} {ks : List Bool} {fi gi : List D} {x : Defn} (hx : DefnOk ins ks x) (hf : fileOk ins fi) (hg : eldOk ks gi) : (outc fi gi x.rules).w = .none ∨ EX.tyD x.sort (outc fi gi x.rules).w := by
  unfold outc
  cases hq : Rule.decs fi gi x.rules with
  | hangs k => exact .inl rfl
  | ok l =>
    have yo := decs_ok (ins := ins) (ks := ks) (s := x.sort) x.rules l hq hx.o
    match l, yo with
    | [], _ => exact .inl rfl
    | [.mk w xs c e], yo =>
      obtain ⟨ro, _⟩ := yo (.mk w xs c e) (List.mem_singleton.mpr rfl)
      simp only [Rule.ok] at ro
      have := Ex.ev_ok hf hg e x.sort ro.2.2.2.1.1
      simp only [Rule.res]
      cases hev : e.ev fi gi with
      | hangs k => exact .inl rfl
      | is d => rw [hev] at this; exact .inr this
    | r1 :: r2 :: l, _ => exact .inl rfl
theorem loop_outs {C : Addr} {ins : Ins} {fi : List D} {d0 d2 : D} {E : En} (hf : fileOk ins fi) : ∀ (xs : List Defn) (ks : List Bool) (gi os : List D) (a5 a6 a7 a8 : SD), OutsOk ins ks xs → eldOk ks gi → os.length + xs.length ≤ 50 → gi.length + xs.length ≤ 50 →
    (∀ vs a5 a6 a7 a8, E.nx [.val d0, .val (.tuple fi), .val d2, .own (os ++ (outs fi gi xs).map Outc.d), .own vs, a5, a6, a7, a8]) →
    loopD (gTp 3 (gsCons (gNm 5) (gsCons (gNm 6) (gsCons (gNm 7) gsNil)))) (lb_outcomes_of_1 C) (xs.map Defn.d) E [.val d0, .val (.tuple fi), .val d2, .own os, .own gi, a5, a6, a7, a8]
  | [], ks, gi, os, a5, a6, a7, a8, _, _, _, _, h => by simpa [loopD, outs] using h _ a5 a6 a7 a8
  | x :: xs, ks, gi, os, a5, a6, a7, a8, ⟨ho, hl⟩, hg, ho2, hg2, h => by
    obtain ⟨h1, h2⟩ := ho
    simp only [List.length_cons] at ho2 hg2
    have ow := outc_w h1 hf hg
    have go := fun a5 a6 a7 a8 => loop_outs (C := C) (d0 := d0) (d2 := d2) (E := E) hf xs (ks ++ [x.sort]) (gi ++ [(outc fi gi x.rules).w]) (os ++ [(outc fi gi x.rules).d]) a5 a6 a7 a8 ⟨h2, fun y hy => hl y (by simp [hy])⟩ (paired_snoc (F := fun (s : Bool) (d : D) => d = PyData.none ∨ EX.tyD s d) ow hg) (by simp; omega) (by simp; omega) (fun vs a5 a6 a7 a8 => by simpa [outs] using h vs a5 a6 a7 a8)
    have l40 := hl x (by simp)
    have ll1 : os.length < sizeLine := by have := le_line (n := os.length + 1) (by omega); omega
    have ll2 : gi.length < sizeLine := by have := le_line (n := gi.length + 1) (by omega); omega
    have ll3 : gi.length ≤ sizeLine := by omega
    simp only [List.map_cons, loopD]
    simp only [gTp, gsCons, gNm, gsNil, put]
    simp only [Defn.d]
    simp
    unfold lb_outcomes_of_1
    refine seq1 [.val d0, .val (.tuple fi), .val d2, .own os, .own gi, .val (.str x.name), .val (kindD x.sort), .val (.tuple (Rule.ds x.rules)), .val (outc fi gi x.rules).d] (fun q h3 => ?_) ?_
    · simp [ll3]
      intro a
      refine ⟨a, fi, gi, rfl, rfl, rfl, rfl, ?_⟩
      simp
      refine ⟨a, ins, ks, fi, gi, x, rfl, rfl, h1, l40, hf, hg, fun hh => ⟨rfl, ?_⟩⟩
      simpa using h3
    refine seq1 [.val d0, .val (.tuple fi), .val d2, .own (os ++ [(outc fi gi x.rules).d]), .own gi, .val (.str x.name), .val (kindD x.sort), .val (.tuple (Rule.ds x.rules)), .val (outc fi gi x.rules).d] (fun q h3 => ?_) ?_
    · simp [ll1]
      simpa using h3
    have g2 := go (.val (.str x.name)) (.val (kindD x.sort)) (.val (.tuple (Rule.ds x.rules))) (.val (outc fi gi x.rules).d)
    unfold lb_outcomes_of_1 at g2
    generalize outc fi gi x.rules = oo at g2
    cases oo with
    | lacks =>
      simp [Outc.d, ll2]
      simpa [Outc.d, Outc.w] using g2
    | clash ls =>
      simp [Outc.d, ll2]
      simpa [Outc.d, Outc.w] using g2
    | is d l =>
      simp [Outc.d, ll2, atI1]
      simpa [Outc.d, Outc.w] using g2
    | hangs k =>
      simp [Outc.d, Rs.d, ll2]
      simpa [Outc.d, Outc.w, Rs.d] using g2
theorem outs_take {ins : Ins} : ∀ (m : Nat) (ks : List Bool) (xs : List Defn), OutsOk ins ks xs → OutsOk ins ks (xs.take m)
  | 0, _, _, _ => ⟨trivial, fun _ h => by simp at h⟩
  | _ + 1, _, [], h => h
  | m + 1, ks, x :: xs, ⟨h, h2⟩ => by
    obtain ⟨a, b⟩ := outs_take m (ks ++ [x.sort]) xs ⟨h.2, fun y hy => h2 y (by simp [hy])⟩
    refine ⟨⟨h.1, a⟩, fun y hy => ?_⟩
    rw [List.take_succ_cons] at hy
    rcases List.mem_cons.mp hy with rfl | hy
    · exact h2 y (by simp)
    · exact b y hy
theorem cut_m {α : Type} (xs : List α) (m : Nat) : DL.cutD xs none (some (m : Int)) = xs.take m := by
  have e : HT.sIx xs.length 0 none = 0 := rfl
  have e2 : HT.sIx xs.length xs.length (some (m : Int)) = min m xs.length := by
    simp only [HT.sIx]
    have : ¬ ((m : Int) < 0) := by omega
    simp [this]
    try omega
  simp only [DL.cutD, e, e2, List.drop_zero, Nat.sub_zero]
  rw [Nat.min_comm, ← List.take_take]
  exact List.take_of_length_le (by simp; omega)
theorem rd_outcomes_of (C_Reading : Addr) : ∀ dl Q, dl.length = 3 → g_outcomes_of dl Q → tb_outcomes_of C_Reading (enF Q) (slots0 9 dl) := by
  rintro dl Q - ⟨⟨ins, xs⟩, fi, m, rfl, h8, ho, hf, h⟩
  unfold tb_outcomes_of
  simp only at h8 ho hf h
  refine seq1 [.val (.tuple [insD ins, defsD xs]), .val (.tuple fi), .val (.int m), .own [], .own [], .no, .no, .no, .no] (fun q h3 => ?_) ?_
  · simp [Book.d]
    simpa using h3
  simp only [mSeq, mFor, iSeq]
  unfold defsD
  simp [atI1]
  rw [cut_m, ← List.map_take]
  have hl : (xs.take m).length ≤ 8 := by simp; omega
  refine loop_outs hf (xs.take m) [] [] [] .no .no .no .no (outs_take m [] xs ho) .nil (by simp; omega) (by simp; omega) (fun vs a5 a6 a7 a8 => ?_)
  have ol : ∀ (gi : List D) (ys : List Defn), (outs fi gi ys).length = ys.length := by
    intro gi ys
    induction ys generalizing gi with
    | nil => rfl
    | cons y ys ih => simp [outs, ih]
  have ll := le_line (n := (outs fi [] (xs.take m)).length) (by rw [ol]; omega)
  simp [ll]
  simpa using h
theorem book_outs {b : Book} (h : BookOk b) : OutsOk b.ins [] b.defs := ⟨h.d, fun x hx => by
  have hm := h.m
  unfold labsOf at hm
  obtain ⟨s, t, e⟩ := List.append_of_mem hx
  rw [e] at hm
  simp at hm
  omega⟩
theorem rd_decided : ∀ dl Q, dl.length = 2 → g_decided dl Q → tb_decided (enF Q) (slots0 2 dl) := by
  rintro dl Q - ⟨b, fi, rfl, hb, hf, h⟩
  have hi : b.ins.length ≤ 100 := by
    have := hb.i.b
    unfold insD inputsB at this
    simp at this
    omega
  have h8 := hb.l
  have ho := book_outs hb
  unfold tb_decided
  refine seq1 [.val b.d, .val (.tuple fi)] (fun q h3 => ?_) ?_
  · simp
    exact ⟨b, rfl, hb, by simpa using h3⟩
  refine seq1 [.val b.d, .val (.tuple fi)] (fun q h3 => ?_) ?_
  · simp [Book.d]
    exact ⟨b.ins, fi, rfl, hi, hf, by simpa [Book.d] using h3⟩
  simp [Book.d, atI1]
  unfold defsD
  simp
  refine ⟨b, fi, b.defs.length, rfl, h8.2, ho, hf, ?_⟩
  rw [List.take_length]
  simpa using h
theorem labs_comp : ∀ (os : List Outc) (acc : List D) (s0 s1 : SD) (P : List D → DS → Prop), P (acc ++ (labsIs os).map .str) [s0, s1, .no] →
    compD (gNm 2) cc_deciding_1 ce_deciding_1 [2] (os.map Outc.d) acc [s0, s1, .no] P
  | [], acc, s0, s1, P, h => by simpa [compD, labsIs] using h
  | o :: os, acc, s0, s1, P, h => by
    have ih := labs_comp os
    cases o with
    | lacks =>
      simp [compD, cc_deciding_1, Outc.d]
      exact ih acc s0 s1 P h
    | clash ls =>
      simp [compD, cc_deciding_1, Outc.d]
      exact ih acc s0 s1 P h
    | hangs k =>
      simp [compD, cc_deciding_1, Outc.d, Rs.d]
      exact ih acc s0 s1 P h
    | is d l =>
      have a2 : atI [PyData.str (Str.ofString "is"), d, .str l] 2 = some (.str l) := atI_nat (j := 2) rfl
      simp [compD, cc_deciding_1, ce_deciding_1, Outc.d, a2]
      refine ih _ s0 s1 P ?_
      simpa [labsIs] using h
theorem labs_len : ∀ os : List Outc, (labsIs os).length ≤ os.length
  | [] => Nat.le_refl _
  | o :: os => by
    have := labs_len os
    cases o <;> simp [labsIs] <;> omega
theorem outs_len {fi : List D} : ∀ (gi : List D) (ys : List Defn), (outs fi gi ys).length = ys.length
  | _, [] => rfl
  | _, y :: ys => by simp [outs, outs_len]
theorem rd_deciding : ∀ dl Q, dl.length = 2 → g_deciding dl Q → tb_deciding (enF Q) (slots0 3 dl) := by
  rintro dl Q - ⟨b, fi, rfl, hb, hf, h⟩
  unfold tb_deciding
  have ol := outs_len (fi := fi) [] b.defs
  have l8 := hb.l
  have ll := labs_len (outs fi [] b.defs)
  have l1 := le_line (n := (outs fi [] b.defs).length) (by omega)
  simp only [mRet, dB, aCons, dComp, iSeq]
  simp
  refine ⟨b, fi, rfl, hb, hf, ?_⟩
  simp [l1]
  refine labs_comp _ _ _ _ _ ?_
  simp
  refine ⟨_, rfl, by omega, ?_⟩
  simpa using h
end EX

/-! DL: the lake of draws: great numbers that are used up, and a number that is stirred. -/
namespace DL
open PySem PySem.Spec PyProof.Rows L2

def lakeB (p c : Addr) : Wd where
  val := .ref p
  fp := fun a => a = p ∨ a = c
  ok := fun _ H => p ≠ c ∧ ∃ (cells : List Int) (i j : Int), H p = some (.lst [.ref c, .int i, .int j]) ∧ H c = some (.lst (cells.map V.int)) ∧ (∀ x ∈ cells, 0 ≤ x) ∧ cells.length ≤ 63 ∧ 0 ≤ i ∧ i < 2 ^ 61
  mono := fun _ k ⟨h0, cells, i, j, h1, h2, h⟩ => ⟨h0, cells, i, j, by rw [k _ (.inl rfl)]; exact h1, by rw [k _ (.inr rfl)]; exact h2, h⟩
  dom := fun ⟨_, cells, i, j, h1, h2, _⟩ f => by
    rcases f with rfl | rfl
    · exact ⟨_, h1, trivial⟩
    · exact ⟨_, h2, trivial⟩
def gScoop : DFW := fun w dl P => ∃ p c many, w = lakeB p c ∧ dl = [.int many] ∧ 1 ≤ many ∧ many < 2 ^ 60 ∧ ∀ r : Int, 0 ≤ r → r < many → P (.val (.int r)) (lakeB p c)
def gLake : DF := fun dl P => ∃ ns : List Int, dl = [.list (ns.map .int)] ∧ ns.length ≤ 63 ∧ ∀ p c, P (.wd (lakeB p c))
theorem at_scoop {p c : Addr} {many : Int} {P : SD → Wd → Prop} (h1 : 1 ≤ many) (h2 : many < 2 ^ 60) (h : ∀ r : Int, 0 ≤ r → r < many → P (.val (.int r)) (lakeB p c)) : gScoop (lakeB p c) [.int many] P :=
  ⟨p, c, many, rfl, rfl, h1, h2, h⟩

section
variable {K : PySem.W.Frag} {F T q : Ad} {σ : Sl} {H : Hp} {ds : DS} {fp : Nat → Ad} {i : Nat} {xs : List D}
/-- what a slot owns, given away -/
theorem Rep.moveT (r : Rep K F T σ H ds fp) (e : ds[i]? = some (.own xs)) : Rep K F (T.or (fp i)) σ H (ds.set i .no) (fun j a => j ≠ i ∧ fp j a) := by
  have hi := (List.getElem?_eq_some_iff.mp e).1
  refine ⟨by rw [List.length_set]; exact r.len, fun j s e => ?_, fun j a h => by rw [List.length_set]; exact r.out j a h.2, fun j a h => r.fF j a h.2, fun j a h z => ?_, fun i j a h h' => r.sep i j a h.2 h'.2, fun a z => ?_, r.fd, fun a z => ?_⟩
  · by_cases hj : j = i
    · subst hj
      rw [List.getElem?_set_self hi] at e; cases e
      exact fun a z => z.1 rfl
    · rw [List.getElem?_set_ne (Ne.symm hj)] at e
      exact (r.slot j s e).fpx fun a => ⟨fun z => z.2, fun z => ⟨hj, z⟩⟩
  · rcases z with z | z
    · exact r.fT j a h.2 z
    · exact h.1 (r.sep j i a h.2 z)
  · rcases z with z | z
    · exact r.tF a z
    · exact r.fF i a z
  · rcases z with z | z
    · exact r.td a z
    · exact r.fdom z
end
/-- [x, a, b], x a list of ints that slot i alone holds: a lake -/
@[simp] def dLake (i : Nat) (u : DTA) : DT := fun ds Q => ownAt ds i fun _ => u ds fun hs ds2 => takes hs ds2 fun dl ds3 => match ds3[i]? with
  | some (.own xs) => (∃ cells : List Int, xs = cells.map .int ∧ (∀ x ∈ cells, 0 ≤ x) ∧ cells.length ≤ 63) ∧ (∃ s : Int, dl = [.int s, .int 0] ∧ 0 ≤ s ∧ s < 2 ^ 61) ∧ ∀ p c, Q (.new (.wd (lakeB p c))) (ds3.set i .no)
  | _ => False
section
variable {X : Cx} {K : PySem.W.Frag} {es : List Expr} {ta : TA} {u : DTA} {pos py : Pos} {i : Nat} {y : Str}
theorem do_lake (b : DA X es ta u) (hn : es.length = 2 := by rfl) (hN : X.N[i]? = some y := by rfl) (hv : Vis X.env.scope y := by first | exact Or.inl rfl | exact Or.inr (Or.inl rfl) | exact Or.inr (Or.inr rfl)) (hd : (y == ("__debug__" : Str)) = false := by decide)
    (hcd : (y == ("__classdict__" : Str)) = false := by decide) (hs : starEach (.Name y py :: es) X.env = (false, eval (.Name y py) X.env) :: starEach es X.env := by rfl) : DO X (.List (.Name y py :: es) pos) (tLst (tCons (tVar i) ta)) (dLake i u) :=
  ⟨pe_lst (pa_cons (pe_var hN hv hd hcd) b.pa hs), fun F T σ H ds fp Q R rp h k => by
    obtain ⟨xs0, h0, h⟩ := ownAt_inv h
    obtain ⟨c, _, ec, _, _, _⟩ := rp.slot i _ h0
    refine ⟨.ref c, ec, ?_⟩
    refine b.ok F T σ H ds fp _ _ rp h fun hs ds2 vs H2 F2 fp2 q2 k2 p2 l2 => ?_
    refine ⟨by rw [List.length_cons, l2, hn]; decide, fun p hp => ?_⟩
    have r2 : Rep X.K F2 (T.or q2) σ H2 ds2 fp2 := p2.rep
    obtain ⟨dl, ds3, F3, fp3, k3, r3, g3, i3⟩ := takes_ok p2.r .refl r2 p2.qT k2
    cases h3 : ds3[i]? with
    | none => rw [h3] at k3; exact k3.elim
    | some s =>
      cases s <;> first | (rw [h3] at k3; exact k3.elim) | skip
      rw [h3] at k3
      obtain ⟨⟨cells, rfl, hnn, hlen⟩, ⟨st, rfl, s0, s1⟩, k4⟩ := k3
      obtain ⟨c', ws, e1, hq, hc, ia⟩ := r3.slot i _ h3
      rw [ec] at e1; cases e1
      have hcc := ia.ints
      subst hcc
      have ev : vs = [.int st, .int 0] := by
        cases i3 with
        | cons a b => cases a; cases b with
          | cons a b => cases a; cases b; rfl
      rw [ev]
      have npc : p ≠ c := fun e => by rw [e, hc] at hp; cases hp
      have r4 := r3.moveT h3
      obtain ⟨r5, g5, t5⟩ := r4.newT (o := .lst [.ref c, .int st, .int 0]) hp trivial
      obtain ⟨nF, nT, nfp⟩ := r4.new_ne hp
      have hT : ¬ T c := r3.fT i c ((hq c).mpr rfl)
      refine k _ _ _ _ _ _ (fun a => a = p ∨ a = c) (k4 p c) ⟨r5.less ?_, ?_, (p2.g.trans g3).trans g5, fun a z => ?_, ⟨rfl, fun _ => Iff.rfl, npc, cells, st, 0, upd_same, ?_, hnn, hlen, s0, s1⟩⟩
      · rintro a (z | rfl | rfl)
        · exact .inl (.inl z)
        · exact .inr rfl
        · exact .inl (.inr ((hq _).mpr rfl))
      · rintro a (rfl | rfl)
        · exact fun z => nT (.inl z)
        · exact hT
      · rw [t5 a (.inl z), p2.t a z]
      · rw [upd_ne npc.symm]; exact hc⟩
end
end DL

/-! DL: x, y, z = a, b, c with names that inner blocks look at. -/
namespace DL
open PySem PySem.Spec PyProof.Rows L2
@[simp] def mPar3 (i j l : Nat) (t u v : DT) : DM := fun E ds => t ds fun h1 ds1 => u ds1 fun h2 ds2 => v ds2 fun h3 ds3 => sett h1 ds3 fun s1 ds4 => sett h2 ds4 fun s2 ds5 => sett h3 ds5 fun s3 ds6 => put i s1 ds6 fun ds7 => put j s2 ds7 fun ds8 => put l s3 ds8 E.nx
section
variable {X : Cx} {K : PySem.W.Frag} {i j l : Nat} {x y z : Str} {a b c : Expr} {ta tb tc : TE} {t u v : DT} {pos px py pz pt pt2 : Pos} {kt k2 : Nat}
theorem ds_par3 (hN : X.N.Nodup) (ha : DO X a ta t) (hb : DO X b tb u) (hcc : DO X c tc v) (hc : X.calm = true := by rfl) (hi : X.N[i]? = some x := by rfl) (hj : X.N[j]? = some y := by rfl) (hl : X.N[l]? = some z := by rfl)
    (hx : Loc X.env.scope x := by first | exact .inl rfl | exact .inr rfl) (hy : Loc X.env.scope y := by first | exact .inl rfl | exact .inr rfl) (hz : Loc X.env.scope z := by first | exact .inl rfl | exact .inr rfl)
    (hfx : X.fn x = true ∨ X.env.scope.names.lookup x = some .local := by first | exact .inl rfl | exact .inr rfl | assumption) (hfy : X.fn y = true ∨ X.env.scope.names.lookup y = some .local := by first | exact .inl rfl | exact .inr rfl | assumption) (hfz : X.fn z = true ∨ X.env.scope.names.lookup z = some .local := by first | exact .inl rfl | exact .inr rfl | assumption)
    (h1 : starEach [a, b, c] X.env = (false, eval a X.env) :: starEach [b, c] X.env := by rfl) (h2 : starEach [b, c] X.env = (false, eval b X.env) :: starEach [c] X.env := by rfl) (h3 : starEach [c] X.env = (false, eval c X.env) :: starEach [] X.env := by rfl)
    (hst1 : (assignEach [.Name x px, .Name y py, .Name z pz] X.env).map (·.2) = assign (.Name x px) X.env :: (assignEach [.Name y py, .Name z pz] X.env).map (·.2) := by rfl) (hst2 : (assignEach [.Name y py, .Name z pz] X.env).map (·.2) = assign (.Name y py) X.env :: (assignEach [.Name z pz] X.env).map (·.2) := by rfl) (hst3 : (assignEach [.Name z pz] X.env).map (·.2) = assign (.Name z pz) X.env :: (assignEach [] X.env).map (·.2) := by rfl)
    (hn : (assignEach [.Name x px, .Name y py, .Name z pz] X.env).length = 3 := by rfl) (hfi : (assignEach [.Name x px, .Name y py, .Name z pz] X.env).findIdx? (·.1) = none := by rfl)
    (hs : swapsWithSole [.Tuple [.Name x px, .Name y py, .Name z pz] kt pt] (.Tuple [a, b, c] k2 pt2) pos.line X.env = pure false := by rfl)
    (hw : swappedStores [.Tuple [.Name x px, .Name y py, .Name z pz] kt pt] (.Tuple [a, b, c] k2 pt2) X.env = pure none := by rfl)
    (hm : (assignEach [.Tuple [.Name x px, .Name y py, .Name z pz] kt pt] X.env).map (·.2) = [assign (.Tuple [.Name x px, .Name y py, .Name z pz] kt pt) X.env] := by rfl) :
    DSt X (.Assign [.Tuple [.Name x px, .Name y py, .Name z pz] kt pt] (.Tuple [a, b, c] k2 pt2) pos) (tAsg (tTup (tCons ta (tCons tb (tCons tc tNil)))) (gTup X.K 3 (gCons (gName i) (gCons (gName j) (gCons (gName l) gNil))))) (mPar3 i j l t u v) := ⟨ps_asg (pe_tup (pa_cons ha.pe (pa_cons hb.pe (pa_cons hcc.pe pa_nil h3) h2) h1)) (pg_tup hc (pgs_cons (pg_name hN hi hx hfx) (pgs_cons (pg_name hN hj hy hfy) (pgs_cons (pg_name hN hl hz hfz) pgs_nil hst3) hst2) hst1) hn hfi) hs hw hm, fun F σ H ds fp E D r h k => by
  refine ha.ok F _ σ H ds fp _ _ r h fun h1 ds1 v1 H1 F1 fp1 q1 k1 p1 => ?_
  refine hb.ok F1 (Ad.nil.or q1) σ H1 ds1 fp1 _ _ p1.rep k1 fun h2 ds2 v2 H2 F2 fp2 q2 k2 p2 => ?_
  refine hcc.ok F2 ((Ad.nil.or q1).or q2) σ H2 ds2 fp2 _ _ p2.rep k2 fun h3 ds3 v3 H3 F3 fp3 q3 k3 p3 => ?_
  refine ⟨by show 3 ≤ sizeLine; decide, fun p hp => ?_⟩
  have d12 : ∀ a, q2 a → ¬ q1 a := fun a y x => p2.qT a y (.inr x)
  have d13 : ∀ a, q3 a → ¬ q1 a := fun a y x => p3.qT a y (.inl (.inr x))
  have d23 : ∀ a, q3 a → ¬ q2 a := fun a y x => p3.qT a y (.inr x)
  have x1 := p1.r.keep (p2.g.trans p3.g) fun a z => (p3.t a (.inl (.inr z))).trans (p2.t a (.inr z))
  have x2 := p2.r.keep p3.g fun a z => p3.t a (.inr z)
  have r2 : Rep X.K F3 ((q3.or q2).or q1) σ H3 ds3 fp3 := p3.rep.less fun a z => z.elim (fun z => z.elim .inr fun z => .inl (.inr z)) fun z => .inl (.inl (.inr z))
  obtain ⟨s1, dsA, FA, fpA, qa, eA, rA, subA, gA, soA⟩ := sett_ok r2 (fun a z y => y.elim (fun y => d13 a y z) fun y => d12 a y z) x1 k3
  have rA' : Rep X.K FA ((qa.or q3).or q2) σ H3 dsA fpA := rA.less fun a z => z.elim (fun z => z.elim .inr fun z => .inl (.inl z)) fun z => .inl (.inr z)
  obtain ⟨s2, dsB, FB, fpB, qb, eB, rB, subB, gB, soB⟩ := sett_ok rA' (fun a z y => y.elim (fun y => d12 a z (subA a y)) fun y => d23 a y z) (x2.keep gA fun _ _ => rfl) eA
  have rB' : Rep X.K FB ((qa.or qb).or q3) σ H3 dsB fpB := rB.less fun a z => z.elim (fun z => z.elim (fun z => .inl (.inl z)) .inr) fun z => .inl (.inr z)
  obtain ⟨s3, dsC, FC, fpC, qc, eC, rC, subC, gC, soC⟩ := sett_ok rB' (fun a z y => y.elim (fun y => d13 a z (subA a y)) fun y => d23 a z (subB a y)) (p3.r.keep (gA.trans gB) fun _ _ => rfl) eB
  have rC' : Rep X.K FC ((qc.or qb).or qa) σ H3 dsC fpC := rC.less fun a z => z.elim (fun z => z.elim .inr fun z => .inl (.inr z)) fun z => .inl (.inl z)
  obtain ⟨r5, g5, t5⟩ := rC'.newF (o := .tup [v1, v2, v3]) hp trivial
  have soA' := (soA.mono (gB.trans gC).same fun _ _ => rfl).mono g5.same fun a z => t5 a (.inr z)
  have soB' := (soB.mono gC.same fun _ _ => rfl).mono g5.same fun a z => t5 a (.inl (.inr z))
  have soC' := soC.mono g5.same fun a z => t5 a (.inl (.inl z))
  obtain ⟨e5, fp5, r6⟩ := put_ok r5 (fun a z y => y.elim (fun y => d13 a (subC a y) (subA a z)) fun y => d12 a (subB a y) (subA a z)) soA' eC
  obtain ⟨e6, fp6, r7⟩ := put_ok r6 (fun a z y => d23 a (subC a y) (subB a z)) soB' e5
  have r7' : Rep X.K (FC.or (· = p)) (Ad.nil.or qc) ((σ.set i (some v1)).set j (some v2)) _ ((dsC.set i s1).set j s2) fp6 := r7.less fun a z => z.elim (fun z => z.elim) id
  obtain ⟨e7, fp7, r8⟩ := put_ok r7' (fun _ _ z => z) soC' e6
  refine ⟨p, [v1, v2, v3], rfl, .of upd_same, rfl, v1, [v2, v3], rfl, ?_⟩
  refine ⟨v2, [v3], rfl, ?_⟩
  refine ⟨v3, [], rfl, rfl, ?_⟩
  exact k.nx _ _ _ _ fp7 e7 r8 ((((((p1.g.trans p2.g).trans p3.g).trans gA).trans gB).trans gC).trans g5)⟩
end
end DL

/-! EX: the lake's defs; a law's sameness. -/
namespace EX
open PySem PySem.Spec PyProof.Rows L2 BK
open DL hiding g_is_between tb_is_between rd_is_between
abbrev g__law_lake : DF := gLake
abbrev g__law_scoop : DFW := gScoop
def g__law_pick : DFW := fun w dl P => ∃ p c xs, w = lakeB p c ∧ dl = [.list xs] ∧ 1 ≤ xs.length ∧ xs.length ≤ 1000 ∧ ∀ x ∈ xs, P (.val x) (lakeB p c)
theorem at_pick {p c : Addr} {xs : List D} {P : SD → Wd → Prop} (h1 : 1 ≤ xs.length) (h2 : xs.length ≤ 1000) (h : ∀ x ∈ xs, P (.val x) (lakeB p c)) : g__law_pick (lakeB p c) [.list xs] P :=
  ⟨p, c, xs, rfl, rfl, h1, h2, h⟩
def lb__law_lake_1 : DM := (mSet 2 (d2 dMod (dB bInt (aCons (d2 dAdd (d2 dAdd (d2 dMulA (dVar 2) (dC (.int 48271))) (d2 dMulA (dVar 3) (dC (.int 40692)))) (dC (.int 2531011))) aNil)) (d2 dSub (d2 dPow (dC (.int 2)) (dC (.int 61))) (dC (.int 1)))))
def cc__law_lake_1 : DTT := (bT (d2 dGe (dVar 3) (d2 dPow (dC (.int 10)) (dC (.int 18)))))
def ce__law_lake_1 : DT := (d2 dSub (dVar 3) (d2 dPow (dC (.int 10)) (dC (.int 18))))
def tb__law_lake : DM := (mSeq (mSet 1 (dComp (iSeq (dVar 0)) (gNm 3) cc__law_lake_1 ce__law_lake_1 [3]))
    (mSeq (mSet 2 (d2 dAdd (dC (.int 9176)) (dB bLen (aCons (dVar 0) aNil))))
    (mSeq (mFor (iSeq (dVar 0)) (gNm 3) lb__law_lake_1)
    (mRet (dLake 1 (aCons (dVar 2) (aCons (dC (.int 0)) aNil)))))))
def tb__law_pick : DM := (mRet (d2 dIx (dVar 1) (dCallW 0 g__law_scoop (aCons (dB bLen (aCons (dVar 1) aNil)) aNil))))

theorem rd__law_pick : ∀ w dl Q, dl.length = 1 → g__law_pick w dl Q → tb__law_pick (enW w Q) (slotsW 2 w dl) := by
  rintro w dl Q - ⟨p, c, xs, rfl, rfl, h1, h2, h⟩
  unfold tb__law_pick
  simp
  refine at_scoop (by omega) (by omega) fun r r0 r1 => ?_
  obtain ⟨v, e, hm⟩ := atI_at (xs := xs) r0 (by simpa using r1)
  simp [e]
  exact h v hm
theorem cpow18 : CPow 10 18 := ⟨by decide, by decide, by decide⟩
theorem cpow61 : CPow 2 61 := ⟨by decide, by decide, by decide⟩
theorem rd__law_lake : ∀ dl Q, dl.length = 1 → g__law_lake dl Q → tb__law_lake (enF Q) (slots0 4 dl) := by
  rintro dl Q - ⟨ns, rfl, hl, h⟩
  unfold tb__law_lake
  have ll := le_line (n := ns.length) (by omega)
  have e18 : (10 : Int) ^ (18 : Int).toNat = 1000000000000000000 := rfl
  have e61 : (2 : Int) ^ (61 : Int).toNat = 2305843009213693952 := rfl
  have comp : ∀ (zs : List Int) (acc : List D) (s0 s1 s2 : SD) (P : List D → DS → Prop), (∀ cells : List Int, (∀ x ∈ cells, 0 ≤ x) → cells.length ≤ zs.length → P (acc ++ cells.map .int) [s0, s1, s2, .no]) →
      compD (gNm 3) cc__law_lake_1 ce__law_lake_1 [3] (zs.map .int) acc [s0, s1, s2, .no] P := by
    intro zs
    induction zs with
    | nil => intro acc s0 s1 s2 P h; simpa [compD] using h [] (by simp) (by simp)
    | cons z zs ih =>
      intro acc s0 s1 s2 P h
      by_cases hz : 1000000000000000000 ≤ z
      · simp [compD, cc__law_lake_1, ce__law_lake_1, cpow18, e18, hz]
        refine ih _ s0 s1 s2 P fun cells h1 h2 => ?_
        have := h ((z - 1000000000000000000) :: cells) (by
          intro x hx
          rcases List.mem_cons.mp hx with rfl | hx
          · omega
          · exact h1 x hx) (by simp; omega)
        simpa using this
      · simp [compD, cc__law_lake_1, cpow18, e18, hz]
        exact ih _ s0 s1 s2 P fun cells h1 h2 => h cells h1 (by simp; omega)
  refine (show mSeq _ _ _ _ from ?_)
  simp only [mSeq, mSet, dComp, iSeq, dVar, slots0]
  simp [ll]
  refine comp ns [] _ _ _ _ fun cells hc hcl => ?_
  simp [ll]
  have loop : ∀ (zs : List Int) (st : Int) (s3 : SD) (E : En), 0 ≤ st ∧ st < 2 ^ 61 → (∀ st s3, 0 ≤ st ∧ st < 2 ^ 61 → E.nx [.val (.list (ns.map .int)), .own (cells.map .int), .val (.int st), s3]) →
      loopD (gNm 3) lb__law_lake_1 (zs.map .int) E [.val (.list (ns.map .int)), .own (cells.map .int), .val (.int st), s3] := by
    intro zs
    induction zs with
    | nil => intro st s3 E hs k; simpa [loopD] using k st s3 hs
    | cons z zs ih =>
      intro st s3 E hs k
      have m1 : MulOk st 48271 := MulOk.r ⟨by decide, by decide⟩
      have m2 : MulOk z 40692 := MulOk.r ⟨by decide, by decide⟩
      simp only [List.map_cons, loopD, gNm, put]
      simp [lb__law_lake_1, m1, m2, cpow61, e61]
      have f0 := Int.fmod_nonneg_of_pos (st * 48271 + z * 40692 + 2531011) (b := 2305843009213693951) (by decide)
      have f1 := Int.fmod_lt_of_pos (st * 48271 + z * 40692 + 2531011) (b := 2305843009213693951) (by decide)
      have := ih ((st * 48271 + z * 40692 + 2531011).fmod 2305843009213693951) (.val (.int z)) E ⟨f0, by omega⟩ k
      simpa [lb__law_lake_1] using this
  refine loop ns _ _ _ ⟨by omega, by omega⟩ fun st s3 hs => ?_
  simp
  exact ⟨⟨cells, rfl, hc, by omega⟩, ⟨hs.1, hs.2⟩, h⟩
def gn__law_same (n : Nat) : DF := gSame n
theorem nz__law_same : ∀ dl Q, ¬ gn__law_same 0 dl Q := by
  rintro dl Q ⟨d, _, h, _⟩
  exact SameD_0 h
def ce__law_same_1 (g : DF) : DT := (dCall g (aCons (d2 dIx (dVar 0) (dVar 2)) (aCons (d2 dIx (dVar 1) (dVar 2)) aNil)))
def tb__law_same (g : DF) : DM := (mSeq (mIf (bT (dIsi2 "tuple" "list" (dVar 1))) (mSeq (mIf (bOr (bT (d2 dNe (dIsi "tuple" (dVar 0)) (dIsi "tuple" (dVar 1)))) (bT (d2 dNe (dIsi "list" (dVar 0)) (dIsi "list" (dVar 1))))) (mRet (dC (.bool false))) mNil)
    (mRet (dAnd (d2 dEq (dB bLen (aCons (dVar 0) aNil)) (dB bLen (aCons (dVar 1) aNil))) (dB bAll (aCons (dComp (iR1 (dB bLen (aCons (dVar 1) aNil))) (gNm 2) cYes (ce__law_same_1 g) [2]) aNil))))) mNil)
    (mSeq (mIf (bOr (bT (d2 dNe (dIsi "bool" (dVar 0)) (dIsi "bool" (dVar 1)))) (bT (d2 dNe (dIsi "int" (dVar 0)) (dIsi "int" (dVar 1))))) (mRet (dC (.bool false))) mNil)
    (mRet (dAnd (d2 dEq (dIsi "str" (dVar 0)) (dIsi "str" (dVar 1))) (d2 dEq (dVar 0) (dVar 1))))))

theorem rd__law_same (n : Nat) : ∀ dl Q, dl.length = 2 → gn__law_same (n + 1) dl Q → tb__law_same (gn__law_same n) (enF Q) (slots0 3 dl) := by
  rintro dl Q - ⟨d, rfl, hs, h⟩
  have seq : ∀ (C : List D → D) (xs : List D), (C = .list ∨ C = .tuple) → xs.length ≤ sizeLine → (∀ x ∈ xs, SameD n x) → ∀ (Q' : List D → DS → Prop), Q' ((rngD 0 xs.length).map fun _ => .bool true) [.val (C xs), .val (C xs), .no] →
      compD (gNm 2) cYes (ce__law_same_1 (gSame n)) [2] (rngD 0 xs.length) [] [.val (C xs), .val (C xs), .no] Q' := fun C xs hC hl hx Q' hQ => by
    refine compD_map (fun _ => .bool true) _ _ _ (fun d hd L hL => ?_) (by simpa using hQ)
    obtain ⟨k, hk, rfl⟩ := mem_rng hd
    have e : atI xs (0 + (k : Int)) = some xs[k] := by rw [Int.zero_add]; exact atI_nat (List.getElem?_eq_getElem hk)
    have e' : atI xs (k : Int) = some xs[k] := by rw [Int.zero_add] at e; exact e
    rcases hC with rfl | rfl
    · simp [ce__law_same_1, e, e']
      exact ⟨hx _ (List.getElem_mem hk), hL⟩
    · simp [ce__law_same_1, e, e']
      exact ⟨hx _ (List.getElem_mem hk), hL⟩
  have sz : sizeLine < 2 ^ 62 := by decide +kernel
  unfold gn__law_same
  cases d with
  | none =>
    have e : PyData.eqv .none .none = true := rfl
    simpa [e, tb__law_same, isT_tuple, isT_list, isT_bool, isT_int, isT_str] using h
  | bool b => simpa [tb__law_same, isT_tuple, isT_list, isT_bool, isT_int, isT_str] using h
  | int i => simpa [tb__law_same, isT_tuple, isT_list, isT_bool, isT_int, isT_str] using h
  | str i => simpa [tb__law_same, isT_tuple, isT_list, isT_bool, isT_int, isT_str] using h
  | list xs =>
    simp [tb__law_same, isT_tuple, isT_list]
    refine ⟨by have := hs.1; omega, by simpa [rngD] using hs.1, seq .list xs (.inl rfl) hs.1 hs.2 _ ?_⟩
    exact ⟨(rngD 0 xs.length).map fun _ => true, by rw [List.map_map]; rfl, by
      have e : (((rngD 0 xs.length).map fun _ => true).all id) = true := List.all_eq_true.mpr fun b hb => by
        obtain ⟨_, _, rfl⟩ := List.mem_map.mp hb
        rfl
      simpa [e] using h⟩
  | tuple xs =>
    simp [tb__law_same, isT_tuple, isT_list]
    refine ⟨by have := hs.1; omega, by simpa [rngD] using hs.1, seq .tuple xs (.inr rfl) hs.1 hs.2 _ ?_⟩
    exact ⟨(rngD 0 xs.length).map fun _ => true, by rw [List.map_map]; rfl, by
      have e : (((rngD 0 xs.length).map fun _ => true).all id) = true := List.all_eq_true.mpr fun b hb => by
        obtain ⟨_, _, rfl⟩ := List.mem_map.mp hb
        rfl
      simpa [e] using h⟩
  | dict kvs => exact hs.elim
end EX

/-! DL: the text's written values, by what the top has written. -/
namespace DL
open PySem PySem.Spec PyProof.Rows L2
def kk (e : DictEntry) : Option Str := match e.key with
  | .str x _ => some x
  | _ => none
def AllV (K : PySem.W.Frag) (d : Addr) : List (Str × D) → Prop
  | [] => True
  | p :: r => (∃ u v, PySem.W.nsIn K d p.1 = some (some u) ∧ RelV v u ∧ ∀ R, Is K R v p.2) ∧ AllV K d r
section
variable {K : PySem.W.Frag} {w : World} {mg : Str → Option Value} {x : Str} {d : Addr} {es : Array DictEntry} {n : Nat} {kvs : List (Str × D)}
theorem allV_at : ∀ {kvs : List (Str × D)} {z : Str} {dd : D}, AllV K d kvs → kvs.lookup z = some dd → ∃ u v, PySem.W.nsIn K d z = some (some u) ∧ RelV v u ∧ ∀ R, Is K R v dd
  | [], _, _, _, h => by simp [List.lookup] at h
  | (k, e) :: r, z, dd, ⟨h1, h2⟩, h => by
    rw [List.lookup_cons] at h
    cases hz : (z == k) with
    | true =>
      rw [hz] at h
      cases h
      rw [beq_iff_eq] at hz
      subst hz
      exact h1
    | false =>
      rw [hz] at h
      exact allV_at h2 h
theorem find_no : ∀ {l : List DictEntry} {kvs : List (Str × D)} {z : Str}, l.map kk = (kvs.map fun p => some p.1) → kvs.lookup z = none → l.find? (·.key.isStr z) = none ∧ l.any (·.refKey) = false
  | [], _, _, _, _ => ⟨rfl, rfl⟩
  | e :: l, [], _, q, _ => by simp at q
  | e :: l, (k, v) :: r, z, q, h => by
    simp only [List.map_cons, List.cons.injEq] at q
    rw [List.lookup_cons] at h
    cases hz : (z == k) with
    | true => rw [hz] at h; cases h
    | false =>
      rw [hz] at h
      obtain ⟨a, b⟩ := find_no (z := z) q.2 h
      have qk := q.1
      unfold kk at qk
      split at qk
      · rename_i y t ek
        cases qk
        have n1 : e.key.isStr z = false := by
          rw [ek]
          show (k == z) = false
          rw [beq_eq_false_iff_ne] at hz ⊢
          exact fun e => hz e.symm
        have n2 : e.refKey = false := by unfold DictEntry.refKey; rw [ek]
        refine ⟨?_, ?_⟩
        · rw [List.find?_cons_of_neg (by rw [n1]; simp)]; exact a
        · rw [List.any_cons, n2, b]; rfl
      · cases qk
theorem kd_mk (m : mg x = some (.ref d)) (l : K.lookup d = some ⟨.type "dict", none, .dict es n, #[]⟩) (k : PySem.W.KeysLit w.params es.toList) (low : (d == sysModules) = false) (q : es.toList.map kk = kvs.map fun p => some p.1) (hv : AllV K d kvs) : KD K w mg x d es n kvs := by
  refine ⟨m, ⟨l, k, low⟩, fun z => ?_⟩
  cases h : kvs.lookup z with
  | some dd => exact allV_at hv h
  | none =>
    obtain ⟨a, b⟩ := find_no q h
    show PySem.W.nsIn K d z = some none
    unfold PySem.W.nsIn
    rw [l]
    simp only [a, b]
    rfl
theorem cst_i {i : Int} {t : Tok} (m : mg x = some (.int i t)) : Cst K mg x (.int i) (.int i) := ⟨_, m, ⟨_, rfl⟩, fun _ => .int _⟩
theorem cst_s {z : Str} {t : Tok} (m : mg x = some (.str z t)) : Cst K mg x (.str z) (.str z) := ⟨_, m, ⟨_, rfl⟩, fun _ => .str _⟩
/-- a written tuple -/
theorem is_tupK {a : Addr} {od : Option Addr} {its : Array Value} {m : Nat} {sl : Array (Option Value)} {vs : List V} {ds : List D} (l : K.lookup a = some ⟨.type "tuple", od, .seq its m, sl⟩) (h : its.size ≤ 1000) (v : Vals vs its.toList) (i : ∀ R, IsA K R vs ds) (R : Hp) : Is K R (.ref a) (.tuple ds) :=
  .tup (.inr ⟨_, its, m, l, rfl, rfl, Nat.le_trans h (by rw [sizeLine_eq]; decide), v⟩) (i R)
theorem cst_t {a : Addr} {ds : List D} (m : mg x = some (.ref a)) (i : ∀ R, Is K R (.ref a) (.tuple ds)) : Cst K mg x (.ref a) (.tuple ds) := ⟨_, m, rfl, i⟩
end
end DL

/-! DL: defs whose first and last arguments are things that change. -/
namespace DL
open PySem PySem.Spec PyProof.Rows L2
def pairW (w1 w2 : Wd) : Wd where
  val := w1.val
  fp := fun a => w1.fp a ∨ w2.fp a
  ok := fun R H => w1.ok R H ∧ w2.ok R H ∧ ∀ a, w1.fp a → ¬ w2.fp a
  mono := fun e k ⟨h1, h2, h3⟩ => ⟨w1.mono e (fun a z => k a (.inl z)) h1, w2.mono e (fun a z => k a (.inr z)) h2, h3⟩
  dom := fun ⟨h1, h2, _⟩ f => f.elim (fun f => w1.dom h1 f) fun f => w2.dom h2 f
abbrev DFW2 := Wd → Wd → List D → (SD → Wd → Wd → Prop) → Prop
def spW2 (K : PySem.W.Frag) (n : Nat) (g : DFW2) : Sp := fun vs H Q _ => vs.length = n + 2 ∧ ∃ F w1 w2 us dl, vs = w1.val :: (us ++ [w2.val]) ∧ IsA K (res F H) us dl ∧ seqAll F H ∧ (pairW w1 w2).ok (res F H) H ∧ (∀ a, (pairW w1 w2).fp a → ¬ F a) ∧
  ∃ P : SD → Wd → Wd → Prop, g w1 w2 dl P ∧ ∀ r w1' w2', P r w1' w2' → ∀ (H' : Hp) (v : V) (F' q : Ad), Grow F H F' H' → seqAll F' H' → (∀ a, q a → ¬ F' a ∧ ¬ (pairW w1' w2').fp a ∧ ∃ o, H' a = some o ∧ bigO o) → w1'.val = w1.val → w2'.val = w2.val → (pairW w1' w2').ok (res F' H') H' → (∀ a, (pairW w1' w2').fp a → ¬ F' a) →
    SlotOk K (res F' H') H' (some (some v)) q r → Q v H'
/-- f(x, .., y), x and y things at the slots j1, j2 -/
@[simp] def dCallW2 (j1 j2 : Nat) (g : DFW2) (t : DTA) : DT := fun ds Q => wdAt ds j1 fun _ => t ds fun hs ds1 => takes hs ds1 fun dl ds2 => wdAt ds2 j1 fun w1 => wdAt ds2 j2 fun w2 => g w1 w2 dl fun r w1' w2' => w1'.val = w1.val ∧ w2'.val = w2.val ∧ Q (hdOf r) ((ds2.set j1 (.wd w1')).set j2 (.wd w2'))
section
variable {X : Cx} {K : PySem.W.Frag} {F T q : Ad} {σ : Sl} {H : Hp} {ds : DS} {fp : Nat → Ad} {e : Expr} {es : List Expr} {ta tk : TA} {t tkD : DTA} {n k j1 j2 : Nat} {g : DFW2} {f : Addr} {fd : FuncData} {ps ks : List Str} {x y z : Str} {p pos py pz : Pos}
open Classical in
theorem callW2_core {w1 w2 : Wd} {vs : List V} {dl : List D} {Q : Hd → Wd → Wd → Prop} {R : VK} {E : XK} (r2 : Rep K F T σ H ds fp) (hj1 : ds[j1]? = some (.wd w1)) (hj2 : ds[j2]? = some (.wd w2)) (ne : j1 ≠ j2) (ia : IsA K (res F H) vs dl) (hn : vs.length = n) (h : g w1 w2 dl fun r w1' w2' => w1'.val = w1.val ∧ w2'.val = w2.val ∧ Q (hdOf r) w1' w2')
    (k : ∀ h w1' w2' v H' F' q fp', Q h w1' w2' → Pst K F T H σ v h ((ds.set j1 (.wd w1')).set j2 (.wd w2')) F' H' fp' q → R v H') : frm (spW2 K n g) (w1.val :: (vs ++ [w2.val])) H R E := by
  obtain ⟨jv1, jf1, jo1⟩ := r2.slot j1 _ hj1
  obtain ⟨jv2, jf2, jo2⟩ := r2.slot j2 _ hj2
  have hlt1 : j1 < ds.length := (List.getElem?_eq_some_iff.mp hj1).1
  have hlt2 : j2 < ds.length := (List.getElem?_eq_some_iff.mp hj2).1
  let G : Ad := fun a => T a ∨ ∃ i, (i ≠ j1 ∧ i ≠ j2) ∧ fp i a
  have hG : ∀ a, G a → ∃ o, H a = some o ∧ bigO o := fun a z => by
    rcases z with z | ⟨i, _, z⟩
    · exact r2.td a z
    · exact r2.fdom z
  have nF : ∀ a, F a → ¬ hidden G H a := fun a f z => by
    rcases z with (z | ⟨i, _, z⟩) | ⟨y, _, z⟩
    · exact r2.tF a z f
    · exact r2.fF i a z f
    · obtain ⟨o, e, b⟩ := r2.fd a f
      rw [z] at e; cases e; exact b
  have nW : ∀ a, (pairW w1 w2).fp a → ¬ hidden G H a := fun a f z => by
    obtain ⟨jj, ej, fj⟩ : ∃ jj, (jj = j1 ∨ jj = j2) ∧ fp jj a := f.elim (fun f => ⟨j1, .inl rfl, (jf1 a).mpr f⟩) fun f => ⟨j2, .inr rfl, (jf2 a).mpr f⟩
    rcases z with (z | ⟨i, ni, z⟩) | ⟨y, _, z⟩
    · exact r2.fT jj a fj z
    · have := r2.sep i jj a z fj
      rcases ej with rfl | rfl
      · exact ni.1 this
      · exact ni.2 this
    · obtain ⟨o, e, b⟩ := r2.fdom fj
      rw [z] at e; cases e; exact b
  have sm : Same (res F H) (res F (hide G H)) := fun a o e => by
    obtain ⟨f, e⟩ := res_some e
    rw [res_in f, hide_out (nF a f)]; exact e
  have jo : (pairW w1 w2).ok (res F H) H := ⟨jo1, jo2, fun a f f2 => ne (r2.sep j1 j2 a ((jf1 a).mpr f) ((jf2 a).mpr f2))⟩
  have nfF : ∀ a, (pairW w1 w2).fp a → ¬ F a := fun a f => f.elim (fun f => r2.fF j1 a ((jf1 a).mpr f)) fun f => r2.fF j2 a ((jf2 a).mpr f)
  refine ⟨G, hG, by simp [hn], F, w1, w2, vs, dl, rfl, ia.mono sm, fun a f => by rw [hide_out (nF a f)]; exact r2.fd a f, (pairW w1 w2).mono sm (fun a f => hide_out (nW a f)) jo, nfF, _, h, fun r w1' w2' hr H' v F' q g' sa qa ev1 ev2 wo wF so hh => ?_⟩
  have nh' : ∀ a o, H' a = some o → ¬ hidden G H a := fun a o e z => by rw [hh a z] at e; cases e
  have nF' : ∀ a, F' a → ¬ hidden G H a := fun a f => by
    obtain ⟨o, e, _⟩ := sa a f
    exact nh' a o e
  have nq : ∀ a, q a → ¬ hidden G H a := fun a f => by
    obtain ⟨_, _, o, e, _⟩ := qa a f
    exact nh' a o e
  have nW' : ∀ a, (pairW w1' w2').fp a → ¬ hidden G H a := fun a f => by
    obtain ⟨o, e, _⟩ := (pairW w1' w2').dom wo f
    exact nh' a o e
  have GG : Grow F H F' (back G H H') := fun a f => ⟨(g' a f).1, by
    rw [back_out (nF a f), (g' a f).2, hide_out (nF a f)]⟩
  have sm' : Same (res F' H') (res F' (back G H H')) := fun a o e => by
    obtain ⟨f, e⟩ := res_some e
    rw [res_in f, back_out (nF' a f)]; exact e
  have so' : SlotOk K (res F' (back G H H')) (back G H H') (some (some v)) q r := so.mono sm' fun a z => back_out (nq a z)
  obtain ⟨wo1, wo2, wd⟩ := (pairW w1' w2').mono sm' (fun a z => back_out (nW' a z)) wo
  let fp2 : Nat → Ad := fun i => if i = j1 then w1'.fp else if i = j2 then w2'.fp else fp i
  have f1 : fp2 j1 = w1'.fp := if_pos rfl
  have f2 : fp2 j2 = w2'.fp := by show (if j2 = j1 then _ else if j2 = j2 then _ else _) = _; rw [if_neg (Ne.symm ne), if_pos rfl]
  have f3 : ∀ i, i ≠ j1 → i ≠ j2 → fp2 i = fp i := fun i h1 h2 => by show (if i = j1 then _ else if i = j2 then _ else _) = _; rw [if_neg h1, if_neg h2]
  have cs : ∀ i a, fp2 i a → (i = j1 ∧ w1'.fp a) ∨ (i = j2 ∧ w2'.fp a) ∨ ((i ≠ j1 ∧ i ≠ j2) ∧ fp i a) := fun i a z => by
    by_cases h1 : i = j1
    · subst h1; rw [f1] at z; exact .inl ⟨rfl, z⟩
    · by_cases h2 : i = j2
      · subst h2; rw [f2] at z; exact .inr (.inl ⟨rfl, z⟩)
      · rw [f3 i h1 h2] at z; exact .inr (.inr ⟨⟨h1, h2⟩, z⟩)
  refine k (hdOf r) w1' w2' v _ F' q fp2 hr.2.2 ⟨⟨by simp [r2.len], fun i s e => ?_, fun i a z => ?_, fun i a z f => ?_, fun i a z y => ?_, fun i i' a z z' => ?_, fun a z => ?_, fun a f => ?_, fun a z => ?_⟩, fun a z y => nq a z (.inl (.inl y)), GG, fun a z => back_in (.inl (.inl z)), ?_⟩
  · by_cases h2 : i = j2
    · subst h2
      rw [List.getElem?_set_self (by rw [List.length_set]; exact hlt2)] at e; cases e
      rw [f2]
      exact ⟨by rw [jv2, hr.2.1], fun _ => Iff.rfl, wo2⟩
    · rw [List.getElem?_set_ne (Ne.symm h2)] at e
      by_cases h1 : i = j1
      · subst h1
        rw [List.getElem?_set_self hlt1] at e; cases e
        rw [f1]
        exact ⟨by rw [jv1, hr.1], fun _ => Iff.rfl, wo1⟩
      · rw [List.getElem?_set_ne (Ne.symm h1)] at e
        rw [f3 i h1 h2]
        exact (r2.slot i s e).mono GG.same fun a z => back_in (.inl (.inr ⟨i, ⟨h1, h2⟩, z⟩))
  · rw [List.length_set, List.length_set]
    rcases cs i a z with ⟨rfl, _⟩ | ⟨rfl, _⟩ | ⟨_, z⟩
    · exact hlt1
    · exact hlt2
    · exact r2.out i a z
  · rcases cs i a z with ⟨_, z⟩ | ⟨_, z⟩ | ⟨ni, z⟩
    · exact wF a (.inl z) f
    · exact wF a (.inr z) f
    · exact nF' a f (.inl (.inr ⟨i, ni, z⟩))
  · rcases cs i a z with ⟨_, z⟩ | ⟨_, z⟩ | ⟨ni, z⟩
    · rcases y with y | y
      · exact nW' a (.inl z) (.inl (.inl y))
      · exact (qa a y).2.1 (.inl z)
    · rcases y with y | y
      · exact nW' a (.inr z) (.inl (.inl y))
      · exact (qa a y).2.1 (.inr z)
    · rcases y with y | y
      · exact r2.fT i a z y
      · exact nq a y (.inl (.inr ⟨i, ni, z⟩))
  · rcases cs i a z with ⟨e1, z⟩ | ⟨e1, z⟩ | ⟨ni, z⟩ <;> rcases cs i' a z' with ⟨e2, z'⟩ | ⟨e2, z'⟩ | ⟨ni', z'⟩
    · rw [e1, e2]
    · exact absurd z' (wd a z)
    · exact absurd (.inl (.inr ⟨i', ni', z'⟩)) (nW' a (.inl z))
    · exact absurd z (wd a z')
    · rw [e1, e2]
    · exact absurd (.inl (.inr ⟨i', ni', z'⟩)) (nW' a (.inr z))
    · exact absurd (.inl (.inr ⟨i, ni, z⟩)) (nW' a (.inl z'))
    · exact absurd (.inl (.inr ⟨i, ni, z⟩)) (nW' a (.inr z'))
    · exact r2.sep i i' a z z'
  · rcases z with z | z
    · exact fun f => nF' a f (.inl (.inl z))
    · exact (qa a z).1
  · obtain ⟨o, e, b⟩ := sa a f
    exact ⟨o, by rw [back_out (nF' a f)]; exact e, b⟩
  · rcases z with z | z
    · rw [back_in (.inl (.inl z))]; exact r2.td a z
    · obtain ⟨_, _, o, e, b⟩ := qa a z
      exact ⟨o, by rw [back_out (nq a z)]; exact e, b⟩
  · cases r with
    | val d =>
      obtain ⟨⟨v', e, i⟩, _⟩ := so'
      cases e
      exact i
    | no => exact so'
    | own _ => exact so'
    | dic _ => exact so'
    | wd _ => exact so'
    | ob _ => exact so'
end
end DL

/-! DL: calls of and defs with things that change as first and last arguments; a room: a list of one int. -/
namespace DL
open PySem PySem.Spec PyProof.Rows L2
def splitL : List Hd → Option (List Hd × Nat)
  | [] => none
  | [h] => match h with
    | .slot j => some ([], j)
    | _ => none
  | h :: h2 :: hs => (splitL (h2 :: hs)).map fun p => (h :: p.1, p.2)
theorem splitL_ok : ∀ {hs mid : List Hd} {j : Nat}, splitL hs = some (mid, j) → hs = mid ++ [.slot j]
  | [], _, _, h => by cases h
  | [h], mid, j, e => by
    cases h <;> simp [splitL] at e
    obtain ⟨rfl, rfl⟩ := e
    rfl
  | h :: h2 :: hs, mid, j, e => by
    simp only [splitL] at e
    cases q : splitL (h2 :: hs) with
    | none => rw [q] at e; cases e
    | some p =>
      rw [q] at e
      obtain ⟨m, i⟩ := p
      simp at e
      obtain ⟨rfl, rfl⟩ := e
      have := splitL_ok q
      rw [this]; rfl
/-- f(x, .., y): the last handle is a slot's -/
@[simp] def dCallL2 (j1 : Nat) (g : DFW2) (t : DTA) : DT := fun ds Q => wdAt ds j1 fun _ => t ds fun hs ds1 => match splitL hs with
  | some (mid, j2) => j1 ≠ j2 ∧ takes mid ds1 fun dl ds2 => wdAt ds2 j1 fun w1 => wdAt ds2 j2 fun w2 => g w1 w2 dl fun r w1' w2' => w1'.val = w1.val ∧ w2'.val = w2.val ∧ Q (hdOf r) ((ds2.set j1 (.wd w1')).set j2 (.wd w2'))
  | none => False
section
variable {X : Cx} {K : PySem.W.Frag} {F T q : Ad} {σ : Sl} {H : Hp} {ds : DS} {fp : Nat → Ad} {e : Expr} {es : List Expr} {ta tk : TA} {t tkD : DTA} {n k j1 j2 : Nat} {g : DFW2} {f : Addr} {fd : FuncData} {ps ks : List Str} {x y z : Str} {p pos py pz : Pos} {vs : List V}
theorem HdRs.split {j : Nat} : ∀ {mid : List Hd} {vs : List V} {q : Ad}, HdRs K F H σ vs q (mid ++ [.slot j]) → ∃ us v, vs = us ++ [v] ∧ HdRs K F H σ us q mid ∧ σ[j]? = some (some v)
  | [], _, _, .cons a b _ _ => by
    cases b
    exact ⟨[], _, rfl, .nil, a⟩
  | h :: mid, _, _, .cons a b c d => by
    obtain ⟨us, v, rfl, r, s⟩ := HdRs.split b
    exact ⟨_ :: us, v, rfl, .cons a r c d, s⟩
theorem eok_callW2 (ha : AOk K (n + 1) ta t) : EOk K (tCall (frm (spW2 K n g)) [] E0 (tCons (tVar j1) ta)) (dCallL2 j1 g t) := fun F T σ H ds fp Q R rp e k => by
  obtain ⟨w0, hj, e⟩ := wdAt_inv e
  obtain ⟨jv, _, _⟩ := rp.slot j1 _ hj
  refine ⟨w0.val, jv, ?_⟩
  refine ha F T σ H ds fp _ _ rp e fun hs ds1 vs H1 F1 fp1 q1 k1 p1 l1 => ?_
  cases hs2 : splitL hs with
  | none => rw [hs2] at k1; exact k1.elim
  | some p =>
    obtain ⟨mid, j2⟩ := p
    rw [hs2] at k1
    obtain ⟨ne, k1⟩ := k1
    have eh := splitL_ok hs2
    subst eh
    obtain ⟨us, v, rfl, pr, sv⟩ := p1.r.split
    obtain ⟨dl, ds2, F2, fp2, e2, r2, g2, i2⟩ := takes_ok pr .refl p1.rep p1.qT k1
    obtain ⟨w1, h1, e2⟩ := wdAt_inv e2
    obtain ⟨w2, h2, e2⟩ := wdAt_inv e2
    obtain ⟨jv1, _, _⟩ := r2.slot j1 _ h1
    obtain ⟨jv2, _, _⟩ := r2.slot j2 _ h2
    rw [jv] at jv1
    rw [sv] at jv2
    have ev1 : w0.val = w1.val := Option.some.inj (Option.some.inj jv1)
    have ev2 : v = w2.val := Option.some.inj (Option.some.inj jv2)
    rw [List.append_nil, ev1, ev2]
    exact callW2_core (Q := fun h w1' w2' => Q h ((ds2.set j1 (.wd w1')).set j2 (.wd w2'))) r2 h1 h2 ne i2 (by simpa using l1) e2 fun h w1' w2' v H' F' q fp' qh p => k _ _ _ _ _ _ _ qh (p.pre (p1.g.trans g2) p1.t)
theorem do_callW2 (F : FnOk X.prog X.w X.K X.mg X.base CX0 k f fd ps (spW2 X.K n g)) (hr : Room k X.A) (hg : Gl X x) (hm : X.mg x = some (.ref f)) (hk : PySem.W.keepIn X.K (.ref f) = true) (hb : Binds X.K fd ps [])
    (ha : DA X es ta t) (hn : es.length = n + 1 := by rfl) (hN : X.N[j1]? = some y := by rfl) (hv : Vis X.env.scope y := by first | exact Or.inl rfl | exact Or.inr (Or.inl rfl) | exact Or.inr (Or.inr rfl)) (hd : (y == ("__debug__" : Str)) = false := by decide)
    (hcd : (y == ("__classdict__" : Str)) = false := by decide)
    (hdb : (x == ("__debug__" : Str)) = false := by decide) (he : starEach (.Name y py :: es) X.env = (false, eval (.Name y py) X.env) :: starEach es X.env := by rfl) (hpl : (backTo pos (starEach es X.env)).any (·.1) = false := by rfl) :
    DO X (.Call (.Name x p) (.Name y py :: es) [] pos) (tCall (frm (spW2 X.K n g)) [] E0 (tCons (tVar j1) ta)) (dCallL2 j1 g t) :=
  ⟨pe_call (frame_fn F) hr hg hm hk hb .nil pass0 (pa_cons (pe_var hN hv hd hcd) ha.pa he) hdb he hpl, eok_callW2 (hn ▸ ha.ok)⟩
end
/-! ### such a def -/
@[simp] def enW2 (m : Nat) (w1 w2 : Wd) (P : SD → Wd → Wd → Prop) : En := ⟨fun ds => wdAt ds 0 fun w1' => wdAt ds m fun w2' => w1'.val = w1.val ∧ w2'.val = w2.val ∧ P (.val .none) w1' w2', fun h ds => wdAt ds 0 fun w1' => wdAt ds m fun w2' => w1'.val = w1.val ∧ w2'.val = w2.val ∧ retD h ds fun r => P r w1' w2', fun _ => False, fun _ => False⟩
@[simp] def slotsW2 (n : Nat) (w1 w2 : Wd) (dl : List D) : DS := .wd w1 :: (dl.map .val ++ .wd w2 :: List.replicate (n - (dl.length + 2)) .no)
section
variable {P : Program} {w : World} {K : PySem.W.Frag} {mg : Str → Option Value} {base : Heap}
open Classical in
theorem isA_repW2 {F : Ad} {H : Hp} (sa : seqAll F H) {vs : List V} {dl : List D} {w1 w2 : Wd} (h : IsA K (res F H) vs dl) (ho : (pairW w1 w2).ok (res F H) H) (hf : ∀ a, (pairW w1 w2).fp a → ¬ F a) (m : Nat) :
    Rep K F Ad.nil (some w1.val :: (vs.map some ++ some w2.val :: List.replicate m none)) H (.wd w1 :: (dl.map .val ++ .wd w2 :: List.replicate m .no)) (fun i => if i = 0 then w1.fp else if i = dl.length + 1 then w2.fp else Ad.nil) := by
  obtain ⟨o1, o2, od⟩ := ho
  have cs : ∀ i a, (if i = 0 then w1.fp else if i = dl.length + 1 then w2.fp else Ad.nil) a → (i = 0 ∧ w1.fp a) ∨ (i = dl.length + 1 ∧ w2.fp a) := fun i a z => by
    by_cases h0 : i = 0
    · rw [if_pos h0] at z; exact .inl ⟨h0, z⟩
    · rw [if_neg h0] at z
      by_cases h1 : i = dl.length + 1
      · rw [if_pos h1] at z; exact .inr ⟨h1, z⟩
      · rw [if_neg h1] at z; exact z.elim
  refine ⟨by simp [h.length], fun i s e => ?_, fun i a z => ?_, fun i a z => ?_, fun _ _ _ z => z.elim, fun i j a z z' => ?_, fun _ z => z.elim, sa, fun _ z => z.elim⟩
  · cases i with
    | zero =>
      cases e
      rw [if_pos rfl]
      exact ⟨rfl, fun _ => Iff.rfl, o1⟩
    | succ i =>
      rw [if_neg (Nat.succ_ne_zero i)]
      rw [List.getElem?_cons_succ] at e ⊢
      by_cases hi : i < dl.length
      · rw [if_neg (by omega)]
        rw [List.getElem?_append_left (by simpa using hi), List.getElem?_map, List.getElem?_eq_getElem hi] at e
        cases e
        obtain ⟨v, hv, iv⟩ := h.get (List.getElem?_eq_getElem hi)
        refine ⟨⟨v, ?_, iv⟩, fun _ z => z⟩
        rw [List.getElem?_append_left (by rw [List.length_map, h.length]; exact hi), List.getElem?_map, hv]
        rfl
      · rw [List.getElem?_append_right (by simpa using hi)] at e
        rw [List.length_map] at e
        by_cases he : i = dl.length
        · subst he
          rw [if_pos rfl]
          simp at e
          subst e
          rw [List.getElem?_append_right (by simp [h.length])]
          simp [h.length]
          exact ⟨rfl, fun _ => Iff.rfl, o2⟩
        · rw [if_neg (by omega)]
          obtain ⟨k, hk⟩ : ∃ k, i - dl.length = k + 1 := ⟨i - dl.length - 1, by omega⟩
          rw [hk, List.getElem?_cons_succ, List.getElem?_replicate] at e
          split at e
          · cases e; exact fun _ z => z
          · cases e
  · rcases cs i a z with ⟨rfl, _⟩ | ⟨rfl, _⟩
    · simp
    · simp
  · rcases cs i a z with ⟨_, z⟩ | ⟨_, z⟩
    · exact hf a (.inl z)
    · exact hf a (.inr z)
  · rcases cs i a z with ⟨e1, z⟩ | ⟨e1, z⟩ <;> rcases cs j a z' with ⟨e2, z'⟩ | ⟨e2, z'⟩
    · rw [e1, e2]
    · exact absurd z' (od a z)
    · exact absurd z (od a z')
    · rw [e1, e2]
theorem dfunW2 {x qual : Str} {st : Stmt} {f : Addr} {fd : FuncData} {N ps : List Str} {k n : Nat} {g : DFW2} {tb : DM} (F : Fun K x qual st f fd) (S : FnScope N ps (defScope st)) (hps : ps.length = n + 2)
    (hd : ∀ (cdv : Value) (A : Around) (outer : List Env) (s : Shared) (H : Hp) (E : XK), Room k (A.deeper (envOfC qual (defScope st) s.heap.objs.size f cdv)) → ∃ ts, DSs (cxOf CX0 P w K mg base N qual (defScope st) f cdv A outer s H E).nox (defBody st) ts tb)
    (hr : ∀ w1 w2 dl Q, dl.length = n → g w1 w2 dl Q → tb (enW2 (n + 1) w1 w2 Q) (slotsW2 N.length w1 w2 dl)) : FnOk P w K mg base CX0 (k + 1) f fd ps (spW2 K n g) := by
  refine F.ok S (fun vs H Q E h => by rw [hps]; exact h.1) (fun cdv A outer s H vs Q E hroom h => ?_)
  obtain ⟨hn, F0, w1, w2, us, dl, rfl, ia, sa, wo, wF, W, hg, hk⟩ := h
  obtain ⟨ts, b⟩ := hd cdv A outer s H E hroom
  refine ⟨ts, b.ps, ?_⟩
  have hl : dl.length = n := by rw [← ia.length]; simpa using hn
  have r := isA_repW2 sa ia wo wF (N.length - (us.length + 2))
  have e1 : (.wd w1 :: (dl.map .val ++ .wd w2 :: List.replicate (N.length - (us.length + 2)) .no) : DS) = slotsW2 N.length w1 w2 dl := by unfold slotsW2; rw [ia.length]
  have e2 : (some w1.val :: (us.map some ++ some w2.val :: List.replicate (N.length - (us.length + 2)) none) : Sl) = start N (w1.val :: (us ++ [w2.val])) := by
    simp [L2.start]
  rw [e1, e2] at r
  refine b.ok F0 _ H _ _ _ _ r (hr w1 w2 dl W hl hg) ⟨fun σ' H' ds' F' fp' e r' g' => ?_, fun h ds' v σ' H' F' fp' q e p => ?_, fun _ _ _ _ _ e => e.elim, fun _ _ _ _ _ e => e.elim⟩
  · obtain ⟨w1', h0, e⟩ := wdAt_inv e
    obtain ⟨w2', h1, ev1, ev2, e⟩ := wdAt_inv e
    obtain ⟨_, jf, jo⟩ := r'.slot 0 _ h0
    obtain ⟨_, jf2, jo2⟩ := r'.slot (n + 1) _ h1
    exact hk _ _ _ e H' .non F' Ad.nil g' r'.fd (fun _ z => z.elim) ev1 ev2 ⟨jo, jo2, fun a z z2 => by have := r'.sep 0 (n + 1) a ((jf a).mpr z) ((jf2 a).mpr z2); omega⟩ (fun a z => z.elim (fun z => r'.fF 0 a ((jf a).mpr z)) fun z => r'.fF (n + 1) a ((jf2 a).mpr z)) ⟨⟨_, rfl, .non⟩, fun _ z => z⟩
  · obtain ⟨w1', h0, e⟩ := wdAt_inv e
    obtain ⟨w2', h1, ev1, ev2, e⟩ := wdAt_inv e
    obtain ⟨_, jf, jo⟩ := p.rep.slot 0 _ h0
    obtain ⟨_, jf2, jo2⟩ := p.rep.slot (n + 1) _ h1
    have ok : (pairW w1' w2').ok (res F' H') H' := ⟨jo, jo2, fun a z z2 => by have := p.rep.sep 0 (n + 1) a ((jf a).mpr z) ((jf2 a).mpr z2); omega⟩
    have jF : ∀ a, (pairW w1' w2').fp a → ¬ F' a := fun a z => z.elim (fun z => p.rep.fF 0 a ((jf a).mpr z)) fun z => p.rep.fF (n + 1) a ((jf2 a).mpr z)
    have inF : ∀ a, (pairW w1' w2').fp a → ∃ i, (i = 0 ∨ i = n + 1) ∧ fp' i a := fun a z => z.elim (fun z => ⟨0, .inl rfl, (jf a).mpr z⟩) fun z => ⟨n + 1, .inr rfl, (jf2 a).mpr z⟩
    cases h with
    | tmp d => exact hk _ _ _ e H' v F' Ad.nil p.g p.rep.fd (fun _ z => z.elim) ev1 ev2 ok jF ⟨⟨_, rfl, p.r⟩, fun _ z => z⟩
    | new s => exact hk _ _ _ e H' v F' q p.g p.rep.fd (fun a z => ⟨p.rep.tF a (.inr z), fun y => by obtain ⟨i, _, y⟩ := inF a y; exact p.rep.fT i a y (.inr z), p.rep.td a (.inr z)⟩) ev1 ev2 ok jF p.r
    | fld _ _ _ => exact False.elim e
    | slot i =>
      have hv : σ'[i]? = some (some v) := p.r
      cases hs : ds'[i]? with
      | none => simp [retD, hs] at e
      | some s =>
        have z := p.rep.slot i s hs
        cases s with
        | val d =>
          simp [retD, hs] at e
          obtain ⟨⟨v', e1, i1⟩, _⟩ := z
          rw [hv] at e1; cases e1
          exact hk _ _ _ e H' v F' Ad.nil p.g p.rep.fd (fun _ z => z.elim) ev1 ev2 ok jF ⟨⟨_, rfl, i1⟩, fun _ z => z⟩
        | own xs =>
          simp [retD, hs] at e
          rw [hv] at z
          have hi : i ≠ 0 := fun z0 => by subst z0; rw [h0] at hs; cases hs
          have hi2 : i ≠ n + 1 := fun z0 => by subst z0; rw [h1] at hs; cases hs
          exact hk _ _ _ e H' v F' (fp' i) p.g p.rep.fd (fun a z => ⟨p.rep.fF i a z, fun y => by
            obtain ⟨i', ei, y⟩ := inF a y
            have := p.rep.sep i i' a z y
            rcases ei with rfl | rfl
            · exact hi this
            · exact hi2 this, p.rep.fdom z⟩) ev1 ev2 ok jF z
        | no => simp [retD, hs] at e
        | dic _ => simp [retD, hs] at e
        | wd _ => simp [retD, hs] at e
        | ob _ => simp [retD, hs] at e
end
end DL

/-! DL: a room: a list of one int that a called def changes. -/
namespace DL
open PySem PySem.Spec PyProof.Rows L2
def roomB (q : Addr) (i : Int) : Wd where
  val := .ref q
  fp := fun a => a = q
  ok := fun _ H => H q = some (.lst [.int i])
  mono := fun _ k h => by rw [k _ rfl]; exact h
  dom := fun h f => by cases f; exact ⟨_, h, trivial⟩
/-- [e], e an int: a room -/
@[simp] def dRoomN (t : DT) : DT := fun ds Q => t ds fun h ds1 => pk ds1 h fun d => ∃ i : Int, d = .int i ∧ ∀ q, Q (.new (.wd (roomB q i))) ds1
/-- room[0] -/
@[simp] def dRoomIx (j : Nat) : DT := fun ds Q => wdAt ds j fun w => ∃ q i, w = roomB q i ∧ Q (.tmp (.int i)) ds
/-- room[0] = e -/
@[simp] def mRoom (j : Nat) (t : DT) : DM := fun E ds => t ds fun h ds1 => pk ds1 h fun d => ∃ i : Int, d = .int i ∧ wdAt ds1 j fun w => ∃ q i0, w = roomB q i0 ∧ E.nx (ds1.set j (.wd (roomB q i)))
section
variable {X : Cx} {K : PySem.W.Frag} {e e0 : Expr} {te : TE} {t : DT} {pos p2 : Pos} {j : Nat} {y : Str} {tg : Expr}
theorem do_room (a : DO X e te t) (hs : starEach [e] X.env = (false, eval e X.env) :: starEach [] X.env := by rfl) : DO X (.List [e] pos) (tLst (tCons te tNil)) (dRoomN t) :=
  ⟨pe_lst (pa_cons a.pe pa_nil hs), fun F T σ H ds fp Q R rp h k => by
    refine a.ok F T σ H ds fp _ _ rp h fun h1 ds1 v1 H1 F1 fp1 q1 k1 p1 => ?_
    obtain ⟨d, i, z, rfl, k2⟩ := pk_ok p1.rep p1.r k1
    rw [i.int]
    refine ⟨by show 1 ≤ sizeLine; decide, fun p hp => ?_⟩
    have r0 : Rep X.K F1 T σ H1 ds1 fp1 := p1.rep.less fun a z => .inl z
    obtain ⟨r1, g1, t1⟩ := r0.newT (o := .lst [.int z]) hp trivial
    obtain ⟨nF, nT, nfp⟩ := r0.new_ne hp
    exact k _ _ _ _ _ _ (fun a => a = p) (k2 p) ⟨r1, fun a e => by cases e; exact nT, p1.g.trans g1, fun a z => by rw [t1 a z, p1.t a z], ⟨rfl, fun _ => Iff.rfl, upd_same⟩⟩⟩
theorem do_roomIx (hp : PE X e0 (tOp (rIxL X.K) (tVar j) (tC (.int 0)))) : DO X e0 (tOp (rIxL X.K) (tVar j) (tC (.int 0))) (dRoomIx j) :=
  ⟨hp, fun F T σ H ds fp Q R rp h k => by
    obtain ⟨w, hw, q, i, rfl, h2⟩ := wdAt_inv h
    obtain ⟨jv, _, hi⟩ := rp.slot j _ hw
    exact ⟨_, jv, q, _, 0, _, rfl, rfl, .of hi, atI_nat (j := 0) rfl, k _ _ _ _ _ _ _ h2 (.here rp (.int i))⟩⟩
theorem ds_room (a : DO X e te t) (hg : PG X tg (gSub (tVar j) (tC (.int 0)) rSetL)) (hs : swapsWithSole [tg] e pos.line X.env = pure false := by rfl) (hw : swappedStores [tg] e X.env = pure none := by rfl)
    (h1 : (assignEach [tg] X.env).map (·.2) = [assign tg X.env] := by rfl) : DSt X (.Assign [tg] e pos) (tAsg te (gSub (tVar j) (tC (.int 0)) rSetL)) (mRoom j t) :=
  ⟨ps_asg a.pe hg hs hw h1, fun F σ H ds fp E D r h k => by
    refine a.ok F _ σ H ds fp _ _ r h fun h1 ds1 v1 H1 F1 fp1 q1 k1 p1 => ?_
    obtain ⟨d, i, z, rfl, k2⟩ := pk_ok p1.rep p1.r k1
    rw [i.int]
    obtain ⟨w, hw, q, i0, rfl, k3⟩ := wdAt_inv k2
    have r0 : Rep X.K F1 Ad.nil σ H1 ds1 fp1 := p1.rep.less fun a z => z.elim
    obtain ⟨jv, jf, hi⟩ := r0.slot j _ hw
    have fq : fp1 j q := (jf q).mpr rfl
    have hj : j < ds1.length := (List.getElem?_eq_some_iff.mp hw).1
    refine ⟨_, jv, q, _, 0, 0, rfl, rfl, hi, rfl, ?_⟩
    have up : ∀ a, a ≠ q → (upd H1 q (.lst ([V.int i0].set 0 (V.int z)))) a = H1 a := fun a ne => upd_ne ne
    have gr : Grow F1 H1 F1 (upd H1 q (.lst ([V.int i0].set 0 (V.int z)))) := fun a f => ⟨f, up a fun e => by subst e; exact r0.fF j _ fq f⟩
    refine k.nx _ _ _ F1 fp1 k3 ⟨by rw [List.length_set]; exact r0.len, fun i s e => ?_, fun i a z => by rw [List.length_set]; exact r0.out i a z, r0.fF, r0.fT, r0.sep, r0.tF, fun a f => by rw [(gr a f).2]; exact r0.fd a f, fun a z => z.elim⟩ (p1.g.trans gr)
    by_cases hij : i = j
    · subst hij
      rw [List.getElem?_set_self hj] at e; cases e
      exact ⟨jv, jf, upd_same⟩
    · rw [List.getElem?_set_ne (Ne.symm hij)] at e
      exact (r0.slot i s e).mono gr.same fun a z => up a fun e => by subst e; exact hij (r0.sep i j _ z fq)⟩
end
end DL

/-! DL: [f, g][e](..): one of two defs, by its place. -/
namespace DL
open PySem PySem.Spec PyProof.Rows L2
section
variable {P : Program} {w : World} {K : PySem.W.Frag} {mg : Str → Option Value} {base : Heap} {k : Nat} {f : Addr} {fd : FuncData} {ps : List Str} {n : Nat}
theorem fnOk_noneW2 {g : DFW2} (hps : ps.length = n + 2) (hz : ∀ w1 w2 dl Q, ¬ g w1 w2 dl Q) : FnOk P w K mg base CX0 k f fd ps (spW2 K n g) :=
  ⟨fun vs H Q E h => by rw [hps]; exact h.1, fun _ _ _ _ _ _ _ _ _ _ _ _ _ ⟨_, _, w1, w2, _, dl, _, _, _, _, _, W, h, _⟩ => (hz w1 w2 dl W h).elim⟩
end
def tCallP (tf : TE) (f1 f2 : Addr) (sp1 sp2 : Sp) (t : TA) : TE := fun σ H Q => tf σ H fun v H1 => (v = .ref f1 ∧ t σ H1 fun vs H2 => sp1 vs H2 Q E0) ∨ (v = .ref f2 ∧ t σ H1 fun vs H2 => sp2 vs H2 Q E0)
@[simp] def dPick (u : DT) (g1 g2 : DF) (t : DTA) : DT := fun ds Q => u ds fun h ds1 => pk ds1 h fun d => match d with
  | .int i => (i = 0 ∧ dCall g1 t ds1 Q) ∨ (i = 1 ∧ dCall g2 t ds1 Q)
  | _ => False
section
variable {X : Cx} {e o i : Expr} {es : List Expr} {tf ti : TE} {ta : TA} {u : DT} {ut : DTA} {j k1 k2 n : Nat} {f1 f2 : Addr} {fd1 fd2 : FuncData} {ps1 ps2 : List Str} {sp1 sp2 : Sp} {g1 g2 : DF} {pos pi pl q1 q2 : Pos} {x1 x2 : Str}
theorem pe_pick (c1 : C8.CalAt X.prog X.w X.K X.mg X.base k1 f1 sp1) (c2 : C8.CalAt X.prog X.w X.K X.mg X.base k2 f2 sp2) (hr : Room j X.A) (hk1 : k1 ≤ j) (hk2 : k2 ≤ j) (hf : PE X (.Subscript o i pi) tf) (ha : PA X (e :: es) ta)
    (he : starEach (e :: es) X.env = (false, eval e X.env) :: starEach es X.env := by rfl) (hpl : (backTo pos (starEach es X.env)).any (·.1) = false := by rfl) : PE X (.Call (.Subscript o i pi) (e :: es) [] pos) (tCallP tf f1 f2 sp1 sp2 ta) := by
  refine ⟨fun pins s σ H Q I h => ?_⟩
  show wpAny _ _ (do callWith pos (← eval (.Subscript o i pi) X.env) [] (backTo pos (starEach (e :: es) X.env)) (backToKw pos (keywordEach [] X.env))) _ _ _
  refine wpAny_bind (thn (hf.run pins s σ H _ I h) fun u s1 ⟨v, H1, I1, r1, w⟩ => ?_)
  have go : ∀ {k : Nat} {f : Addr} {sp : Sp}, C8.CalAt X.prog X.w X.K X.mg X.base k f sp → k ≤ j → v = .ref f → (ta σ H1 fun vs H2 => sp vs H2 Q E0) → wpAny (model X.prog X.w) X.A (callWith pos u [] (backTo pos (starEach (e :: es) X.env)) (backToKw pos (keywordEach [] X.env))) (EP X pins σ Q) X.xe s1 := fun {k f sp} c hk hv ht => by
    obtain ⟨fd, ps, F, kp, b⟩ := c.ex
    subst hv
    cases r1
    exact PySem.W.callWith_K (h₀ := X.base) I.ok.mod.kin kp (thn (ha.run pos pins s1 σ _ _ I1 ht) fun us s2 ⟨vs, H2, I2, r, q⟩ => ⟨I2.kIn, run_fn F (hr.mono hk) b .nil pass0 I2 r (by rw [List.append_nil]; exact q)⟩) he hpl
  rcases w with ⟨hv, ht⟩ | ⟨hv, ht⟩
  · exact go c1 hk1 hv ht
  · exact go c2 hk2 hv ht
theorem do_pick (F1 : FnOk X.prog X.w X.K X.mg X.base CX0 k1 f1 fd1 ps1 (spP X.K n g1)) (F2 : FnOk X.prog X.w X.K X.mg X.base CX0 k2 f2 fd2 ps2 (spP X.K n g2)) (hr : Room j X.A) (hk1 : k1 ≤ j) (hk2 : k2 ≤ j)
    (kp1 : PySem.W.keepIn X.K (.ref f1) = true) (kp2 : PySem.W.keepIn X.K (.ref f2) = true) (b1 : Binds X.K fd1 ps1 []) (b2 : Binds X.K fd2 ps2 [])
    (hg1 : Gl X x1) (hm1 : X.mg x1 = some (.ref f1)) (hg2 : Gl X x2) (hm2 : X.mg x2 = some (.ref f2)) (hi : DO X i ti u) (hs : PlainIx i) (ha : DA X (e :: es) ta ut) (hn : (e :: es).length = n := by rfl) (hd1 : (x1 == ("__debug__" : Str)) = false := by decide) (hd2 : (x2 == ("__debug__" : Str)) = false := by decide)
    (he : starEach (e :: es) X.env = (false, eval e X.env) :: starEach es X.env := by rfl) (hpl : (backTo pos (starEach es X.env)).any (·.1) = false := by rfl) :
    DO X (.Call (.Subscript (.List [.Name x1 q1, .Name x2 q2] pl) i pi) (e :: es) [] pos) (tCallP (tOp (rIxL X.K) (tLst (tCons (tC (.ref f1)) (tCons (tC (.ref f2)) tNil))) ti) f1 f2 (frm (spP X.K n g1)) (frm (spP X.K n g2)) ta) (dPick u g1 g2 ut) :=
  ⟨pe_pick ⟨fd1, ps1, frame_fn F1, kp1, b1⟩ ⟨fd2, ps2, frame_fn F2, kp2, b2⟩ hr hk1 hk2 (pe_ix ix_list (pe_lst (pa_cons (pe_glob hg1 hm1 rfl hd1) (pa_cons (pe_glob hg2 hm2 rfl hd2) pa_nil))) hi.pe hs) ha.pa he hpl, fun F T σ H ds fp Q R r h k => by
    show 2 ≤ sizeLine ∧ ∀ p, H p = none → _
    refine ⟨by decide, fun p hp => ?_⟩
    obtain ⟨r1, gg, t1⟩ := r.newT (o := .lst [.ref f1, .ref f2]) hp trivial
    refine hi.ok F _ σ _ ds fp _ _ r1 h fun h1 ds1 v H1 F1' fp1 q1' k1' p1 => ?_
    obtain ⟨d, iv, k2'⟩ := pk_ok p1.rep p1.r k1'
    have hp1 : H1 p = some (.lst [.ref f1, .ref f2]) := by rw [p1.t p (.inr rfl)]; exact upd_same
    have rr : Rep X.K F1' T σ H1 ds1 fp1 := p1.rep.less fun a z => .inl (.inl z)
    cases d <;> first | exact False.elim k2' | skip
    rw [iv.int]
    have kk : ∀ h ds' v H' F' fp' q, Q h ds' → Pst X.K F1' T H1 σ v h ds' F' H' fp' q → R v H' := fun h ds' v H' F' fp' q qh pp => k _ _ _ _ _ _ _ qh (pp.pre (gg.trans p1.g) fun a z => by rw [p1.t a (.inl z), t1 a z])
    rcases k2' with ⟨rfl, k3⟩ | ⟨rfl, k3⟩
    · refine ⟨p, _, 0, .ref f1, rfl, rfl, .of hp1, atI_nat (j := 0) rfl, .inl ⟨rfl, ?_⟩⟩
      have := eok_call (hn ▸ ha.ok) F1' T σ H1 ds1 fp1 Q R rr k3 kk
      simp only [tCall, List.append_nil] at this
      exact this
    · refine ⟨p, _, 1, .ref f2, rfl, rfl, .of hp1, atI_nat (j := 1) rfl, .inr ⟨rfl, ?_⟩⟩
      have := eok_call (hn ▸ ha.ok) F1' T σ H1 ds1 fp1 Q R rr k3 kk
      simp only [tCall, List.append_nil] at this
      exact this⟩
end
end DL

/-! EX: kinds and inputs that are right. -/
namespace EX
open PySem PySem.Spec PyProof.Rows L2 BK
open DL hiding g_is_between tb_is_between rd_is_between
def KndOk : Knd → Prop
  | .truth => True
  | .int lo hi => -1000000 ≤ lo ∧ lo ≤ hi ∧ hi ≤ 1000000
  | .pick ws => (1 ≤ ws.length ∧ ws.length ≤ 6) ∧ (∀ w ∈ ws, wordB (.str w) = true) ∧ ws.Nodup
theorem dedup_nodup : ∀ (zs acc : List Str), (acc ++ zs).Nodup → zs.foldl step_dedup acc = acc ++ zs
  | [], acc, _ => by simp
  | z :: zs, acc, h => by
    have hz : z ∉ acc := fun hz => (List.nodup_append.mp h).2.2 z hz z (by simp) rfl
    have e : step_dedup acc z = acc ++ [z] := by
      unfold step_dedup
      have : ¬ (acc.any fun x => x == z) = true := by
        rw [List.any_eq_true]
        rintro ⟨x, hx, e⟩
        rw [beq_iff_eq] at e
        exact hz (e ▸ hx)
      rw [if_neg this]
    rw [List.foldl_cons, e, dedup_nodup zs (acc ++ [z]) (by simpa using h)]
    simp
theorem unlike_nodup {zs : List Str} (h : zs.Nodup) : unlikeB (zs.map .str) = true := by
  unfold unlikeB uniqN
  rw [strsOf_map, dedup_nodup zs [] (by simpa using h)]
  simp
theorem kind_ok {k : Knd} (h : KndOk k) : kindB k.d = true ∧ fitK k.d ∧ k.fit := by
  cases k with
  | truth => exact ⟨by decide +kernel, fun w hw => by simp [Knd.d, BK.wordsOf] at hw, by simp [Knd.fit, Knd.wid, Knd.lo, Knd.hi]⟩
  | int lo hi =>
    obtain ⟨h1, h2, h3⟩ := h
    refine ⟨?_, fun w hw => by simp [Knd.d, BK.wordsOf] at hw, ?_⟩
    · have : headB "int" 3 (Knd.int lo hi).d = true := by simp [headB, Knd.d]
      unfold kindB
      rw [if_pos this]
      simp [intB3, betw, Knd.d]
      omega
    · simp only [Knd.fit, Knd.wid, Knd.lo, Knd.hi]; omega
  | pick ws =>
    obtain ⟨⟨h1, h2⟩, h3, h4⟩ := h
    refine ⟨?_, fun w hw => ?_, ?_⟩
    · have n1 : ¬ headB "int" 3 (Knd.pick ws).d = true := by simp [headB, Knd.d]
      have n2 : (headB "pick" 2 (Knd.pick ws).d && pickB (Knd.pick ws).d) = true := by simp [headB, Knd.d, pickB, h1, h2]
      unfold kindB
      rw [if_neg n1, if_pos n2]
      simp only [Knd.d, BK.wordsOf, Bool.and_eq_true]
      refine ⟨List.all_eq_true.mpr fun x hx => ?_, unlike_nodup h4⟩
      obtain ⟨w, hw, rfl⟩ := List.mem_map.mp hx
      exact h3 w hw
    · simp only [Knd.d, BK.wordsOf] at hw
      obtain ⟨z, hz, rfl⟩ := List.mem_map.mp hw
      exact word_fit (h3 z hz)
    · simp only [Knd.fit, Knd.wid, Knd.lo, Knd.hi]; omega
structure InsR (ins : Ins) : Prop where
  l : 1 ≤ ins.length ∧ ins.length ≤ 6
  n : (ins.map (·.1)).Nodup
  w : ∀ p ∈ ins, wordB (.str p.1) = true ∧ KndOk p.2
theorem InsR.ok {ins : Ins} (h : InsR ins) : InOk ins ∧ okIns ins := by
  have a : fitI (insD ins) := fun x hx => by
    obtain ⟨p, hp, rfl⟩ := List.mem_map.mp hx
    exact ⟨word_fit (h.w p hp).1, (kind_ok (h.w p hp).2).2.1⟩
  have b : inputsB (insD ins) = true := by
    simp only [insD, inputsB, List.length_map, Bool.and_eq_true, decide_eq_true_eq]
    refine ⟨h.l, List.all_eq_true.mpr fun x hx => ?_, ?_⟩
    · obtain ⟨p, hp, rfl⟩ := List.mem_map.mp hx
      simp only [oneB, (h.w p hp).1, (kind_ok (h.w p hp).2).1]
      rfl
    · have e : (ins.map fun p => PyData.tuple [.str p.1, p.2.d]).map nameOf = (ins.map (·.1)).map .str := by simp [nameOf, Function.comp_def]
      rw [e]
      exact unlike_nodup h.n
  exact ⟨⟨a, b⟩, a, b, h.l.2, fun p hp => (kind_ok (h.w p hp).2).2.2⟩
end EX

/-! SUP: an own exception over ValueError (own classes between them may stand) whose __init__ says super().__init__(a text), then keeps its one argument under that argument's name. -/
namespace SUP
open PySem PySem.W PySem.Calls PyProof.Rows PySem.HandSPX
/-- a field's name that is none of the words that stand in such a def -/
structure FNm (f : Str) : Prop where
  s : (f == ("self" : Str)) = false
  c : (f == ("__class__" : Str)) = false
  u : (f == ("super" : Str)) = false
  d : (f == ("__debug__" : Str)) = false
def aI (f : Str) (p1 p2 : Pos) : Arguments := ⟨[], [⟨"self", none, p1⟩, ⟨f, none, p2⟩], none, [], [], none, []⟩
def bI (f m : Str) (j : Nat) (q1 q2 q3 q4 q5 q6 q7 q8 q9 q10 : Pos) : List Stmt :=
  [.Expr (.Call (.Attribute (.Call (.Name "super" q1) [] [] q2) "__init__" q3) [.Constant (.str m) j q4] [] q5) q6, .Assign [.Attribute (.Name "self" q7) f q8] (.Name f q9) q10]
def sI (f : Str) : Scope := ⟨.function, [("self", .local), (f, .local), ("__class__", .free), ("super", .globalImplicit)], false, false, []⟩
/-- what the written part says of the class at C, of its __init__ at fI, of the cell of its name at cc -/
structure Txt (P : Program) (K : Frag) (mg : Str → Option Value) (x f : Str) (C fI : Addr) : Prop where
  gC : mg x = some (.ref C)
  cls : ∃ nm q N bs bm sn sub ab col dd k0 k1 k2 k3 k5, K.lookup C = some (excClassObj nm q C N bs bm true sn sub ab col dd k0 k1 k2 k3 k5 "ValueError.__new__") ∧ refsVE bm = true
  sa : findIn K (.ref C) "__setattr__" = some (some (.builtin "object.__setattr__"))
  no : findIn K (.ref C) f = some none
  iC : findIn K (.ref C) "__init__" = some (some (.ref fI))
  tC : typeIn K (.ref fI) = some (.type "function")
  kC : keepIn K (.ref C) = true
  exC : subIn K (.ref C) (.type "BaseException") = some true
  veC : subIn K (.ref C) (.type "ValueError") = some true
  tyC : typeIn K (.ref C) = some (.type "type")
  me : mroIn K C (.ref C) = some true
  su : ks_superIn K C C "__init__" = some (some (.builtin "ValueError.__init__"))
  op : nsIn K cStatics "thirdparty.any" = some none
  gS : mg "super" = none
  top : (P.main.scope.names.lookup ("super" : Str)).isSome = false
  fn : ∃ (oc : Value) (od : Option Addr) (doc pm : Value) (an : Option Addr) (cda cc : Addr) (ct : Value) (osl : Array (Option Value)) (m qual : Str) (j : Nat) (p1 p2 q1 q2 q3 q4 q5 q6 q7 q8 q9 q10 : Pos) (ccl cl : Value) (cdd cld : Option Addr) (ccs csl : Array (Option Value)) (vs : Array Value) (file : Str) (tf : Tok) (pl : Sem Bool),
    K.lookup fI = some ⟨oc, od, .func (ksFn "__init__" qual (aI f p1 p2) (bI f m j q1 q2 q3 q4 q5 q6 q7 q8 q9 q10) (sI f) .none .none doc pm an (.ref cda) ct cc), osl⟩ ∧ codeIn K (.ref cda) qual = true ∧
    K.lookup cda = some ⟨ccl, cdd, .fields vs, ccs⟩ ∧ vs[2]? = some (.str file tf) ∧ ((P.main.file : Str) == file) = true ∧ K.lookup cc = some ⟨cl, cld, .cell (some (.ref C)), csl⟩ ∧
    (∀ u v : Value, bindArgs (ksFn "__init__" qual (aI f p1 p2) (bI f m j q1 q2 q3 q4 q5 q6 q7 q8 q9 q10) (sI f) .none .none doc pm an (.ref cda) ct cc) ⟨[u, v], []⟩ = pure [((("self" : Str)), u), (f, v)]) ∧
    (∀ env : Env, eval (.Call (.Attribute (.Call (.Name "super" q1) [] [] q2) "__init__" q3) [.Constant (.str m) j q4] [] q5) env = (do
      let ov ← attributeBase (.Call (.Name "super" q1) [] [] q2) "__init__" env (eval (.Call (.Name "super" q1) [] [] q2) env)
      standAt q3.atName
      let (f, first) ← holding [ov] (getMethod ov "__init__" pl)
      callWith q5 f first (backTo q5 (starEach [.Constant (.str m) j q4] env)) []))
theorem line1 (v : Value) : [v].length ≤ sizeLine := by
  rw [sizeLine_eq]
  exact (by decide : 1 ≤ 16777216)
/-- what __init__ leaves of a fresh exception at x -/
structure Left (f : Str) (h h' : Heap) (x C dx t1 : Addr) (v : Value) : Prop where
  keep : ∀ b o, b ≠ x → h.get? b = some o → h'.get? b = some o
  obj : h'.get? x = some { cls := .ref C, dict := some dx, data := .fields #[.ref t1, .none, .none, .none, .bool false, .none] }
  dbig : h.objs.size ≤ dx
  dne : dx ≠ x
  ns : h'.Ns1 dx (fun y => if y = f then some v else none)
structure Made (f : Str) (h h' : Heap) (e C d : Addr) (v : Value) : Prop where
  keep : ∀ b o, h.get? b = some o → h'.get? b = some o
  new : h.objs.size ≤ e
  obj : ∃ oe vs, h'.get? e = some oe ∧ oe.cls = .ref C ∧ oe.dict = some d ∧ oe.data = .fields vs ∧ vs[1]? = some .none
  dbig : h.objs.size ≤ d
  dne : d ≠ e
  ns : h'.Ns1 d (fun y => if y = f then some v else none)
section
variable {P : Program} {w : World} {A : Around} {E : Value → Shared → Prop} {R : Result → Shared → Prop} {s : Shared} {K : Frag} {mg mb : Str → Option Value} {x f : Str} {C fI : Addr}
/-- the bound __init__ of ValueError, called with a text -/
theorem bound_call {u e t0 : Addr} {rest : List Value} {Q : Value → Shared → Prop} (T : Txt P K mg x f C fI) (X : K.In s.heap) (he : s.heap.get? e = some (excO C t0)) (hu : s.heap.get? u = some (kxs_mw "ValueError.__init__" e)) (hz : rest.length ≤ sizeLine)
    (hq : ∀ h' t1, (∀ b o, b ≠ e → s.heap.get? b = some o → h'.get? b = some o) → h'.get? e = some (excO C t1) → Q .none { s with heap := h' }) : wpAny (model P w) A (call (.ref u) rest) Q E s := by
  obtain ⟨nm, q, N, bs, bm, sn, sub, ab, col, dd, k0, k1, k2, k3, k5, hC, hbm⟩ := T.cls
  have hC' := X _ _ hC
  obtain ⟨hp, g, d, t, os⟩ := s
  refine wpAny_call (codeAny_of_tree ?_)
  show wpAny _ A.in1 (callAny (.ref u) ⟨rest, []⟩) _ _ _
  simp only [callAny]
  refine wpAny_bind (wpAny_load hu ?_)
  simp only [kxs_mw, show (Value.type "method-wrapper" == Value.type "method" || Value.type "method-wrapper" == Value.type "builtin_function_or_method" || Value.type "method-wrapper" == Value.type "method-wrapper") = true by decide, if_true]
  refine KFB.if_so (by decide) ?_
  refine wpAny_bind (check_bound_init F.excBase_ValueError.toExcCallFacts hC' he rfl ?_)
  refine wpAny_bind (wpAny_pure (wpAny_pure ?_))
  refine ⟨plainId_quiet F.excBase_ValueError.init.plain _, codeAny_builtin F.excBase_ValueError.initEntry ?_⟩
  exact exc_init_tree (cls := .ref C) (t0 := t0) (dv := none) (c2 := .none) (c3 := .none) (b4 := .bool false) he hz fun h' k e' t' => hq h' _ k e'
end
end SUP

namespace SUP
open PySem PySem.W PySem.Calls PyProof.Rows PySem.HandSPX
theorem sI_self {f : Str} : (sI f).names.lookup ("self" : Str) = some .local := rfl
theorem sI_f {f : Str} (h : FNm f) : (sI f).names.lookup f = some .local := by
  simp [sI, List.lookup, h.s]
theorem sI_super {f : Str} (h : FNm f) : (sI f).names.lookup ("super" : Str) = some .globalImplicit := by
  have e : (("super" : Str) == f) = false := by rw [BEq.comm]; exact h.u
  have e1 : (("super" : Str) == ("self" : Str)) = false := by decide
  have e2 : (("super" : Str) == ("__class__" : Str)) = false := by decide
  simp [sI, List.lookup, e, e1, e2]
theorem sI_cls {f : Str} (h : FNm f) : (sI f).names.lookup ("__class__" : Str) = some .free := by
  have e : (("__class__" : Str) == f) = false := by rw [BEq.comm]; exact h.c
  have e1 : (("__class__" : Str) == ("self" : Str)) = false := by decide
  simp [sI, List.lookup, e, e1]
section
variable {P : Program} {w : World} {A : Around} {E : Value → Shared → Prop} {R : Result → Shared → Prop} {s : Shared} {K : Frag} {mg mb : Str → Option Value} {x f : Str} {C fI : Addr}
theorem sup_init (T : Txt P K mg x f C fI) (hf : FNm f) {e t0 : Addr} {v : Value} (X : K.In s.heap) (hG : s.heap.Ns mainGlobals mg) (hB : s.heap.Ns builtinsNs mb) (hb : mb "super" = some (.type "super")) (hlim : s.heap.NoLimit) (hx : s.heap.get? e = some (excO C t0)) (hnx : K.lookup e = none) (hroom : A.depth < recursionLimit)
    (hq : ∀ h' tk dx t1, Left f s.heap h' e C dx t1 v → R (.ok (.ret .none)) { s with heap := h', toks := tk }) :
    codeAny (model P w) A (.call (.ref fI) ⟨[.ref e, v], []⟩) R s := by
  obtain ⟨oc, od, doc, pm, an, cda, cc, ct, osl, m, qual, j, p1, p2, q1, q2, q3, q4, q5, q6, q7, q8, q9, q10, ccl, cl, cdd, cld, ccs, csl, vs, file, tf, pl, ho, hcd, hcode, hvs, hfile, hcell, hbind, hev⟩ := T.fn
  obtain ⟨nm, q, N, bs, bm, sn, sub, ab, col, dd, k0, k1, k2, k3, k5, hC, hbm⟩ := T.cls
  have hcl : clsIn K C = some { name := nm, bases := bs, mro := .ref C :: bm, ns := N, qualname := q, hasDict := true, slotNames := sn, subclasses := sub, abstract := ab, collection := col, hasDel := false } := by unfold clsIn; rw [hC] <;> rfl
  refine ks_codeAny_call_defAt (fd := ksFn "__init__" qual (aI f p1 p2) (bI f m j q1 q2 q3 q4 q5 q6 q7 q8 q9 q10) (sI f) .none .none doc pm an (.ref cda) ct cc) (binds := [("self", .ref e), (f, v)]) hroom (X _ _ ho) rfl hlim (codeRec_of X hcd) rfl (BindsTo.of_eq (hbind _ _)) (fun y hy => ?_) (fun y hy => ?_) (fun h₀ hns k => ?_) rfl rfl rfl
  · simp [ksFn, fnX, sI] at hy
    rcases hy with rfl | rfl | rfl | rfl <;> simp
  · simp at hy
    rcases hy with rfl | rfl
    · exact sI_self
    · exact sI_f hf
  have X₀ : K.In h₀ := X.keeps k
  have hx₀ := k _ _ hx
  have lself : (([("self", .ref e), (f, v)] : List (Str × Value)).reverse).lookup ("self" : Str) = some (.ref e) := by
    have e0 : (("self" : Str) == f) = false := by rw [BEq.comm]; exact hf.s
    simp [List.lookup, e0]
  have lf : (([("self", .ref e), (f, v)] : List (Str × Value)).reverse).lookup f = some v := by
    simp [List.lookup]
  show _root_.PySem.wpAt _ _ (.func _ (ksEnv qual (sI f) s.heap.objs.size fI (.ref cda) cc)) (execs _ (ksEnv qual (sI f) s.heap.objs.size fI (.ref cda) cc)) _ _ _
  refine ks_wpAt_execs_cons ?_
  refine ks_wpAt_Expr_any ?_ (by rfl) (by rfl)
  refine ks_wpAt_MethodCall ?_ (hev _)
  refine ks_wpAt_super_base (env := ksEnv qual (sI f) s.heap.objs.size fI (.ref cda) cc) (sI_super hf) (sI_cls hf) (by decide) rfl (X₀ _ _ ho) rfl rfl rfl (X₀ _ _ hcode) rfl hvs hfile T.top ?_
  refine ks_loadName_global rfl (sI_super hf) (loadGlobal_builtin (env := ksEnv qual (sI f) s.heap.objs.size fI (.ref cda) cc) (hG.keeps k) T.gS (hB.keeps k) hb ⟨rfl, ?_⟩)
  refine wpAny_loadName_free rfl (sI_cls hf) rfl ⟨_, X₀ _ _ hcell, rfl⟩ ?_
  refine wpAny_loadName_local rfl sI_self hns lself ?_
  have hD := X₀ _ _ hC
  refine ks_wpAny_isType_cls hD rfl ⟨rfl, ?_⟩
  refine ks_wpAny_call_super hD rfl hx₀ rfl (fun c z => by cases z) (looks_mroIn X₀ T.me) (fun h1 hso k1 => ?_)
  have X₁ : K.In h1 := X₀.keeps k1
  have hx₁ := k1 _ _ hx₀
  have I1 : InstAt h1 e (excO C t0) C none := ⟨hx₁, rfl, rfl, trivial⟩
  have hI : Looks (model P w) h1 (isInstance (.ref e) (.type "ValueError")) true := I1.type.andThen (looks_subIn X₁ T.veC)
  have hm : alongIn K "__init__" (((.ref C :: bm : List Value).dropWhile (· != .ref C)).drop 1) = some (some (.builtin "ValueError.__init__")) := by
    have := T.su
    unfold ks_superIn at this
    rw [hcl] at this
    exact this
  refine kxs_getMethod (d := s.drawn) kxs_ValueError hso (looks_opaque X₁ T.op) (l₀ := .ref C :: bm) (fun A Q E s k q => wpAny_bind ((looks_clsIn X₁ hcl) A _ E s k (wpAny_pure q))) rfl X₁ hm hI (ks_ne X₁ I1 hcl) (by decide) ?_
  have hu : (h1.push (kxs_mw "ValueError.__init__" e)).get? h1.objs.size = some (kxs_mw "ValueError.__init__" e) := Heap.get?_push_at rfl rfl
  have k2 : ∀ b o, h1.get? b = some o → (h1.push (kxs_mw "ValueError.__init__" e)).get? b = some o := fun b o z => Heap.get?_push_of_some _ z
  show wpAny _ _ (callWith q5 (.ref h1.objs.size) [] (backTo q5 (starEach [.Constant (.str m) j q4] (ksEnv qual (sI f) s.heap.objs.size fI (.ref cda) cc))) []) _ _ _
  refine kxs_callWith (i := "ValueError.__init__") (x := e) rfl (evalArgs_plain ?_)
  refine spliced_cons (Constant_str (k := j) (pos := q4) (spliced_nil ⟨hu, ?_⟩))
  refine bound_call T (X₁.keeps k2) (k2 _ _ hx₁) hu (line1 _) fun h3 t3 k3 hx3 => ?_
  have k4 : ∀ b o, b ≠ e → s.heap.get? b = some o → h3.get? b = some o := fun b o hb z => k3 b o hb (k2 b o (k1 b o (k b o z)))
  have X₃ : K.In h3 := fun b o z => k4 b o (fun y => by rw [y, hnx] at z; cases z) (X _ _ z)
  -- self.f = f
  have hL : s.heap.objs.size ≠ e := Nat.ne_of_gt (Heap.lt_size hx)
  have hns3 : h3.Ns s.heap.objs.size (fun y => (([("self", .ref e), (f, v)] : List (Str × Value)).reverse).lookup y) := by
    obtain ⟨oL, es, ep, e1, r⟩ := hns
    exact ⟨oL, es, ep, k3 _ _ hL (k2 _ _ (k1 _ _ e1)), r⟩
  show _root_.PySem.wpAt _ _ _ (execs _ (ksEnv qual (sI f) s.heap.objs.size fI (.ref cda) cc)) _ _ _
  refine wpAt_of_wpAny (wpAny_execs_cons (plainObj_wpAny_Assign_Attribute ?_ (by rfl)))
  refine wpAny_Name (wpAny_loadName_local rfl (sI_f hf) hns3 lf ?_) hf.d
  refine wpAny_Name (wpAny_loadName_local rfl sI_self hns3 lself ?_) (by decide)
  refine set_plain X₃ (ox := excO C t3) (od := none) ⟨hx3, rfl, rfl, trivial⟩ T.sa ?_
  refine exc_osa X₃ hx3 hcl (show refsVE (.ref C :: bm) = true from hbm) rfl T.no (fun h5 t5 dx k5 dn dne hx5 hn5 => ?_)
  show wpAny _ _ (execs _ _) _ _ _
  have z1 : s.heap.objs.size ≤ h3.objs.size := by
    have z : s.heap.objs.size < h3.objs.size := by
      obtain ⟨oL, _, _, e1, _⟩ := hns3
      exact Heap.lt_size e1
    exact Nat.le_of_lt z
  exact wpAny_execs_nil (hq h5 t5 dx t3 ⟨fun b o hb z => k5 b o hb (k4 b o hb z), hx5, Nat.le_trans z1 dn, dne, hn5⟩)
end
end SUP

namespace SUP
open PySem PySem.W PySem.Calls PyProof.Rows PySem.HandSPX
section
variable {P : Program} {w : World} {A : Around} {E : Value → Shared → Prop} {R : Result → Shared → Prop} {s : Shared} {K : Frag} {mg mb : Str → Option Value} {x f : Str} {C fI : Addr}
theorem sup_made (T : Txt P K mg x f C fI) (hf : FNm f) {v : Value} (X : K.In s.heap) (hG : s.heap.Ns mainGlobals mg) (hB : s.heap.Ns builtinsNs mb) (hb : mb "super" = some (.type "super")) (hlim : s.heap.NoLimit) (hroom : A.depth + 1 < recursionLimit)
    (hq : ∀ h' tk e d, Made f s.heap h' e C d v → R (.ok (.ret (.ref e))) { s with heap := h', toks := tk }) : codeAny (model P w) A (.call (.ref C) ⟨[v], []⟩) R s := by
  obtain ⟨nm, q, N, bs, bm, sn, sub, ab, col, dd, k0, k1, k2, k3, k5, hC, hbm⟩ := T.cls
  obtain ⟨hp, g, dr, tk, os⟩ := s
  let hp2 : Heap := (hp.push (kdv_tup [v])).push (excO C hp.objs.size)
  have up : ∀ b o, hp.get? b = some o → hp2.get? b = some o := fun b o z => Heap.get?_push_of_some _ (Heap.get?_push_of_some _ z)
  have at2 : hp2.get? (hp.objs.size + 1) = some (excO C hp.objs.size) := by
    show ((hp.push (kdv_tup [v])).push (excO C hp.objs.size)).get? (hp.objs.size + 1) = _
    heap_get
  have free2 : K.lookup (hp.objs.size + 1) = none := by
    cases z : K.lookup (hp.objs.size + 1) with
    | none => rfl
    | some o =>
      have y := Heap.lt_size (show hp.get? (hp.objs.size + 1) = some o from X _ _ z)
      exact absurd (Nat.lt_of_succ_lt y) (Nat.lt_irrefl _)
  have nsUp : ∀ {L : Addr} {m : Str → Option Value}, hp.Ns L m → hp2.Ns L m := fun z => z.keeps up
  refine call_own F.excBase_ValueError (fun Y => refsVE_contains Y bm hbm) (X _ _ hC) (looks_findIn X T.iC) (fun self => bind_fn X self T.tC) (line1 v) ?_
  refine sup_init (s := ⟨hp2, g, dr, tk, os⟩) T hf (X.keeps up) (nsUp hG) (nsUp hB) hb (hlim.keeps up) at2 free2 hroom fun h' tk' dx t1 l => ?_
  have keep : ∀ b o, hp.get? b = some o → h'.get? b = some o := fun b o z => l.keep b o (Nat.ne_of_lt (Nat.lt_succ_of_lt (Heap.lt_size z))) (up b o z)
  have big : hp.objs.size + 1 + 1 ≤ dx := by
    have y := l.dbig
    show hp.objs.size + 1 + 1 ≤ dx
    have z : hp2.objs.size = hp.objs.size + 1 + 1 := by
      show ((hp.push (kdv_tup [v])).push (excO C hp.objs.size)).objs.size = _
      rw [Heap.size_push, Heap.size_push]
    rw [← z]; exact y
  exact ⟨rfl, hq h' tk' (hp.objs.size + 1) dx ⟨keep, Nat.le_succ _, ⟨_, _, l.obj, rfl, rfl, rfl, rfl⟩, Nat.le_trans (Nat.le_trans (Nat.le_succ _) (Nat.le_succ _)) big, l.dne, l.ns⟩⟩
end
end SUP
namespace L2
open PySem PySem.Spec PyProof.Rows
theorem relO_one {f : Str} {v : V} {u : Value} (r : RelV v u) (g : Str) : RelO (List.lookup g [(f, v)]) (if g = f then some u else none) := by
  by_cases e : g = f
  · subst e
    rw [if_pos rfl, List.lookup_cons_self]
    exact r
  · have e2 : (g == f) = false := by simpa using e
    rw [if_neg e]
    simp [List.lookup, e2]
    trivial
section
variable {X : Cx} {C fI : Addr} {x f : Str}
/-- C(e), C such a class -/
def tMkSup (C : Addr) (f : Str) (ta : TA) : St → Hp → XK → Prop := fun σ H Q => ta σ H fun vs H1 => ∃ v, vs = [v] ∧ ∀ d, H1 d = none → Q (.ref C) (some d) (upd H1 d (.xd [(f, v)]))
theorem pmk_sup {a : Expr} {ta : TA} {p pos : Pos} {k : Nat} (T : SUP.Txt X.prog X.K X.mg x f C fI) (hf : SUP.FNm f) (hr : Room k X.A) (ha : PA X [a] ta) (hg : Gl X x) (hd : (x == ("__debug__" : Str)) = false)
    (he : starEach (a :: []) X.env = (false, eval a X.env) :: starEach [] X.env := by rfl) (hpl : (backTo pos (starEach [] X.env)).any (·.1) = false := by rfl) : PMk X (.Call (.Name x p) [a] [] pos) (tMkSup C f ta) := fun pins s σ H Q I h => by
  refine wpAny_Call_Name_kw (ld_glob I hg T.gC ?_ hd)
  refine PySem.W.callWith_K (h₀ := X.base) I.ok.mod.kin T.kC (thn (ha.run pos pins s σ H _ I h) fun us s1 ⟨vs, H1, I1, r1, v, ev, q1⟩ => ⟨I1.kIn, ?_⟩) he hpl
  subst ev
  obtain ⟨v', rfl, rv⟩ : ∃ v', us = [v'] ∧ RelV v v' := by
    cases r1 with
    | cons rv rn => cases rn; exact ⟨_, rfl, rv⟩
  have lim := I1.nolimit
  obtain ⟨mb, hmb, hbt⟩ := I1.mod.blt
  have gl := I1.ok.mod.glob.keeps I1.bk
  have bl := hmb.keeps I1.bk
  obtain ⟨hp, g, dr, tk, os⟩ := s1
  show wpAny _ _ (call (.ref C) [v']) _ _ _
  refine wpAny_call (SUP.sup_made T hf I1.kIn gl bl ((hbt "super" (by decide)).trans rfl) lim (by have := hr.dp; omega) fun h' tk' e d M => ?_)
  show MkP X pins σ Q (.ref e) ⟨h', g, dr, tk', os⟩
  obtain ⟨oe, fv, hoe, hc, hdd, hdat, h1⟩ := M.obj
  obtain ⟨G, gk0, ge0⟩ := restrict h' fun b => decide (b ≠ e)
  have gk : ∀ {b : Addr}, b ≠ e → G.get? b = h'.get? b := fun hb => gk0 _ (decide_eq_true hb)
  have ge : G.get? e = none := ge0 e (by simp)
  have old : ∀ b o, hp.get? b = some o → G.get? b = some o := fun b o z => by
    rw [gk (Nat.ne_of_lt (Nat.lt_of_lt_of_le (Heap.lt_size z) M.new))]
    exact M.keep b o z
  have ob : ObjOk X.prog X.w (upd H1 d (.xd [(f, v)])) G d (.xd [(f, v)]) := ⟨_, M.ns.at fun o z => (gk M.dne).trans z, relO_one rv⟩
  have J := I1.laid (t' := tk') old M.dbig ob
  refine ⟨e, oe, fv, ⟨G, g, dr, tk', os⟩, _, .ref C, some d, rfl, J, fun b o z => ?_, ge, hoe, ⟨hc, hdd⟩, hdat, h1, ?_, rfl, I1.bare, raises_own T.exC T.tyC, q1 d (I1.hok.fresh M.dbig)⟩
  · have z' : G.get? b = some o := z
    rw [← gk fun y => by rw [y, ge] at z'; cases z']
    exact z'
  · rw [upd_ne (Ne.symm M.dne)]
    exact I1.hok.fresh M.new
end
end L2

/-! several except clauses, some of which name the exception -/
namespace L2
open PySem PySem.Spec PyProof.Rows
abbrev Clx := Value × Option (Nat × Str) × (Addr → Value → Option Addr → TS)
/-- the ends of a suite whose name in slot i goes behind it -/
def offE (D : Ends) (i : Nat) : Ends := { nx := fun σ H => D.nx (σ.set i none) H, rt := D.rt, bk := fun σ H => D.bk (σ.set i none) H, ct := fun σ H => D.ct (σ.set i none) H }
def wMix (K : PySem.W.Frag) (Wo : WX) (D : Ends) : List Clx → WX
  | [] => Wo
  | (c, none, ts) :: r => fun cls d σ H => ∃ b, PySem.W.exmOne K cls c = some b ∧ (b = true → ∀ a, H a = none → ts a cls d D σ H) ∧ (b = false → wMix K Wo D r cls d σ H)
  | (c, some (i, _), ts) :: r => fun cls d σ H => ∃ b, PySem.W.exmOne K cls c = some b ∧ (b = true → ∀ a, H a = none → ts a cls d (offE D i) (σ.set i (some (.ref a))) H) ∧ (b = false → wMix K Wo D r cls d σ H)
inductive MixOk (X : Cx) : List ExceptHandler → List Clx → Prop
  | nil : MixOk X [] []
  | plain {x : Str} {c : Value} {ts : Addr → Value → Option Addr → TS} {st : Stmt} {sts : List Stmt} {np hp : Pos} {hds : List ExceptHandler} {l : List Clx} (hc : Names X x c)
      (hs : ∀ (a : Addr) (oe : Obj) (cls : Value) (d : Option Addr) (pn : List (Addr × Obj)), Zc cls d oe → (∃ vs, oe.data = .fields vs) → PSs (X.suite a ((a, oe) :: pn)) (st :: sts) (ts a cls d)) (r : MixOk X hds l) :
      MixOk X (.ExceptHandler (some (.Name x np)) none (st :: sts) hp :: hds) ((c, none, ts) :: l)
  | named {x n : Str} {i : Nat} {c : Value} {ts : Addr → Value → Option Addr → TS} {st : Stmt} {sts : List Stmt} {np hp : Pos} {hds : List ExceptHandler} {l : List Clx} (hc : Names X x c) (hi : X.N[i]? = some n) (hl : X.env.kindOf n = some .local)
      (hs : ∀ (a : Addr) (oe : Obj) (cls : Value) (d : Option Addr) (pn : List (Addr × Obj)), Zc cls d oe → (∃ vs, oe.data = .fields vs) → PSs (X.suite a ((a, oe) :: pn)) (st :: sts) (ts a cls d)) (r : MixOk X hds l) :
      MixOk X (.ExceptHandler (some (.Name x np)) (some n) (st :: sts) hp :: hds) ((c, some (i, n), ts) :: l)
section
variable {X : Cx} {body : List Stmt} {h₀ : ExceptHandler} {hds : List ExceptHandler} {l : List Clx} {pos : Pos} {tb : WX → TS} {Wo : WX}
/-- one clause after the other, an exception being held -/
theorem mix_by (hst : X.stack = X.env :: X.outer) (hfr : X.env.frame = some X.env.locals) (hN : X.N.Nodup) (tk : Takes X Wo) {pins : List (Addr × Obj)} {D : Ends} {a : Addr} {B : Heap} {sI : Shared} {s' : Shared} {σ : St} {H : Hp} {cls : Value} {d : Option Addr}
    (J : Inv X pins σ H sI) (nb : ∀ b o, sI.heap.get? b = some o → b ∉ frs X.stack → B.get? b = some o) (na : H a = none) (os : s'.os = sI.os) (ag : AllBare s'.gens)
    {h3 : Heap} (fl3 : HandSPX.FlyingZ B (X.env :: X.outer) a (Zc cls d) h3) (up3 : sI.heap.UpToSlots h3) :
    ∀ {hd' : List ExceptHandler} {l' : List Clx}, MixOk X hd' l' → wMix X.K Wo D l' cls d σ H → wpAny (model X.prog X.w) X.A (handleBy (.ref a) X.env hd') (SP X pins D) X.xe { s' with heap := h3 } := by
  have ok := J.ok
  have frames : X.A.frames = some (X.env :: X.outer) := by rw [ok.frames, hst]
  have J3 : Inv X pins σ H { s' with heap := h3 } := J.landed nb fl3.1 up3 os ag
  obtain ⟨oe3, vs3, he3, hz3, hd3⟩ := fl3.there
  have nfr : a ∉ frs (X.env :: X.outer) := fun hm => by
    obtain ⟨_, o', e', hnf⟩ := fl3.2.2.1.mem hm
    rw [he3] at e'; cases e'
    exact hnf _ hd3
  have nL : a ≠ X.env.locals := fun z => nfr (List.mem_filterMap.mpr ⟨X.env, List.mem_cons_self, by rw [hfr, z]⟩)
  have nF : a ∉ X.fs := fun hm => by
    obtain ⟨e, he, q⟩ := List.mem_filterMap.mp hm
    exact nfr (List.mem_filterMap.mpr ⟨e, List.mem_cons_of_mem _ he, q⟩)
  have S3 := J3.suite he3 hd3 na nL nF
  have LT : PySem.W.Looks (model X.prog X.w) h3 (typeOf (.ref a)) cls := fun A Q E s k q => wpAny_typeOf_ref (k _ _ he3) (by rw [hz3.1]; exact q)
  have test : ∀ {x : Str} {c : Value} {np : Pos} {Q E : Value → Shared → Prop}, Names X x c → Q c { s' with heap := h3 } → wpAny (model X.prog X.w) (X.A.mark (some (.ref a))) (eval (.Name x np) X.env) Q E { s' with heap := h3 } := fun {x c np Q E} hc q => by
    rcases hc with ⟨hg, hdbg, hm | ⟨hm, hv, hnn⟩⟩
    · exact ld_glob (X := X.suite a ((a, oe3) :: (X.pn ++ pins))) S3 hg hm q hdbg
    · exact ld_blt (X := X.suite a ((a, oe3) :: (X.pn ++ pins))) S3 hg hm hv q hnn hdbg
  have again : ∀ {h4 : Heap}, HandSPX.FlyingZ B (X.env :: X.outer) a (Zc cls d) h4 → h3.UpToSlots h4 → ∃ oe, Zc cls d oe ∧ (∃ vs, oe.data = .fields vs) ∧ Inv (X.suite a ((a, oe) :: (X.pn ++ pins))) [] σ H { s' with heap := h4 } := fun fl4 up4 => by
    rename_i h4
    have J4 : Inv X pins σ H { s' with heap := h4 } := J.landed nb fl4.1 (up3.trans up4) os ag
    obtain ⟨oe4, vs4, he4, hz4, hd4⟩ := fl4.there
    exact ⟨oe4, hz4, ⟨_, hd4⟩, J4.suite he4 hd4 na nL nF⟩
  intro hd' l' hk
  induction hk with
  | nil =>
    intro w
    refine wpAny_handleBy_nil ?_
    obtain ⟨k1, k2, k3, oe, vs, T, oT, ts', he, hz, hd, h1, hr⟩ := id fl3
    unfold PySem.passOn
    refine wpAny_bind (wpAny_field he hd h1 ?_)
    rw [if_neg (show ¬ ((Value.ref T == Value.none) = true) from by simp)]
    have fin : wpAny (model X.prog X.w) X.A (setFlight (.ref a) X.env.frame) (fun _ s4 => wpAny (model X.prog X.w) X.A (throw (.ref a) : Sem Flow) (SP X pins D) X.xe s4) X.xe { s' with heap := h3 } := by
      rw [hfr]
      refine HandSPX.setFlight_upZ fl3 fun h4 hh4 up4 => wpAny_throw (tk _ _ ?_)
      exact ⟨a, B, sI, pins, σ, H, cls, d, rfl, J, nb, up3.trans up4, .inr (.inr (by rw [hst]; exact hh4)), na, os, ag, w⟩
    first
      | exact wpAny_bind (wpAny_pure (wpAny_bind fin))
      | exact wpAny_bind fin
  | plain hc hs r ih =>
    rintro ⟨b, hb, yes, no⟩
    refine wpAny_handleBy_cons (codeAny_handlers_test ?_) (by intro q; cases q)
    refine test hc ((PySem.W.exm_one (M := model X.prog X.w) J3.kIn LT hb).here ?_)
    cases b with
    | false =>
      show wpAny _ X.A (handleBy (.ref a) X.env _) _ _ _
      exact ih (no rfl)
    | true =>
      refine codeAny_handlers_suite ?_
      refine HandSPX.lands_againZ fl3 fun h4 fl4 up4 => ?_
      obtain ⟨oe4, hz4, hd4, S4⟩ := again fl4 up4
      refine wpAny_mono ((hs a oe4 cls d (X.pn ++ pins) hz4 hd4).run [] _ _ H _ S4 (yes rfl a na)) (fun f s6 hsp => ?_) (fun _ _ z => False.elim z)
      cases f <;> first
        | (obtain ⟨σ6, H6, S6, q6⟩ := hsp; exact ⟨_, _, S6.unsuite ok, q6⟩)
        | (obtain ⟨v6, σ6, H6, S6, r6, q6⟩ := hsp; exact ⟨_, _, _, S6.unsuite ok, r6, q6⟩)
  | named hc hi hl hs r ih =>
    rintro ⟨b, hb, yes, no⟩
    refine wpAny_handleBy_cons (codeAny_handlers_test ?_) (by intro q; cases q)
    refine test hc ((PySem.W.exm_one (M := model X.prog X.w) J3.kIn LT hb).here ?_)
    cases b with
    | false =>
      show wpAny _ X.A (handleBy (.ref a) X.env _) _ _ _
      exact ih (no rfl)
    | true =>
      rename_i x n i c ts st sts np hp hds2 l2
      refine codeAny_handlers_suite_as ?_
      refine HandSPX.lands_againZ fl3 fun h4 fl4 up4 => ?_
      obtain ⟨oe4, hz4, hd4, S4⟩ := again fl4 up4
      refine store_ok (X := X.suite a ((a, oe4) :: (X.pn ++ pins))) (v := .ref a) S4 hN hi (.inl hl) rfl (fun s5 S5 => ?_) (.inr hl)
      refine wpAny_mono ((hs a oe4 cls d (X.pn ++ pins) hz4 hd4).run [] s5 _ H _ S5 (yes rfl a na)) (fun f s6 hsp => ?_) (fun _ _ z => False.elim z)
      have off : ∀ {σ6 : St} {H6 : Hp} {Q : Shared → Prop}, Inv (X.suite a ((a, oe4) :: (X.pn ++ pins))) [] σ6 H6 s6 → (∀ s7, Inv X pins (σ6.set i none) H6 s7 → Q s7) →
          wpAny (model X.prog X.w) X.A (do bindName X.env n .none; unbindBehindTheSuite X.env n hp) (fun _ s7 => Q s7) X.xe s6 := fun S6 hq => gone_ok (S6.unsuite ok) hN hi hl hq
      cases f <;> first
        | (obtain ⟨σ6, H6, S6, q6⟩ := hsp; exact off S6 fun s7 J7 => ⟨_, _, J7, q6⟩)
        | (obtain ⟨v6, σ6, H6, S6, r6, q6⟩ := hsp; exact off S6 fun s7 J7 => ⟨_, _, _, J7, r6, q6⟩)
theorem ps_try_mix (hst : X.stack = X.env :: X.outer) (hfr : X.env.frame = some X.env.locals) (hN : X.N.Nodup) (tk : Takes X Wo)
    (hb : ∀ (W : WX) (pn : List (Addr × Obj)) (xe : Value → Shared → Prop), Takes (X.tr pn xe) W → PassesOwn (model X.prog X.w) X.A X.env xe → PSs (X.tr pn xe) body (tb W))
    (hh : MixOk X (h₀ :: hds) l) : PS X (.Try body (h₀ :: hds) [] [] pos) (fun D σ H => tb (wMix X.K Wo D l) D σ H) := ⟨fun pins s σ H D I h => by
  have ok := I.ok
  have frames : X.A.frames = some (X.env :: X.outer) := by rw [ok.frames, hst]
  refine wpAny_Try_except ?_
  let xe : Value → Shared → Prop := fun e s₁ => wpAny (model X.prog X.w) X.A (noteFrame e X.env) (fun _ s₂ => wpAny (model X.prog X.w) X.A (setFlight e none) (fun _ s₃ =>
    wpAny (model X.prog X.w) X.A (handleBy e X.env (h₀ :: hds)) (SP X pins D) X.xe s₃) X.xe s₂) X.xe s₁
  refine wpAny_mono ((hb (wMix X.K Wo D l) (X.pn ++ pins) xe (fun u s' xx => ?_) PassesOwn.looking).run [] s σ H D (I.toTry _) h) (fun f s1 hsp => ?_) (fun e s1 he => he)
  · obtain ⟨a, B, sI, pins', σ', H', cls, d, rfl, J', nb, up, sky, na, os, ag, w⟩ := xx
    have J : Inv X pins σ' H' sI := J'.ofTry ok
    show wpAny (model X.prog X.w) X.A (noteFrame (.ref a) X.env) _ _ _
    refine Sky.land Zc.steady frames hfr (by rw [← hst]; exact sky) fun h3 fl3 up3 => ?_
    exact mix_by hst hfr hN tk J nb na os ag fl3 (up.trans up3) hh w
  · cases f with
    | next =>
      obtain ⟨σ', H', J', q⟩ := hsp
      exact wpAny_execs_nil ⟨σ', H', J'.ofTry ok, q⟩
    | ret v =>
      obtain ⟨v, σ', H', J', r, q⟩ := hsp
      exact ⟨v, σ', H', J'.ofTry ok, r, q⟩
    | brk =>
      obtain ⟨σ', H', J', q⟩ := hsp
      exact ⟨σ', H', J'.ofTry ok, q⟩
    | cont =>
      obtain ⟨σ', H', J', q⟩ := hsp
      exact ⟨σ', H', J'.ofTry ok, q⟩⟩
end
end L2

/-! DL: exceptions: what leaves a def, calls of such defs. -/
namespace DL
open PySem PySem.Spec PyProof.Rows L2
/-- an exception, by its class's name and its one field -/
structure ED where
  nm : String
  fs : Option (Str × D)
def ExcR (K : PySem.W.Frag) (cm : String → Addr) (F : Ad) (H : Hp) (e : ED) (cls : Value) (dx : Option Addr) : Prop :=
  cls = .ref (cm e.nm) ∧ match e.fs with
    | none => dx = none
    | some (f, d) => ∃ a v, dx = some a ∧ ¬ F a ∧ H a = some (.xd [(f, v)]) ∧ Is K (res F H) v d
theorem ExcR.move {K : PySem.W.Frag} {cm : String → Addr} {F F' : Ad} {H H' : Hp} {e : ED} {cls : Value} {dx : Option Addr} (h : ExcR K cm F H e cls dx) (s : Same (res F H) (res F' H')) (k : ∀ a, dx = some a → ¬ F a → H' a = H a ∧ ¬ F' a) : ExcR K cm F' H' e cls dx := by
  obtain ⟨h1, h2⟩ := h
  refine ⟨h1, ?_⟩
  split at h2
  · exact h2
  · rename_i f d ef
    obtain ⟨a, v, e1, nf, e2, i⟩ := h2
    obtain ⟨k1, k2⟩ := k a e1 nf
    exact ⟨a, v, e1, k2, by rw [k1]; exact e2, i.mono s⟩
abbrev DFX := List D → (SD → Prop) → (ED → Prop) → Prop
def spX (K : PySem.W.Frag) (cm : String → Addr) (n : Nat) (g : DFX) : Sp := fun vs H Q E => vs.length = n ∧ ∃ F dl, IsA K (res F H) vs dl ∧ seqAll F H ∧ ∃ (P : SD → Prop) (PE : ED → Prop), g dl P PE ∧
  (∀ r, P r → ∀ (H' : Hp) (v : V) (F' q : Ad), Grow F H F' H' → seqAll F' H' → (∀ a, q a → ¬ F' a ∧ ∃ o, H' a = some o ∧ bigO o) → SlotOk K (res F' H') H' (some (some v)) q r → Q v H') ∧
  (∀ e, PE e → ∀ (H' : Hp) (cls : Value) (dx : Option Addr) (F' : Ad), Grow F H F' H' → seqAll F' H' → ExcR K cm F' H' e cls dx → E cls dx H')
def frmX (sp : Sp) : Sp := fun vs H Q E => ∃ G : Ad, (∀ a, G a → ∃ o, H a = some o ∧ bigO o) ∧ sp vs (hide G H) (fun v H' => (∀ a, hidden G H a → H' a = none) → Q v (back G H H')) (fun cls d H' => (∀ a, hidden G H a → H' a = none) → E cls d (back G H H'))
theorem frame_fnX {P : Program} {w : World} {K : PySem.W.Frag} {mg : Str → Option Value} {base : Heap} {k : Nat} {f : Addr} {fd : FuncData} {ps : List Str} {sp : Sp} (F : FnOk P w K mg base (L2.CX P w) k f fd ps sp) :
    FnOk P w K mg base (L2.CX P w) k f fd ps (frmX sp) := by
  refine ⟨fun vs H Q E ⟨G, _, h⟩ => F.len _ _ _ _ h, fun A outer s H args us vs Q E hr e0 hb hv ⟨G, hG, h⟩ => ?_⟩
  have hok1 : HOk P w (hide G H) s.heap := fun b o e => by
    by_cases hb : hidden G H b
    · rw [hide_in hb] at e; cases e
    · rw [hide_out hb] at e
      refine (e0.hok b o e).stay (fun _ _ _ q => q) (fun c hc => ?_) fun c xs hc => ?_
      · rw [hide_out]; exact hc
        rintro (g | ⟨x, gx, ex⟩)
        · obtain ⟨o', e1, b1⟩ := hG c g
          rw [hc] at e1; cases e1; exact b1
        · rw [hc] at ex; cases ex; exact hb (.inl gx)
      · rw [hide_out (seen_of hG hc (fun z => z) (fun x z => by cases z))]; exact hc
  have e1 : Env0 P w K mg base A outer s (hide G H) := ⟨e0.frames, e0.mod, fun b o q => ⟨(e0.bs b o q).1, by
    by_cases hb : hidden G H b
    · exact hide_in hb
    · rw [hide_out hb]; exact (e0.bs b o q).2⟩, e0.bsz, e0.funs, fun b q => by
    by_cases hb : hidden G H b
    · exact hide_in hb
    · rw [hide_out hb]; exact e0.frf b q, hok1, e0.bare⟩
  have there : ∀ a, hidden G H a → ∃ ob, s.heap.get? a = some ob := fun a ha => by
    obtain ⟨o, e, _⟩ := hidden_some hG ha
    exact hok_there e0.hok e
  have hnf : ∀ a, hidden G H a → a ∉ frs outer := fun a ha z => by
    obtain ⟨o, e, _⟩ := hidden_some hG ha
    rw [e0.frf a z] at e; cases e
  have none1 : ∀ b, H b = none → hide G H b = none ∧ ¬ hidden G H b := fun b n => by
    have nh : ¬ hidden G H b := fun z => by
      obtain ⟨o, e, _⟩ := hidden_some hG z
      rw [n] at e; cases e
    exact ⟨by rw [hide_out nh]; exact n, nh⟩
  have lay : ∀ {H' : Hp} {G2 : Heap}, HOk P w H' G2 → (∀ a, hidden G H a → H' a = none) → (∀ c u, hidden G H c → s.heap.get? c = some u → G2.get? c = some u) → (∀ c xs, H c = some (.tup xs) → H' c = some (.tup xs)) → HOk P w (back G H H') G2 := fun {H' G2} hok' hn stayed tups b o e => by
    by_cases hb : hidden G H b
    · rw [back_in hb] at e
      rcases hidden_some hG hb with ⟨o', e', hh⟩
      rw [e] at e'; cases e'
      rcases hh with hh | ⟨x, _, rfl⟩
      · have gb : G b := by
          rcases hb with g | ⟨x, _, ex⟩
          · exact g
          · rw [e] at ex; cases ex; exact hh.elim
        refine (e0.hok b o e).stay (fun c u hc r => ?_) (fun c hc => ?_) fun c xs hc => ?_
        · rcases hc with rfl | hc
          · exact stayed _ u hb r
          · exact stayed c u (.inr ⟨b, gb, hc⟩) r
        · rw [back_in (.inr ⟨b, gb, hc⟩)]; exact hc
        · have nh := seen_of hG hc (fun z => z) (fun x z => by cases z)
          rw [back_out nh]
          exact tups c xs hc
      · obtain ⟨ob, he⟩ := e0.hok b _ e
        exact ⟨ob, stayed b ob hb he⟩
    · rw [back_out hb] at e
      refine (hok' b o e).stay (fun _ _ _ r => r) (fun c hc => ?_) fun c xs hc => ?_
      · rw [back_out fun z => by rw [hn c z] at hc; cases hc]; exact hc
      · rw [back_out fun z => by rw [hn c z] at hc; cases hc]; exact hc
  refine codeAny_mono (F.run A outer s (hide G H) args us vs _ _ hr e1 hb hv h) fun r s' hq => ?_
  cases r with
  | error e =>
    obtain ⟨a, B, H', cls, d, rfl, fl, hok', ub, na, os, ag, q⟩ := hq
    have hn : ∀ a, hidden G H a → H' a = none := fun a ha => by
      obtain ⟨ob, he⟩ := there a ha
      exact ub.free a ob he (hide_in ha)
    have keepB : ∀ c u, hidden G H c → s.heap.get? c = some u → B.get? c = some u := fun c u hc q => ub.keep c u q (hide_in hc) (hnf c hc)
    have nha : ¬ hidden G H a := fun z => by
      obtain ⟨ob, he⟩ := there a z
      have := keepB a ob z he
      rw [fl.2.1] at this; cases this
    refine ⟨a, B, back G H H', cls, d, rfl, fl, lay hok' hn keepB (fun c xs e => ub.tups c xs (by rw [hide_out (seen_of hG e (fun z => z) (fun x z => by cases z))]; exact e)), ⟨fun b o e n => ub.keep b o e (none1 b n).1, ub.slot, fun b o e n => ?_, ub.there, fun b xs e => ?_, fun b o u e => ?_, fun b ps e => ?_⟩, by rw [back_out nha]; exact na, os, ag, q hn⟩
    · rw [back_out (none1 b n).2]
      exact ub.free b o e (none1 b n).1
    · have nh := seen_of hG e (fun z => z) (fun x z => by cases z)
      rw [back_out nh]
      exact ub.tups b xs (by rw [hide_out nh]; exact e)
    · have nh := seen_of hG e (fun z => z) (fun x z => by cases z)
      rw [back_out nh]
      exact ub.frzs b o u (by rw [hide_out nh]; exact e)
    · have nh := seen_of hG e (fun z => z) (fun x z => by cases z)
      rw [back_out nh]
      exact ub.tbls b ps (by rw [hide_out nh]; exact e)
  | ok fl =>
    cases fl with
    | next => exact False.elim hq
    | brk => exact False.elim hq
    | cont => exact False.elim hq
    | ret u =>
      obtain ⟨v, H', os, bare, un, hok', rv, q⟩ := hq
      have hn : ∀ a, hidden G H a → H' a = none := fun a ha => by
        obtain ⟨ob, he⟩ := there a ha
        exact un.free a ob he (hide_in ha) (by simp)
      refine ⟨v, back G H H', os, bare, ⟨fun b o e n => un.keep b o e (none1 b n).1, fun b o e n => un.slot b o e (none1 b n).1, fun b o e n x => ?_, un.there, fun b xs e => ?_, fun b o u e => ?_, fun b ps e => ?_⟩, lay hok' hn (fun c u hc q => un.keep c u q (hide_in hc) (hnf c hc) (by simp)) (fun c xs e => un.tups c xs (by rw [hide_out (seen_of hG e (fun z => z) (fun x z => by cases z))]; exact e)), rv, q hn⟩
      · rw [back_out (none1 b n).2]
        exact un.free b o e (none1 b n).1 x
      · have nh := seen_of hG e (fun z => z) (fun x z => by cases z)
        rw [back_out nh]
        exact un.tups b xs (by rw [hide_out nh]; exact e)
      · have nh := seen_of hG e (fun z => z) (fun x z => by cases z)
        rw [back_out nh]
        exact un.frzs b o u (by rw [hide_out nh]; exact e)
      · have nh := seen_of hG e (fun z => z) (fun x z => by cases z)
        rw [back_out nh]
        exact un.tbls b ps (by rw [hide_out nh]; exact e)
/-! ### the wish about what is raised -/
def ExOk (K : PySem.W.Frag) (cm : String → Addr) (F : Ad) (H : Hp) (Wd : ED → DS → Prop) (W : WX) : Prop :=
  ∀ e ds' σ' H' F' fp' cls dx, Wd e ds' → Rep K F' Ad.nil σ' H' ds' fp' → Grow F H F' H' → ExcR K cm F' H' e cls dx → (∀ a, dx = some a → ∀ i, ¬ fp' i a) → W cls dx σ' H'
theorem ExOk.grow {K : PySem.W.Frag} {cm : String → Addr} {F F' : Ad} {H H' : Hp} {Wd : ED → DS → Prop} {W : WX} (x : ExOk K cm F H Wd W) (g : Grow F H F' H') : ExOk K cm F' H' Wd W :=
  fun e ds' σ' H2 F2 fp' cls dx h r g2 i n => x e ds' σ' H2 F2 fp' cls dx h r (g.trans g2) i n
abbrev DTX := (ED → DS → Prop) → DT
def EOkX (K : PySem.W.Frag) (cm : String → Addr) (W : WX) (te : TE) (t : DTX) : Prop :=
  ∀ (F T : Ad) (σ : Sl) (H : Hp) (ds : DS) (fp : Nat → Ad) (Q : QE) (R : VK) (Wd : ED → DS → Prop), Rep K F T σ H ds fp → t Wd ds Q → ExOk K cm F H Wd W →
    (∀ h ds' v H' F' fp' q, Q h ds' → Pst K F T H σ v h ds' F' H' fp' q → R v H') → te σ H R
structure DOX (X : Cx) (cm : String → Addr) (W : WX) (e : Expr) (te : TE) (t : DTX) : Prop where
  pe : PE X e te
  ok : EOkX X.K cm W te t
section
variable {X : Cx} {K : PySem.W.Frag} {cm : String → Addr} {W : WX} {F T q : Ad} {σ : Sl} {H : Hp} {ds : DS} {fp : Nat → Ad} {e : Expr} {es : List Expr} {ta tk : TA} {te : TE} {t : DTA} {u : DT} {n k : Nat} {g : DFX} {f : Addr} {fd : FuncData} {ps ks : List Str} {x : Str} {p pos : Pos}
theorem dox_pure (h : DO X e te u) : DOX X cm W e te (fun _ => u) := ⟨h.pe, fun F T σ H ds fp Q R Wd r a _ k => h.ok F T σ H ds fp Q R r a k⟩
@[simp] def dCallX (g : DFX) (t : DTA) : DTX := fun Wd ds Q => t ds fun hs ds1 => takes hs ds1 fun dl ds2 => g dl (fun r => Q (hdOf r) ds2) fun e => Wd e ds2
/-- the call itself -/
theorem call_coreX {vs : List V} {dl : List D} {Q : Hd → Prop} {QX : ED → Prop} {R : VK} {E : XK} (r2 : Rep K F T σ H ds fp) (ia : IsA K (res F H) vs dl) (hn : vs.length = n) (h : g dl (fun r => Q (hdOf r)) QX)
    (k : ∀ h v H' F' q, Q h → Pst K F T H σ v h ds F' H' fp q → R v H') (kx : ∀ e cls dx H' F', QX e → Rep K F' T σ H' ds fp → Grow F H F' H' → ExcR K cm F' H' e cls dx → (∀ a, dx = some a → ∀ i, ¬ fp i a) → E cls dx H') : frmX (spX K cm n g) vs H R E := by
  let G : Ad := fun a => T a ∨ ∃ i, fp i a
  have hG : ∀ a, G a → ∃ o, H a = some o ∧ bigO o := fun a z => by
    rcases z with z | ⟨i, z⟩
    · exact r2.td a z
    · exact r2.fdom z
  have nF : ∀ a, F a → ¬ hidden G H a := fun a f z => by
    rcases z with (z | ⟨i, z⟩) | ⟨y, _, z⟩
    · exact r2.tF a z f
    · exact r2.fF i a z f
    · obtain ⟨o, e, b⟩ := r2.fd a f
      rw [z] at e; cases e; exact b
  have common : ∀ {H' : Hp} {F' : Ad}, Grow F (hide G H) F' H' → seqAll F' H' → (∀ a, hidden G H a → H' a = none) → (∀ a, F' a → ¬ hidden G H a) ∧ Grow F H F' (back G H H') ∧ Same (res F' H') (res F' (back G H H')) := fun {H' F'} g' sa hh => by
    have nF' : ∀ a, F' a → ¬ hidden G H a := fun a f z => by
      obtain ⟨o, e, _⟩ := sa a f
      rw [hh a z] at e; cases e
    refine ⟨nF', fun a f => ⟨(g' a f).1, by rw [back_out (nF a f), (g' a f).2, hide_out (nF a f)]⟩, fun a o e => ?_⟩
    obtain ⟨f, e⟩ := res_some e
    rw [res_in f, back_out (nF' a f)]; exact e
  refine ⟨G, hG, hn, F, dl, ia.mono fun a o e => ?_, fun a f => ?_, _, _, h, fun r hr H' v F' q g' sa qa so hh => ?_, fun e he H' cls dx F' g' sa ex hh => ?_⟩
  · obtain ⟨f, e⟩ := res_some e
    rw [res_in f, hide_out (nF a f)]; exact e
  · rw [hide_out (nF a f)]; exact r2.fd a f
  · obtain ⟨nF', GG, sm⟩ := common g' sa hh
    have nq : ∀ a, q a → ¬ hidden G H a := fun a f z => by
      obtain ⟨_, o, e, _⟩ := qa a f
      rw [hh a z] at e; cases e
    have so' : SlotOk K (res F' (back G H H')) (back G H H') (some (some v)) q r := so.mono sm fun a z => back_out (nq a z)
    refine k (hdOf r) v _ F' q hr ⟨r2.go GG (fun i a z => ⟨back_in (.inl (.inr ⟨i, z⟩)), fun f => nF' a f (.inl (.inr ⟨i, z⟩)), ?_⟩) (fun a z => ?_) (fun a f => ?_) (fun a z => ?_), fun a z y => nq a z (.inl (.inl y)), GG, fun a z => back_in (.inl (.inl z)), ?_⟩
    · rintro (y | y)
      · exact r2.fT i a z y
      · exact nq a y (.inl (.inr ⟨i, z⟩))
    · rcases z with z | z
      · exact fun f => nF' a f (.inl (.inl z))
      · exact (qa a z).1
    · obtain ⟨o, e, b⟩ := sa a f
      exact ⟨o, by rw [back_out (nF' a f)]; exact e, b⟩
    · rcases z with z | z
      · rw [back_in (.inl (.inl z))]; exact r2.td a z
      · obtain ⟨_, o, e, b⟩ := qa a z
        exact ⟨o, by rw [back_out (nq a z)]; exact e, b⟩
    · cases r with
      | val d =>
        obtain ⟨⟨v', e, i⟩, _⟩ := so'
        cases e
        exact i
      | no => exact so'
      | own _ => exact so'
      | dic _ => exact so'
      | wd _ => exact so'
      | ob _ => exact so'
  · obtain ⟨nF', GG, sm⟩ := common g' sa hh
    have nd : ∀ a o, H' a = some o → ¬ hidden G H a := fun a o e z => by rw [hh a z] at e; cases e
    have dxo : ∀ a, dx = some a → ∃ o, H' a = some o := fun a ea => by
      obtain ⟨_, h2⟩ := ex
      split at h2
      · rw [h2] at ea; cases ea
      · obtain ⟨a', v, e1, _, e2, _⟩ := h2
        rw [ea] at e1; cases e1
        exact ⟨_, e2⟩
    refine kx e cls dx _ F' he (r2.go GG (fun i a z => ⟨back_in (.inl (.inr ⟨i, z⟩)), fun f => nF' a f (.inl (.inr ⟨i, z⟩)), r2.fT i a z⟩) (fun a z f => nF' a f (.inl (.inl z))) (fun a f => ?_) (fun a z => ?_)) GG (ex.move sm fun a ea nf => ?_) (fun a ea i z => ?_)
    · obtain ⟨o, e, b⟩ := sa a f
      exact ⟨o, by rw [back_out (nF' a f)]; exact e, b⟩
    · rw [back_in (.inl (.inl z))]; exact r2.td a z
    · obtain ⟨o, eo⟩ := dxo a ea
      exact ⟨back_out (nd a o eo), nf⟩
    · obtain ⟨o, eo⟩ := dxo a ea
      exact nd a o eo (.inl (.inr ⟨i, z⟩))
theorem eok_callX (ha : AOk K n ta t) : EOkX K cm W (tCallS (frmX (spX K cm n g)) (WE W) ta) (dCallX g t) := fun F T σ H ds fp Q R Wd rp e x k => by
  refine ha F T σ H ds fp _ _ rp e fun hs ds1 vs H1 F1 fp1 q1 k1 p1 l1 => ?_
  obtain ⟨dl, ds2, F2, fp2, e2, r2, g2, i2⟩ := takes_ok p1.r .refl p1.rep p1.qT k1
  refine call_coreX (cm := cm) (QX := fun e => Wd e ds2) r2 i2 l1 e2 (fun h v H' F' q qh p => k _ _ _ _ _ _ _ qh (p.pre (p1.g.trans g2) p1.t)) fun e cls dx H' F' he r3 g3 ex nf => ?_
  exact x e ds2 σ H' F' fp2 cls dx he (r3.less fun a z => z.elim) ((p1.g.trans g2).trans g3) ex nf
theorem do_callX (tk : Takes X W) (F : FnOk X.prog X.w K X.mg X.base (L2.CX X.prog X.w) k f fd ps (spX K cm n g)) (hr : Room k X.A) (hg : Gl X x) (hm : X.mg x = some (.ref f)) (hk : PySem.W.keepIn X.K (.ref f) = true) (hb : Binds X.K fd ps [])
    (ha : DA X (e :: es) ta t) (hK : X.K = K := by rfl) (hn : (e :: es).length = n := by rfl) (hdb : (x == ("__debug__" : Str)) = false := by decide) (he : starEach (e :: es) X.env = (false, eval e X.env) :: starEach es X.env := by rfl) (hpl : (backTo pos (starEach es X.env)).any (·.1) = false := by rfl) :
    DOX X cm W (.Call (.Name x p) (e :: es) [] pos) (tCallS (frmX (spX K cm n g)) (WE W) ta) (dCallX g t) := by
  subst hK
  exact ⟨pe_callS (frame_fnX F) hr hg hm hk hb (fun σ => passAt tk σ) ha.pa hdb he hpl, eok_callX (hn ▸ ha.ok)⟩
end
end DL

/-! DL: exceptions: statements, defs that raise, try. -/
namespace DL
open PySem PySem.Spec PyProof.Rows L2
abbrev DMX := (ED → DS → Prop) → DM
def SOkX (K : PySem.W.Frag) (cm : String → Addr) (W : WX) (ts : TS) (t : DMX) : Prop :=
  ∀ (F : Ad) (σ : Sl) (H : Hp) (ds : DS) (fp : Nat → Ad) (E : En) (D : Ends) (Wd : ED → DS → Prop), Rep K F Ad.nil σ H ds fp → t Wd E ds → EndsOk K F H E D → ExOk K cm F H Wd W → ts D σ H
structure DStX (X : Cx) (cm : String → Addr) (W : WX) (st : Stmt) (ts : TS) (t : DMX) : Prop where
  ps : PS X st ts
  ok : SOkX X.K cm W ts t
structure DSsX (X : Cx) (cm : String → Addr) (W : WX) (st : List Stmt) (ts : TS) (t : DMX) : Prop where
  ps : PSs X st ts
  ok : SOkX X.K cm W ts t
/-- a class without a field -/
structure ExP (K : PySem.W.Frag) (mg : Str → Option Value) (x : Str) (C : Addr) : Prop where
  q : PySem.W.excIn K C [.type "ValueError", .type "Exception", .type "BaseException", .type "object"] "ValueError.__new__" = true
  g : mg x = some (.ref C)
  k : PySem.W.keepIn K (.ref C) = true
  b : PySem.W.subIn K (.ref C) (.type "BaseException") = some true
  t : PySem.W.typeIn K (.ref C) = some (.type "type")
@[simp] def mSeqX (t u : DMX) : DMX := fun Wd E ds => t Wd { E with nx := u Wd E } ds
@[simp] def mPure (t : DM) : DMX := fun _ => t
@[simp] def mExprX (t : DTX) : DMX := fun Wd E ds => t Wd ds fun _ ds1 => E.nx ds1
@[simp] def mRetX (t : DTX) : DMX := fun Wd E ds => t Wd ds E.rt
@[simp] def mSetX (i : Nat) (t : DTX) : DMX := fun Wd E ds => t Wd ds fun h ds1 => sett h ds1 fun s ds2 => put i s ds2 E.nx
@[simp] def mIfX (c : DTT) (t u : DMX) : DMX := fun Wd E ds => c ds fun b ds1 => if b = true then t Wd E ds1 else u Wd E ds1
@[simp] def mRaiseP (nm : String) : DMX := fun Wd _ ds => Wd ⟨nm, none⟩ ds
@[simp] def mRaiseF (nm : String) (f : Str) (t : DT) : DMX := fun Wd _ ds => t ds fun h ds1 => take1 h ds1 fun d ds2 => Wd ⟨nm, some (f, d)⟩ ds2
section
variable {X : Cx} {K : PySem.W.Frag} {cm : String → Addr} {W : WX} {st : Stmt} {sts : List Stmt} {ts us : TS} {t u : DMX} {d : DM} {e c : Expr} {te : TE} {dt : DT} {dx : DTX} {tt : TT} {p : DTT} {pos pos' p2 p3 : Pos} {i j : Nat} {x f m : Str} {nm : String}
theorem dsx_pure (h : DSt X st ts d) : DStX X cm W st ts (mPure d) := ⟨h.ps, fun F σ H ds fp E D Wd r a k _ => h.ok F σ H ds fp E D r a k⟩
theorem dssx_pure (h : DSs X sts ts d) : DSsX X cm W sts ts (mPure d) := ⟨h.ps, fun F σ H ds fp E D Wd r a k _ => h.ok F σ H ds fp E D r a k⟩
/-- what raises nothing -/
theorem dssx_nox (h : DSs X.nox sts ts d) : DSsX X cm W sts ts (mPure d) := ⟨PSs.nox h.ps, fun F σ H ds fp E D Wd r a k _ => h.ok F σ H ds fp E D r a k⟩
theorem dssx_nil : DSsX X cm W [] tNext (mPure mNil) := dssx_pure dss_nil
theorem dssx_cons (h1 : DStX X cm W st ts t) (h2 : DSsX X cm W sts us u) : DSsX X cm W (st :: sts) (tSeq ts us) (mSeqX t u) := ⟨pss_cons h1.ps h2.ps, fun F σ H ds fp E D Wd r h k x =>
  h1.ok F σ H ds fp _ _ Wd r h ⟨fun σ' H' ds' F' fp' a r' g => h2.ok F' σ' H' ds' fp' E D Wd r' a (k.grow g) (x.grow g), k.rt, k.bk, k.ct⟩ x⟩
theorem dssx_one (h1 : DStX X cm W st ts t) : DSsX X cm W [st] ts t := ⟨pss_one h1.ps, h1.ok⟩
theorem dsx_expr (h : DOX X cm W e te dx) (hs : swapsWith e none pos.line X.env = pure false := by rfl) : DStX X cm W (.Expr e pos) (tDrop te) (mExprX dx) := ⟨ps_expr h.pe hs, fun F σ H ds fp E D Wd r a k x =>
  h.ok F _ σ H ds fp _ _ Wd r a x fun h ds' v H' F' fp' q b p => k.nx _ _ _ _ fp' b (p.rep.less fun _ z => .inl z) p.g⟩
theorem dsx_ret (h : DOX X cm W e te dx) : DStX X cm W (.Return (some e) pos) (tRet te) (mRetX dx) := ⟨ps_ret h.pe, fun F σ H ds fp E D Wd r a k x =>
  h.ok F _ σ H ds fp _ _ Wd r a x fun h ds' v H' F' fp' q b p => k.rt _ _ _ _ _ _ _ _ b p⟩
theorem dsx_set (hN : X.N.Nodup) (he : DOX X cm W e te dx) (hi : X.N[i]? = some x := by rfl) (hx : Loc X.env.scope x := by first | exact .inl rfl | exact .inr rfl) (hs : swapsWith e (some (.Name x pos')) pos.line X.env = pure false := by rfl) (hf : X.fn x = true ∨ X.env.scope.names.lookup x = some .local := by first | exact .inl rfl | exact .inr rfl | assumption) :
    DStX X cm W (.Assign [.Name x pos'] e pos) (tAsg te (gName i)) (mSetX i dx) := ⟨ps_set hN hi hx he.pe hs hf, fun F σ H ds fp E D Wd r h k xx => by
  refine he.ok F _ σ H ds fp _ _ Wd r h xx fun h ds' v H' F' fp' q b p => ?_
  obtain ⟨s, ds2, F2, fp2, q2, e2, r2, sub, g2, so⟩ := sett_ok p.rep p.qT p.r b
  obtain ⟨e3, fp3, r3⟩ := put_ok r2 (fun a z => p.qT a (sub a z)) so e2
  exact k.nx _ _ _ _ fp3 e3 r3 (p.g.trans g2)⟩
theorem dsx_if {a b : List Stmt} (hc : DB X c tt p) (ha : DSsX X cm W a ts t) (hb : DSsX X cm W b us u) : DStX X cm W (.If c a b pos) (tIfS tt ts us) (mIfX p t u) := ⟨ps_if hc.pt ha.ps hb.ps, fun F σ H ds fp E D Wd r h k x =>
  hc.ok F _ σ H ds fp _ _ r h fun b ds' H' F' fp' e r' g _ => by
    cases b with
    | true => exact ha.ok F' σ H' ds' fp' E D Wd r' e (k.grow g) (x.grow g)
    | false => exact hb.ok F' σ H' ds' fp' E D Wd r' e (k.grow g) (x.grow g)⟩
theorem dsx_raiseP (tk : Takes X W) (T : ExP X.K X.mg x (cm nm)) (hg : Gl X x) (hc : X.calm = true := by rfl) (hd : (x == ("__debug__" : Str)) = false := by decide) :
    DStX X cm W (.Raise (some (.Call (.Name x p2) [.Constant (.str m) j p3] [] pos)) none pos') (fun _ σ H => W (.ref (cm nm)) none σ H) (mRaiseP nm) :=
  ⟨ps_raise hc tk (pmk_own F.excBase_ValueError T.q T.g T.k (raises_own T.b T.t) hg hd), fun F σ H ds fp E D Wd r h k x => x _ ds σ H F fp _ _ h r .refl ⟨rfl, rfl⟩ fun _ z => by cases z⟩
theorem dsx_raiseF {fI : Addr} {k : Nat} (tk : Takes X W) (T : SUP.Txt X.prog X.K X.mg x f (cm nm) fI) (hf : SUP.FNm f) (hr : Room k X.A) (he : DO X e te dt) (hg : Gl X x) (hc : X.calm = true := by rfl) (hd : (x == ("__debug__" : Str)) = false := by decide)
    (hs : starEach (e :: []) X.env = (false, eval e X.env) :: starEach [] X.env := by rfl) (hpl : (backTo pos (starEach [] X.env)).any (·.1) = false := by rfl) :
    DStX X cm W (.Raise (some (.Call (.Name x p2) [e] [] pos)) none pos') (fun _ σ H => tMkSup (cm nm) f (tCons te tNil) σ H fun cls d H' => W cls d σ H') (mRaiseF nm f dt) :=
  ⟨ps_raise hc tk (pmk_sup T hf hr (pa_cons he.pe pa_nil hs) hg hd hs hpl), fun F σ H ds fp E D Wd r h k x => by
    refine he.ok F _ σ H ds fp _ _ r h fun h ds' v H' F' fp' q b p => ?_
    refine ⟨v, rfl, fun a na => ?_⟩
    obtain ⟨d, ds2, F2, fp2, b2, r2, g2, i2⟩ := take1_ok p.rep p.qT p.r b
    obtain ⟨r3, g3, _⟩ := r2.newT (o := .xd [(f, v)]) na trivial
    obtain ⟨nF, nT, nfp⟩ := r2.new_ne na
    exact x _ ds2 σ _ F2 fp2 _ _ b2 (r3.less fun a z => .inl z) ((p.g.trans g2).trans g3) ⟨rfl, a, v, rfl, nF, upd_same, i2.mono g3.same⟩ fun a' e i z => by cases e; exact nfp i z⟩
end
/-! ### a def that may raise -/
section
variable {P : Program} {w : World} {K : PySem.W.Frag} {mg : Str → Option Value} {base : Heap} {cm : String → Addr}
theorem dfunX {x qual : Str} {st : Stmt} {f : Addr} {fd : FuncData} {N ps : List Str} {k : Nat} {g : DFX} {tb : DMX} (F : Fun K x qual st f fd) (S : FnScope N ps (defScope st))
    (hd : ∀ (cdv : Value) (A : Around) (outer : List Env) (s : Shared) (H : Hp) (E : XK), Room k (A.deeper (envOfC qual (defScope st) s.heap.objs.size f cdv)) → Takes (cxOf (L2.CX P w) P w K mg base N qual (defScope st) f cdv A outer s H E) (fun cls d _ H' => E cls d H') →
      ∃ ts, DSsX (cxOf (L2.CX P w) P w K mg base N qual (defScope st) f cdv A outer s H E) cm (fun cls d _ H' => E cls d H') (defBody st) ts tb)
    (hr : ∀ dl Q QX, dl.length = ps.length → g dl Q QX → tb (fun e _ => QX e) (enF Q) (slots0 N.length dl)) : FnOk P w K mg base (L2.CX P w) (k + 1) f fd ps (spX K cm ps.length g) := by
  refine F.okX S (fun vs H Q E h => h.1) (fun cdv A outer s H vs Q E hroom h => ?_)
  obtain ⟨hn, F0, dl, ia, sa, W, WE, hg, hk, hx⟩ := h
  obtain ⟨ts, b⟩ := hd cdv A outer s H E hroom (takes_of rfl rfl rfl rfl)
  refine ⟨ts, b.ps, ?_⟩
  have hl : dl.length = ps.length := by rw [← ia.length]; exact hn
  have r := isA_rep sa ia (N.length - vs.length)
  have e1 : (dl.map .val ++ List.replicate (N.length - vs.length) .no : DS) = slots0 N.length dl := by unfold slots0; rw [ia.length]
  rw [e1] at r
  have r : Rep K F0 Ad.nil (start N vs) H (slots0 N.length dl) (fun _ => Ad.nil) := r
  refine b.ok F0 _ H _ _ _ _ _ r (hr dl W WE hl hg) ⟨fun σ' H' ds' F' fp' e r' g' => ?_, fun h ds' v σ' H' F' fp' q e p => ?_, fun _ _ _ _ _ e => e.elim, fun _ _ _ _ _ e => e.elim⟩ (fun e ds' σ' H' F' fp' cls dx he r' g' ex _ => hx e he H' cls dx F' g' r'.fd ex)
  · exact hk _ e H' .non F' Ad.nil g' r'.fd (fun _ z => z.elim) ⟨⟨_, rfl, .non⟩, fun _ z => z⟩
  · cases h with
    | tmp d => exact hk _ e H' v F' Ad.nil p.g p.rep.fd (fun _ z => z.elim) ⟨⟨_, rfl, p.r⟩, fun _ z => z⟩
    | new s => exact hk _ e H' v F' q p.g p.rep.fd (fun a z => ⟨p.rep.tF a (.inr z), p.rep.td a (.inr z)⟩) p.r
    | fld _ _ _ => exact False.elim e
    | slot i =>
      have e : retD (.slot i) ds' W := e
      have hv : σ'[i]? = some (some v) := p.r
      cases hs : ds'[i]? with
      | none => simp [retD, hs] at e
      | some s =>
        have z := p.rep.slot i s hs
        cases s with
        | val d =>
          simp [retD, hs] at e
          obtain ⟨⟨v', e1, i1⟩, _⟩ := z
          rw [hv] at e1; cases e1
          exact hk _ e H' v F' Ad.nil p.g p.rep.fd (fun _ z => z.elim) ⟨⟨_, rfl, i1⟩, fun _ z => z⟩
        | own xs =>
          simp [retD, hs] at e
          have z' := z
          obtain ⟨a, vs', e1, e2, e3, e4⟩ := z'
          rw [hv] at z
          exact hk _ e H' v F' (fp' i) p.g p.rep.fd (fun a z => ⟨p.rep.fF i a z, p.rep.fdom z⟩) z
        | no => simp [retD, hs] at e
        | dic _ => simp [retD, hs] at e
        | wd _ => simp [retD, hs] at e
        | ob _ => simp [retD, hs] at e
end
/-! ### try -/
theorem tr_K {X : Cx} {pn : List (Addr × Obj)} {xe : Value → Shared → Prop} : (X.tr pn xe).K = X.K := rfl
theorem dssx_as {X : Cx} {cm : String → Addr} {W : WX} {b : List Stmt} {ts ts' : TS} {t : DMX} (d : DSsX X cm W b ts t) (h : ts = ts') : DSsX X cm W b ts' t := h ▸ d

/-- the exception that a suite's name holds -/
def exW (K : PySem.W.Frag) (a dd : Addr) (f : Str) (d : D) : Wd where
  val := .ref a
  fp := fun x => x = dd
  ok := fun R H => ∃ v, H dd = some (.xd [(f, v)]) ∧ Is K R v d
  mono := fun s k ⟨v, e, i⟩ => ⟨v, by rw [k _ rfl]; exact e, i.mono s⟩
  dom := fun ⟨v, e, _⟩ z => by cases z; exact ⟨.xd [(f, v)], e, trivial⟩
inductive ClD where
  | plain (nm : String) (s : DM)
  | named (nm : String) (i : Nat) (f : Str) (s : Addr → Value → Option Addr → DM)
@[simp] def offD (E : En) (i : Nat) : En := { nx := fun ds => E.nx (ds.set i .no), rt := E.rt, bk := fun ds => E.bk (ds.set i .no), ct := fun ds => E.ct (ds.set i .no) }
@[simp] def handD (K : PySem.W.Frag) (cm : String → Addr) (sub : String → String → Bool) (e : ED) (E : En) (ds : DS) : List ClD → Prop
  | [] => False
  | .plain nm s :: r => if sub e.nm nm = true then s E ds else handD K cm sub e E ds r
  | .named nm i f s :: r => if sub e.nm nm = true then e.nm = nm ∧ i < ds.length ∧ ∃ d, e.fs = some (f, d) ∧ ∀ a dd, s a (.ref (cm nm)) (some dd) (offD E i) (ds.set i (.wd (exW K a dd f d))) else handD K cm sub e E ds r
@[simp] def mTry (K : PySem.W.Frag) (cm : String → Addr) (names : List String) (sub : String → String → Bool) (t : DMX) (cl : List ClD) : DM := fun E ds => t (fun e ds' => e.nm ∈ names ∧ handD K cm sub e E ds' cl) E ds
/-- the classes' order -/
def SubX (K : PySem.W.Frag) (cm : String → Addr) (names : List String) (sub : String → String → Bool) : Prop := ∀ a ∈ names, ∀ b ∈ names, PySem.W.exmOne K (.ref (cm a)) (.ref (cm b)) = some (sub a b)
inductive ClsOk (X : Cx) (cm : String → Addr) (names : List String) : List ExceptHandler → List Clx → List ClD → Prop
  | nil : ClsOk X cm names [] [] []
  | plain {x : Str} {nm : String} {ts : Addr → Value → Option Addr → TS} {s : DM} {st : Stmt} {sts : List Stmt} {np hp : Pos} {hds : List ExceptHandler} {l : List Clx} {cl : List ClD} (hn : nm ∈ names) (hc : Names X x (.ref (cm nm)))
      (hs : ∀ (a : Addr) (oe : Obj) (cls : Value) (d : Option Addr) (pn : List (Addr × Obj)), Zc cls d oe → (∃ vs, oe.data = .fields vs) → DSs (X.suite a ((a, oe) :: pn)) (st :: sts) (ts a cls d) s) (r : ClsOk X cm names hds l cl) :
      ClsOk X cm names (.ExceptHandler (some (.Name x np)) none (st :: sts) hp :: hds) ((.ref (cm nm), none, ts) :: l) (.plain nm s :: cl)
  | named {x n f : Str} {i : Nat} {nm : String} {ts : Addr → Value → Option Addr → TS} {s : Addr → Value → Option Addr → DM} {st : Stmt} {sts : List Stmt} {np hp : Pos} {hds : List ExceptHandler} {l : List Clx} {cl : List ClD} (hn : nm ∈ names) (hc : Names X x (.ref (cm nm))) (hi : X.N[i]? = some n) (hl : X.env.kindOf n = some .local)
      (hs : ∀ (a : Addr) (oe : Obj) (cls : Value) (d : Option Addr) (pn : List (Addr × Obj)), Zc cls d oe → (∃ vs, oe.data = .fields vs) → DSs (X.suite a ((a, oe) :: pn)) (st :: sts) (ts a cls d) (s a cls d)) (r : ClsOk X cm names hds l cl) :
      ClsOk X cm names (.ExceptHandler (some (.Name x np)) (some n) (st :: sts) hp :: hds) ((.ref (cm nm), some (i, n), ts) :: l) (.named nm i f s :: cl)
section
variable {X : Cx} {K : PySem.W.Frag} {cm : String → Addr} {names : List String} {sub : String → String → Bool} {body : List Stmt} {h₀ : ExceptHandler} {hds : List ExceptHandler} {l : List Clx} {cl : List ClD} {pos : Pos} {tb : WX → TS} {t : DMX}
theorem ClsOk.mix {hds : List ExceptHandler} {l : List Clx} {cl : List ClD} (h : ClsOk X cm names hds l cl) : MixOk X hds l := by
  induction h with
  | nil => exact .nil
  | plain hn hc hs r ih => exact .plain hc (fun a oe cls d pn z v => (hs a oe cls d pn z v).ps) ih
  | named hn hc hi hl hs r ih => exact .named hc hi hl (fun a oe cls d pn z v => (hs a oe cls d pn z v).ps) ih
theorem EndsOk.off {F F' : Ad} {H H' : Hp} {E : En} {D : Ends} (k : EndsOk K F H E D) (g : Grow F H F' H') (i : Nat) : EndsOk K F' H' (offD E i) (offE D i) :=
  ⟨fun σ2 H2 ds2 F2 fp2 e r g2 => k.nx _ _ _ _ _ e (r.unset i) (g.trans g2), (k.grow g).rt, fun σ2 H2 ds2 F2 fp2 e r g2 => k.bk _ _ _ _ _ e (r.unset i) (g.trans g2), fun σ2 H2 ds2 F2 fp2 e r g2 => k.ct _ _ _ _ _ e (r.unset i) (g.trans g2)⟩
theorem hand_ok (hsub : SubX X.K cm names sub) {F F' : Ad} {H H' : Hp} {E : En} {D : Ends} {σ' : Sl} {ds' : DS} {fp' : Nat → Ad} {e : ED} {cls : Value} {dx : Option Addr} (k : EndsOk X.K F H E D) (he : e.nm ∈ names) (r' : Rep X.K F' Ad.nil σ' H' ds' fp') (g : Grow F H F' H') (ex : ExcR X.K cm F' H' e cls dx) (nf : ∀ a, dx = some a → ∀ i, ¬ fp' i a)
    {hds : List ExceptHandler} {l : List Clx} {cl : List ClD} (h : ClsOk X cm names hds l cl) : handD X.K cm sub e E ds' cl → wMix X.K (fun _ _ _ _ => False) D l cls dx σ' H' := by
  obtain ⟨rfl, ex⟩ := ex
  have some_oe : ∀ (a : Addr), ∃ oe : Obj, Zc (.ref (cm e.nm)) dx oe ∧ ∃ vs, oe.data = .fields vs := fun a => ⟨⟨.ref (cm e.nm), dx, .fields #[], #[]⟩, ⟨rfl, rfl⟩, _, rfl⟩
  induction h with
  | nil => exact fun z => z
  | @plain x nm ts s st sts np hp hds l cl hn hc hs r ih =>
    intro h
    refine ⟨_, hsub _ he _ hn, fun hb a na => ?_, fun hb => ?_⟩
    · simp only [handD] at h
      rw [if_pos hb] at h
      obtain ⟨oe, z1, z2⟩ := some_oe a
      exact (hs a oe _ dx [] z1 z2).ok F' σ' H' ds' fp' E D r' h (k.grow g)
    · simp only [handD] at h
      rw [if_neg (by rw [hb]; exact Bool.false_ne_true)] at h
      exact ih h
  | @named x n f i nm ts s st sts np hp hds l cl hn hc hi hl hs r ih =>
    intro h
    refine ⟨_, hsub _ he _ hn, fun hb a na => ?_, fun hb => ?_⟩
    · simp only [handD] at h
      rw [if_pos hb] at h
      obtain ⟨en, il, d, ef, h⟩ := h
      rw [ef] at ex
      obtain ⟨dd, v, rfl, nF, hd, iv⟩ := ex
      obtain ⟨oe, z1, z2⟩ := some_oe a
      have h2 := h a dd
      rw [← en] at h2
      have rT : Rep X.K F' (Ad.nil.or fun x => x = dd) σ' H' ds' fp' := ⟨r'.len, r'.slot, r'.out, r'.fF, fun i a z y => y.elim (fun y => y.elim) fun y => nf dd rfl i (y ▸ z), r'.sep, fun a y => y.elim (fun y => y.elim) fun y f => nF (y ▸ f), r'.fd, fun a y => y.elim (fun y => y.elim) fun y => ⟨HO.xd [(f, v)], y ▸ hd, trivial⟩⟩
      have r2 := rT.put (i := i) (v := .ref a) (s := .wd (exW X.K a dd f d)) (fun _ _ z => z) ⟨rfl, fun _ => Iff.rfl, v, hd, iv⟩ il
      exact (hs a oe _ (some dd) [] z1 z2).ok F' _ H' _ _ (offD E i) (offE D i) r2 h2 (k.off g i)
    · simp only [handD] at h
      rw [if_neg (by rw [hb]; exact Bool.false_ne_true)] at h
      exact ih h
theorem ds_try (hsub : SubX X.K cm names sub) (hN : X.N.Nodup) (hb : ∀ (W : WX) (pn : List (Addr × Obj)) (xe : Value → Shared → Prop), Takes (X.tr pn xe) W → PassesOwn (model X.prog X.w) X.A X.env xe → DSsX (X.tr pn xe) cm W body (tb W) t) (hh : ClsOk X cm names (h₀ :: hds) l cl)
    (hst : X.stack = X.env :: X.outer := by rfl) (hfr : X.env.frame = some X.env.locals := by rfl) : DSt X (.Try body (h₀ :: hds) [] [] pos) (fun D σ H => tb (wMix X.K (fun _ _ _ _ => False) D l) D σ H) (mTry X.K cm names sub t cl) :=
  ⟨ps_try_mix hst hfr hN takes_none5 (fun W pn xe tk po => (hb W pn xe tk po).ps) hh.mix, fun F σ H ds fp E D r h k => by
    let xe0 : Value → Shared → Prop := fun e s₁ => wpAny (model X.prog X.w) X.A (noteFrame e X.env) (fun _ s₂ => wpAny (model X.prog X.w) X.A (setFlight e none) (fun _ _ => True) (fun _ _ => True) s₂) (fun _ _ => True) s₁
    have tk : Takes (X.tr [] xe0) (wMix X.K (fun _ _ _ _ => False) D l) := fun u s' xx => by
      obtain ⟨a, B, sI, pins', σ', H', cls, d, rfl, J', nb, up, sky, na, os, ag, w⟩ := xx
      have frames : X.A.frames = some (X.env :: X.outer) := by
        have z : X.A.frames = some X.stack := J'.ok.frames
        rw [z, hst]
      have sky2 : Sky B (X.env :: X.outer) a (Zc cls d) X.env.locals s'.heap := by rw [← hst]; exact sky
      exact Sky.land Zc.steady frames hfr sky2 fun _ _ _ => trivial
    refine (hb _ [] xe0 tk PassesOwn.looking).ok F σ H ds fp E D _ r h k fun e ds' σ' H' F' fp' cls dx he r' g ex nf => ?_
    exact hand_ok hsub k he.1 r' g ex nf hh he.2⟩
end
end DL

/-! DL: exceptions: a caught one's field; calls by keywords that may raise. -/
namespace DL
open PySem PySem.Spec PyProof.Rows L2
/-- n.f in a suite, n the name that holds the exception at a -/
@[simp] def dXf (K : PySem.W.Frag) (i : Nat) (f : Str) (C a : Addr) (cls : Value) (d : Option Addr) : DT := fun ds Q => ∃ dd dat, cls = .ref C ∧ d = some dd ∧ ds[i]? = some (.wd (exW K a dd f dat)) ∧ Q (.tmp dat) ds
section
variable {X : Cx} {K : PySem.W.Frag} {cm : String → Addr} {W : WX} {y f : Str} {i : Nat} {C a : Addr} {oe : Obj} {cls : Value} {d : Option Addr} {pn : List (Addr × Obj)} {py pos : Pos}
theorem do_xf (T : XfC X.K C) (hno : PySem.W.findIn X.K (.ref C) f = some none) (hz : Zc cls d oe) (hf : ∃ vs, oe.data = .fields vs) (hN : X.N[i]? = some y := by rfl) (hv : Vis X.env.scope y := by first | exact Or.inl rfl | exact Or.inr (Or.inl rfl) | exact Or.inr (Or.inr rfl))
    (hd : (y == ("__debug__" : Str)) = false := by decide) (hcd : (y == ("__classdict__" : Str)) = false := by decide) (hb : attributeBase (.Name y py) f X.env (eval (.Name y py) X.env) = eval (.Name y py) X.env := by rfl) :
    DO (X.suite a ((a, oe) :: pn)) (.Attribute (.Name y py) f pos) (tXf a cls d C f (tVar i)) (dXf X.K i f C a cls d) :=
  ⟨pe_xf T hno hz hf (pe_var (X := X.suite a ((a, oe) :: pn)) hN hv hd hcd) hb, fun F T σ H ds fp Q R r h k => by
    obtain ⟨dd, dat, rfl, rfl, hs, q⟩ := h
    obtain ⟨jv, jf, v, e, iv⟩ := r.slot i _ hs
    exact ⟨_, jv, rfl, rfl, dd, _, v, rfl, e, List.lookup_cons_self, k _ _ _ _ _ _ _ q (.here r iv)⟩⟩
end
@[simp] def dCallKX (ix : List Nat) (g : DFX) (t : DTA) : DTX := fun Wd ds Q => t ds fun hs ds1 => takes hs ds1 fun dl ds2 => g (pick ix dl) (fun r => Q (hdOf r) ds2) fun e => Wd e ds2
section
variable {X : Cx} {K : PySem.W.Frag} {cm : String → Addr} {W : WX} {ta : TA} {t : DTA} {n k : Nat} {g : DFX} {f : Addr} {fd : FuncData} {ps ks : List Str} {x : Str} {p pos : Pos} {kws : List Keyword} {ix : List Nat}
def tCallKwX (sp : Sp) (W : WX) (ix : List Nat) (n : Nat) (ta : TA) : TE := fun σ H Q => ta σ H fun zs H2 => zs.length = n ∧ sp (pick ix zs) H2 Q (WE W σ)
theorem do_callKX (tk : Takes X W) (F : FnOk X.prog X.w K X.mg X.base (L2.CX X.prog X.w) k f fd ps (spX K cm n g)) (hr : Room k X.A) (hg : Gl X x) (hm : X.mg x = some (.ref f)) (hk : PySem.W.keepIn X.K (.ref f) = true) (hb : KPerm X.K fd ps ks ix) (hn : ps.length = n)
    (ha : DK X kws ta t) (hK : X.K = K := by rfl) (hkn : ks.length = n := by rfl) (hks : (backToKw pos (keywordEach kws X.env)).filterMap (·.1) = ks := by rfl) (hkl : kws.length = ks.length := by rfl) (hall : (backToKw pos (keywordEach kws X.env)).all (·.1.isSome) = true := by rfl)
    (hdb : (x == ("__debug__" : Str)) = false := by decide)
    (hpl : ((backTo pos (starEach [] X.env)).any (·.1) || (backToKw pos (keywordEach kws X.env)).any (·.1.isNone)) = false := by rfl) :
    DOX X cm W (.Call (.Name x p) [] kws pos) (tCallKwX (frmX (spX K cm n g)) W ix n ta) (dCallKX ix g t) := by
  subst hK
  refine ⟨?_, ?_⟩
  refine ⟨fun pins s σ H Q I h => ?_⟩
  refine wpAny_Call_Name_kw (ld_glob I hg hm ?_ hdb)
  refine PySem.W.callWith_KW0 (h₀ := X.base) I.ok.mod.kin hk hall (thn (ha.pk.run pos pins s σ H _ I h) fun ws s1 ⟨zs, H1, I1, rz, hz, q⟩ => ⟨I1.kIn, ?_⟩) hpl
  rw [hks]
  have hl : ws.length = ks.length := by rw [← rz.length, hkn]; exact hz
  have lt : ∀ i ∈ ix, i < ws.length := fun i hi => by rw [hl]; exact hb.lt i hi
  refine wpAny_call (codeAny_mono ((frame_fnX F).run X.A X.stack s1 H1 ⟨[], ks.zip ws⟩ (pick ix ws) (pick ix zs) Q (WE W σ) hr I1.env0 (hb.to s1 ws I1.kIn hl) (pick_vals rz lt) q) fun r s' hq => ?_)
  cases r with
  | error e => exact passAt tk σ _ _ _ _ _ I1 hq
  | ok fl =>
    cases fl with
    | ret u => exact I1.after hq
    | next => exact False.elim hq
    | brk => exact False.elim hq
    | cont => exact False.elim hq
  intro F' T σ H ds fp Q R Wd rp e x k
  refine ha.ok F' T σ H ds fp _ _ rp e fun hs ds1 vs H1 F1 fp1 q1 k1 p1 l1 => ?_
  obtain ⟨dl, ds2, F2, fp2, e2, r2, g2, i2⟩ := takes_ok p1.r .refl p1.rep p1.qT k1
  have lt : ∀ i ∈ ix, i < dl.length := fun i hi => by rw [← i2.length, l1, hkl]; exact hb.lt i hi
  refine ⟨(l1.trans hkl).trans hkn, call_coreX (cm := cm) (QX := fun e => Wd e ds2) r2 (pick_is i2 lt) ?_ e2 (fun h v H' F' q qh p => k _ _ _ _ _ _ _ qh (p.pre (p1.g.trans g2) p1.t)) fun e cls dx H' F' he r3 g3 ex nf => x e ds2 σ H' F' fp2 cls dx he (r3.less fun a z => z.elim) ((p1.g.trans g2).trans g3) ex nf⟩
  rw [pick_len (by rw [i2.length]; exact lt), hb.len, hn]
end
end DL

/-! DL: tuple * int, str(int). -/
namespace DL
open PySem PySem.Spec PyProof.Rows L2
section
variable {K : PySem.W.Frag}
@[simp] def dRepT : D2
  | .tuple xs, .int n, Q => (xs ≠ [] ∧ 2 ≤ n ∧ n ≤ 1000 ∧ xs.length ≤ 1000) ∧ Q (.tmp (.tuple (List.replicate n.toNat xs).flatten))
  | _, _, _ => False
theorem rok_repT : ROk K (rRepT K) dRepT := by
  intro F T σ H ds fp x y d e Q R r px py h k
  cases d <;> cases e <;> first | exact False.elim h | skip
  rename_i xs n
  obtain ⟨⟨h1, h2, h3, h4⟩, h5⟩ := h
  obtain ⟨a, vs, rfl, ht, iv, _⟩ := px.tuple
  rw [py.int]
  refine ⟨a, n, vs, rfl, rfl, ht, fun z => h1 (by
    have := iv.length
    rw [z] at this
    exact List.length_eq_zero_iff.mp this.symm), h2, h3, by rw [iv.length]; exact h4, fun p hp => ?_⟩
  exact k _ _ _ _ _ h5 (Pst.tuple r (iv.rep _) hp)
@[simp] def bStr : DN
  | [.int i], Q => i.natAbs.log2 < 1920 ∧ Q (.tmp (.str (toString i)))
  | _, _ => False
theorem cok_str : COk K (fun xs H Q => ∃ i, xs = [.int i] ∧ i.natAbs.log2 < 1920 ∧ Q (.str (toString i)) H) bStr := fun F T σ H ds fp vs dl Q R r p h k => by
  match dl, p, h with
  | [.int i], p, h =>
    obtain ⟨v, rfl, pv⟩ := one_of p rfl
    rw [pv.int]
    exact ⟨i, rfl, h.1, k _ _ _ _ _ h.2 (.here r (.str _))⟩
end
end DL

/-! DL: exceptions: one class's match with another. -/
namespace DL
open PySem PySem.Spec PyProof.Rows L2
theorem exm_of2 {K : PySem.W.Frag} {a b : Addr} {r s : Bool} (h1 : PySem.W.subIn K (.ref b) (.type "BaseException") = some true) (h2 : PySem.W.isClsIn K b = true) (h3 : PySem.W.typeIn K (.ref b) = some (.type "type")) (h4 : PySem.W.subIn K (.ref a) (.ref b) = some r) (e : r = s) :
    PySem.W.exmOne K (.ref a) (.ref b) = some s := by
  subst e
  have e1 : (PySem.W.subIn K (.ref b) (.type "BaseException") == some true) = true := by rw [h1] <;> rfl
  have e2 : ((PySem.W.clsIn K b).isSome && PySem.W.typeIn K (.ref b) == some (.type "type")) = true := by
    have h2' : (PySem.W.clsIn K b).isSome = true := h2
    rw [h2', h3] <;> rfl
  show (if (PySem.W.subIn K (.ref b) (.type "BaseException") == some true) = true then (if ((PySem.W.clsIn K b).isSome && PySem.W.typeIn K (.ref b) == some (.type "type")) = true then PySem.W.subIn K (.ref a) (.ref b) else none) else none) = some r
  rw [if_pos e1, if_pos e2]
  exact h4
end DL

/-! k01: the spring, sameness, letters and words. -/
namespace K01
open PySem PySem.Spec PyProof.Rows L2 BK EX
open DL hiding g_is_between tb_is_between rd_is_between
theorem seq_cut {a b : DM} {E : En} {ds : DS} (M : DS → Prop) (h1 : ∀ k : DS → Prop, (∀ ds1, M ds1 → k ds1) → a { E with nx := k } ds) (h2 : ∀ ds1, M ds1 → b E ds1) : mSeq a b E ds := h1 _ h2
abbrev g__law_spring : DF := gLake
abbrev g__law_drop : DFW := gScoop
def lb__law_spring_1 : DM := (mSet 2 (d2 dMod (dB bInt (aCons (d2 dAdd (d2 dAdd (d2 dMulA (dVar 2) (dC (.int 982451653))) (d2 dMulA (dVar 3) (dC (.int 49979687)))) (dC (.int 32452843))) aNil)) (dC (.int 2305843009213693951))))
def cc__law_spring_1 : DTT := (bT (d2 dGe (dVar 3) (d2 dPow (dC (.int 10)) (dC (.int 18)))))
def ce__law_spring_1 : DT := (d2 dSub (dVar 3) (d2 dPow (dC (.int 10)) (dC (.int 18))))
def tb__law_spring : DM := (mSeq (mSet 1 (dComp (iSeq (dVar 0)) (gNm 3) cc__law_spring_1 ce__law_spring_1 [3]))
    (mSeq (mSet 2 (d2 dAdd (dC (.int 15485863)) (d2 dMulA (dC (.int 2)) (dB bLen (aCons (dVar 0) aNil)))))
    (mSeq (mFor (iSeq (dVar 0)) (gNm 3) lb__law_spring_1)
    (mRet (dLake 1 (aCons (dVar 2) (aCons (dC (.int 0)) aNil)))))))
theorem rd__law_spring : ∀ dl Q, dl.length = 1 → g__law_spring dl Q → tb__law_spring (enF Q) (slots0 4 dl) := by
  rintro dl Q - ⟨ns, rfl, hl, h⟩
  unfold tb__law_spring
  have ll := le_line (n := ns.length) (by omega)
  have e18 : (10 : Int) ^ (18 : Int).toNat = 1000000000000000000 := rfl
  have comp : ∀ (zs : List Int) (acc : List D) (s0 s1 s2 : SD) (P : List D → DS → Prop), (∀ cells : List Int, (∀ x ∈ cells, 0 ≤ x) → cells.length ≤ zs.length → P (acc ++ cells.map .int) [s0, s1, s2, .no]) →
      compD (gNm 3) cc__law_spring_1 ce__law_spring_1 [3] (zs.map .int) acc [s0, s1, s2, .no] P := by
    intro zs
    induction zs with
    | nil => intro acc s0 s1 s2 P h; simpa [compD] using h [] (by simp) (by simp)
    | cons z zs ih =>
      intro acc s0 s1 s2 P h
      by_cases hz : 1000000000000000000 ≤ z
      · simp [compD, cc__law_spring_1, ce__law_spring_1, cpow18, e18, hz]
        refine ih _ s0 s1 s2 P fun cells h1 h2 => ?_
        have := h ((z - 1000000000000000000) :: cells) (by
          intro x hx
          rcases List.mem_cons.mp hx with rfl | hx
          · omega
          · exact h1 x hx) (by simp; omega)
        simpa using this
      · simp [compD, cc__law_spring_1, cpow18, e18, hz]
        exact ih _ s0 s1 s2 P fun cells h1 h2 => h cells h1 (by simp; omega)
  refine (show mSeq _ _ _ _ from ?_)
  have ml : MulOk 2 ns.length := MulOk.l ⟨by decide, by decide⟩
  simp only [mSeq, mSet, dComp, iSeq, dVar, slots0]
  simp [ll]
  refine comp ns [] _ _ _ _ fun cells hc hcl => ?_
  simp [ll, ml]
  have loop : ∀ (zs : List Int) (st : Int) (s3 : SD) (E : En), 0 ≤ st ∧ st < 2 ^ 61 → (∀ st s3, 0 ≤ st ∧ st < 2 ^ 61 → E.nx [.val (.list (ns.map .int)), .own (cells.map .int), .val (.int st), s3]) →
      loopD (gNm 3) lb__law_spring_1 (zs.map .int) E [.val (.list (ns.map .int)), .own (cells.map .int), .val (.int st), s3] := by
    intro zs
    induction zs with
    | nil => intro st s3 E hs k; simpa [loopD] using k st s3 hs
    | cons z zs ih =>
      intro st s3 E hs k
      have m1 : MulOk st 982451653 := MulOk.r ⟨by decide, by decide⟩
      have m2 : MulOk z 49979687 := MulOk.r ⟨by decide, by decide⟩
      simp only [List.map_cons, loopD, gNm, put]
      simp [lb__law_spring_1, m1, m2]
      have f0 := Int.fmod_nonneg_of_pos (st * 982451653 + z * 49979687 + 32452843) (b := 2305843009213693951) (by decide)
      have f1 := Int.fmod_lt_of_pos (st * 982451653 + z * 49979687 + 32452843) (b := 2305843009213693951) (by decide)
      have := ih ((st * 982451653 + z * 49979687 + 32452843).fmod 2305843009213693951) (.val (.int z)) E ⟨f0, by omega⟩ k
      simpa [lb__law_spring_1] using this
  refine loop ns _ _ _ ⟨by omega, by omega⟩ fun st s3 hs => ?_
  simp
  exact ⟨⟨cells, rfl, hc, by omega⟩, ⟨hs.1, hs.2⟩, h⟩
end K01

/-! k01: letters, words. -/
namespace K01
open PySem PySem.Spec PyProof.Rows L2 BK EX
open DL hiding g_is_between tb_is_between rd_is_between
theorem alpha_cps : (Str.ofString "abcdefghijklmnopqrstuvwxyz").cps = ((List.range 26).map (97 + ·)).toArray := by rw [Str.ofString_eq_toList]; rfl
theorem alpha_len : (Str.ofString "abcdefghijklmnopqrstuvwxyz").length ≤ sizeLine := by
  unfold Str.length
  rw [alpha_cps]
  exact le_line (n := 26) (by omega)
theorem alpha_at {k : Nat} (h : k < 26) : atI (Str.ofString "abcdefghijklmnopqrstuvwxyz").cps.toList (k : Int) = some (97 + k) := by
  rw [alpha_cps]
  exact atI_nat (by simp [h])
def one (c : Nat) : Str := ⟨#[c]⟩
theorem join_ones : ∀ cs : List Nat, (Str.join (Str.ofString "") (cs.map one)).cps = cs.toArray
  | [] => rfl
  | [c] => rfl
  | c :: d :: cs => by
    have ih := join_ones (d :: cs)
    have e : (Str.ofString "").cps = #[] := by rw [Str.ofString_eq_toList]; rfl
    show (#[c] ++ (Str.ofString "").cps ++ (Str.join (Str.ofString "") ((d :: cs).map one)).cps) = _
    rw [ih, e]
    simp
def wordC (cs : List Nat) : Str := ⟨cs.toArray⟩
theorem wordC_ok {cs : List Nat} (h1 : 1 ≤ cs.length ∧ cs.length ≤ 10) (h2 : ∀ c ∈ cs, lowB c = true) : wordB (.str (wordC cs)) = true := by
  have e : (wordC cs).length = cs.length := rfl
  simp only [wordB, e, Bool.and_eq_true, decide_eq_true_eq]
  exact ⟨h1, List.all_eq_true.mpr fun c hc => h2 c (by simpa [wordC] using hc)⟩
def g__law_word : DFW := fun w dl P => ∃ p c, w = lakeB p c ∧ dl = [] ∧ ∀ cs : List Nat, (cs.length = 1 ∨ cs.length = 2 ∨ cs.length = 3 ∨ cs.length = 10) → (∀ c ∈ cs, lowB c = true) → P (.val (.str (wordC cs))) (lakeB p c)
def ce__law_word_1 : DT := (d2 dIx (dC (.str "abcdefghijklmnopqrstuvwxyz")) (dCallW 0 g__law_drop (aCons (dC (.int 26)) aNil)))
def tb__law_word : DM := (mSeq (mSet 1 (d2 dIx (dLst (aCons (dC (.int 1)) (aCons (dC (.int 2)) (aCons (dC (.int 3)) (aCons (dC (.int 10)) aNil))))) (dCallW 0 g__law_drop (aCons (dC (.int 4)) aNil))))
    (mRet (dJoin "" (dComp (iR1 (dVar 1)) (gNm 2) cYes ce__law_word_1 [2]))))
theorem letters_comp {p c : Addr} {s1 : SD} (P : List D → DS → Prop) : ∀ (items acc : List D), (∀ cs : List Nat, cs.length = items.length → (∀ c ∈ cs, lowB c = true) → P (acc ++ cs.map fun c => .str (one c)) [.wd (lakeB p c), s1, .no]) →
    compD (gNm 2) cYes ce__law_word_1 [2] items acc [.wd (lakeB p c), s1, .no] P
  | [], acc, h => by simpa [compD] using h [] rfl (by simp)
  | d :: items, acc, h => by
    simp [compD, ce__law_word_1]
    refine at_scoop (by decide) (by decide) fun r r0 r1 => ?_
    obtain ⟨k, rfl⟩ : ∃ k : Nat, r = k := ⟨r.toNat, by omega⟩
    have a := alpha_at (k := k) (by omega)
    simp [alpha_len, a]
    refine letters_comp P items _ fun cs e hl => ?_
    have := h ((97 + k) :: cs) (by simp [e]) (by
      intro x hx
      rcases List.mem_cons.mp hx with rfl | hx
      · exact decide_eq_true (by omega)
      · exact hl x hx)
    simpa [one] using this
theorem sum_ones (cs : List Nat) : ((cs.map one).map (·.length)).sum = cs.length := by
  induction cs with
  | nil => rfl
  | cons c cs ih =>
    have e : (one c).length = 1 := rfl
    simp only [List.map_cons, List.sum_cons, ih, e, List.length_cons]; omega
theorem rd__law_word : ∀ w dl Q, dl.length = 0 → g__law_word w dl Q → tb__law_word (enW w Q) (slotsW 3 w dl) := by
  rintro w dl Q - ⟨p, c, rfl, rfl, h⟩
  unfold tb__law_word
  refine seq_cut (fun ds => ∃ m : Int, (m = 1 ∨ m = 2 ∨ m = 3 ∨ m = 10) ∧ ds = [.wd (lakeB p c), .val (.int m), .no]) (fun k hk => ?_) ?_
  · simp
    refine at_scoop (by decide) (by decide) fun r r0 r1 => ?_
    obtain ⟨v, e, hm⟩ := atI_at (xs := [PyData.int 1, .int 2, .int 3, .int 10]) r0 (by simpa using r1)
    simp [e]
    simp at hm
    rcases hm with rfl | rfl | rfl | rfl <;> exact hk _ ⟨_, by simp, rfl⟩
  rintro _ ⟨m, hm, rfl⟩
  have l10 := le_line (n := 10) (by omega)
  have ll : m ≤ (sizeLine : Int) := by omega
  have lr : (rngD 0 m.toNat).length ≤ sizeLine := by simp [rngD]; omega
  simp only [mRet, dJoin, dComp, iR1, dVar]
  simp [lr]
  refine ⟨by omega, letters_comp _ _ _ fun cs hc hl => ?_⟩
  simp [rngD] at hc
  have e1 : ((cs.map fun c => PyData.str (one c))) = (cs.map one).map .str := by simp [Function.comp_def]
  have e2 : Txt.join (Str.ofString "") (cs.map one) = wordC cs := by
    have := join_ones cs
    rw [TL.join_eq]
    show (⟨(Str.join (Str.ofString "") (cs.map one)).cps⟩ : Str) = wordC cs
    rw [this]; rfl
  have e3 : (Str.ofString "").length = 0 := by
    unfold Str.length
    rw [Str.ofString_eq_toList]; rfl
  simp
  refine ⟨cs.map one, by simp [Function.comp_def], ?_, ?_⟩
  · rw [e3]
    rw [sum_ones cs]
    omega
  · rw [e2]
    exact h cs (by omega) hl
end K01

/-! k01: unlike words. -/
namespace K01
open PySem PySem.Spec PyProof.Rows L2 BK EX
open DL hiding g_is_between tb_is_between rd_is_between
theorem wordC_inj {a b : List Nat} (h : wordC a = wordC b) : a = b := by
  have := congrArg (fun z : Str => z.cps.toList) h
  simpa [wordC] using this
theorem mem_wordC {cs : List Nat} {css : List (List Nat)} : wordC cs ∈ css.map wordC ↔ cs ∈ css := by
  constructor
  · intro h
    obtain ⟨b, hb, e⟩ := List.mem_map.mp h
    exact wordC_inj e ▸ hb
  · exact fun h => List.mem_map.mpr ⟨cs, h, rfl⟩
theorem in_strs (neg : Bool) (z : Str) (L : List Str) {Q : Hd → Prop} (q : Q (.tmp (.bool (if neg then !decide (z ∈ L) else decide (z ∈ L))))) : dIn neg (.str z) (.list (L.map .str)) Q := by
  have e : inD (.str z) (L.map .str) = decide (z ∈ L) := by
    rw [Bool.eq_iff_iff]
    simp only [inD, List.any_eq_true, List.mem_map, decide_eq_true_eq]
    constructor
    · rintro ⟨_, ⟨m, hm, rfl⟩, hc⟩
      simp [PyData.eqv] at hc
      exact hc ▸ hm
    · exact fun h => ⟨_, ⟨z, h, rfl⟩, by simp [PyData.eqv]⟩
  refine ⟨rfl, ?_, ?_⟩
  · simp only [List.all_eq_true, List.mem_map]
    rintro _ ⟨m, _, rfl⟩; rfl
  · rw [e]; exact q
def wordsD (css : List (List Nat)) : List D := (css.map wordC).map .str
theorem wordsD_len (css : List (List Nat)) : (wordsD css).length = css.length := by simp [wordsD]
theorem wordsD_add (css : List (List Nat)) (cs : List Nat) : wordsD css ++ [.str (wordC cs)] = wordsD (css ++ [cs]) := by simp [wordsD]
theorem in_words (neg : Bool) (cs : List Nat) (css : List (List Nat)) {Q : Hd → Prop} (q : Q (.tmp (.bool (if neg then !decide (cs ∈ css) else decide (cs ∈ css))))) : dIn neg (.str (wordC cs)) (.list (wordsD css)) Q := by
  refine in_strs neg _ _ ?_
  have e : decide (wordC cs ∈ css.map wordC) = decide (cs ∈ css) := by rw [decide_eq_decide]; exact mem_wordC
  rw [e]; exact q
def repC (n c : Nat) : List Nat := List.replicate n c
theorem rep10 (c : Nat) : repS (one c) 10 = wordC (repC 10 c) := rfl
theorem rep9 (c : Nat) : repS (one c) 9 = wordC (repC 9 c) := rfl
theorem cut10 (cs : List Nat) (c : Nat) : cutS (wordC cs ++ wordC (repC 10 c)) none (some 10) = wordC ((cs ++ repC 10 c).take 10) := by
  unfold repC
  have e : (wordC cs ++ wordC (List.replicate 10 c) : Str).cps.toList = cs ++ List.replicate 10 c := by
    show ((cs.toArray ++ (List.replicate 10 c).toArray)).toList = _
    simp
  have hl : (wordC cs ++ wordC (List.replicate 10 c) : Str).length = cs.length + 10 := by
    have := congrArg List.length e
    simpa [Str.length] using this
  unfold cutS
  rw [e, hl]
  have h1 : HT.sIx (cs.length + 10) 0 none = 0 := rfl
  have h2 : HT.sIx (cs.length + 10) (cs.length + 10) (some 10) = 10 := by
    simp [HT.sIx]
    try omega
  rw [h1, h2]
  rfl
structure WsOk (k : Nat) (css : List (List Nat)) : Prop where
  n : css.length = k
  d : css.Nodup
  l : ∀ cs ∈ css, (1 ≤ cs.length ∧ cs.length ≤ 10) ∧ ∀ c ∈ cs, lowB c = true
  f : ∀ cs ∈ css, cs.length = 9 → ∃ j, j < k ∧ cs = List.replicate 9 (122 - j)
theorem WsOk.add {k : Nat} {css : List (List Nat)} {cs : List Nat} (w : WsOk k css) (h1 : 1 ≤ cs.length ∧ cs.length ≤ 10) (h2 : ∀ c ∈ cs, lowB c = true) (hn : cs ∉ css) (h9 : cs.length = 9 → cs = List.replicate 9 (122 - k)) : WsOk (k + 1) (css ++ [cs]) := by
  refine ⟨by simp [w.n], ?_, fun x hx => ?_, fun x hx hl => ?_⟩
  · refine List.nodup_append.mpr ⟨w.d, by simp, ?_⟩
    rintro a ha b hb rfl
    rw [List.mem_singleton.mp hb] at ha
    exact hn ha
  · rcases List.mem_append.mp hx with hx | hx
    · exact w.l x hx
    · rw [List.mem_singleton.mp hx]; exact ⟨h1, h2⟩
  · rcases List.mem_append.mp hx with hx | hx
    · obtain ⟨j, hj, e⟩ := w.f x hx hl
      exact ⟨j, by omega, e⟩
    · rw [List.mem_singleton.mp hx] at hl ⊢
      exact ⟨k, by omega, h9 hl⟩
def g__law_words : DFW := fun w dl P => ∃ (p c : Addr) (many : Nat), w = lakeB p c ∧ dl = [.int many] ∧ many ≤ 6 ∧ ∀ zs : List Str, zs.length = many → zs.Nodup → (∀ z ∈ zs, wordB (.str z) = true) → P (.val (.tuple (zs.map .str))) (lakeB p c)
def lb__law_words_1 : DM := (mSeq (mSet 4 (dCallW 0 g__law_word aNil))
    (mSeq (mIf (bT (d2 (dIn false) (dVar 4) (dVar 2))) (mSet 4 (dSl (d2 dAdd (dVar 4) (d2 dMulA (d2 dIx (dC (.str "abcdef")) (dVar 3)) (dC (.int 10)))) pNone (pSome (dC (.int 10))))) mNil)
    (mApp 2 (dIf (bT (d2 (dIn true) (dVar 4) (dVar 2))) (dVar 4) (d2 dMulA (d2 dIx (dC (.str "zyxwvu")) (dVar 3)) (dC (.int 9)))))))
def tb__law_words : DM := (mSeq (mSet 2 (dLst aNil))
    (mSeq (mFor (iR1 (dVar 1)) (gNm 3) lb__law_words_1)
    (mRet (dB bTuple (aCons (dVar 2) aNil)))))

theorem abc_at {k : Nat} (h : k < 6) : (Str.ofString "abcdef").length ≤ sizeLine ∧ atI (Str.ofString "abcdef").cps.toList (k : Int) = some (97 + k) ∧ (Str.ofString "zyxwvu").length ≤ sizeLine ∧ atI (Str.ofString "zyxwvu").cps.toList (k : Int) = some (122 - k) := by
  have e1 : (Str.ofString "abcdef").cps = #[97, 98, 99, 100, 101, 102] := by rw [Str.ofString_eq_toList]; rfl
  have e2 : (Str.ofString "zyxwvu").cps = #[122, 121, 120, 119, 118, 117] := by rw [Str.ofString_eq_toList]; rfl
  have l6 := le_line (n := 6) (by omega)
  have : k = 0 ∨ k = 1 ∨ k = 2 ∨ k = 3 ∨ k = 4 ∨ k = 5 := by omega
  refine ⟨by unfold Str.length; rw [e1]; exact l6, ?_, by unfold Str.length; rw [e2]; exact l6, ?_⟩
  · rw [e1]; refine atI_nat ?_
    rcases this with rfl | rfl | rfl | rfl | rfl | rfl <;> rfl
  · rw [e2]; refine atI_nat ?_
    rcases this with rfl | rfl | rfl | rfl | rfl | rfl <;> rfl
theorem words_step {p c : Addr} {m : D} {k : Nat} {css : List (List Nat)} {s4 : SD} {E : En} (w : WsOk k css) (hk : k < 6) (h : ∀ css s4, WsOk (k + 1) css → E.nx [.wd (lakeB p c), .val m, .own (wordsD css), .val (.int k), s4]) : lb__law_words_1 E [.wd (lakeB p c), .val m, .own (wordsD css), .val (.int k), s4] := by
  unfold lb__law_words_1
  obtain ⟨a1, a2, a3, a4⟩ := abc_at hk
  have l20 := le_line (n := 20) (by omega)
  -- the drawn word
  refine seq_cut (fun ds => ∃ cs : List Nat, (cs.length = 1 ∨ cs.length = 2 ∨ cs.length = 3 ∨ cs.length = 10) ∧ (∀ c ∈ cs, lowB c = true) ∧ ds = [.wd (lakeB p c), .val m, .own (wordsD css), .val (.int k), .val (.str (wordC cs))]) (fun k' hk' => ?_) ?_
  · simp
    refine ⟨p, c, rfl, rfl, fun cs h1 h2 => ?_⟩
    simp
    simpa using hk' _ ⟨cs, h1, h2, rfl⟩
  rintro _ ⟨cs, hc, hl, rfl⟩
  -- made longer
  refine seq_cut (fun ds => ∃ cs : List Nat, (cs.length = 1 ∨ cs.length = 2 ∨ cs.length = 3 ∨ cs.length = 10) ∧ (∀ c ∈ cs, lowB c = true) ∧ ds = [.wd (lakeB p c), .val m, .own (wordsD css), .val (.int k), .val (.str (wordC cs))]) (fun k' hk' => ?_) ?_
  · by_cases hi : cs ∈ css
    · refine if_yes (fun Q q => ?_) ?_
      · simp only [bT, d2, dVar]
        simp
        refine in_words _ _ _ ?_
        simp [hi]
        simpa using q
      · have e1 : (wordC cs).length = cs.length := rfl
        have e2 : (⟨#[97 + k]⟩ : Str).length = 1 := rfl
        have e3 : repS ⟨#[97 + k]⟩ 10 = wordC (repC 10 (97 + k)) := rep10 (97 + k)
        have e4 : (wordC (repC 10 (97 + k))).length = 10 := rfl
        have e5 : (wordC cs ++ wordC (repC 10 (97 + k)) : Str).length ≤ sizeLine := by
          have : (wordC cs ++ wordC (repC 10 (97 + k)) : Str).length = cs.length + 10 := by
            show (cs.toArray ++ (repC 10 (97 + k)).toArray).size = _
            simp [repC]
          rw [this]; omega
        simp [a1, a2, e2, e3, e4, e1, e5, cut10]
        refine ⟨by omega, hk' _ ⟨_, ?_, ?_, rfl⟩⟩
        · right; right; right
          simp [repC]
        · intro x hx
          have hx := List.mem_of_mem_take hx
          rcases List.mem_append.mp hx with hx | hx
          · exact hl x hx
          · rw [(List.mem_replicate.mp hx).2]; exact decide_eq_true (by omega)
    · refine if_no (fun Q q => ?_) ?_
      · simp
        refine in_words _ _ _ ?_
        simp [hi]
        simpa using q
      · exact hk' _ ⟨cs, hc, hl, rfl⟩
  clear hc hl
  rintro _ ⟨cs, hc, hl, rfl⟩
  have lw : (wordsD css).length < sizeLine := by rw [wordsD_len, w.n]; omega
  by_cases hi : cs ∈ css
  · have e3 : repS ⟨#[122 - k]⟩ 9 = wordC (repC 9 (122 - k)) := rep9 (122 - k)
    have e2 : (⟨#[122 - k]⟩ : Str).length = 1 := rfl
    have fresh : repC 9 (122 - k) ∉ css := fun hx => by
      obtain ⟨j, hj, e⟩ := w.f _ hx (by simp [repC])
      have := congrArg (fun l : List Nat => l.head?) e
      simp [repC] at this
      omega
    have := h _ (.val (.str (wordC cs))) (w.add (cs := repC 9 (122 - k)) (by simp [repC]) (fun x hx => by rw [(List.mem_replicate.mp hx).2]; exact decide_eq_true (by omega)) fresh fun _ => rfl)
    rw [← wordsD_add] at this
    simp
    refine in_words _ _ _ ?_
    simp [hi, a3, a4, e2, e3, lw]
    exact this
  · have := h _ (.val (.str (wordC cs))) (w.add (cs := cs) (by omega) hl hi fun h9 => by omega)
    rw [← wordsD_add] at this
    simp
    refine in_words _ _ _ ?_
    simp [hi, lw]
    exact this
theorem words_loop {p c : Addr} {m : D} {E : En} {n : Nat} (hn : n ≤ 6) (h : ∀ css s3 s4, WsOk n css → E.nx [.wd (lakeB p c), .val m, .own (wordsD css), s3, s4]) : ∀ (j k : Nat) (css : List (List Nat)) (s3 s4 : SD), k + j = n → WsOk k css →
    loopD (gNm 3) lb__law_words_1 ((List.range' k j).map fun i : Nat => .int (i : Int)) E [.wd (lakeB p c), .val m, .own (wordsD css), s3, s4]
  | 0, k, css, s3, s4, hj, w => by
    have e : k = n := by omega
    subst e
    exact h css s3 s4 w
  | j + 1, k, css, s3, s4, hj, w => by
    rw [List.range'_succ, List.map_cons]
    simp only [loopD, gNm, put]
    simp
    refine words_step w (by omega) fun css s4 w2 => ?_
    exact words_loop hn h j (k + 1) css _ s4 (by omega) w2
theorem rng_eq (n : Nat) : rngD 0 n = (List.range' 0 n).map fun i : Nat => .int (i : Int) := by
  unfold rngD
  rw [List.range_eq_range']
  refine List.map_congr_left fun i _ => ?_
  rw [Int.zero_add]
theorem rd__law_words : ∀ w dl Q, dl.length = 1 → g__law_words w dl Q → tb__law_words (enW w Q) (slotsW 5 w dl) := by
  rintro w dl Q - ⟨p, c, many, rfl, rfl, hm, h⟩
  unfold tb__law_words
  refine seq1 [.wd (lakeB p c), .val (.int many), .own (wordsD []), .no, .no] (fun k q => by simpa [wordsD] using q) ?_
  simp only [mSeq, mFor, iR1]
  simp [rng_eq]
  refine ⟨by omega, words_loop hm (fun css s3 s4 w => ?_) many 0 [] _ _ (by omega) ⟨rfl, List.nodup_nil, fun _ h => by simp at h, fun _ h => by simp at h⟩⟩
  have l6 := le_line (n := 6) (by omega)
  have ll : (wordsD css).length ≤ sizeLine := by rw [wordsD_len, w.n]; omega
  simp [ll]
  refine h (css.map wordC) (by simp [w.n]) ?_ (fun z hz => ?_)
  · exact List.pairwise_map.mpr (List.Pairwise.imp (fun h e => h (wordC_inj e)) w.d)
  · obtain ⟨cs, hc, rfl⟩ := List.mem_map.mp hz
    obtain ⟨h1, h2⟩ := w.l cs hc
    exact wordC_ok h1 h2
end K01

/-! k01: drawn kinds and inputs. -/
namespace K01
open PySem PySem.Spec PyProof.Rows L2 BK EX
open DL hiding g_is_between tb_is_between rd_is_between
def g__law_kind : DFW := fun w dl P => ∃ (p c : Addr) (wide : Int), w = lakeB p c ∧ dl = [.int wide] ∧ (1 ≤ wide ∧ wide ≤ 3000000) ∧ ∀ k : Knd, KndOk k → P (.val k.d) (lakeB p c)
def tb__law_kind : DM := (mSeq (mSet 2 (dCallW 0 g__law_drop (aCons (dC (.int 4)) aNil)))
    (mSeq (mIf (bT (d2 dEq (dVar 2) (dC (.int 0)))) (mRet (dTup (aCons (dC (.str "truth")) aNil))) mNil)
    (mSeq (mIf (bT (d2 dEq (dVar 2) (dC (.int 1)))) (mRet (dTup (aCons (dC (.str "pick")) (aCons (dCallW 0 g__law_words (aCons (d2 dAdd (dC (.int 1)) (dCallW 0 g__law_drop (aCons (dB bMin (aCons (dC (.int 6)) (aCons (dVar 1) aNil))) aNil))) aNil)) aNil)))) mNil)
    (mSeq (mSet 3 (d2 dIx (dLst (aCons (d2 dSub (dCallW 0 g__law_drop (aCons (dC (.int 21)) aNil)) (dC (.int 10))) (aCons (d2 dSub (dCallW 0 g__law_drop (aCons (dC (.int 2000001)) aNil)) (dC (.int 1000000))) (aCons (d1 dNeg (dC (.int 1000000))) (aCons (dC (.int 0)) aNil))))) (dCallW 0 g__law_drop (aCons (dC (.int 4)) aNil))))
    (mSeq (mSet 4 (d2 dIx (dLst (aCons (dCallW 0 g__law_drop (aCons (dVar 1) aNil)) (aCons (d2 dSub (dVar 1) (dC (.int 1))) (aCons (dC (.int 0)) aNil)))) (dCallW 0 g__law_drop (aCons (dC (.int 3)) aNil))))
    (mRet (dTup (aCons (dC (.str "int")) (aCons (dVar 3) (aCons (dB bMin (aCons (dC (.int 1000000)) (aCons (d2 dAdd (dVar 3) (dVar 4)) aNil))) aNil))))))))))
theorem rd__law_kind : ∀ w dl Q, dl.length = 1 → g__law_kind w dl Q → tb__law_kind (enW w Q) (slotsW 5 w dl) := by
  rintro w dl Q - ⟨p, c, wide, rfl, rfl, hw, h⟩
  unfold tb__law_kind
  refine seq_cut (fun ds => ∃ r : Int, 0 ≤ r ∧ r < 4 ∧ ds = [.wd (lakeB p c), .val (.int wide), .val (.int r), .no, .no]) (fun k hk => ?_) ?_
  · simp
    refine at_scoop (by decide) (by decide) fun r r0 r1 => ?_
    simp
    exact hk _ ⟨r, r0, r1, rfl⟩
  rintro _ ⟨r, r0, r1, rfl⟩
  by_cases e0 : r = 0
  · refine seq_yes (fun Q q => by simp [e0]; simpa [e0] using q) ?_
    simpa [Knd.d] using h .truth trivial
  refine seq_no (fun Q q => by simpa [e0] using q) ?_
  by_cases e1 : r = 1
  · refine seq_yes (fun Q q => by simp [e1]; simpa [e1] using q) ?_
    simp
    refine at_scoop (by omega) (by omega) fun s s0 s1 => ?_
    simp
    obtain ⟨n, rfl⟩ : ∃ n : Nat, s = n := ⟨s.toNat, by omega⟩
    refine ⟨p, c, n + 1, rfl, by simp; omega, by omega, fun zs z1 z2 z3 => ?_⟩
    simp
    have := h (.pick zs) ⟨by omega, z3, z2⟩
    simpa [Knd.d] using this
  refine seq_no (fun Q q => by simpa [e1] using q) ?_
  refine seq_cut (fun ds => ∃ low : Int, -1000000 ≤ low ∧ low ≤ 1000000 ∧ ds = [.wd (lakeB p c), .val (.int wide), .val (.int r), .val (.int low), .no]) (fun k hk => ?_) ?_
  · simp
    refine at_scoop (by decide) (by decide) fun a a0 a1 => ?_
    simp
    refine at_scoop (by decide) (by decide) fun b b0 b1 => ?_
    simp
    refine at_scoop (by decide) (by decide) fun d d0 d1 => ?_
    obtain ⟨v, e, hm⟩ := atI_at (xs := [PyData.int (a - 10), .int (b - 1000000), .int (-1000000), .int 0]) d0 (by simpa using d1)
    simp [e]
    simp at hm
    rcases hm with rfl | rfl | rfl | rfl <;> exact hk _ ⟨_, by omega, by omega, rfl⟩
  rintro _ ⟨low, l0, l1, rfl⟩
  refine seq_cut (fun ds => ∃ far : Int, 0 ≤ far ∧ ds = [.wd (lakeB p c), .val (.int wide), .val (.int r), .val (.int low), .val (.int far)]) (fun k hk => ?_) ?_
  · simp
    refine at_scoop (by omega) (by omega) fun a a0 a1 => ?_
    simp
    refine at_scoop (by decide) (by decide) fun d d0 d1 => ?_
    obtain ⟨v, e, hm⟩ := atI_at (xs := [PyData.int a, .int (wide - 1), .int 0]) d0 (by simpa using d1)
    simp [e]
    simp at hm
    rcases hm with rfl | rfl | rfl <;> exact hk _ ⟨_, by omega, rfl⟩
  rintro _ ⟨far, f0, rfl⟩
  have := h (.int low (min 1000000 (low + far))) ⟨l0, by omega, by omega⟩
  simpa [Knd.d] using this
def g__law_inputs : DFW := fun w dl P => ∃ (p c : Addr) (most wide : Int), w = lakeB p c ∧ dl = [.int most, .int wide] ∧ (1 ≤ most ∧ most ≤ 6) ∧ (1 ≤ wide ∧ wide ≤ 3000000) ∧ ∀ ins : Ins, InsR ins → (ins.length : Int) ≤ most → P (.val (insD ins)) (lakeB p c)
def ce__law_inputs_1 : DT := (dTup (aCons (d2 dIx (dVar 4) (dVar 5)) (aCons (dCallW 0 g__law_kind (aCons (dVar 2) aNil)) aNil)))
def tb__law_inputs : DM := (mSeq (mSet 3 (d2 dAdd (dC (.int 1)) (dCallW 0 g__law_drop (aCons (dVar 1) aNil))))
    (mSeq (mSet 4 (dCallW 0 g__law_words (aCons (dVar 3) aNil)))
    (mRet (dB bTuple (aCons (dComp (iR1 (dVar 3)) (gNm 5) cYes ce__law_inputs_1 [5]) aNil)))))
theorem ins_comp {p c : Addr} {wide : Int} {s1 s3 : SD} {zs : List Str} (hw : 1 ≤ wide ∧ wide ≤ 3000000) (P : List D → DS → Prop) : ∀ (j k : Nat) (acc : List D), k + j = zs.length → (∀ ks : List Knd, ks.length = j → (∀ k ∈ ks, KndOk k) → P (acc ++ ((zs.drop k).zip ks).map fun p => .tuple [.str p.1, p.2.d]) [.wd (lakeB p c), s1, .val (.int wide), s3, .val (.tuple (zs.map .str)), .no]) →
    compD (gNm 5) cYes ce__law_inputs_1 [5] ((List.range' k j).map fun i : Nat => .int (i : Int)) acc [.wd (lakeB p c), s1, .val (.int wide), s3, .val (.tuple (zs.map .str)), .no] P
  | 0, k, acc, hk, h => by
    have := h [] rfl (by simp)
    simpa [compD] using this
  | j + 1, k, acc, hk, h => by
    have hk2 : k < zs.length := by omega
    have a : atI (zs.map PyData.str) (k : Int) = some (.str zs[k]) := atI_nat (by simp [hk2])
    rw [List.range'_succ, List.map_cons]
    simp [compD, ce__law_inputs_1, a]
    refine ⟨p, c, wide, rfl, rfl, hw, fun kd hkd => ?_⟩
    simp
    refine ins_comp hw P j (k + 1) _ (by omega) fun ks e hl => ?_
    have := h (kd :: ks) (by simp [e]) (by
      intro x hx
      rcases List.mem_cons.mp hx with rfl | hx
      · exact hkd
      · exact hl x hx)
    rw [List.drop_eq_getElem_cons hk2, List.zip_cons_cons, List.map_cons] at this
    simpa using this
theorem rd__law_inputs : ∀ w dl Q, dl.length = 2 → g__law_inputs w dl Q → tb__law_inputs (enW w Q) (slotsW 6 w dl) := by
  rintro w dl Q - ⟨p, c, most, wide, rfl, rfl, hm, hw, h⟩
  unfold tb__law_inputs
  refine seq_cut (fun ds => ∃ n : Nat, (1 ≤ n ∧ (n : Int) ≤ most) ∧ ds = [.wd (lakeB p c), .val (.int most), .val (.int wide), .val (.int n), .no, .no]) (fun k hk => ?_) ?_
  · simp
    refine at_scoop (by omega) (by omega) fun r r0 r1 => ?_
    simp
    obtain ⟨n, rfl⟩ : ∃ n : Nat, r = n := ⟨r.toNat, by omega⟩
    have e : (1 : Int) + n = ((n + 1 : Nat) : Int) := by omega
    rw [e]
    exact hk _ ⟨n + 1, by omega, rfl⟩
  rintro _ ⟨n, hn, rfl⟩
  refine seq_cut (fun ds => ∃ zs : List Str, zs.length = n ∧ zs.Nodup ∧ (∀ z ∈ zs, wordB (.str z) = true) ∧ ds = [.wd (lakeB p c), .val (.int most), .val (.int wide), .val (.int n), .val (.tuple (zs.map .str)), .no]) (fun k hk => ?_) ?_
  · simp
    refine ⟨p, c, n, rfl, rfl, by omega, fun zs z1 z2 z3 => ?_⟩
    simp
    exact hk _ ⟨zs, z1, z2, z3, rfl⟩
  rintro _ ⟨zs, z1, z2, z3, rfl⟩
  have l6 := le_line (n := 6) (by omega)
  have ll : n ≤ sizeLine := by omega
  simp only [mRet, dB, aCons, dComp, iR1, dVar, aNil]
  simp [rng_eq, ll]
  refine ⟨by omega, ins_comp hw _ n 0 [] (by omega) fun ks e hk => ?_⟩
  have el : (zs.zip ks).length = n := by simp [z1, e]
  simp [z1, e, ll]
  have := h (zs.zip ks) ⟨by omega, by rw [List.map_fst_zip (by omega)]; exact z2, fun q hq => ⟨z3 _ (List.of_mem_zip hq).1, hk _ (List.of_mem_zip hq).2⟩⟩ (by rw [el]; exact hn.2)
  simpa [insD] using this
end K01

/-! k01: the checks; which value of a file is wrong. -/
namespace K01
open PySem PySem.Spec PyProof.Rows L2 BK EX
open DL hiding g_is_between tb_is_between rd_is_between
def xI : ED := ⟨"InvalidInputs", none⟩
def xC : ED := ⟨"InvalidCount", none⟩
def xF (k : Int) : ED := ⟨"InvalidFile", some ("index", .int k)⟩
def countB : D → Bool
  | .int n => decide (0 ≤ n)
  | _ => false
def g_check_count : DFX := fun dl P PE => ∃ d, dl = [d] ∧ (countB d = true → P (.val .none)) ∧ (countB d = false → PE xC)
def tb_check_count : DMX := (mIfX (bOr (bNot (bT (dCall g_is_integer (aCons (dVar 0) aNil)))) (bT (d2 dLt (dVar 0) (dC (.int 0))))) (mRaiseP "InvalidCount") (mPure mNil))
theorem rd_check_count : ∀ dl Q QX, dl.length = 1 → g_check_count dl Q QX → tb_check_count (fun e _ => QX e) (enF Q) (slots0 1 dl) := by
  rintro dl Q QX - ⟨d, rfl, h1, h2⟩
  unfold xC at h2
  cases d with
  | int n =>
    by_cases e : n < 0
    · have e' : ¬ 0 ≤ n := by omega
      simpa [tb_check_count, countB, e, e'] using h2
    · have e' : 0 ≤ n := by omega
      simpa [tb_check_count, countB, e, e'] using h1
  | _ => simpa [tb_check_count, countB] using h2
def g_check_inputs : DFX := fun dl P PE => ∃ d, dl = [d] ∧ fitI d ∧ (inputsB d = true → P (.val .none)) ∧ (inputsB d = false → PE xI)
def tb_check_inputs : DMX := (mIfX (bNot (bT (dCall g_is_inputs (aCons (dVar 0) aNil)))) (mRaiseP "InvalidInputs") (mPure mNil))
theorem rd_check_inputs : ∀ dl Q QX, dl.length = 1 → g_check_inputs dl Q QX → tb_check_inputs (fun e _ => QX e) (enF Q) (slots0 1 dl) := by
  rintro dl Q QX - ⟨d, rfl, hf, h1, h2⟩
  unfold xI at h2
  cases e : inputsB d with
  | true => simpa [tb_check_inputs, hf, e] using h1 e
  | false => simpa [tb_check_inputs, hf, e] using h2 e
/-! a value of a kind -/
def ofB : Knd → D → Bool
  | .truth, d => isT "bool" d
  | k, d => betw k.lo k.hi d
def g_is_of : DF := fun dl P => ∃ (k : Knd) (d : D), dl = [k.d, d] ∧ P (.val (.bool (ofB k d)))
theorem at_is_of {k : Knd} {d : D} {P : SD → Prop} (h : P (.val (.bool (ofB k d)))) : g_is_of [k.d, d] P := ⟨k, d, rfl, h⟩
def tb_is_of : DM := (mSeq (mIf (bT (d2 dEq (d2 dIx (dVar 0) (dC (.int 0))) (dC (.str "truth")))) (mRet (dIsi "bool" (dVar 1))) mNil)
    (mSeq (mUnp (dCall g_ends_of (aCons (dVar 0) aNil)) (gTp 2 (gsCons (gNm 2) (gsCons (gNm 3) gsNil))))
    (mRet (dCall g_is_between (aCons (dVar 2) (aCons (dVar 1) (aCons (dVar 3) aNil)))))))
theorem n_pt : ¬ ("pick" : Str) = "truth" := by decide +kernel
theorem n_it : ¬ ("int" : Str) = "truth" := by decide +kernel
theorem n_ti : ¬ ("truth" : Str) = "int" := by decide +kernel
theorem n_pi : ¬ ("pick" : Str) = "int" := by decide +kernel
theorem rd_is_of : ∀ dl Q, dl.length = 2 → g_is_of dl Q → tb_is_of (enF Q) (slots0 4 dl) := by
  rintro dl Q - ⟨k, d, rfl, h⟩
  cases k with
  | truth => simpa [tb_is_of, Knd.d, ofB] using h
  | int lo hi =>
    refine seq_no (fun Q q => by simpa [Knd.d, n_it] using q) ?_
    simp
    refine at_ends_of ?_
    simp
    simpa [ofB] using h
  | pick ws =>
    refine seq_no (fun Q q => by simpa [Knd.d, n_pt] using q) ?_
    simp
    refine at_ends_of ?_
    simp
    simpa [ofB] using h
/-! which values are wrong -/
def wrongs : Nat → Ins → List D → List Int
  | _, [], _ => []
  | _, _, [] => []
  | k, p :: r, v :: vs => if ofB p.2 v = true then wrongs (k + 1) r vs else (k : Int) :: wrongs (k + 1) r vs
def faultI (ins : Ins) : D → Option Int
  | .tuple vs => if vs.length = ins.length then (wrongs 0 ins vs).head? else some 0
  | _ => some 0
def faultD (ins : Ins) (d : D) : D := match faultI ins d with
  | none => .none
  | some k => .int k
def g_fault_in : DF := fun dl P => ∃ (ins : Ins) (d : D), dl = [insD ins, d] ∧ ins.length ≤ 6 ∧ P (.val (faultD ins d))
def cc_fault_in_1 : DTT := (bNot (bT (dCall g_is_of (aCons (d2 dIx (dVar 4) (dC (.int 1))) (aCons (d2 dIx (dVar 1) (dVar 3)) aNil)))))
def ce_fault_in_1 : DT := (dVar 3)
def tb_fault_in : DM := (mSeq (mIf (bNot (bT (dCall g_is_tuple_of (aCons (dB bLen (aCons (dVar 0) aNil)) (aCons (dVar 1) aNil))))) (mRet (dC (.int 0))) mNil)
    (mSeq (mSet 2 (dComp (iEn (dVar 0)) (gTp 2 (gsCons (gNm 3) (gsCons (gNm 4) gsNil))) cc_fault_in_1 ce_fault_in_1 [3, 4]))
    (mRet (dIf (bT (d2 dNe (dVar 2) (dLst aNil))) (d2 dIx (dVar 2) (dC (.int 0))) (dC .none)))))
theorem wrongs_comp {s0 s2 : SD} {vs : List D} (P : List D → DS → Prop) : ∀ (ins : Ins) (k : Nat) (ws : List D) (acc : List D), vs.drop k = ws → ws.length = ins.length → P (acc ++ (wrongs k ins ws).map .int) [s0, .val (.tuple vs), s2, .no, .no] →
    compD (gTp 2 (gsCons (gNm 3) (gsCons (gNm 4) gsNil))) cc_fault_in_1 ce_fault_in_1 [3, 4] (enumF k (ins.map fun p => .tuple [.str p.1, p.2.d])) acc [s0, .val (.tuple vs), s2, .no, .no] P
  | [], k, ws, acc, _, _, h => by
    have : wrongs k [] ws = [] := by cases ws <;> rfl
    rw [this] at h
    simpa [compD, enumF] using h
  | p :: ins, k, [], acc, _, hl, h => by simp at hl
  | p :: ins, k, v :: ws, acc, hd, hl, h => by
    have hk : k < vs.length := by
      have := congrArg List.length hd
      simp at this; omega
    have hv : vs[k]? = some v := by
      have := congrArg (fun l : List D => l[0]?) hd
      simpa using this
    have a : atI vs (k : Int) = some v := atI_nat hv
    have hd2 : vs.drop (k + 1) = ws := by
      have := congrArg List.tail hd
      simpa using this
    simp [compD, enumF, cc_fault_in_1, a]
    refine at_is_of ?_
    by_cases ho : ofB p.2 v = true
    · have e : wrongs k (p :: ins) (v :: ws) = wrongs (k + 1) ins ws := by simp [wrongs, ho]
      rw [e] at h
      simp [ho]
      exact wrongs_comp P ins (k + 1) ws acc hd2 (by simpa using hl) h
    · have e : wrongs k (p :: ins) (v :: ws) = (k : Int) :: wrongs (k + 1) ins ws := by simp [wrongs, ho]
      rw [e] at h
      simp [ho, ce_fault_in_1]
      exact wrongs_comp P ins (k + 1) ws _ hd2 (by simpa using hl) (by simpa using h)
theorem tupN_ins {n : Nat} {d : D} (h : tupN n d = true) : ∃ vs, d = .tuple vs ∧ vs.length = n := by
  cases d with
  | tuple vs =>
    have h' : (vs.length : Int) = n := by simpa using h
    exact ⟨vs, rfl, by omega⟩
  | _ => simp at h
theorem rd_fault_in : ∀ dl Q, dl.length = 2 → g_fault_in dl Q → tb_fault_in (enF Q) (slots0 5 dl) := by
  rintro dl Q - ⟨ins, d, rfl, hl, h⟩
  have l6 := le_line (n := 6) (by omega)
  have li : (ins.map fun p => PyData.tuple [.str p.1, p.2.d]).length ≤ sizeLine := by simp; omega
  have no : (∀ vs, d = .tuple vs → vs.length ≠ ins.length) → faultD ins d = .int 0 := fun z => by
    cases d with
    | tuple vs => simp [faultD, faultI, z vs rfl]
    | _ => rfl
  cases ht : tupN ins.length d with
  | false =>
    have e := no fun vs e1 e2 => by subst e1; simp [e2] at ht
    rw [e] at h
    have li2 : ins.length ≤ sizeLine := by omega
    unfold tb_fault_in insD
    refine seq_yes (fun Q q => ?_) ?_
    · simp [li2, ht]
      simpa using q
    · simpa using h
  | true =>
    obtain ⟨vs, rfl, hv⟩ := tupN_ins ht
    have li2 : ins.length ≤ sizeLine := by omega
    unfold tb_fault_in insD
    refine seq_no (fun Q q => ?_) ?_
    · simp [li2, ht, hv]
      simpa using q
    refine seq1 [.val (.tuple (ins.map fun p => .tuple [.str p.1, p.2.d])), .val (.tuple vs), .own ((wrongs 0 ins vs).map .int), .no, .no] (fun k q => ?_) ?_
    · simp [enumD]
      refine ⟨by rw [enumF_len]; simpa using li2, wrongs_comp _ ins 0 vs [] (by simp) (by omega) ?_⟩
      simpa using q
    have e1 : faultD ins (.tuple vs) = (match (wrongs 0 ins vs).head? with | none => .none | some k => .int k) := by simp [faultD, faultI, hv]
    rw [e1] at h
    cases hw : wrongs 0 ins vs with
    | nil =>
      rw [hw] at h
      have sh : SeqAt.shaped (.list ([] : List D)) = true := rfl
      simp [eqv_nil, sh]
      simpa using h
    | cons z zs =>
      rw [hw] at h
      have sh : SeqAt.shaped (.list (((z :: zs).map PyData.int))) = true := (Shp.ints (z :: zs)).shaped
      have sh0 : SeqAt.shaped (.list ([] : List D)) = true := rfl
      have a0 : atI (PyData.int z :: zs.map .int) 0 = some (.int z) := atI_nat (j := 0) rfl
      simp only [List.map_cons] at sh
      simp [eqv_nil, sh, sh0, a0]
      simpa using h
def g_check_file : DFX := fun dl P PE => ∃ (ins : Ins) (d : D), dl = [insD ins, d] ∧ ins.length ≤ 6 ∧ (faultI ins d = none → P (.val .none)) ∧ (∀ k, faultI ins d = some k → PE (xF k))
def tb_check_file : DMX := (mSeqX (mPure (mSet 2 (dCall g_fault_in (aCons (dVar 0) (aCons (dVar 1) aNil)))))
    (mIfX (bT (d2 (dIsN true) (dVar 2) (dC .none))) (mRaiseF "InvalidFile" "index" (dVar 2)) (mPure mNil)))
theorem rd_check_file : ∀ dl Q QX, dl.length = 2 → g_check_file dl Q QX → tb_check_file (fun e _ => QX e) (enF Q) (slots0 3 dl) := by
  rintro dl Q QX - ⟨ins, d, rfl, hl, h1, h2⟩
  unfold tb_check_file
  simp
  refine ⟨ins, d, rfl, hl, ?_⟩
  cases e : faultI ins d with
  | none => simpa [faultD, e] using h1 e
  | some k => simpa [faultD, e, xF] using h2 k e
end K01

/-! k01: file_at and number_of of any data. -/
namespace K01
open PySem PySem.Spec PyProof.Rows L2 BK EX
open DL hiding g_is_between tb_is_between rd_is_between
def okFs : Ins → List D → Prop
  | [], [] => True
  | p :: r, v :: vs => ofB p.2 v = true ∧ okFs r vs
  | _, _ => False
theorem okFs_len : ∀ {ins : Ins} {vs : List D}, okFs ins vs → vs.length = ins.length
  | [], [], _ => rfl
  | _ :: r, _ :: vs, h => by simp [okFs_len h.2]
  | [], _ :: _, h => h.elim
  | _ :: _, [], h => h.elim
theorem okFs_wrongs : ∀ {ins : Ins} {vs : List D} (k : Nat), okFs ins vs → wrongs k ins vs = []
  | [], [], _, _ => rfl
  | _ :: r, _ :: vs, k, h => by simp [wrongs, h.1, okFs_wrongs (k + 1) h.2]
  | [], _ :: _, _, h => h.elim
  | _ :: _, [], _, h => h.elim
theorem wrongs_ok : ∀ {ins : Ins} {vs : List D} (k : Nat), vs.length = ins.length → wrongs k ins vs = [] → okFs ins vs
  | [], [], _, _, _ => trivial
  | p :: r, v :: vs, k, hl, h => by
    by_cases ho : ofB p.2 v = true
    · exact ⟨ho, wrongs_ok (k + 1) (by simpa using hl) (by simpa [wrongs, ho] using h)⟩
    · simp [wrongs, ho] at h
  | [], _ :: _, _, hl, _ => by simp at hl
  | _ :: _, [], _, hl, _ => by simp at hl
theorem fault_none {ins : Ins} {d : D} (h : faultI ins d = none) : ∃ vs, d = .tuple vs ∧ okFs ins vs := by
  cases d with
  | tuple vs =>
    by_cases hl : vs.length = ins.length
    · have e : (wrongs 0 ins vs).head? = none := by simpa [faultI, hl] using h
      exact ⟨vs, rfl, wrongs_ok 0 hl (List.head?_eq_none_iff.mp e)⟩
    · simp [faultI, hl] at h
  | _ => simp [faultI] at h
theorem okFs_fault {ins : Ins} {vs : List D} (h : okFs ins vs) : faultI ins (.tuple vs) = none := by simp [faultI, okFs_len h, okFs_wrongs 0 h]
/-! file_at -/
def g_file_at : DFX := fun dl P PE => ∃ d n, dl = [d, n] ∧ fitI d ∧ ((inputsB d = false ∧ PE xI) ∨ ∃ ins : Ins, d = insD ins ∧ okIns ins ∧ (countB n = false → PE xC) ∧ (countB n = true → ∀ r : D, P (.val r)))
def lb_file_at_1 : DM := (mSeq (mSet 5 (d2 dMod (dVar 1) (dCall g_width_of (aCons (dVar 4) aNil))))
    (mSeq (mSet 1 (d2 dFdiv (dVar 1) (dCall g_width_of (aCons (dVar 4) aNil))))
    (mApp 2 (dIf (bT (d2 dEq (d2 dIx (dVar 4) (dC (.int 0))) (dC (.str "truth")))) (d2 dEq (dVar 5) (dC (.int 1))) (d2 dAdd (d2 dIx (dCall g_ends_of (aCons (dVar 4) aNil)) (dC (.int 0))) (dVar 5))))))
def tb_file_at : DMX := (mSeqX (mExprX (dCallX g_check_inputs (aCons (dVar 0) aNil)))
    (mSeqX (mExprX (dCallX g_check_count (aCons (dVar 1) aNil)))
    (mPure (mSeq (mSet 2 (dLst aNil))
    (mSeq (mFor (iRevD (dVar 0)) (gTp 2 (gsCons (gNm 3) (gsCons (gNm 4) gsNil))) lb_file_at_1)
    (mRet (dIf (bT (d2 dEq (dVar 1) (dC (.int 0)))) (dTupRev (dVar 2)) (dC .none))))))))
theorem file_at_loop {ins : Ins} {m : Int} {E : En} (h4 : ∀ p ∈ ins, p.2.fit) (hl : ins.length ≤ 6) (m0 : 0 ≤ m) (h : ∀ (m : Int) (fs : List D) (a b c : SD), fs.length ≤ 6 → E.nx [.val (insD ins), .val (.int m), .own fs, a, b, c]) :
    loopD (gTp 2 (gsCons (gNm 3) (gsCons (gNm 4) gsNil))) lb_file_at_1 (ins.map fun p => PyData.tuple [.str p.1, p.2.d]).reverse E [.val (insD ins), .val (.int m), .own [], .no, .no, .no] := by
  refine loopD_ind (fun r ds => ∃ (rest : Ins) (fs : List D) (m : Int) (a b c : SD), (∀ p ∈ rest, p.2.fit) ∧ rest.length + fs.length ≤ 6 ∧ r = rest.map (fun p => PyData.tuple [.str p.1, p.2.d]) ∧ 0 ≤ m ∧ ds = [.val (insD ins), .val (.int m), .own fs, a, b, c]) ?_ ?_ _ _ ⟨ins.reverse, [], m, _, _, _, fun p hp => h4 p (List.mem_reverse.mp hp), by simpa using hl, by simp, m0, rfl⟩
  · rintro ds ⟨rest, fs, m, a, b, c, hf, hl, er, m0, rfl⟩
    exact h m fs a b c (by omega)
  · rintro d r ds L hL ⟨rest, fs, m, a, b, c, hf, hl, er, m0, rfl⟩
    cases rest with
    | nil => cases er
    | cons p rest =>
    cases er
    have hp := hf p (by simp)
    have w0 : 0 < p.2.wid := by have := hp.1; omega
    have f0 := Int.fmod_nonneg_of_pos m w0
    have f1 := Int.fmod_lt_of_pos m w0
    have dv : DivOk p.2.wid := DivOk.of (b := 30) (by omega) (by have := hp.2; omega) (by decide)
    have q0 : 0 ≤ m.fdiv p.2.wid := Int.fdiv_nonneg m0 (by omega)
    have nz : ¬ p.2.wid = 0 := by omega
    have go : ∀ v : D, L [.val (insD ins), .val (.int (m.fdiv p.2.wid)), .own (fs ++ [v]), .val (.str p.1), .val p.2.d, .val (.int (m.fmod p.2.wid))] := fun v =>
      hL _ ⟨rest, fs ++ [v], _, _, _, _, fun q hq => hf q (List.mem_cons_of_mem _ hq), by simp at hl ⊢; omega, rfl, q0, rfl⟩
    have room : fs.length < sizeLine := by
      have : 6 < sizeLine := by decide +kernel
      omega
    simp [lb_file_at_1]
    refine at_width_of ?_
    simp [nz]
    refine at_width_of ?_
    simp [dv]
    obtain ⟨nm, k⟩ := p
    dsimp only at f0 f1 go
    cases k with
    | truth =>
      simpa [Knd.d, room] using go (.bool (decide (m.fmod (Knd.truth).wid = 1)))
    | int lo hi =>
      simp [Knd.d, n_it]
      refine at_ends_of (k := .int lo hi) ?_
      have z := go (.int (lo + m.fmod (Knd.int lo hi).wid))
      simpa [Knd.d, Knd.lo, Knd.hi, room] using z
    | pick ws =>
      simp [Knd.d, n_pt]
      refine at_ends_of (k := .pick ws) ?_
      have z := go (.int (0 + m.fmod (Knd.pick ws).wid))
      simpa [Knd.d, Knd.lo, Knd.hi, room] using z
theorem rd_file_at : ∀ dl Q QX, dl.length = 2 → g_file_at dl Q QX → tb_file_at (fun e _ => QX e) (enF Q) (slots0 6 dl) := by
  rintro dl Q QX - ⟨d, n, rfl, hf, h⟩
  unfold tb_file_at
  simp
  refine ⟨d, rfl, hf, fun hi => ?_, fun hi => ?_⟩
  · rcases h with ⟨e, _⟩ | ⟨ins, rfl, hok, hc0, hc1⟩
    · rw [e] at hi; cases hi
    refine ⟨n, rfl, fun hn => ?_, hc0⟩
    cases n with
    | int m =>
      have m0 : 0 ≤ m := by simpa [countB] using hn
      unfold insD
      simp
      refine file_at_loop (ins := ins) (m := m) hok.2.2.2 hok.2.2.1 m0 fun m fs a b c hfs => ?_
      by_cases e : m = 0
      · have q := hc1 hn (.tuple fs.reverse)
        simpa [e] using q
      · have q := hc1 hn .none
        simpa [e] using q
    | _ => simp [countB] at hn
  · rcases h with ⟨e, h⟩ | ⟨ins, rfl, hok, _, _⟩
    · exact h
    · rw [hok.2.1] at hi; cases hi
/-! number_of -/
def g_number_of : DFX := fun dl P PE => ∃ d f, dl = [d, f] ∧ fitI d ∧ ((inputsB d = false ∧ PE xI) ∨ ∃ ins : Ins, d = insD ins ∧ okIns ins ∧ (faultI ins f = none → ∀ i : Int, P (.val (.int i))) ∧ (∀ k, faultI ins f = some k → PE (xF k)))
def lb_number_of_1 : DM := (mSet 2 (d2 dSub (d2 dAdd (d2 dMulA (dVar 2) (dCall g_width_of (aCons (dVar 4) aNil))) (dB bInt (aCons (dVar 5) aNil))) (d2 dIx (dCall g_ends_of (aCons (dVar 4) aNil)) (dC (.int 0)))))
def tb_number_of : DMX := (mSeqX (mExprX (dCallX g_check_inputs (aCons (dVar 0) aNil)))
    (mSeqX (mExprX (dCallX g_check_file (aCons (dVar 0) (aCons (dVar 1) aNil))))
    (mPure (mSeq (mSet 2 (dC (.int 0)))
    (mSeq (mFor (iZg (dVar 0) (dVar 1)) (gTp 2 (gsCons (gTp 2 (gsCons (gNm 3) (gsCons (gNm 4) gsNil))) (gsCons (gNm 5) gsNil))) lb_number_of_1)
    (mRet (dVar 2)))))))
theorem of_is {k : Knd} {v : D} (h : ofB k v = true) : (∃ b, v = .bool b) ∨ ∃ i, v = .int i := by
  cases k with
  | truth =>
    cases v with
    | bool b => exact .inl ⟨b, rfl⟩
    | _ => simp [ofB, isT_bool] at h
  | int lo hi => exact .inr (betw_is h)
  | pick ws => exact .inr (betw_is h)
theorem number_loop {a0 a1 : SD} {E : En} (h : ∀ (i : Int) (a b c : SD), E.nx [a0, a1, .val (.int i), a, b, c]) : ∀ (ins : Ins) (vs : List D) (m : Int) (a b c : SD), (∀ p ∈ ins, p.2.fit) → okFs ins vs →
    loopD (gTp 2 (gsCons (gTp 2 (gsCons (gNm 3) (gsCons (gNm 4) gsNil))) (gsCons (gNm 5) gsNil))) lb_number_of_1 (zipD (ins.map fun p => PyData.tuple [.str p.1, p.2.d]) vs) E [a0, a1, .val (.int m), a, b, c]
  | [], [], m, a, b, c, _, _ => h m a b c
  | [], _ :: _, _, _, _, _, _, hv => hv.elim
  | _ :: _, [], _, _, _, _, _, hv => hv.elim
  | p :: ins, v :: vs, m, a, b, c, hf, hv => by
    have hp := hf p (by simp)
    have mo : MulOk m p.2.wid := MulOk.r ⟨by have := hp.1; omega, by have := hp.2; omega⟩
    have next := fun (i : Int) (a b c : SD) => number_loop h ins vs i a b c (fun q hq => hf q (List.mem_cons_of_mem _ hq)) hv.2
    have ez : ∀ (x : D) (xs : List D), zipD (x :: xs) (v :: vs) = .tuple [x, v] :: zipD xs vs := fun _ _ => rfl
    rw [List.map_cons, ez]
    simp only [loopD]
    rcases of_is hv.1 with ⟨x, rfl⟩ | ⟨x, rfl⟩
    · simp [lb_number_of_1]
      refine at_width_of ?_
      simp [mo]
      refine at_ends_of ?_
      have a1 : atI [PyData.int p.2.lo, .int p.2.hi] 0 = some (.int p.2.lo) := atI_nat (j := 0) rfl
      simp [a1]
      exact next _ _ _ _
    · simp [lb_number_of_1]
      refine at_width_of ?_
      simp [mo]
      refine at_ends_of ?_
      have a1 : atI [PyData.int p.2.lo, .int p.2.hi] 0 = some (.int p.2.lo) := atI_nat (j := 0) rfl
      simp [a1]
      exact next _ _ _ _
theorem rd_number_of : ∀ dl Q QX, dl.length = 2 → g_number_of dl Q QX → tb_number_of (fun e _ => QX e) (enF Q) (slots0 6 dl) := by
  rintro dl Q QX - ⟨d, f, rfl, hf, h⟩
  unfold tb_number_of
  simp
  refine ⟨d, rfl, hf, fun hi => ?_, fun hi => ?_⟩
  · rcases h with ⟨e, _⟩ | ⟨ins, rfl, hok, hc0, hc1⟩
    · rw [e] at hi; cases hi
    refine ⟨ins, f, rfl, hok.2.2.1, fun hn => ?_, hc1⟩
    obtain ⟨vs, rfl, ho⟩ := fault_none hn
    unfold insD
    simp [seqD]
    exact number_loop (fun i a b c => by simpa using hc0 hn i) ins vs 0 _ _ _ hok.2.2.2 ho
  · rcases h with ⟨e, h⟩ | ⟨ins, rfl, hok, _, _⟩
    · exact h
    · rw [hok.2.1] at hi; cases hi
/-! ends, values, files -/
def g__law_ends : DF := fun dl P => ∃ k : Knd, dl = [k.d] ∧ P (.val (.tuple [.int k.lo, .int k.hi]))
theorem at__law_ends {k : Knd} {P : SD → Prop} (h : P (.val (.tuple [.int k.lo, .int k.hi]))) : g__law_ends [k.d] P := ⟨k, rfl, h⟩
def tb__law_ends : DM := (mSeq (mIf (bT (d2 dEq (d2 dIx (dVar 0) (dC (.int 0))) (dC (.str "int")))) (mRet (dTup (aCons (d2 dIx (dVar 0) (dC (.int 1))) (aCons (d2 dIx (dVar 0) (dC (.int 2))) aNil)))) mNil)
    (mRet (dTup (aCons (dC (.int 0)) (aCons (dIf (bT (d2 dEq (d2 dIx (dVar 0) (dC (.int 0))) (dC (.str "truth")))) (dC (.int 1)) (d2 dSub (dB bLen (aCons (d2 dIx (dVar 0) (dC (.int 1))) aNil)) (dC (.int 1)))) aNil)))))
theorem rd__law_ends : ∀ dl Q, dl.length = 1 → g__law_ends dl Q → tb__law_ends (enF Q) (slots0 1 dl) := by
  rintro dl Q - ⟨k, rfl, h⟩
  cases k with
  | truth => simpa [tb__law_ends, Knd.d, Knd.lo, Knd.hi, n_ti] using h
  | int lo hi => simpa [tb__law_ends, Knd.d, Knd.lo, Knd.hi] using h
  | pick ws => simpa [tb__law_ends, Knd.d, Knd.lo, Knd.hi, n_pi, n_pt] using h
def g__law_value : DFW := fun w dl P => ∃ (p c : Addr) (k : Knd), w = lakeB p c ∧ dl = [k.d] ∧ KndOk k ∧ ∀ v : D, ofB k v = true → P (.val v) (lakeB p c)
def tb__law_value : DM := (mSeq (mUnp (dCall g__law_ends (aCons (dVar 1) aNil)) (gTp 2 (gsCons (gNm 2) (gsCons (gNm 3) gsNil))))
    (mSeq (mSet 4 (d2 dIx (dLst (aCons (dVar 2) (aCons (dVar 3) (aCons (d2 dAdd (dVar 2) (dCallW 0 g__law_drop (aCons (d2 dAdd (d2 dSub (dVar 3) (dVar 2)) (dC (.int 1))) aNil))) aNil)))) (dCallW 0 g__law_drop (aCons (dC (.int 3)) aNil))))
    (mRet (dIf (bT (d2 dEq (d2 dIx (dVar 1) (dC (.int 0))) (dC (.str "truth")))) (d2 dEq (dVar 4) (dC (.int 1))) (dVar 4)))))
theorem knd_ends {k : Knd} (h : KndOk k) : k.lo ≤ k.hi ∧ -1000000 ≤ k.lo ∧ k.hi ≤ 1000000 := by
  cases k with
  | truth => simp [Knd.lo, Knd.hi]
  | int lo hi => obtain ⟨a, b, c⟩ := h; simp [Knd.lo, Knd.hi]; omega
  | pick ws => obtain ⟨⟨a, b⟩, _⟩ := h; simp [Knd.lo, Knd.hi]; omega
theorem rd__law_value : ∀ w dl Q, dl.length = 1 → g__law_value w dl Q → tb__law_value (enW w Q) (slotsW 5 w dl) := by
  rintro w dl Q - ⟨p, c, k, rfl, rfl, hk, h⟩
  obtain ⟨h1, h2, h3⟩ := knd_ends hk
  unfold tb__law_value
  refine seq_cut (fun ds => ds = [.wd (lakeB p c), .val k.d, .val (.int k.lo), .val (.int k.hi), .no]) (fun z hz => ?_) ?_
  · simp
    refine at__law_ends ?_
    simp
    exact hz _ rfl
  rintro _ rfl
  refine seq_cut (fun ds => ∃ at_ : Int, k.lo ≤ at_ ∧ at_ ≤ k.hi ∧ ds = [.wd (lakeB p c), .val k.d, .val (.int k.lo), .val (.int k.hi), .val (.int at_)]) (fun z hz => ?_) ?_
  · simp
    refine at_scoop (by omega) (by omega) fun a a0 a1 => ?_
    simp
    refine at_scoop (by decide) (by decide) fun d d0 d1 => ?_
    obtain ⟨v, e, hm⟩ := atI_at (xs := [PyData.int k.lo, .int k.hi, .int (k.lo + a)]) d0 (by simpa using d1)
    simp [e]
    simp at hm
    rcases hm with rfl | rfl | rfl <;> exact hz _ ⟨_, by omega, by omega, rfl⟩
  rintro _ ⟨at_, a0, a1, rfl⟩
  cases k with
  | truth =>
    have q := h (.bool (decide (at_ = 1))) (by simp [ofB, isT_bool])
    simpa [Knd.d] using q
  | int lo hi =>
    have q := h (.int at_) (by simp [ofB, betw]; exact ⟨a0, a1⟩)
    simpa [Knd.d, n_it] using q
  | pick ws =>
    have q := h (.int at_) (by simp [ofB, betw]; exact ⟨a0, a1⟩)
    simpa [Knd.d, n_pt] using q
def g__law_file : DFW := fun w dl P => ∃ (p c : Addr) (ins : Ins), w = lakeB p c ∧ dl = [insD ins] ∧ InsR ins ∧ ∀ vs : List D, okFs ins vs → P (.val (.tuple vs)) (lakeB p c)
def ce__law_file_1 : DT := (dCallW 0 g__law_value (aCons (dVar 3) aNil))
def tb__law_file : DM := (mRet (dB bTuple (aCons (dComp (iSeq (dVar 1)) (gTp 2 (gsCons (gNm 2) (gsCons (gNm 3) gsNil))) cYes ce__law_file_1 [2, 3]) aNil)))
theorem file_comp {p c : Addr} {s1 : SD} (P : List D → DS → Prop) : ∀ (ins : Ins) (acc : List D), (∀ q ∈ ins, KndOk q.2) → (∀ vs : List D, okFs ins vs → P (acc ++ vs) [.wd (lakeB p c), s1, .no, .no]) →
    compD (gTp 2 (gsCons (gNm 2) (gsCons (gNm 3) gsNil))) cYes ce__law_file_1 [2, 3] (ins.map fun p => .tuple [.str p.1, p.2.d]) acc [.wd (lakeB p c), s1, .no, .no] P
  | [], acc, _, h => by simpa [compD] using h [] trivial
  | q :: ins, acc, hk, h => by
    simp [compD, ce__law_file_1]
    refine ⟨p, c, q.2, rfl, rfl, hk q (by simp), fun v hv => ?_⟩
    simp
    refine file_comp P ins _ (fun x hx => hk x (List.mem_cons_of_mem _ hx)) fun vs hvs => ?_
    have := h (v :: vs) ⟨hv, hvs⟩
    simpa using this
theorem rd__law_file : ∀ w dl Q, dl.length = 1 → g__law_file w dl Q → tb__law_file (enW w Q) (slotsW 4 w dl) := by
  rintro w dl Q - ⟨p, c, ins, rfl, rfl, hr, h⟩
  have l6 := le_line (n := 6) (by omega)
  have hl := hr.l
  have li : ins.length ≤ sizeLine := by omega
  unfold tb__law_file insD
  simp [li]
  refine file_comp _ ins [] (fun q hq => (hr.w q hq).2) fun vs hvs => ?_
  have hv := okFs_len hvs
  have lv : vs.length ≤ sizeLine := by omega
  simp [lv]
  exact h vs hvs
end K01

/-! k01: what is raised. -/
namespace K01
open PySem PySem.Spec PyProof.Rows L2 BK EX
open DL hiding g_is_between tb_is_between rd_is_between
abbrev nmx : List String := ["CaseError", "InvalidInputs", "InvalidCount", "InvalidFile"]
def subx (a b : String) : Bool := [("CaseError", "CaseError"), ("InvalidInputs", "CaseError"), ("InvalidInputs", "InvalidInputs"), ("InvalidCount", "CaseError"), ("InvalidCount", "InvalidCount"), ("InvalidFile", "CaseError"), ("InvalidFile", "InvalidFile")].contains (a, b)
theorem s_II : subx "InvalidInputs" "InvalidInputs" = true := by decide +kernel
theorem s_FI : subx "InvalidFile" "InvalidInputs" = false := by decide +kernel
theorem s_FF : subx "InvalidFile" "InvalidFile" = true := by decide +kernel
theorem s_CI : subx "InvalidCount" "InvalidInputs" = false := by decide +kernel
theorem s_CF : subx "InvalidCount" "InvalidFile" = false := by decide +kernel
theorem s_CC : subx "InvalidCount" "InvalidCount" = true := by decide +kernel
def g__law_tried : DF := fun dl P => ∃ (way : Int) (d o : D), dl = [.int way, d, o] ∧ (way = 0 ∨ way = 1 ∨ way = 2 ∨ way = 3) ∧ fitI d ∧ ((inputsB d = false ∧ P (.val (.str "inputs"))) ∨ ∃ ins : Ins, d = insD ins ∧ okIns ins ∧
  (way < 2 → (faultI ins o = none → P (.val (.str ""))) ∧ ∀ k : Int, faultI ins o = some k → P (.own [.str "file", .int k])) ∧
  (¬ way < 2 → (countB o = true → P (.val (.str ""))) ∧ (countB o = false → P (.val (.str "count")))))
def clsT (K : PySem.W.Frag) (cm : String → Addr) : List ClD := [.plain "InvalidInputs" (mSet 3 (dC (.str "inputs"))), .named "InvalidFile" 4 "index" (fun a cls d => (mSet 3 (dLst (aCons (dC (.str "file")) (aCons (dXf K 4 "index" (cm "InvalidFile") a cls d) aNil))))), .plain "InvalidCount" (mSet 3 (dC (.str "count"))), .plain "CaseError" (mSet 3 (dC (.str "other")))]
def tb__law_tried (K : PySem.W.Frag) (cm : String → Addr) : DM := (mSeq (mSet 3 (dC (.str "")))
    (mSeq (mTry K cm nmx subx (mIfX (bT (d2 dEq (dVar 0) (dC (.int 0)))) (mExprX (dCallX g_number_of (aCons (dVar 1) (aCons (dVar 2) aNil)))) (mIfX (bT (d2 dEq (dVar 0) (dC (.int 1)))) (mExprX (dCallKX [1, 0] g_number_of (aCons (dVar 2) (aCons (dVar 1) aNil)))) (mIfX (bT (d2 dEq (dVar 0) (dC (.int 2)))) (mExprX (dCallX g_file_at (aCons (dVar 1) (aCons (dVar 2) aNil)))) (mExprX (dCallKX [1, 0] g_file_at (aCons (dVar 2) (aCons (dVar 1) aNil))))))) [.plain "InvalidInputs" (mSet 3 (dC (.str "inputs"))), .named "InvalidFile" 4 "index" (fun a cls d => (mSet 3 (dLst (aCons (dC (.str "file")) (aCons (dXf K 4 "index" (cm "InvalidFile") a cls d) aNil))))), .plain "InvalidCount" (mSet 3 (dC (.str "count"))), .plain "CaseError" (mSet 3 (dC (.str "other")))])
    (mRet (dVar 3))))
section
variable {K : PySem.W.Frag} {cm : String → Addr} {E : En} {way : Int} {d o : D}
theorem hand_I (h : E.nx [.val (.int way), .val d, .val o, .val (.str "inputs"), .no]) : xI.nm ∈ nmx ∧ handD K cm subx xI E [.val (.int way), .val d, .val o, .val (.str ""), .no] (clsT K cm) := by
  refine ⟨by simp [xI], ?_⟩
  unfold clsT xI
  simp [s_II]
  exact h
theorem hand_C (h : E.nx [.val (.int way), .val d, .val o, .val (.str "count"), .no]) : xC.nm ∈ nmx ∧ handD K cm subx xC E [.val (.int way), .val d, .val o, .val (.str ""), .no] (clsT K cm) := by
  refine ⟨by simp [xC], ?_⟩
  unfold clsT xC
  simp [s_CI, s_CF, s_CC]
  exact h
theorem at_xf {i : Nat} {f : Str} {C a dd : Addr} {dat : D} {ds : DS} {Q : Hd → DS → Prop} (hs : ds[i]? = some (.wd (exW K a dd f dat))) (h : Q (.tmp dat) ds) : dXf K i f C a (.ref C) (some dd) ds Q := ⟨dd, dat, rfl, rfl, hs, h⟩
theorem hand_F {k : Int} (h : E.nx [.val (.int way), .val d, .val o, .own [.str "file", .int k], .no]) : (xF k).nm ∈ nmx ∧ handD K cm subx (xF k) E [.val (.int way), .val d, .val o, .val (.str ""), .no] (clsT K cm) := by
  refine ⟨by simp [xF], ?_⟩
  unfold clsT xF
  simp only [handD, s_FI, s_FF, if_neg Bool.false_ne_true, if_true]
  refine ⟨trivial, by simp, _, rfl, fun a dd => ?_⟩
  simp [-dXf]
  refine at_xf rfl ?_
  simp
  exact h
end
theorem rd__law_tried (K : PySem.W.Frag) (cm : String → Addr) : ∀ dl Q, dl.length = 3 → g__law_tried dl Q → tb__law_tried K cm (enF Q) (slots0 5 dl) := by
  rintro dl Q - ⟨way, d, o, rfl, hw, hf, h⟩
  unfold tb__law_tried
  refine seq1 [.val (.int way), .val d, .val o, .val (.str ""), .no] (fun k q => by simpa using q) ?_
  have num : g_number_of [d, o] (fun _ => mRet (dVar 3) (enF Q) [.val (.int way), .val d, .val o, .val (.str ""), .no]) (fun e => e.nm ∈ nmx ∧ handD K cm subx e { enF Q with nx := mRet (dVar 3) (enF Q) } [.val (.int way), .val d, .val o, .val (.str ""), .no] (clsT K cm)) ∨ ¬ way < 2 := by
    by_cases w2 : way < 2
    · refine .inl ⟨d, o, rfl, hf, ?_⟩
      rcases h with ⟨hi, h⟩ | ⟨ins, rfl, hok, h1, _⟩
      · exact .inl ⟨hi, hand_I (by simpa using h)⟩
      · exact .inr ⟨ins, rfl, hok, fun hn _ => by simpa using (h1 w2).1 hn, fun k hk => hand_F (by simpa using (h1 w2).2 k hk)⟩
    · exact .inr w2
  have fil : g_file_at [d, o] (fun _ => mRet (dVar 3) (enF Q) [.val (.int way), .val d, .val o, .val (.str ""), .no]) (fun e => e.nm ∈ nmx ∧ handD K cm subx e { enF Q with nx := mRet (dVar 3) (enF Q) } [.val (.int way), .val d, .val o, .val (.str ""), .no] (clsT K cm)) ∨ way < 2 := by
    by_cases w2 : way < 2
    · exact .inr w2
    · refine .inl ⟨d, o, rfl, hf, ?_⟩
      rcases h with ⟨hi, h⟩ | ⟨ins, rfl, hok, _, h1⟩
      · exact .inl ⟨hi, hand_I (by simpa using h)⟩
      · exact .inr ⟨ins, rfl, hok, fun hn => hand_C (by simpa using (h1 w2).2 hn), fun hn _ => by simpa using (h1 w2).1 hn⟩
  rcases hw with rfl | rfl | rfl | rfl
  · exact num.resolve_right (by decide)
  · exact num.resolve_right (by decide)
  · exact fil.resolve_right (by decide)
  · exact fil.resolve_right (by decide)
end K01

/-! k01: files with a wrong value: the plain part. -/
namespace K01
open PySem PySem.Spec PyProof.Rows L2 BK EX
open DL hiding g_is_between tb_is_between rd_is_between
theorem cut_to {α : Type} (xs : List α) (n : Nat) (h : n ≤ xs.length) : DL.cutD xs none (some (n : Int)) = xs.take n := by
  unfold DL.cutD
  rw [HT.sIx_nat, HT.sIx_none, Nat.min_eq_left h]
  simp
theorem cut_from {α : Type} (xs : List α) (n : Nat) (h : n ≤ xs.length) : DL.cutD xs (some (n : Int)) none = xs.drop n := by
  unfold DL.cutD
  rw [HT.sIx_nat, HT.sIx_none, Nat.min_eq_left h]
  rw [← List.length_drop, List.take_length]
theorem cut_last {α : Type} (xs : List α) (h : 1 ≤ xs.length) : (DL.cutD xs none (some (-1))).length = xs.length - 1 := by
  unfold DL.cutD
  have e : HT.sIx xs.length xs.length (some (-1)) = xs.length - 1 := by
    simp [HT.sIx]
    omega
  rw [e, HT.sIx_none]
  simp
theorem cut_one {α : Type} (xs : List α) (h : 1 ≤ xs.length) : (DL.cutD xs none (some 1)).length = 1 := by
  have := cut_to xs 1 h
  rw [show ((1 : Nat) : Int) = 1 from rfl] at this
  rw [this]
  simp; omega
theorem okFs_at : ∀ {ins : Ins} {vs : List D} {i : Nat}, okFs ins vs → i < vs.length → ∃ p v, ins[i]? = some p ∧ vs[i]? = some v ∧ ofB p.2 v = true
  | p :: r, v :: vs, 0, h, _ => ⟨p, v, rfl, rfl, h.1⟩
  | p :: r, v :: vs, i + 1, h, hi => by
    obtain ⟨p', v', h1, h2, h3⟩ := okFs_at (i := i) h.2 (by simpa using hi)
    exact ⟨p', v', by simpa using h1, by simpa using h2, h3⟩
  | [], [], i, h, hi => by simp at hi
  | [], _ :: _, _, h, _ => h.elim
  | _ :: _, [], _, h, _ => h.elim
theorem wrongs_at : ∀ (n k : Nat) (ins : Ins) (ws : List D), (∀ i, i < n → ∃ p v, ins[i]? = some p ∧ ws[i]? = some v ∧ ofB p.2 v = true) → (∃ p v, ins[n]? = some p ∧ ws[n]? = some v ∧ ofB p.2 v = false) →
    (wrongs k ins ws).head? = some ((k + n : Nat) : Int)
  | 0, k, p :: ins, v :: ws, _, ⟨p', v', h1, h2, h3⟩ => by
    simp at h1 h2
    subst h1; subst h2
    simp [wrongs, h3]
  | n + 1, k, p :: ins, v :: ws, h, ⟨p', v', h1, h2, h3⟩ => by
    obtain ⟨p0, v0, e1, e2, e3⟩ := h 0 (by omega)
    simp at e1 e2
    subst e1; subst e2
    have := wrongs_at n (k + 1) ins ws (fun i hi => by
      obtain ⟨p, v, a, b, c⟩ := h (i + 1) (by omega)
      exact ⟨p, v, by simpa using a, by simpa using b, c⟩) ⟨p', v', by simpa using h1, by simpa using h2, h3⟩
    simp [wrongs, e3, this]
    omega
  | 0, _, [], _, _, ⟨_, _, h1, _, _⟩ => by simp at h1
  | 0, _, _ :: _, [], _, ⟨_, _, _, h1, _⟩ => by simp at h1
  | n + 1, _, [], _, _, ⟨_, _, h1, _, _⟩ => by simp at h1
  | n + 1, _, _ :: _, [], _, ⟨_, _, _, h1, _⟩ => by simp at h1
theorem fault_at {ins : Ins} {vs L : List D} {n : Nat} {bad : D} {p : Str × Knd} (h : okFs ins vs) (hn : n < vs.length) (hp : ins[n]? = some p) (hb : ofB p.2 bad = false) (hl : L.length = vs.length) (hL : ∀ i, i ≤ n → L[i]? = vs[i]?) :
    faultI ins (.tuple (L.take n ++ [bad] ++ L.drop (n + 1))) = some (n : Int) := by
  have il := okFs_len h
  have len : (L.take n ++ [bad] ++ L.drop (n + 1)).length = ins.length := by simp; omega
  have tl : (L.take n).length = n := by simp; omega
  simp only [faultI, len, if_true]
  have := wrongs_at n 0 ins (L.take n ++ [bad] ++ L.drop (n + 1)) (fun i hi => by
    obtain ⟨q, v, a, b, c⟩ := okFs_at (i := i) h (by omega)
    refine ⟨q, v, a, ?_, c⟩
    rw [List.append_assoc, List.getElem?_append_left (by omega), List.getElem?_take_of_lt hi, hL i (by omega)]
    exact b) ⟨p, bad, hp, by
      rw [List.append_assoc, List.getElem?_append_right (by omega), tl]
      simp, hb⟩
  rw [this]
  simp
theorem fault_len {ins : Ins} {xs : List D} (h : xs.length ≠ ins.length) : faultI ins (.tuple xs) = some 0 := by simp [faultI, h]
/-- what is no value of the kind -/
def oddL (k : Knd) (z : Str) (x : D) : List D := [.int (k.lo - 1), .int (k.hi + 1), .none, .tuple [.int k.lo], .str z, .int (10 ^ 30), .list [.int k.hi], x]
theorem odd_bad {k : Knd} {z : Str} {x : D} (hk : KndOk k) (hx : ofB k x = false) : ∀ b ∈ oddL k z x, ofB k b = false := by
  intro b hb
  obtain ⟨h1, h2, h3⟩ := knd_ends hk
  cases k with
  | truth =>
    simp [oddL] at hb
    rcases hb with rfl | rfl | rfl | rfl | rfl | rfl | rfl | rfl <;> first | exact hx | simp [ofB, isT_bool]
  | int lo hi =>
    simp [oddL] at hb
    simp [Knd.lo, Knd.hi] at h1 h2 h3
    rcases hb with rfl | rfl | rfl | rfl | rfl | rfl | rfl | rfl <;> first | exact hx | rfl | (simp [ofB, betw, Knd.lo, Knd.hi]; done) | (simp [ofB, betw, Knd.lo, Knd.hi]; first | omega | exact decide_eq_false (by omega))
  | pick ws =>
    simp [oddL] at hb
    simp [Knd.lo, Knd.hi] at h1 h2 h3
    rcases hb with rfl | rfl | rfl | rfl | rfl | rfl | rfl | rfl <;> first | exact hx | rfl | (simp [ofB, betw, Knd.lo, Knd.hi]; done) | (simp [ofB, betw, Knd.lo, Knd.hi]; first | omega | exact decide_eq_false (by omega))
theorem small_log {i : Int} (h : -1000000 ≤ i ∧ i ≤ 1000000) : i.natAbs.log2 < 1920 := by
  have h1 : i.natAbs < 2 ^ 1920 := Nat.lt_of_le_of_lt (m := 1000000) (by omega) (by decide +kernel)
  by_cases h0 : i.natAbs = 0
  · rw [h0]; decide
  · exact (Nat.log2_lt h0).mpr h1
theorem cpow30 : CPow 10 30 := ⟨by decide, by decide, by decide⟩
theorem cpow40 : CPow 10 40 := ⟨by decide, by decide, by decide⟩
end K01

/-! k01: files with a wrong value. -/
namespace K01
open PySem PySem.Spec PyProof.Rows L2 BK EX
open DL hiding g_is_between tb_is_between rd_is_between
def g__law_wrong_file : DFW := fun w dl P => ∃ (p c : Addr) (ins : Ins) (vs : List D), w = lakeB p c ∧ dl = [insD ins, .tuple vs] ∧ InsR ins ∧ okFs ins vs ∧ ∀ (d : D) (i : Int), faultI ins d = some i → P (.val (.tuple [d, .int i])) (lakeB p c)
def ce__law_wrong_file_1 : DT := (dIf (bAnd (bT (d2 dGt (dVar 10) (dVar 4))) (bT (d2 dEq (dCallW 0 g__law_drop (aCons (dC (.int 2)) aNil)) (dC (.int 0))))) (dC .none) (d2 dIx (dVar 2) (dVar 10)))
def tb__law_wrong_file : DM := (mSeq (mPar 3 4 (dCallW 0 g__law_drop (aCons (dC (.int 8)) aNil)) (dCallW 0 g__law_drop (aCons (dB bLen (aCons (dVar 2) aNil)) aNil)))
    (mSeq (mIf (bT (d2 dLt (dVar 3) (dC (.int 4)))) (mSeq (mUnp (dCall g__law_ends (aCons (d2 dIx (d2 dIx (dVar 1) (dVar 4)) (dC (.int 1))) aNil)) (gTp 2 (gsCons (gNm 5) (gsCons (gNm 6) gsNil))))
    (mSeq (mSet 7 (dLst (aCons (d2 dSub (dVar 5) (dC (.int 1))) (aCons (d2 dAdd (dVar 6) (dC (.int 1))) (aCons (dC .none) (aCons (dTup (aCons (dVar 5) aNil)) (aCons (dB bStr (aCons (dVar 5) aNil)) (aCons (d2 dPow (dC (.int 10)) (dC (.int 30))) (aCons (dLst (aCons (dVar 6) aNil)) aNil)))))))))
    (mSeq (mApp 7 (dIf (bT (d2 dEq (d2 dIx (d2 dIx (d2 dIx (dVar 1) (dVar 4)) (dC (.int 1))) (dC (.int 0))) (dC (.str "truth")))) (dB bInt (aCons (d2 dIx (dVar 2) (dVar 4)) aNil)) (dC (.bool true))))
    (mSeq (mSet 8 (d2 dIx (dVar 7) (dCallW 0 g__law_drop (aCons (dC (.int 8)) aNil))))
    (mSeq (mSet 9 (dComp (iR1 (dB bLen (aCons (dVar 2) aNil))) (gNm 10) cYes ce__law_wrong_file_1 [10]))
    (mRet (dTup (aCons (dB bTuple (aCons (d2 dAdd (d2 dAdd (dSl (dVar 9) pNone (pSome (dVar 4))) (dLst (aCons (dVar 8) aNil))) (dSl (dVar 9) (pSome (d2 dAdd (dVar 4) (dC (.int 1)))) pNone)) aNil)) (aCons (dVar 4) aNil))))))))) mNil)
    (mRet (dTup (aCons (d2 dIx (dLst (aCons (dSl (dVar 2) pNone (pSome (d1 dNeg (dC (.int 1))))) (aCons (d2 dAdd (dVar 2) (dSl (dVar 2) pNone (pSome (dC (.int 1))))) (aCons (dB bList (aCons (dVar 2) aNil)) (aCons (d2 dIx (dLst (aCons (dC .none) (aCons (dC (.str "")) (aCons (dC (.int 7)) (aCons (dTup aNil) aNil))))) (d2 dMod (dB bInt (aCons (dVar 4) aNil)) (dC (.int 4)))) aNil))))) (d2 dSub (dVar 3) (dC (.int 4)))) (aCons (dC (.int 0)) aNil))))))
theorem later_comp {p c : Addr} {s1 s3 s5 s6 s7 s8 s9 : SD} {vs : List D} {n : Nat} (P : List D → DS → Prop) (h : ∀ L : List D, L.length = vs.length → (∀ i, i ≤ n → L[i]? = vs[i]?) → P L [.wd (lakeB p c), s1, .val (.tuple vs), s3, .val (.int n), s5, s6, s7, s8, s9, .no]) :
    ∀ (j k : Nat) (acc : List D), k + j = vs.length → acc.length = k → (∀ i, i < k → i ≤ n → acc[i]? = vs[i]?) →
    compD (gNm 10) cYes ce__law_wrong_file_1 [10] ((List.range' k j).map fun i : Nat => .int (i : Int)) acc [.wd (lakeB p c), s1, .val (.tuple vs), s3, .val (.int n), s5, s6, s7, s8, s9, .no] P
  | 0, k, acc, hk, ha, hi => by
    have := h acc (by omega) fun i hn => by
      by_cases hik : i < k
      · exact hi i hik hn
      · rw [List.getElem?_eq_none (by omega), List.getElem?_eq_none (by omega)]
    simpa [compD] using this
  | j + 1, k, acc, hk, ha, hi => by
    have hkv : k < vs.length := by omega
    have a : atI vs (k : Int) = some vs[k] := atI_nat (by simp [hkv])
    have next := fun (x : D) (hx : k ≤ n → x = vs[k]) => later_comp P h j (k + 1) (acc ++ [x]) (by omega) (by simp [ha]) fun i h1 h2 => by
      by_cases hik : i < k
      · rw [List.getElem?_append_left (by omega)]; exact hi i hik h2
      · have : i = k := by omega
        subst this
        rw [List.getElem?_append_right (by omega), ha, hx h2]
        simp [hkv]
    rw [List.range'_succ, List.map_cons]
    simp only [compD, gNm, put, cYes]
    by_cases hkn : n < k
    · have i1 : (n : Int) < k := by omega
      simp [ce__law_wrong_file_1, i1]
      refine at_scoop (by decide) (by decide) fun r r0 r1 => ?_
      by_cases e : r = 0
      · simp [e]
        exact next _ fun h => by omega
      · simp [e, a]
        exact next _ fun h => rfl
    · have i1 : ¬ (n : Int) < k := by omega
      simp [ce__law_wrong_file_1, i1, a]
      exact next _ fun h => rfl
theorem rd__law_wrong_file : ∀ w dl Q, dl.length = 2 → g__law_wrong_file w dl Q → tb__law_wrong_file (enW w Q) (slotsW 11 w dl) := by
  rintro w dl Q - ⟨p, c, ins, vs, rfl, rfl, hr, hok, h⟩
  have l9 := le_line (n := 20) (by omega)
  have hl := hr.l
  have vl := okFs_len hok
  obtain ⟨xs, ex, hxs⟩ : ∃ xs : List D, insD ins = .tuple xs ∧ ∀ (i : Nat) (q : Str × Knd), ins[i]? = some q → xs[i]? = some (PyData.tuple [.str q.1, q.2.d]) := ⟨_, rfl, fun i q h => by simp [h]⟩
  rw [ex]
  unfold tb__law_wrong_file
  refine seq_cut (fun ds => ∃ (way : Int) (n : Nat), 0 ≤ way ∧ way < 8 ∧ n < vs.length ∧ ds = [.wd (lakeB p c), .val (.tuple xs), .val (.tuple vs), .val (.int way), .val (.int n), .no, .no, .no, .no, .no, .no]) (fun z hz => ?_) ?_
  · simp
    refine at_scoop (by decide) (by decide) fun a a0 a1 => ?_
    simp
    refine at_scoop (by omega) (by omega) fun b b0 b1 => ?_
    obtain ⟨n, rfl⟩ : ∃ n : Nat, b = n := ⟨b.toNat, by omega⟩
    simp
    exact hz _ ⟨a, n, a0, a1, by omega, rfl⟩
  rintro _ ⟨way, n, w0, w1, hn, rfl⟩
  obtain ⟨⟨nm, k⟩, v, hp, hv, hof⟩ := okFs_at hok hn
  have hk : KndOk k := (hr.w _ (List.mem_of_getElem? hp)).2
  obtain ⟨k1, k2, k3⟩ := knd_ends hk
  by_cases hw : way < 4
  · refine seq_yes (fun R q => by simpa [hw] using q) ?_
    have ai : atI xs (n : Int) = some (.tuple [.str nm, k.d]) := atI_nat (hxs _ _ hp)
    have av : atI vs (n : Int) = some v := atI_nat hv
    refine seq_cut (fun ds => ds = [.wd (lakeB p c), .val (.tuple xs), .val (.tuple vs), .val (.int way), .val (.int n), .val (.int k.lo), .val (.int k.hi), .no, .no, .no, .no]) (fun z hz => ?_) ?_
    · simp [ai]
      refine at__law_ends ?_
      simp
      exact hz _ rfl
    rintro _ rfl
    refine seq_cut (fun ds => ∃ zs : Str, ds = [.wd (lakeB p c), .val (.tuple xs), .val (.tuple vs), .val (.int way), .val (.int n), .val (.int k.lo), .val (.int k.hi), .own [.int (k.lo - 1), .int (k.hi + 1), .none, .tuple [.int k.lo], .str zs, .int (10 ^ 30), .list [.int k.hi]], .no, .no, .no]) (fun z hz => ?_) ?_
    · have e30 : (10 : Int) ^ (30 : Int).toNat = 1000000000000000000000000000000 := rfl
      simp [cpow30, small_log (i := k.lo) ⟨by omega, by omega⟩, e30]
      exact hz _ ⟨_, rfl⟩
    rintro _ ⟨zs, rfl⟩
    refine seq_cut (fun ds => ∃ x : D, ofB k x = false ∧ ds = [.wd (lakeB p c), .val (.tuple xs), .val (.tuple vs), .val (.int way), .val (.int n), .val (.int k.lo), .val (.int k.hi), .own (oddL k zs x), .no, .no, .no]) (fun z hz => ?_) ?_
    · have l7 : 7 < sizeLine := by omega
      cases k with
      | truth =>
        obtain ⟨b, rfl⟩ : ∃ b, v = .bool b := by
          cases v with
          | bool b => exact ⟨b, rfl⟩
          | _ => simp [ofB, isT_bool] at hof
        have q := hz _ ⟨.int (if b then 1 else 0), by simp [ofB, isT_bool], rfl⟩
        have ed : Knd.truth.d = .tuple [.str "truth"] := rfl
        simp [ai, av, ed, l7]
        simpa [oddL] using q
      | int lo hi =>
        have q := hz _ ⟨.bool true, rfl, rfl⟩
        have ed : (Knd.int lo hi).d = .tuple [.str "int", .int lo, .int hi] := rfl
        simp [ai, ed, n_it, l7]
        simpa [oddL] using q
      | pick ws =>
        have q := hz _ ⟨.bool true, rfl, rfl⟩
        have ed : (Knd.pick ws).d = .tuple [.str "pick", .tuple (ws.map .str)] := rfl
        simp [ai, ed, n_pt, l7]
        simpa [oddL] using q
    rintro _ ⟨x, hx, rfl⟩
    refine seq_cut (fun ds => ∃ bad : D, ofB k bad = false ∧ ds = [.wd (lakeB p c), .val (.tuple xs), .val (.tuple vs), .val (.int way), .val (.int n), .val (.int k.lo), .val (.int k.hi), .own (oddL k zs x), .val bad, .no, .no]) (fun z hz => ?_) ?_
    · simp
      refine at_scoop (by decide) (by decide) fun r r0 r1 => ?_
      obtain ⟨b, e, hm⟩ := atI_at (xs := oddL k zs x) r0 (by simpa [oddL] using r1)
      simp [e]
      exact hz _ ⟨b, odd_bad hk hx b hm, rfl⟩
    rintro _ ⟨bad, hb, rfl⟩
    refine seq_cut (fun ds => ∃ L : List D, L.length = vs.length ∧ (∀ i, i ≤ n → L[i]? = vs[i]?) ∧ ds = [.wd (lakeB p c), .val (.tuple xs), .val (.tuple vs), .val (.int way), .val (.int n), .val (.int k.lo), .val (.int k.hi), .own (oddL k zs x), .val bad, .own L, .no]) (fun z hz => ?_) ?_
    · have lv : vs.length ≤ sizeLine := by omega
      simp [rng_eq, lv]
      refine ⟨by omega, later_comp (vs := vs) (n := n) _ (fun L h1 h2 => ?_) vs.length 0 [] (by omega) rfl (fun i hi => by omega)⟩
      simp
      exact hz _ ⟨L, h1, h2, rfl⟩
    rintro _ ⟨L, h1, h2, rfl⟩
    have ec1 : DL.cutD L none (some (n : Int)) = L.take n := cut_to L n (by omega)
    have ec2 : DL.cutD L (some ((n : Int) + 1)) none = L.drop (n + 1) := by
      have := cut_from L (n + 1) (by omega)
      rwa [Int.natCast_add] at this
    have q := h _ _ (fault_at hok hn hp hb h1 h2)
    have sz1 : (L.take n).length + 1 ≤ sizeLine := by simp; omega
    have sz2 : (L.take n ++ [bad]).length + (L.drop (n + 1)).length ≤ sizeLine := by simp; omega
    have sz3 : (L.take n ++ [bad] ++ L.drop (n + 1)).length ≤ sizeLine := by simp; omega
    simp only [mRet, dTup, aCons, dB, d2, dSl, dVar, pNone, pSome, dLst, dC, aNil]
    simp [ec1, ec2]
    refine ⟨by omega, by omega, ?_⟩
    simpa using q
  · refine seq_no (fun R q => by simpa [hw] using q) ?_
    have q0 := fun (d : D) (e : faultI ins d = some 0) => h d 0 e
    obtain ⟨j, rfl⟩ : ∃ j : Nat, way = j + 4 := ⟨(way - 4).toNat, by omega⟩
    have f0 := Int.fmod_nonneg_of_pos (n : Int) (b := 4) (by decide)
    have f1 := Int.fmod_lt_of_pos (n : Int) (b := 4) (by decide)
    obtain ⟨x, ex, hx⟩ := atI_at (xs := [PyData.none, .str "", .int 7, .tuple []]) f0 (by simpa using f1)
    have hx0 : faultI ins x = some 0 := by
      simp at hx
      rcases hx with rfl | rfl | rfl | rfl
      · rfl
      · rfl
      · rfl
      · exact fault_len (by simp; omega)
    have c1 := cut_one vs (by omega)
    have c2 := cut_last vs (by omega)
    obtain ⟨y, ey, hy⟩ := atI_at (xs := [PyData.tuple (DL.cutD vs none (some (-1))), .tuple (vs ++ DL.cutD vs none (some 1)), .list vs, x]) (i := (j : Int)) (by omega) (by simp; omega)
    have hy0 : faultI ins y = some 0 := by
      simp at hy
      rcases hy with rfl | rfl | rfl | rfl
      · exact fault_len (by omega)
      · exact fault_len (by simp; omega)
      · rfl
      · exact hx0
    have lv : vs.length ≤ sizeLine := by omega
    have lv1 : vs.length + 1 ≤ sizeLine := by omega
    simp [ex, c1, lv, lv1, ey]
    exact q0 y hy0
end K01

/-! k01: the law. -/
namespace K01
open PySem PySem.Spec PyProof.Rows L2 BK EX
open DL hiding g_is_between tb_is_between rd_is_between
/-! law: 0 script 1 spring 2 turn 3 inputs 4 file 5 wrong 6 index 7 bad 8 odd 9 good 10 way -/
def lb_law_1 : DM := (mSeq (mIf (bOr (bT (d2 dNe (dCall g__law_tried (aCons (dVar 10) (aCons (dVar 3) (aCons (dVar 9) aNil)))) (dC (.str "")))) (bT (d2 dNe (dCall g__law_tried (aCons (dVar 10) (aCons (dVar 3) (aCons (dVar 8) aNil)))) (dC (.str "count"))))) (mRet (dC (.bool false))) mNil)
    (mIf (bT (d2 dNe (dCall g__law_tried (aCons (dVar 10) (aCons (dVar 7) (aCons (d2 dIx (dLst (aCons (dVar 9) (aCons (dVar 8) aNil))) (dCallW 1 g__law_drop (aCons (dC (.int 2)) aNil))) aNil)))) (dC (.str "inputs")))) (mRet (dC (.bool false))) mNil))
def lb_law_2 : DM := (mSeq (mIf (bOr (bT (d2 dNe (dCall g__law_tried (aCons (dVar 10) (aCons (dVar 3) (aCons (dVar 4) aNil)))) (dC (.str "")))) (bT (d2 dNe (dCall g__law_tried (aCons (dVar 10) (aCons (dVar 3) (aCons (dVar 5) aNil)))) (dLst (aCons (dC (.str "file")) (aCons (dVar 6) aNil)))))) (mRet (dC (.bool false))) mNil)
    (mIf (bT (d2 dNe (dCall g__law_tried (aCons (dVar 10) (aCons (dVar 7) (aCons (d2 dIx (dLst (aCons (dVar 4) (aCons (dVar 5) aNil))) (dCallW 1 g__law_drop (aCons (dC (.int 2)) aNil))) aNil)))) (dC (.str "inputs")))) (mRet (dC (.bool false))) mNil))
def lb_law_3 : DM := (mSeq (mSet 3 (dCallW 1 g__law_inputs (aCons (dC (.int 6)) (aCons (d2 dIx (dLst (aCons (dC (.int 3)) (aCons (dC (.int 1000)) (aCons (dC (.int 2000001)) aNil)))) (dCallW 1 g__law_drop (aCons (dC (.int 3)) aNil))) aNil))))
    (mSeq (mSet 4 (dCallW 1 g__law_file (aCons (dVar 3) aNil)))
    (mSeq (mUnp (dCallW 1 g__law_wrong_file (aCons (dVar 3) (aCons (dVar 4) aNil))) (gTp 2 (gsCons (gNm 5) (gsCons (gNm 6) gsNil))))
    (mSeq (mSet 7 (d2 dIx (dLst (aCons (dC .none) (aCons (dTup aNil) (aCons (dB bList (aCons (dVar 3) aNil)) (aCons (d2 dAdd (dVar 3) (dSl (dVar 3) pNone (pSome (dC (.int 1))))) (aCons (d2 dIx (dVar 3) (dC (.int 0))) (aCons (dC (.str "ab")) (aCons (dTup (aCons (dTup (aCons (dC (.str "a")) (aCons (dC (.str "int")) aNil))) aNil)) (aCons (d2 dRepT (dVar 3) (dC (.int 7))) aNil))))))))) (dCallW 1 g__law_drop (aCons (dC (.int 8)) aNil))))
    (mSeq (mSet 8 (d2 dIx (dLst (aCons (d1 dNeg (dC (.int 1))) (aCons (dC .none) (aCons (dC (.str "1")) (aCons (dC (.bool true)) (aCons (dTup (aCons (dC (.int 1)) aNil)) (aCons (d1 dNeg (d2 dPow (dC (.int 10)) (dC (.int 30)))) (aCons (dLst aNil) (aCons (dC (.bool false)) aNil))))))))) (dCallW 1 g__law_drop (aCons (dC (.int 8)) aNil))))
    (mSeq (mSet 9 (d2 dIx (dLst (aCons (dC (.int 0)) (aCons (dC (.int 1)) (aCons (d2 dPow (dC (.int 10)) (dC (.int 40))) aNil)))) (dCallW 1 g__law_drop (aCons (dC (.int 3)) aNil))))
    (mSeq (mFor (iSeq (dLst (aCons (dC (.int 0)) (aCons (dC (.int 1)) aNil)))) (gNm 10) lb_law_2)
    (mFor (iSeq (dLst (aCons (dC (.int 2)) (aCons (dC (.int 3)) aNil)))) (gNm 10) lb_law_1))))))))
def tb_law : DM := (mSeq (mSet 1 (dCall g__law_spring (aCons (dVar 0) aNil)))
    (mSeq (mFor (iR1 (dC (.int 6))) (gNm 2) lb_law_3)
    (mRet (dC (.bool true)))))

theorem tried_file {way : Int} {ins : Ins} {vs : List D} {P : SD → Prop} (hw : way = 0 ∨ way = 1) (hr : InsR ins) (ho : okFs ins vs) (h : P (.val (.str ""))) : g__law_tried [.int way, insD ins, .tuple vs] P :=
  ⟨way, _, _, rfl, by omega, hr.ok.2.1, .inr ⟨ins, rfl, hr.ok.2, fun _ => ⟨fun _ => h, fun k hk => by rw [okFs_fault ho] at hk; cases hk⟩, fun z => absurd (by omega) z⟩⟩
theorem tried_wrong {way i : Int} {ins : Ins} {d : D} {P : SD → Prop} (hw : way = 0 ∨ way = 1) (hr : InsR ins) (ho : faultI ins d = some i) (h : P (.own [.str "file", .int i])) : g__law_tried [.int way, insD ins, d] P :=
  ⟨way, _, _, rfl, by omega, hr.ok.2.1, .inr ⟨ins, rfl, hr.ok.2, fun _ => ⟨fun z => (by rw [ho] at z; cases z), fun k hk => by rw [ho] at hk; cases hk; exact h⟩, fun z => absurd (by omega) z⟩⟩
theorem tried_bad {way : Int} {b o : D} {P : SD → Prop} (hw : way = 0 ∨ way = 1 ∨ way = 2 ∨ way = 3) (hf : fitI b) (hb : inputsB b = false) (h : P (.val (.str "inputs"))) : g__law_tried [.int way, b, o] P :=
  ⟨way, _, _, rfl, hw, hf, .inl ⟨hb, h⟩⟩
theorem tried_good {way : Int} {ins : Ins} {d : D} {P : SD → Prop} (hw : way = 2 ∨ way = 3) (hr : InsR ins) (ho : countB d = true) (h : P (.val (.str ""))) : g__law_tried [.int way, insD ins, d] P :=
  ⟨way, _, _, rfl, by omega, hr.ok.2.1, .inr ⟨ins, rfl, hr.ok.2, fun z => (by omega), fun _ => ⟨fun _ => h, fun z => (by rw [ho] at z; cases z)⟩⟩⟩
theorem tried_odd {way : Int} {ins : Ins} {d : D} {P : SD → Prop} (hw : way = 2 ∨ way = 3) (hr : InsR ins) (ho : countB d = false) (h : P (.val (.str "count"))) : g__law_tried [.int way, insD ins, d] P :=
  ⟨way, _, _, rfl, by omega, hr.ok.2.1, .inr ⟨ins, rfl, hr.ok.2, fun z => (by omega), fun _ => ⟨fun z => (by rw [ho] at z; cases z), fun _ => h⟩⟩⟩
/-! what is no inputs -/
def insL (ins : Ins) : List D := ins.map fun p => .tuple [.str p.1, p.2.d]
theorem insD_L (ins : Ins) : insD ins = .tuple (insL ins) := rfl
def BadI (b : D) : Prop := fitI b ∧ inputsB b = false
theorem dedup_app {zs : List Str} {z : Str} (h : zs.Nodup) (hz : z ∈ zs) : uniqN (zs ++ [z]) = zs.length := by
  unfold uniqN
  rw [List.foldl_append, dedup_nodup zs [] (by simpa using h)]
  have : (zs.any fun x => x == z) = true := List.any_eq_true.mpr ⟨z, hz, by simp⟩
  simp [step_dedup, this]
theorem bad_more {ins : Ins} (hr : InsR ins) : BadI (.tuple (insL ins ++ DL.cutD (insL ins) none (some 1))) := by
  have l := hr.l
  obtain ⟨p, r, rfl⟩ : ∃ p r, ins = p :: r := by
    cases ins with
    | nil => simp at l
    | cons p r => exact ⟨p, r, rfl⟩
  have e : DL.cutD (insL (p :: r)) none (some 1) = [.tuple [.str p.1, p.2.d]] := by
    have := cut_to (insL (p :: r)) 1 (by simp [insL])
    rw [show ((1 : Nat) : Int) = 1 from rfl] at this
    rw [this]; rfl
  have f : fitI (.tuple (insL (p :: r))) := hr.ok.2.1
  rw [e]
  refine ⟨fun x hx => ?_, ?_⟩
  · rcases List.mem_append.mp hx with hx | hx
    · exact f x hx
    · exact f x (by rw [List.mem_singleton.mp hx]; simp [insL])
  · have en : ((insL (p :: r) ++ [PyData.tuple [.str p.1, p.2.d]]).map nameOf) = (((p :: r).map (·.1)) ++ [p.1]).map .str := by simp [insL, nameOf, Function.comp_def]
    have u : unlikeB ((insL (p :: r) ++ [PyData.tuple [.str p.1, p.2.d]]).map nameOf) = false := by
      rw [en]
      unfold unlikeB
      rw [strsOf_map, dedup_app hr.n (by simp)]
      simp
    simp only [inputsB, u, Bool.and_false]
theorem strFit_of {s : String} (h : wordB (.str (Str.ofString s)) = true) : strFit (.str (Str.ofString s)) := word_fit h
theorem fit_kd {k : Knd} (hk : KndOk k) : fitOne k.d := by
  cases k with
  | truth => trivial
  | int lo hi => trivial
  | pick ws =>
    refine ⟨strFit_of (by decide +kernel), fun w hw => ?_⟩
    match ws, hw with
    | [], hw => simp [BK.wordsOf] at hw
    | [_], hw => simp [BK.wordsOf] at hw
    | [_, _], hw => simp [BK.wordsOf] at hw
    | _ :: _ :: _ :: _, hw => simp [BK.wordsOf] at hw
theorem bad_first {p : Str × Knd} (hk : KndOk p.2) : BadI (.tuple [.str p.1, p.2.d]) := by
  refine ⟨fun x hx => ?_, ?_⟩
  · simp at hx
    rcases hx with rfl | rfl
    · trivial
    · exact fit_kd hk
  · simp [inputsB, oneB]
theorem bad_seven {ins : Ins} (hr : InsR ins) : BadI (.tuple (List.replicate 7 (insL ins)).flatten) := by
  have f : fitI (.tuple (insL ins)) := hr.ok.2.1
  have l := hr.l
  refine ⟨fun x hx => ?_, ?_⟩
  · obtain ⟨l, hl, hx⟩ := List.mem_flatten.mp hx
    rw [(List.mem_replicate.mp hl).2] at hx
    exact f x hx
  · have e : (List.replicate 7 (insL ins)).flatten.length = 7 * ins.length := by simp [insL]; omega
    have : ¬ (1 ≤ (List.replicate 7 (insL ins)).flatten.length ∧ (List.replicate 7 (insL ins)).flatten.length ≤ 6) := by omega
    simp only [inputsB, decide_eq_false this, Bool.false_and]
theorem bad_pair : BadI (.tuple [.tuple [.str "a", .str "int"]]) := by
  refine ⟨fun x hx => ?_, by decide +kernel⟩
  rw [List.mem_singleton.mp hx]
  exact ⟨strFit_of (by decide +kernel), fun w hw => by simp [BK.wordsOf] at hw⟩
theorem file_sh (k : Int) : SeqAt.shaped (.list [.str "file", .int k]) = true := (Shp.list (n := 1) fun x hx => by
  simp at hx
  rcases hx with rfl | rfl
  · exact Shp.strS _
  · exact Shp.int).shaped
theorem file_eqv (k : Int) : PyData.eqv (.list [.str "file", .int k]) (.list [.str "file", .int k]) = true := by simp [PyData.eqv, PyData.eqvAll]
section
variable {p c : Addr} {s0 s2 s10 : SD} {ins : Ins} {vs : List D} {wrong bad odd good : D} {i way : Int} {E : En}
theorem way_num (hw : way = 0 ∨ way = 1) (hr : InsR ins) (ho : okFs ins vs) (hwr : faultI ins wrong = some i) (hb : BadI bad) (h : E.nx [s0, .wd (lakeB p c), s2, .val (insD ins), .val (.tuple vs), .val wrong, .val (.int i), .val bad, .val odd, .val good, .val (.int way)]) :
    lb_law_2 E [s0, .wd (lakeB p c), s2, .val (insD ins), .val (.tuple vs), .val wrong, .val (.int i), .val bad, .val odd, .val good, .val (.int way)] := by
  unfold lb_law_2
  refine seq_no (fun Q q => ?_) (if_no (fun Q q => ?_) h)
  · simp
    refine tried_file hw hr ho ?_
    simp
    refine tried_wrong hw hr hwr ?_
    simp [file_sh, file_eqv]
    exact q
  · simp
    refine at_scoop (by decide) (by decide) fun r r0 r1 => ?_
    obtain ⟨x, ex, hx⟩ := atI_at (xs := [PyData.tuple vs, wrong]) r0 (by simpa using r1)
    simp [ex]
    refine tried_bad (by omega) hb.1 hb.2 ?_
    simpa using q
theorem way_at (hw : way = 2 ∨ way = 3) (hr : InsR ins) (hg : countB good = true) (ho : countB odd = false) (hb : BadI bad) (h : E.nx [s0, .wd (lakeB p c), s2, .val (insD ins), .val (.tuple vs), .val wrong, .val (.int i), .val bad, .val odd, .val good, .val (.int way)]) :
    lb_law_1 E [s0, .wd (lakeB p c), s2, .val (insD ins), .val (.tuple vs), .val wrong, .val (.int i), .val bad, .val odd, .val good, .val (.int way)] := by
  unfold lb_law_1
  refine seq_no (fun Q q => ?_) (if_no (fun Q q => ?_) h)
  · simp
    refine tried_good hw hr hg ?_
    simp
    refine tried_odd hw hr ho ?_
    simpa using q
  · simp
    refine at_scoop (by decide) (by decide) fun r r0 r1 => ?_
    obtain ⟨x, ex, hx⟩ := atI_at (xs := [good, odd]) r0 (by simpa using r1)
    simp [ex]
    refine tried_bad (by omega) hb.1 hb.2 ?_
    simpa using q
end
theorem turn_ok {p c : Addr} {s0 s2 s3 s4 s5 s6 s7 s8 s9 s10 : SD} {E : En} (h : ∀ s3 s4 s5 s6 s7 s8 s9 s10, E.nx [s0, .wd (lakeB p c), s2, s3, s4, s5, s6, s7, s8, s9, s10]) :
    lb_law_3 E [s0, .wd (lakeB p c), s2, s3, s4, s5, s6, s7, s8, s9, s10] := by
  unfold lb_law_3
  have l9 := le_line (n := 60) (by omega)
  refine seq_cut (fun ds => ∃ ins : Ins, InsR ins ∧ ds = [s0, .wd (lakeB p c), s2, .val (insD ins), s4, s5, s6, s7, s8, s9, s10]) (fun k hk => ?_) ?_
  · simp
    refine at_scoop (by decide) (by decide) fun r r0 r1 => ?_
    obtain ⟨x, ex, hx⟩ := atI_at (xs := [PyData.int 3, .int 1000, .int 2000001]) r0 (by simpa using r1)
    simp [ex]
    have : ∃ w : Int, x = .int w ∧ 1 ≤ w ∧ w ≤ 3000000 := by
      simp at hx
      rcases hx with rfl | rfl | rfl <;> exact ⟨_, rfl, by omega, by omega⟩
    obtain ⟨w, rfl, w1, w2⟩ := this
    refine ⟨p, c, 6, w, rfl, rfl, ⟨by omega, by omega⟩, ⟨w1, w2⟩, fun ins hr _ => ?_⟩
    simp
    exact hk _ ⟨ins, hr, rfl⟩
  rintro _ ⟨ins, hr, rfl⟩
  refine seq_cut (fun ds => ∃ vs : List D, okFs ins vs ∧ ds = [s0, .wd (lakeB p c), s2, .val (insD ins), .val (.tuple vs), s5, s6, s7, s8, s9, s10]) (fun k hk => ?_) ?_
  · simp
    refine ⟨p, c, ins, rfl, rfl, hr, fun vs hv => ?_⟩
    simp
    exact hk _ ⟨vs, hv, rfl⟩
  rintro _ ⟨vs, hv, rfl⟩
  refine seq_cut (fun ds => ∃ (wrong : D) (i : Int), faultI ins wrong = some i ∧ ds = [s0, .wd (lakeB p c), s2, .val (insD ins), .val (.tuple vs), .val wrong, .val (.int i), s7, s8, s9, s10]) (fun k hk => ?_) ?_
  · simp
    refine ⟨p, c, ins, vs, rfl, rfl, hr, hv, fun d i hd => ?_⟩
    simp
    exact hk _ ⟨d, i, hd, rfl⟩
  rintro _ ⟨wrong, i, hwr, rfl⟩
  refine seq_cut (fun ds => ∃ bad : D, BadI bad ∧ ds = [s0, .wd (lakeB p c), s2, .val (insD ins), .val (.tuple vs), .val wrong, .val (.int i), .val bad, s8, s9, s10]) (fun k hk => ?_) ?_
  · have l := hr.l
    have ll : (insL ins).length = ins.length := by simp [insL]
    have c1 := cut_one (insL ins) (by omega)
    have s1 : (insL ins).length ≤ sizeLine := by omega
    have s2' : (insL ins).length + 1 ≤ sizeLine := by omega
    have s3' : (insL ins).length ≤ 1000 := by omega
    have ne : ¬ insL ins = [] := fun z => by rw [z] at ll; simp at ll; omega
    obtain ⟨q, hq⟩ : ∃ q, ins[0]? = some q := ⟨ins[0], List.getElem?_eq_getElem (by omega)⟩
    have a0 : atI (insL ins) 0 = some (.tuple [.str q.1, q.2.d]) := atI_nat (j := 0) (by simp [insL, hq])
    rw [insD_L]
    simp [c1, s1, s2', s3', ne, a0]
    refine at_scoop (by decide) (by decide) fun r r0 r1 => ?_
    obtain ⟨x, ex, hx⟩ := atI_at (xs := [PyData.none, .tuple [], .list (insL ins), .tuple (insL ins ++ DL.cutD (insL ins) none (some 1)), .tuple [.str q.1, q.2.d], .str "ab", .tuple [.tuple [.str "a", .str "int"]], .tuple (List.replicate 7 (insL ins)).flatten]) r0 (by simpa using r1)
    have hb : BadI x := by
      simp only [List.mem_cons, List.not_mem_nil, or_false] at hx
      rcases hx with rfl | rfl | rfl | rfl | rfl | rfl | rfl | rfl
      · exact ⟨trivial, rfl⟩
      · exact ⟨fun x hx => by simp at hx, rfl⟩
      · exact ⟨trivial, rfl⟩
      · exact bad_more hr
      · exact bad_first (hr.w q (List.mem_of_getElem? hq)).2
      · exact ⟨trivial, rfl⟩
      · exact bad_pair
      · exact bad_seven hr
    have z := hk _ ⟨x, hb, rfl⟩
    simp at ex
    simpa [ex, insD_L] using z
  rintro _ ⟨bad, hb, rfl⟩
  have e30 : (10 : Int) ^ (30 : Int).toNat = 1000000000000000000000000000000 := rfl
  have e40 : (10 : Int) ^ (40 : Int).toNat = 10000000000000000000000000000000000000000 := rfl
  refine seq_cut (fun ds => ∃ odd : D, countB odd = false ∧ ds = [s0, .wd (lakeB p c), s2, .val (insD ins), .val (.tuple vs), .val wrong, .val (.int i), .val bad, .val odd, s9, s10]) (fun k hk => ?_) ?_
  · simp [cpow30, e30]
    refine at_scoop (by decide) (by decide) fun r r0 r1 => ?_
    obtain ⟨x, ex, hx⟩ := atI_at (xs := [PyData.int (-1), .none, .str "1", .bool true, .tuple [.int 1], .int (-1000000000000000000000000000000), .list [], .bool false]) r0 (by simpa using r1)
    have ho : countB x = false := by
      simp only [List.mem_cons, List.not_mem_nil, or_false] at hx
      rcases hx with rfl | rfl | rfl | rfl | rfl | rfl | rfl | rfl <;> first | rfl | decide
    simp [ex]
    exact hk _ ⟨x, ho, rfl⟩
  rintro _ ⟨odd, ho, rfl⟩
  refine seq_cut (fun ds => ∃ good : D, countB good = true ∧ ds = [s0, .wd (lakeB p c), s2, .val (insD ins), .val (.tuple vs), .val wrong, .val (.int i), .val bad, .val odd, .val good, s10]) (fun k hk => ?_) ?_
  · simp [cpow40, e40]
    refine at_scoop (by decide) (by decide) fun r r0 r1 => ?_
    obtain ⟨x, ex, hx⟩ := atI_at (xs := [PyData.int 0, .int 1, .int 10000000000000000000000000000000000000000]) r0 (by simpa using r1)
    have hg : countB x = true := by
      simp only [List.mem_cons, List.not_mem_nil, or_false] at hx
      rcases hx with rfl | rfl | rfl <;> first | rfl | decide
    simp [ex]
    exact hk _ ⟨x, hg, rfl⟩
  rintro _ ⟨good, hg, rfl⟩
  simp [loopD]
  refine way_num (.inl rfl) hr hv hwr hb ?_
  refine way_num (.inr rfl) hr hv hwr hb ?_
  simp [loopD]
  refine way_at (.inl rfl) hr hg ho hb ?_
  refine way_at (.inr rfl) hr hg ho hb ?_
  exact h _ _ _ _ _ _ _ _
def g_law : DF := fun dl P => ∃ ns : List Int, dl = [.list (ns.map .int)] ∧ ns.length ≤ 63 ∧ P (.val (.bool true))
theorem rd_law : ∀ dl Q, dl.length = 1 → g_law dl Q → tb_law (enF Q) (slots0 11 dl) := by
  rintro dl Q - ⟨ns, rfl, hl, h⟩
  unfold tb_law
  refine seq_cut (fun ds => ∃ p c, ds = [.val (.list (ns.map .int)), .wd (lakeB p c), .no, .no, .no, .no, .no, .no, .no, .no, .no]) (fun K hK => ?_) ?_
  · simp
    exact ⟨ns, rfl, hl, fun p c => by simpa using hK _ ⟨p, c, rfl⟩⟩
  rintro _ ⟨p, c, rfl⟩
  have loop : ∀ (js : List Nat) (E : En) (s2 s3 s4 s5 s6 s7 s8 s9 s10 : SD), (∀ s2 s3 s4 s5 s6 s7 s8 s9 s10, E.nx [.val (.list (ns.map .int)), .wd (lakeB p c), s2, s3, s4, s5, s6, s7, s8, s9, s10]) →
      loopD (gNm 2) lb_law_3 (js.map fun j : Nat => .int (j : Int)) E [.val (.list (ns.map .int)), .wd (lakeB p c), s2, s3, s4, s5, s6, s7, s8, s9, s10] := by
    intro js
    induction js with
    | nil => intro E s2 s3 s4 s5 s6 s7 s8 s9 s10 k; simpa [loopD] using k _ _ _ _ _ _ _ _ _
    | cons j js ih =>
      intro E s2 s3 s4 s5 s6 s7 s8 s9 s10 k
      simp only [List.map_cons, loopD, gNm, put]
      simp
      exact turn_ok fun s3 s4 s5 s6 s7 s8 s9 s10 => ih E _ _ _ _ _ _ _ _ _ k
  have l6 := le_line (n := 6) (by omega)
  simp [rng_eq]
  have := loop (List.range' 0 6) { enF Q with nx := mRet (dC (.bool true)) (enF Q) } .no .no .no .no .no .no .no .no .no (fun _ _ _ _ _ _ _ _ _ => by simpa using h)
  simpa using this
end K01

namespace K01
open PySem PySem.Spec PyProof.Rows L2 BK EX
open DL hiding g_is_between tb_is_between rd_is_between
abbrev cst_MOST_WORDS : D := .int 6
abbrev cst_GREATEST : D := .int 1000000
abbrev cst_MOST_INPUTS : D := .int 6
def topS (i : Nat) : Stmt := PySem.Challenge.pw_everyfolk_k01_refusals_of_values.main.body.getD i (.Pass ⟨0, 0, 0, 0⟩)
abbrev s_is_integer : Stmt := topS 6
abbrev N_is_integer : List Str := ["value"]
abbrev P_is_integer : List Str := ["value"]
theorem sc_is_integer : FnScope N_is_integer P_is_integer (defScope s_is_integer) := ⟨rfl, rfl, rfl, by decide +kernel, rfl, by decide +kernel, by decide +kernel⟩
abbrev s_is_between : Stmt := topS 7
abbrev N_is_between : List Str := ["least", "value", "most"]
abbrev P_is_between : List Str := ["least", "value", "most"]
theorem sc_is_between : FnScope N_is_between P_is_between (defScope s_is_between) := ⟨rfl, rfl, rfl, by decide +kernel, rfl, by decide +kernel, by decide +kernel⟩
abbrev s_is_tuple_of : Stmt := topS 8
abbrev N_is_tuple_of : List Str := ["length", "value"]
abbrev P_is_tuple_of : List Str := ["length", "value"]
theorem sc_is_tuple_of : FnScope N_is_tuple_of P_is_tuple_of (defScope s_is_tuple_of) := ⟨rfl, rfl, rfl, by decide +kernel, rfl, by decide +kernel, by decide +kernel⟩
abbrev s_is_headed : Stmt := topS 9
abbrev N_is_headed : List Str := ["word", "length", "value"]
abbrev P_is_headed : List Str := ["word", "length", "value"]
theorem sc_is_headed : FnScope N_is_headed P_is_headed (defScope s_is_headed) := ⟨rfl, rfl, rfl, by decide +kernel, rfl, by decide +kernel, by decide +kernel⟩
abbrev s_is_word : Stmt := topS 10
abbrev N_is_word : List Str := ["value", "sign"]
abbrev P_is_word : List Str := ["value"]
theorem sc_is_word : FnScope N_is_word P_is_word (defScope s_is_word) := ⟨rfl, rfl, rfl, by decide +kernel, rfl, by decide +kernel, by decide +kernel⟩
abbrev s_check_count : Stmt := topS 11
abbrev N_check_count : List Str := ["number"]
abbrev P_check_count : List Str := ["number"]
theorem sc_check_count : FnScope N_check_count P_check_count (defScope s_check_count) := ⟨rfl, rfl, rfl, by decide +kernel, rfl, by decide +kernel, by decide +kernel⟩
abbrev s_are_unlike : Stmt := topS 16
abbrev N_are_unlike : List Str := ["words"]
abbrev P_are_unlike : List Str := ["words"]
theorem sc_are_unlike : FnScope N_are_unlike P_are_unlike (defScope s_are_unlike) := ⟨rfl, rfl, rfl, by decide +kernel, rfl, by decide +kernel, by decide +kernel⟩
abbrev s_is_kind : Stmt := topS 17
abbrev N_is_kind : List Str := ["value", "word"]
abbrev P_is_kind : List Str := ["value"]
theorem sc_is_kind : FnScope N_is_kind P_is_kind (defScope s_is_kind) := ⟨rfl, rfl, rfl, by decide +kernel, rfl, by decide +kernel, by decide +kernel⟩
abbrev s_is_inputs : Stmt := topS 18
abbrev N_is_inputs : List Str := ["value", "name", "kind", "one"]
abbrev P_is_inputs : List Str := ["value"]
theorem sc_is_inputs : FnScope N_is_inputs P_is_inputs (defScope s_is_inputs) := ⟨rfl, rfl, rfl, by decide +kernel, rfl, by decide +kernel, by decide +kernel⟩
abbrev s_check_inputs : Stmt := topS 19
abbrev N_check_inputs : List Str := ["inputs"]
abbrev P_check_inputs : List Str := ["inputs"]
theorem sc_check_inputs : FnScope N_check_inputs P_check_inputs (defScope s_check_inputs) := ⟨rfl, rfl, rfl, by decide +kernel, rfl, by decide +kernel, by decide +kernel⟩
abbrev s_ends_of : Stmt := topS 20
abbrev N_ends_of : List Str := ["kind"]
abbrev P_ends_of : List Str := ["kind"]
theorem sc_ends_of : FnScope N_ends_of P_ends_of (defScope s_ends_of) := ⟨rfl, rfl, rfl, by decide +kernel, rfl, by decide +kernel, by decide +kernel⟩
abbrev s_is_of : Stmt := topS 21
abbrev N_is_of : List Str := ["kind", "value", "low", "high"]
abbrev P_is_of : List Str := ["kind", "value"]
theorem sc_is_of : FnScope N_is_of P_is_of (defScope s_is_of) := ⟨rfl, rfl, rfl, by decide +kernel, rfl, by decide +kernel, by decide +kernel⟩
abbrev s_fault_in : Stmt := topS 22
abbrev N_fault_in : List Str := ["inputs", "value", "wrong", "k", "one"]
abbrev P_fault_in : List Str := ["inputs", "value"]
theorem sc_fault_in : FnScope N_fault_in P_fault_in (defScope s_fault_in) := ⟨rfl, rfl, rfl, by decide +kernel, rfl, by decide +kernel, by decide +kernel⟩
abbrev s_check_file : Stmt := topS 23
abbrev N_check_file : List Str := ["inputs", "file", "fault"]
abbrev P_check_file : List Str := ["inputs", "file"]
theorem sc_check_file : FnScope N_check_file P_check_file (defScope s_check_file) := ⟨rfl, rfl, rfl, by decide +kernel, rfl, by decide +kernel, by decide +kernel⟩
abbrev s_width_of : Stmt := topS 24
abbrev N_width_of : List Str := ["kind", "low", "high"]
abbrev P_width_of : List Str := ["kind"]
theorem sc_width_of : FnScope N_width_of P_width_of (defScope s_width_of) := ⟨rfl, rfl, rfl, by decide +kernel, rfl, by decide +kernel, by decide +kernel⟩
abbrev s_file_at : Stmt := topS 25
abbrev N_file_at : List Str := ["inputs", "number", "found", "name", "kind", "at"]
abbrev P_file_at : List Str := ["inputs", "number"]
theorem sc_file_at : FnScope N_file_at P_file_at (defScope s_file_at) := ⟨rfl, rfl, rfl, by decide +kernel, rfl, by decide +kernel, by decide +kernel⟩
abbrev s_number_of : Stmt := topS 26
abbrev N_number_of : List Str := ["inputs", "file", "number", "name", "kind", "value"]
abbrev P_number_of : List Str := ["inputs", "file"]
theorem sc_number_of : FnScope N_number_of P_number_of (defScope s_number_of) := ⟨rfl, rfl, rfl, by decide +kernel, rfl, by decide +kernel, by decide +kernel⟩
abbrev s__law_spring : Stmt := topS 28
abbrev N__law_spring : List Str := ["script", "great", "mixed", "cell"]
abbrev P__law_spring : List Str := ["script"]
theorem sc__law_spring : FnScope N__law_spring P__law_spring (defScope s__law_spring) := ⟨rfl, rfl, rfl, by decide +kernel, rfl, by decide +kernel, by decide +kernel⟩
abbrev s__law_drop : Stmt := topS 29
abbrev N__law_drop : List Str := ["spring", "many", "great", "found"]
abbrev P__law_drop : List Str := ["spring", "many"]
theorem sc__law_drop : FnScope N__law_drop P__law_drop (defScope s__law_drop) := ⟨rfl, rfl, rfl, by decide +kernel, rfl, by decide +kernel, by decide +kernel⟩
abbrev s__law_word : Stmt := topS 30
abbrev N__law_word : List Str := ["spring", "many", "k"]
abbrev P__law_word : List Str := ["spring"]
theorem sc__law_word : FnScope N__law_word P__law_word (defScope s__law_word) := ⟨rfl, rfl, rfl, by decide +kernel, rfl, by decide +kernel, by decide +kernel⟩
abbrev s__law_words : Stmt := topS 31
abbrev N__law_words : List Str := ["spring", "many", "found", "k", "word"]
abbrev P__law_words : List Str := ["spring", "many"]
theorem sc__law_words : FnScope N__law_words P__law_words (defScope s__law_words) := ⟨rfl, rfl, rfl, by decide +kernel, rfl, by decide +kernel, by decide +kernel⟩
abbrev s__law_kind : Stmt := topS 32
abbrev N__law_kind : List Str := ["spring", "wide", "way", "low", "far"]
abbrev P__law_kind : List Str := ["spring", "wide"]
theorem sc__law_kind : FnScope N__law_kind P__law_kind (defScope s__law_kind) := ⟨rfl, rfl, rfl, by decide +kernel, rfl, by decide +kernel, by decide +kernel⟩
abbrev s__law_inputs : Stmt := topS 33
abbrev N__law_inputs : List Str := ["spring", "most", "wide", "many", "names", "k"]
abbrev P__law_inputs : List Str := ["spring", "most", "wide"]
theorem sc__law_inputs : FnScope N__law_inputs P__law_inputs (defScope s__law_inputs) := ⟨rfl, rfl, rfl, by decide +kernel, rfl, by decide +kernel, by decide +kernel⟩
abbrev s__law_ends : Stmt := topS 34
abbrev N__law_ends : List Str := ["kind"]
abbrev P__law_ends : List Str := ["kind"]
theorem sc__law_ends : FnScope N__law_ends P__law_ends (defScope s__law_ends) := ⟨rfl, rfl, rfl, by decide +kernel, rfl, by decide +kernel, by decide +kernel⟩
abbrev s__law_value : Stmt := topS 35
abbrev N__law_value : List Str := ["spring", "kind", "low", "high", "at"]
abbrev P__law_value : List Str := ["spring", "kind"]
theorem sc__law_value : FnScope N__law_value P__law_value (defScope s__law_value) := ⟨rfl, rfl, rfl, by decide +kernel, rfl, by decide +kernel, by decide +kernel⟩
abbrev s__law_file : Stmt := topS 36
abbrev N__law_file : List Str := ["spring", "inputs", "name", "kind"]
abbrev P__law_file : List Str := ["spring", "inputs"]
theorem sc__law_file : FnScope N__law_file P__law_file (defScope s__law_file) := ⟨rfl, rfl, rfl, by decide +kernel, rfl, by decide +kernel, by decide +kernel⟩
abbrev s__law_tried : Stmt := topS 37
abbrev N__law_tried : List Str := ["way", "inputs", "other", "found", "e"]
abbrev P__law_tried : List Str := ["way", "inputs", "other"]
theorem sc__law_tried : FnScope N__law_tried P__law_tried (defScope s__law_tried) := ⟨rfl, rfl, rfl, by decide +kernel, rfl, by decide +kernel, by decide +kernel⟩
abbrev s__law_wrong_file : Stmt := topS 38
abbrev N__law_wrong_file : List Str := ["spring", "inputs", "file", "way", "at", "low", "high", "odd", "bad", "later", "k"]
abbrev P__law_wrong_file : List Str := ["spring", "inputs", "file"]
theorem sc__law_wrong_file : FnScope N__law_wrong_file P__law_wrong_file (defScope s__law_wrong_file) := ⟨rfl, rfl, rfl, by decide +kernel, rfl, by decide +kernel, by decide +kernel⟩
abbrev s_law : Stmt := topS 39
abbrev N_law : List Str := ["script", "spring", "turn", "inputs", "file", "wrong", "index", "bad", "odd", "good", "way"]
abbrev P_law : List Str := ["script"]
theorem sc_law : FnScope N_law P_law (defScope s_law) := ⟨rfl, rfl, rfl, by decide +kernel, rfl, by decide +kernel, by decide +kernel⟩
structure Df (K : PySem.W.Frag) (mg : Str → Option Value) (x : Str) (st : Stmt) (ps : List Str) (f : Addr) (fd : FuncData) : Prop where
  F : Fun K x x st f fd
  b : Binds K fd ps []
  m : mg x = some (.ref f)
structure DfM (K : PySem.W.Frag) (x q : Str) (st : Stmt) (ps : List Str) (f : Addr) (fd : FuncData) : Prop where
  F : Fun K x q st f fd
  b : Binds K fd ps []
structure Tx (P : Program) (w : World) (K : PySem.W.Frag) (mg : Str → Option Value) where
  a_is_integer : Addr
  fd_is_integer : FuncData
  d_is_integer : Df K mg "is_integer" s_is_integer P_is_integer a_is_integer fd_is_integer
  a_is_between : Addr
  fd_is_between : FuncData
  d_is_between : Df K mg "is_between" s_is_between P_is_between a_is_between fd_is_between
  a_is_tuple_of : Addr
  fd_is_tuple_of : FuncData
  d_is_tuple_of : Df K mg "is_tuple_of" s_is_tuple_of P_is_tuple_of a_is_tuple_of fd_is_tuple_of
  a_is_headed : Addr
  fd_is_headed : FuncData
  d_is_headed : Df K mg "is_headed" s_is_headed P_is_headed a_is_headed fd_is_headed
  a_is_word : Addr
  fd_is_word : FuncData
  d_is_word : Df K mg "is_word" s_is_word P_is_word a_is_word fd_is_word
  a_check_count : Addr
  fd_check_count : FuncData
  d_check_count : Df K mg "check_count" s_check_count P_check_count a_check_count fd_check_count
  a_are_unlike : Addr
  fd_are_unlike : FuncData
  d_are_unlike : Df K mg "are_unlike" s_are_unlike P_are_unlike a_are_unlike fd_are_unlike
  a_is_kind : Addr
  fd_is_kind : FuncData
  d_is_kind : Df K mg "is_kind" s_is_kind P_is_kind a_is_kind fd_is_kind
  a_is_inputs : Addr
  fd_is_inputs : FuncData
  d_is_inputs : Df K mg "is_inputs" s_is_inputs P_is_inputs a_is_inputs fd_is_inputs
  a_check_inputs : Addr
  fd_check_inputs : FuncData
  d_check_inputs : Df K mg "check_inputs" s_check_inputs P_check_inputs a_check_inputs fd_check_inputs
  a_ends_of : Addr
  fd_ends_of : FuncData
  d_ends_of : Df K mg "ends_of" s_ends_of P_ends_of a_ends_of fd_ends_of
  a_is_of : Addr
  fd_is_of : FuncData
  d_is_of : Df K mg "is_of" s_is_of P_is_of a_is_of fd_is_of
  a_fault_in : Addr
  fd_fault_in : FuncData
  d_fault_in : Df K mg "fault_in" s_fault_in P_fault_in a_fault_in fd_fault_in
  a_check_file : Addr
  fd_check_file : FuncData
  d_check_file : Df K mg "check_file" s_check_file P_check_file a_check_file fd_check_file
  a_width_of : Addr
  fd_width_of : FuncData
  d_width_of : Df K mg "width_of" s_width_of P_width_of a_width_of fd_width_of
  a_file_at : Addr
  fd_file_at : FuncData
  d_file_at : Df K mg "file_at" s_file_at P_file_at a_file_at fd_file_at
  a_number_of : Addr
  fd_number_of : FuncData
  d_number_of : Df K mg "number_of" s_number_of P_number_of a_number_of fd_number_of
  a__law_spring : Addr
  fd__law_spring : FuncData
  d__law_spring : Df K mg "_law_spring" s__law_spring P__law_spring a__law_spring fd__law_spring
  a__law_drop : Addr
  fd__law_drop : FuncData
  d__law_drop : Df K mg "_law_drop" s__law_drop P__law_drop a__law_drop fd__law_drop
  a__law_word : Addr
  fd__law_word : FuncData
  d__law_word : Df K mg "_law_word" s__law_word P__law_word a__law_word fd__law_word
  a__law_words : Addr
  fd__law_words : FuncData
  d__law_words : Df K mg "_law_words" s__law_words P__law_words a__law_words fd__law_words
  a__law_kind : Addr
  fd__law_kind : FuncData
  d__law_kind : Df K mg "_law_kind" s__law_kind P__law_kind a__law_kind fd__law_kind
  a__law_inputs : Addr
  fd__law_inputs : FuncData
  d__law_inputs : Df K mg "_law_inputs" s__law_inputs P__law_inputs a__law_inputs fd__law_inputs
  a__law_ends : Addr
  fd__law_ends : FuncData
  d__law_ends : Df K mg "_law_ends" s__law_ends P__law_ends a__law_ends fd__law_ends
  a__law_value : Addr
  fd__law_value : FuncData
  d__law_value : Df K mg "_law_value" s__law_value P__law_value a__law_value fd__law_value
  a__law_file : Addr
  fd__law_file : FuncData
  d__law_file : Df K mg "_law_file" s__law_file P__law_file a__law_file fd__law_file
  a__law_tried : Addr
  fd__law_tried : FuncData
  d__law_tried : Df K mg "_law_tried" s__law_tried P__law_tried a__law_tried fd__law_tried
  a__law_wrong_file : Addr
  fd__law_wrong_file : FuncData
  d__law_wrong_file : Df K mg "_law_wrong_file" s__law_wrong_file P__law_wrong_file a__law_wrong_file fd__law_wrong_file
  a_law : Addr
  fd_law : FuncData
  d_law : Df K mg "law" s_law P_law a_law fd_law
  z_isinstance : mg "isinstance" = none
  z_bool : mg "bool" = none
  z_int : mg "int" = none
  z_len : mg "len" = none
  z_tuple : mg "tuple" = none
  z_str : mg "str" = none
  z_all : mg "all" = none
  z_set : mg "set" = none
  z_enumerate : mg "enumerate" = none
  z_reversed : mg "reversed" = none
  z_zip : mg "zip" = none
  z_range : mg "range" = none
  z_min : mg "min" = none
  z_list : mg "list" = none
  cm : String → Addr
  sb : DL.SubX K cm nmx subx
  g_CaseError : mg "CaseError" = some (.ref (cm "CaseError"))
  g_InvalidInputs : mg "InvalidInputs" = some (.ref (cm "InvalidInputs"))
  x_InvalidInputs : DL.ExP K mg "InvalidInputs" (cm "InvalidInputs")
  g_InvalidCount : mg "InvalidCount" = some (.ref (cm "InvalidCount"))
  x_InvalidCount : DL.ExP K mg "InvalidCount" (cm "InvalidCount")
  g_InvalidFile : mg "InvalidFile" = some (.ref (cm "InvalidFile"))
  fi_InvalidFile : Addr
  t_InvalidFile : SUP.Txt P K mg "InvalidFile" "index" (cm "InvalidFile") fi_InvalidFile
  xf_InvalidFile : XfC K (cm "InvalidFile")
  v_MOST_WORDS : V
  c_MOST_WORDS : Cst K mg "MOST_WORDS" v_MOST_WORDS cst_MOST_WORDS
  v_GREATEST : V
  c_GREATEST : Cst K mg "GREATEST" v_GREATEST cst_GREATEST
  v_MOST_INPUTS : V
  c_MOST_INPUTS : Cst K mg "MOST_INPUTS" v_MOST_INPUTS cst_MOST_INPUTS
end K01

namespace K01
open PySem PySem.Spec PyProof.Rows L2 BK EX
open DL hiding g_is_between tb_is_between rd_is_between
theorem tSeq_mid {t u : TS} {D : Ends} {σ : Sl} {H : Hp} (M : Sl → Hp → Prop) (h1 : ∀ k : Sl → Hp → Prop, (∀ σ H, M σ H → k σ H) → t { D with nx := k } σ H) (h2 : ∀ σ H, M σ H → u D σ H) : tSeq t u D σ H := h1 _ h2
section
variable {P : Program} {w : World} {K : PySem.W.Frag} {mg : Str → Option Value} {base : Heap}
/-- a scoop, by hand -/
theorem ok__law_drop (T : Tx P w K mg) : FnOk P w K mg base CX0 1 T.a__law_drop T.fd__law_drop P__law_drop (spW K 1 g__law_drop) := by
  refine T.d__law_drop.F.ok sc__law_drop (fun vs H Q E h => h.1) (fun cdv A outer s H vs Q E hr h => ?_)
  obtain ⟨hn, F0, wd, ws, dl, rfl, ia, sa, wo, wF, W, ⟨p, c, many, rfl, rfl, m1, m2, hW⟩, hk⟩ := h
  obtain ⟨mv, rfl, im⟩ : ∃ mv, ws = [mv] ∧ mv = .int many := by
    cases ia with
    | cons x y => cases y; cases x; exact ⟨_, rfl, rfl⟩
  subst im
  obtain ⟨npc, cells, i, j, hp, hc, hnn, hlen, i0, i1⟩ := wo
  have nd := sc__law_drop.nd
  have fin : ∀ (r : Int) (H' : Hp), 0 ≤ r → r < many → (∀ a, F0 a → H' a = H a) → (lakeB p c).ok (res F0 H') H' → Q (.int r) H' := fun r H' h1 h2 h3 h4 => by
    refine hk _ _ (hW r h1 h2) H' (.int r) F0 Ad.nil (fun a f => ⟨f, h3 a f⟩) (fun a f => by rw [h3 a f]; exact sa a f) (fun _ z => z.elim) rfl h4 (fun a z => wF a z) ⟨⟨_, rfl, .int _⟩, fun _ z => z⟩
  refine ⟨_, pss_cons (ps_set (i := 2) nd rfl (.inl rfl) (pe_ix ix_list (pv 0) pe_int (fun _ _ => rfl)))
    (pss_cons (ps_while PassesOwn.never (pw_and (pt_cmpR (op_neA hr.units) (pv 2) (pe_lst pa_nil) (nomark _)) (pw_and1 (pt_cmpR (op_eqA hr.units) (pe_ix ix_list (pv 2) pe_int (fun _ _ => rfl)) pe_int (nomark _)))).pt
      (pss_one (ps_expr (pe_bm PySem.F.plainAttrs_list PySem.F.slot_list_pop PySem.F.type_list_pop mt_popAt (pv 2) (pa_cons pe_int pa_nil)))))
    (pss_cons (ps_if (pt_cmpR (op_neA hr.units) (pv 2) (pe_lst pa_nil) (nomark _))
      (pss_cons (ps_set (i := 3) nd rfl (.inl rfl) (pe_op op_modN (pe_callTy call_int1 (by rfl) T.z_int (by decide +kernel) (pa_cons (pe_ix ix_list (pv 2) pe_int (fun _ _ => rfl)) pa_nil)) (pv 1)))
      (pss_cons (ps_asg (pe_op op_fdivO (pe_ix ix_list (pv 2) pe_int (fun _ _ => rfl)) (pv 1)) (pg_sub (pv 2) pe_int set_list))
      (pss_one (ps_ret (pv 3))))) pss_nil)
    (pss_cons (ps_asg (pe_op op_add (pe_ix ix_list (pv 0) pe_int (fun _ _ => rfl)) pe_int) (pg_sub (pv 0) pe_int set_list))
    (pss_cons (ps_asg (pe_op op_modN (pe_callTy call_int1 (by rfl) T.z_int (by decide +kernel) (pa_cons (pe_op op_add (pe_op op_mulO (pe_ix ix_list (pv 0) pe_int (fun _ _ => rfl)) pe_int) (pe_op op_mulO (pe_ix ix_list (pv 0) pe_int (fun _ _ => rfl)) pe_int)) pa_nil)) pe_int) (pg_sub (pv 0) pe_int set_list))
    (pss_one (ps_ret (pe_op op_modN (pe_op op_fdivO (pe_op op_modN (pe_callTy call_int1 (by rfl) T.z_int (by decide +kernel) (pa_cons (pe_op op_mulO (pe_ix ix_list (pv 0) pe_int (fun _ _ => rfl)) (pe_ix ix_list (pv 0) pe_int (fun _ _ => rfl))) pa_nil)) pe_int) pe_int) (pv 1)))))))), ?_⟩
  -- deep = lake[0]
  refine ⟨_, rfl, p, _, 0, _, rfl, rfl, .of hp, atI_nat (j := 0) rfl, ?_⟩
  have keepF : ∀ {H1 H2 : Hp}, (∀ a, F0 a → H1 a = H a) → (∀ a o, H1 a = some o → H2 a = some o) → ∀ a, F0 a → H2 a = H a := fun h1 h2 a f => by
    obtain ⟨o, e, _⟩ := sa a f
    rw [e]
    exact h2 a o ((h1 a f).trans e)
  -- deep != []
  have ne : ∀ (σ : Sl) (H1 : Hp) (cells : List Int) (Q' : Bool → Hp → Prop), σ[2]? = some (some (.ref c)) → H1 c = some (.lst (cells.map V.int)) → (∀ H2, (∀ a o, H1 a = some o → H2 a = some o) → Q' (!cells.isEmpty) H2) →
      tTest (tOp (rNeA K) (tVar 2) (tLst tNil)) σ H1 Q' := fun σ H1 cells Q' hσ hc q => by
    refine ⟨_, hσ, Nat.zero_le _, fun x nx => ?_⟩
    have hc2 : (upd H1 x (.lst [])) c = some (.lst (cells.map V.int)) := by rw [upd_ne (ne_of_none hc nx)]; exact hc
    have hx2 : (upd H1 x (.lst [])) x = some (.lst []) := upd_same
    have kk : ∀ a o, H1 a = some o → (upd H1 x (.lst [])) a = some o := fun a o e => by rw [upd_ne (ne_of_none e nx)]; exact e
    have q2 := q _ kk
    generalize upd H1 x (.lst []) = H2 at hc2 hx2 q2
    have pc2 : Dp K H2 (.ref c) (.list (cells.map .int)) := .lst (.of hc2) (IsA.dp (R := H2) _ (IsA.of_ints cells))
    refine .inr ⟨_, _, pc2, .lst (.of hx2) .nil, (Shp.ints cells).shaped, rfl, _, rfl, ?_⟩
    rw [eqv_nil]
    have e : (cells.map PyData.int).isEmpty = cells.isEmpty := by cases cells <;> rfl
    rw [e]
    exact q2
  -- while
  show tSeq (tWhile _ _) _ _ _ _
  refine tSeq_mid (fun σ H1 => ∃ cells : List Int, σ = [some (.ref p), some (.int many), some (.ref c), none] ∧ H1 p = some (.lst [.ref c, .int i, .int j]) ∧ H1 c = some (.lst (cells.map V.int)) ∧ (∀ x ∈ cells, 0 ≤ x) ∧ cells.length ≤ 63 ∧ ∀ a, F0 a → H1 a = H a) (fun k hk => ?_) ?_
  · refine ⟨fun m σ H1 => ∃ cells : List Int, m = cells.length ∧ σ = [some (.ref p), some (.int many), some (.ref c), none] ∧ H1 p = some (.lst [.ref c, .int i, .int j]) ∧ H1 c = some (.lst (cells.map V.int)) ∧ (∀ x ∈ cells, 0 ≤ x) ∧ cells.length ≤ 63 ∧ ∀ a, F0 a → H1 a = H a, ⟨cells.length, cells, rfl, rfl, hp, hc, hnn, hlen, fun _ _ => rfl⟩, ?_⟩
    clear hp hc hnn hlen
    rintro m σ H1 ⟨cells, rfl, rfl, hp, hc, hnn, hlen, hF⟩
    refine ne _ H1 cells _ rfl hc fun H2 kk => ?_
    replace hp := kk _ _ hp
    replace hc := kk _ _ hc
    replace hF := keepF hF kk
    clear kk H1
    cases cells with
    | nil => exact hk _ _ ⟨[], rfl, hp, hc, hnn, hlen, hF⟩
    | cons z zs =>
      refine ⟨_, rfl, c, _, 0, _, rfl, rfl, .of hc, atI_nat (j := 0) rfl, .inl ⟨rfl, _, rfl, ?_⟩⟩
      rw [dec_i]
      refine ite2 (fun hz => ?_) (fun hz => ?_)
      · refine ⟨fun σ' H' => ∃ cells : List Int, cells.length < (z :: zs).length ∧ σ' = [some (.ref p), some (.int many), some (.ref c), none] ∧ H' p = some (.lst [.ref c, .int i, .int j]) ∧ H' c = some (.lst (cells.map V.int)) ∧ (∀ x ∈ cells, 0 ≤ x) ∧ cells.length ≤ 63 ∧ ∀ a, F0 a → H' a = H a, fun σ' H' ⟨cells, h1, h2⟩ => ⟨_, h1, cells, rfl, h2⟩, ?_⟩
        refine ⟨_, rfl, .inl ⟨rfl, _, .of hc⟩, c, _, 0, 0, _, rfl, rfl, hc, by decide, by decide, ?_, rfl, ?_⟩
        · unfold seqIndex?
          simp
        · refine ⟨zs, by simp, rfl, ?_, ?_, fun x hx => hnn x (List.mem_cons_of_mem _ hx), by simp at hlen; omega, fun a f => ?_⟩
          · rw [upd_ne npc]; exact hp
          · rw [upd_same]; rfl
          · rw [upd_ne fun e => wF a (.inr e) f]; exact hF a f
      · exact hk _ _ ⟨z :: zs, rfl, hp, hc, hnn, hlen, hF⟩
  clear hp hc hnn hlen
  rintro σ H1 ⟨cells, rfl, hp, hc, hnn, hlen, hF⟩
  have mf : ∀ z : Int, z.fmod many = z % many := fun z => Int.fmod_eq_emod_of_nonneg _ (by omega)
  have last : ∀ (z : Int), 0 ≤ z % many ∧ z % many < many := fun z => ⟨Int.emod_nonneg _ (by omega), Int.emod_lt_of_pos _ (by omega)⟩
  refine ne _ H1 cells _ rfl hc fun H2 kk => ?_
  replace hp := kk _ _ hp
  replace hc := kk _ _ hc
  replace hF := keepF hF kk
  clear kk H1
  cases cells with
  | cons z zs =>
    refine iteT ?_
    refine ⟨_, rfl, c, _, 0, _, rfl, rfl, .of hc, atI_nat (j := 0) rfl, .inl ⟨_, rfl, _, rfl, _, _, rfl, rfl, (by omega : many ≠ 0), ?_⟩⟩
    refine ⟨_, rfl, c, _, 0, _, rfl, rfl, .of hc, atI_nat (j := 0) rfl, _, rfl, _, _, rfl, rfl, DivOk.of (b := 64) (by omega) (by omega) (by decide), _, rfl, c, _, 0, 0, rfl, rfl, hc, (by unfold ixN; simp), ?_⟩
    refine ⟨_, rfl, ?_⟩
    show Q (.int (z.fmod many)) _
    rw [mf]
    refine fin _ _ (last z).1 (last z).2 (fun a f => by rw [upd_ne fun e => wF a (.inr e) f]; exact hF a f) ⟨npc, z.fdiv many :: zs, i, j, by rw [upd_ne npc]; exact hp, by rw [upd_same]; rfl, fun x hx => ?_, hlen, i0, i1⟩
    rcases List.mem_cons.mp hx with rfl | hx
    · exact Int.fdiv_nonneg (hnn _ List.mem_cons_self) (by omega)
    · exact hnn _ (List.mem_cons_of_mem _ hx)
  | nil =>
    refine iteF ?_
    refine ⟨_, rfl, p, _, 2, _, rfl, rfl, .of hp, atI_nat (j := 2) rfl, _, _, rfl, rfl, _, rfl, p, _, 2, 2, rfl, rfl, hp, rfl, ?_⟩
    have hp3 : (upd H2 p (.lst [.ref c, .int i, .int (j + 1)])) p = some (.lst [.ref c, .int i, .int (j + 1)]) := upd_same
    have hc3 : (upd H2 p (.lst [.ref c, .int i, .int (j + 1)])) c = some (.lst []) := by rw [upd_ne npc.symm]; exact hc
    have hF3 : ∀ a, F0 a → (upd H2 p (.lst [.ref c, .int i, .int (j + 1)])) a = H a := fun a f => by rw [upd_ne fun e => wF a (.inl e) f]; exact hF a f
    show tSeq _ _ _ _ (upd H2 p (.lst [.ref c, .int i, .int (j + 1)]))
    generalize upd H2 p (.lst [.ref c, .int i, .int (j + 1)]) = H3 at hp3 hc3 hF3
    clear hp hc hF
    refine ⟨_, rfl, p, _, 1, _, rfl, rfl, .of hp3, atI_nat (j := 1) rfl, _, _, rfl, rfl, MulOk.r ⟨by decide, by decide⟩, _, rfl, p, _, 2, _, rfl, rfl, .of hp3, atI_nat (j := 2) rfl, _, _, rfl, rfl, MulOk.r ⟨by decide, by decide⟩, _, _, rfl, rfl, .inl ⟨_, rfl, ?_⟩⟩
    refine ⟨_, _, rfl, rfl, (show (2305843009213693951 : Int) ≠ 0 by decide), _, rfl, p, _, 1, 1, rfl, rfl, hp3, rfl, ?_⟩
    have f0 := Int.fmod_nonneg_of_pos (i * 6364136223846793005 + (j + 1) * 1442695040888963407) (b := 2305843009213693951) (by decide)
    have f1 := Int.fmod_lt_of_pos (i * 6364136223846793005 + (j + 1) * 1442695040888963407) (b := 2305843009213693951) (by decide)
    generalize hH4 : upd H3 p (HO.lst ([V.ref c, V.int i, V.int (j + 1)].set 1 _)) = H4
    have hp4 : H4 p = some (.lst [.ref c, .int ((i * 6364136223846793005 + (j + 1) * 1442695040888963407).fmod 2305843009213693951), .int (j + 1)]) := by rw [← hH4]; exact upd_same
    have hc4 : H4 c = some (.lst []) := by rw [← hH4, upd_ne npc.symm]; exact hc3
    have hF4 : ∀ a, F0 a → H4 a = H a := fun a f => by rw [← hH4, upd_ne fun e => wF a (.inl e) f]; exact hF3 a f
    generalize (i * 6364136223846793005 + (j + 1) * 1442695040888963407).fmod 2305843009213693951 = i2 at f0 f1 hp4
    refine ⟨_, rfl, p, _, 1, _, rfl, rfl, .of hp4, atI_nat (j := 1) rfl, _, rfl, p, _, 1, _, rfl, rfl, .of hp4, atI_nat (j := 1) rfl, _, _, rfl, rfl, MulOk.r ⟨by omega, by omega⟩, .inl ⟨_, rfl, ?_⟩⟩
    refine ⟨_, _, rfl, rfl, (show (2305843009213693921 : Int) ≠ 0 by decide), _, _, rfl, rfl, DivOk.of (b := 64) (by decide) (by decide) (by decide), _, rfl, _, _, rfl, rfl, (by omega : many ≠ 0), ?_⟩
    show Q (.int ((((i2 * i2).fmod 2305843009213693921).fdiv 1048576).fmod many)) H4
    rw [mf]
    exact fin _ _ (last _).1 (last _).2 hF4 ⟨npc, ([] : List Int), i2, j + 1, hp4, hc4, (by simp), (by simp), f0, by omega⟩
end
end K01

namespace K01
open PySem PySem.Spec PyProof.Rows L2 BK EX
open DL hiding g_is_between tb_is_between rd_is_between
section
variable {P : Program} {w : World} {K : PySem.W.Frag} {mg : Str → Option Value} {base : Heap}
theorem kp_number_of_10 {P : Program} {w : World} {K : PySem.W.Frag} {mg : Str → Option Value} (T : Tx P w K mg) : KPerm K T.fd_number_of P_number_of ["file", "inputs"] [1, 0] := by
  obtain ⟨oc, od, kV, doc, pm, an, cdv, ct, osl, e, lk, hcd⟩ := T.d_number_of.F.ex
  refine ⟨fun s ws _ hl => ?_, rfl, by decide⟩
  match ws, hl with
  | [w0, w1], _ => rw [e]; exact .of_eq rfl
theorem kp_file_at_10 {P : Program} {w : World} {K : PySem.W.Frag} {mg : Str → Option Value} (T : Tx P w K mg) : KPerm K T.fd_file_at P_file_at ["number", "inputs"] [1, 0] := by
  obtain ⟨oc, od, kV, doc, pm, an, cdv, ct, osl, e, lk, hcd⟩ := T.d_file_at.F.ex
  refine ⟨fun s ws _ hl => ?_, rfl, by decide⟩
  match ws, hl with
  | [w0, w1], _ => rw [e]; exact .of_eq rfl
theorem fnm_index : SUP.FNm "index" := ⟨by decide +kernel, by decide +kernel, by decide +kernel, by decide +kernel⟩
theorem ok_is_integer (T : Tx P w K mg) : FnOk P w K mg base CX0 1 T.a_is_integer T.fd_is_integer P_is_integer (spP K 1 g_is_integer) := by
  exact dfun T.d_is_integer.F sc_is_integer (tb := tb_is_integer) (fun cdv A outer s H E hr => ⟨_, (dss_one (ds_ret (do_and (do_isi (n := "int") (by decide +kernel) (by rfl) T.z_isinstance (by rfl) T.z_int (by decide +kernel) (by decide) (by decide) (dv 0)) (do_one (do_not (do_isi (n := "bool") (by decide +kernel) (by rfl) T.z_isinstance (by rfl) T.z_bool (by decide +kernel) (by decide) (by decide) (dv 0)))))))⟩) (rd_is_integer)
theorem ok_is_between (T : Tx P w K mg) : FnOk P w K mg base CX0 2 T.a_is_between T.fd_is_between P_is_between (spP K 3 g_is_between) := by
  have G_is_integer := ok_is_integer (P := P) (base := base) T
  exact dfun T.d_is_between.F sc_is_between (tb := tb_is_between) (fun cdv A outer s H E hr => ⟨_, (dss_one (ds_ret (do_and (do_call G_is_integer (hr.mono (by decide)) (by rfl) T.d_is_integer.m T.d_is_integer.F.kp T.d_is_integer.b (da_cons (dv 1) da_nil)) (do_one (do_chain op_leA rok_le op_leA rok_le (dv 0) (dv 1) (dv 2))))))⟩) (rd_is_between)
theorem ok_is_tuple_of (T : Tx P w K mg) : FnOk P w K mg base CX0 1 T.a_is_tuple_of T.fd_is_tuple_of P_is_tuple_of (spP K 2 g_is_tuple_of) := by
  exact dfun T.d_is_tuple_of.F sc_is_tuple_of (tb := tb_is_tuple_of) (fun cdv A outer s H E hr => ⟨_, (dss_one (ds_ret (do_and (do_isi (n := "tuple") (by decide +kernel) (by rfl) T.z_isinstance (by rfl) T.z_tuple (by decide +kernel) (by decide) (by decide) (dv 1)) (do_one (do_cmp (op_eqA hr.units) rok_eq (do_B call_lenA cok_len (by rfl) T.z_len (by decide +kernel) (da_cons (dv 1) da_nil)) (dv 0))))))⟩) (rd_is_tuple_of)
theorem ok_is_headed (T : Tx P w K mg) : FnOk P w K mg base CX0 2 T.a_is_headed T.fd_is_headed P_is_headed (spP K 3 g_is_headed) := by
  have G_is_tuple_of := ok_is_tuple_of (P := P) (base := base) T
  exact dfun T.d_is_headed.F sc_is_headed (tb := tb_is_headed) (fun cdv A outer s H E hr => ⟨_, (dss_one (ds_ret (do_and (do_call G_is_tuple_of (hr.mono (by decide)) (by rfl) T.d_is_tuple_of.m T.d_is_tuple_of.F.kp T.d_is_tuple_of.b (da_cons (dv 1) (da_cons (dv 2) da_nil))) (do_and (do_isi (n := "str") (by decide +kernel) (by rfl) T.z_isinstance (by rfl) T.z_str (by decide +kernel) (by decide) (by decide) (do_ix (dv 2) do_int)) (do_one (do_cmp (op_eqA hr.units) rok_eq (do_ix (dv 2) do_int) (dv 0)))))))⟩) (rd_is_headed)
theorem ok_is_word (T : Tx P w K mg) : FnOk P w K mg base CX0 1 T.a_is_word T.fd_is_word P_is_word (spP K 1 g_is_word) := by
  exact dfun T.d_is_word.F sc_is_word (tb := tb_is_word) (fun cdv A outer s H E hr => ⟨_, (dss_one (ds_ret (do_and (do_isi (n := "str") (by decide +kernel) (by rfl) T.z_isinstance (by rfl) T.z_str (by decide +kernel) (by decide) (by decide) (dv 0)) (do_and (do_chain op_leA rok_le op_leA rok_le do_int (do_B call_lenA cok_len (by rfl) T.z_len (by decide +kernel) (da_cons (dv 0) da_nil)) do_int) (do_one (do_B (cr_all rfl) cok_all (by rfl) T.z_all (by decide +kernel) (da_cons (do_comp (own := [("sign", 1)]) sc_is_word.nd (di_seq (dv 0)) (blkOk_by (own := [("sign", 1)]) (N := N_is_word) (sc := defScope s_is_word) (by first | decide +kernel | rfl)) (fun _ _ _ _ _ => (dg_nm (i := 1) sc_is_word.nd)) (fun _ _ _ _ _ => ⟨_, dcs_nil⟩) (fun _ _ _ _ _ => ⟨_, (do_chain op_leA rok_le op_leA rok_le do_str (dv 1) do_str)⟩) (by decide) (by rfl) (by intro _; rfl)) da_nil)))))))⟩) (rd_is_word)
theorem ok_check_count (T : Tx P w K mg) : FnOk P w K mg base (L2.CX P w) 2 T.a_check_count T.fd_check_count P_check_count (spX K T.cm 1 g_check_count) := by
  have G_is_integer := ok_is_integer (P := P) (base := base) T
  exact dfunX T.d_check_count.F sc_check_count (tb := tb_check_count) (fun cdv A outer s H E hr tk => ⟨_, (dssx_one (dsx_if (DW.db (dw_or (db_not (db_val (do_call G_is_integer (hr.mono (by decide)) (by rfl) T.d_is_integer.m T.d_is_integer.F.kp T.d_is_integer.b (da_cons (dv 0) da_nil)))) (dw_or1 (db_cmp op_ltA rok_lt (dv 0) do_int)))) (dssx_one (dsx_raiseP (nm := "InvalidCount") tk T.x_InvalidCount (by rfl))) dssx_nil))⟩) rd_check_count
theorem ok_are_unlike (T : Tx P w K mg) : FnOk P w K mg base CX0 1 T.a_are_unlike T.fd_are_unlike P_are_unlike (spP K 1 g_are_unlike) := by
  exact dfun T.d_are_unlike.F sc_are_unlike (tb := tb_are_unlike) (fun cdv A outer s H E hr => ⟨_, (dss_one (ds_ret (do_cmp (op_eqA hr.units) rok_eq (do_lenS (by rfl) (by rfl) T.z_len (by rfl) T.z_set (dv 0) (by rfl)) (do_B call_lenA cok_len (by rfl) T.z_len (by decide +kernel) (da_cons (dv 0) da_nil)))))⟩) (rd_are_unlike)
theorem ok_is_kind (T : Tx P w K mg) : FnOk P w K mg base CX0 3 T.a_is_kind T.fd_is_kind P_is_kind (spP K 1 g_is_kind) := by
  have G_is_headed := ok_is_headed (P := P) (base := base) T
  have G_are_unlike := ok_are_unlike (P := P) (base := base) T
  have G_is_word := ok_is_word (P := P) (base := base) T
  have G_is_between := ok_is_between (P := P) (base := base) T
  exact dfun T.d_is_kind.F sc_is_kind (tb := tb_is_kind) (fun cdv A outer s H E hr => ⟨_, (dss_cons (ds_if (db_val (do_call G_is_headed (hr.mono (by decide)) (by rfl) T.d_is_headed.m T.d_is_headed.F.kp T.d_is_headed.b (da_cons do_str (da_cons do_int (da_cons (dv 0) da_nil))))) (dss_one (ds_ret (do_and (do_call G_is_between (hr.mono (by decide)) (by rfl) T.d_is_between.m T.d_is_between.F.kp T.d_is_between.b (da_cons (do_un un_neg uok_neg (do_cst (by rfl) T.c_GREATEST)) (da_cons (do_ix (dv 0) do_int) (da_cons (do_cst (by rfl) T.c_GREATEST) da_nil)))) (do_one (do_call G_is_between (hr.mono (by decide)) (by rfl) T.d_is_between.m T.d_is_between.F.kp T.d_is_between.b (da_cons (do_ix (dv 0) do_int) (da_cons (do_ix (dv 0) do_int) (da_cons (do_cst (by rfl) T.c_GREATEST) da_nil)))))))) dss_nil)
      (dss_cons (ds_if (DW.db (dw_and (db_val (do_call G_is_headed (hr.mono (by decide)) (by rfl) T.d_is_headed.m T.d_is_headed.F.kp T.d_is_headed.b (da_cons do_str (da_cons do_int (da_cons (dv 0) da_nil))))) (dw_and (db_val (do_isi (n := "tuple") (by decide +kernel) (by rfl) T.z_isinstance (by rfl) T.z_tuple (by decide +kernel) (by decide) (by decide) (do_ix (dv 0) do_int))) (dw_and1 (db_chain op_leA rok_le op_leA rok_le do_int (do_B call_lenA cok_len (by rfl) T.z_len (by decide +kernel) (da_cons (do_ix (dv 0) do_int) da_nil)) (do_cst (by rfl) T.c_MOST_WORDS)))))) (dss_one (ds_ret (do_and (do_B (cr_all rfl) cok_all (by rfl) T.z_all (by decide +kernel) (da_cons (do_comp (own := [("word", 1)]) sc_is_kind.nd (di_seq (do_ix (dv 0) do_int)) (blkOk_by (own := [("word", 1)]) (N := N_is_kind) (sc := defScope s_is_kind) (by first | decide +kernel | rfl)) (fun _ _ _ _ _ => (dg_nm (i := 1) sc_is_kind.nd)) (fun _ _ _ _ _ => ⟨_, dcs_nil⟩) (fun _ _ _ _ _ => ⟨_, (do_call G_is_word (hr.mono (by decide)) (by rfl) T.d_is_word.m T.d_is_word.F.kp T.d_is_word.b (da_cons (dv 1) da_nil))⟩) (by decide) (by rfl) (by intro _; rfl)) da_nil)) (do_one (do_call G_are_unlike (hr.mono (by decide)) (by rfl) T.d_are_unlike.m T.d_are_unlike.F.kp T.d_are_unlike.b (da_cons (do_ix (dv 0) do_int) da_nil)))))) dss_nil)
      (dss_one (ds_ret (do_call G_is_headed (hr.mono (by decide)) (by rfl) T.d_is_headed.m T.d_is_headed.F.kp T.d_is_headed.b (da_cons do_str (da_cons do_int (da_cons (dv 0) da_nil))))))))⟩) (rd_is_kind)
theorem ok_is_inputs (T : Tx P w K mg) : FnOk P w K mg base CX0 4 T.a_is_inputs T.fd_is_inputs P_is_inputs (spP K 1 g_is_inputs) := by
  have G_are_unlike := ok_are_unlike (P := P) (base := base) T
  have G_is_kind := ok_is_kind (P := P) (base := base) T
  have G_is_word := ok_is_word (P := P) (base := base) T
  have G_is_tuple_of := ok_is_tuple_of (P := P) (base := base) T
  exact dfun T.d_is_inputs.F sc_is_inputs (tb := tb_is_inputs) (fun cdv A outer s H E hr => ⟨_, (dss_cons (ds_if (DW.db (dw_or (db_not (db_val (do_isi (n := "tuple") (by decide +kernel) (by rfl) T.z_isinstance (by rfl) T.z_tuple (by decide +kernel) (by decide) (by decide) (dv 0)))) (dw_or1 (db_not (db_chain op_leA rok_le op_leA rok_le do_int (do_B call_lenA cok_len (by rfl) T.z_len (by decide +kernel) (da_cons (dv 0) da_nil)) (do_cst (by rfl) T.c_MOST_INPUTS)))))) (dss_one (ds_ret do_bl)) dss_nil)
      (dss_cons (ds_if (db_not (db_val (do_B (cr_all rfl) cok_all (by rfl) T.z_all (by decide +kernel) (da_cons (do_comp (own := [("one", 3)]) sc_is_inputs.nd (di_seq (dv 0)) (blkOk_by (own := [("one", 3)]) (N := N_is_inputs) (sc := defScope s_is_inputs) (by first | decide +kernel | rfl)) (fun _ _ _ _ _ => (dg_nm (i := 3) sc_is_inputs.nd)) (fun _ _ _ _ _ => ⟨_, dcs_nil⟩) (fun _ _ _ _ _ => ⟨_, (do_and (do_call G_is_tuple_of (hr.mono (by decide)) (by rfl) T.d_is_tuple_of.m T.d_is_tuple_of.F.kp T.d_is_tuple_of.b (da_cons do_int (da_cons (dv 3) da_nil))) (do_and (do_call G_is_word (hr.mono (by decide)) (by rfl) T.d_is_word.m T.d_is_word.F.kp T.d_is_word.b (da_cons (do_ix (dv 3) do_int) da_nil)) (do_one (do_call G_is_kind (hr.mono (by decide)) (by rfl) T.d_is_kind.m T.d_is_kind.F.kp T.d_is_kind.b (da_cons (do_ix (dv 3) do_int) da_nil)))))⟩) (by decide) (by rfl) (by intro _; rfl)) da_nil)))) (dss_one (ds_ret do_bl)) dss_nil)
      (dss_one (ds_ret (do_call G_are_unlike (hr.mono (by decide)) (by rfl) T.d_are_unlike.m T.d_are_unlike.F.kp T.d_are_unlike.b (da_cons (do_compG (own := [("name", 1), ("kind", 2)]) sc_is_inputs.nd (di_seq (dv 0)) (blkOk_by (own := [("name", 1), ("kind", 2)]) (N := N_is_inputs) (sc := defScope s_is_inputs) (by first | decide +kernel | rfl)) [1, 2] (fun _ _ _ _ _ => ⟨_, (dg_tup (dgs_cons (dg_nm (i := 1) sc_is_inputs.nd) (dgs_cons (dg_nm (i := 2) sc_is_inputs.nd) dgs_nil)))⟩) (fun _ _ _ _ _ => ⟨_, dcs_nil⟩) (fun _ _ _ _ _ => ⟨_, (dv 1)⟩) (by decide) (by rfl) (by intro _; rfl)) da_nil))))))⟩) (rd_is_inputs)
theorem ok_check_inputs (T : Tx P w K mg) : FnOk P w K mg base (L2.CX P w) 5 T.a_check_inputs T.fd_check_inputs P_check_inputs (spX K T.cm 1 g_check_inputs) := by
  have G_is_inputs := ok_is_inputs (P := P) (base := base) T
  exact dfunX T.d_check_inputs.F sc_check_inputs (tb := tb_check_inputs) (fun cdv A outer s H E hr tk => ⟨_, (dssx_one (dsx_if (db_not (db_val (do_call G_is_inputs (hr.mono (by decide)) (by rfl) T.d_is_inputs.m T.d_is_inputs.F.kp T.d_is_inputs.b (da_cons (dv 0) da_nil)))) (dssx_one (dsx_raiseP (nm := "InvalidInputs") tk T.x_InvalidInputs (by rfl))) dssx_nil))⟩) rd_check_inputs
theorem ok_ends_of (T : Tx P w K mg) : FnOk P w K mg base CX0 1 T.a_ends_of T.fd_ends_of P_ends_of (spP K 1 g_ends_of) := by
  exact dfun T.d_ends_of.F sc_ends_of (tb := tb_ends_of) (fun cdv A outer s H E hr => ⟨_, (dss_cons (ds_if (db_cmp (op_eqA hr.units) rok_eq (do_ix (dv 0) do_int) do_str) (dss_one (ds_ret (do_tup (da_cons (do_ix (dv 0) do_int) (da_cons (do_ix (dv 0) do_int) da_nil))))) dss_nil)
      (dss_one (ds_ret (do_ifx (db_cmp (op_eqA hr.units) rok_eq (do_ix (dv 0) do_int) do_str) (do_tup (da_cons do_int (da_cons do_int da_nil))) (do_tup (da_cons do_int (da_cons (do_bin op_sub rok_sub (do_B call_lenA cok_len (by rfl) T.z_len (by decide +kernel) (da_cons (do_ix (dv 0) do_int) da_nil)) do_int) da_nil)))))))⟩) (rd_ends_of)
theorem ok_is_of (T : Tx P w K mg) : FnOk P w K mg base CX0 3 T.a_is_of T.fd_is_of P_is_of (spP K 2 g_is_of) := by
  have G_is_between := ok_is_between (P := P) (base := base) T
  have G_ends_of := ok_ends_of (P := P) (base := base) T
  exact dfun T.d_is_of.F sc_is_of (tb := tb_is_of) (fun cdv A outer s H E hr => ⟨_, (dss_cons (ds_if (db_cmp (op_eqA hr.units) rok_eq (do_ix (dv 0) do_int) do_str) (dss_one (ds_ret (do_isi (n := "bool") (by decide +kernel) (by rfl) T.z_isinstance (by rfl) T.z_bool (by decide +kernel) (by decide) (by decide) (dv 1)))) dss_nil)
      (dss_cons (ds_unp (do_call G_ends_of (hr.mono (by decide)) (by rfl) T.d_ends_of.m T.d_ends_of.F.kp T.d_ends_of.b (da_cons (dv 0) da_nil)) (dg_tup (dgs_cons (dg_nm (i := 2) sc_is_of.nd) (dgs_cons (dg_nm (i := 3) sc_is_of.nd) dgs_nil))))
      (dss_one (ds_ret (do_call G_is_between (hr.mono (by decide)) (by rfl) T.d_is_between.m T.d_is_between.F.kp T.d_is_between.b (da_cons (dv 2) (da_cons (dv 1) (da_cons (dv 3) da_nil))))))))⟩) (rd_is_of)
theorem ok_fault_in (T : Tx P w K mg) : FnOk P w K mg base CX0 4 T.a_fault_in T.fd_fault_in P_fault_in (spP K 2 g_fault_in) := by
  have G_is_of := ok_is_of (P := P) (base := base) T
  have G_is_tuple_of := ok_is_tuple_of (P := P) (base := base) T
  exact dfun T.d_fault_in.F sc_fault_in (tb := tb_fault_in) (fun cdv A outer s H E hr => ⟨_, (dss_cons (ds_if (db_not (db_val (do_call G_is_tuple_of (hr.mono (by decide)) (by rfl) T.d_is_tuple_of.m T.d_is_tuple_of.F.kp T.d_is_tuple_of.b (da_cons (do_B call_lenA cok_len (by rfl) T.z_len (by decide +kernel) (da_cons (dv 0) da_nil)) (da_cons (dv 1) da_nil))))) (dss_one (ds_ret do_int)) dss_nil)
      (dss_cons (ds_setcG (i := 2) (own := [("k", 3), ("one", 4)]) sc_fault_in.nd (di_enum' (by rfl) T.z_enumerate (dv 0)) (blkOk_by (own := [("k", 3), ("one", 4)]) (N := N_fault_in) (sc := defScope s_fault_in) (by first | decide +kernel | rfl)) [3, 4] (fun _ _ _ _ _ => ⟨_, (dg_tup (dgs_cons (dg_nm (i := 3) sc_fault_in.nd) (dgs_cons (dg_nm (i := 4) sc_fault_in.nd) dgs_nil)))⟩) (fun _ _ _ _ _ => ⟨_, (dcs_one (db_not (db_val (do_call G_is_of (hr.mono (by decide)) (by rfl) T.d_is_of.m T.d_is_of.F.kp T.d_is_of.b (da_cons (do_ix (dv 4) do_int) (da_cons (do_ix (dv 1) (dv 3)) da_nil))))))⟩) (fun _ _ _ _ _ => ⟨_, (dv 3)⟩) (sw_true rfl rfl rfl (by decide +kernel)) (by rfl) (by rfl) (by decide) (by rfl) (by intro _; rfl))
      (dss_one (ds_ret (do_ifx (db_cmp (op_neA hr.units) rok_ne (dv 2) (do_lst da_nil)) (do_ix (dv 2) do_int) do_non)))))⟩) (rd_fault_in)
theorem ok_check_file (T : Tx P w K mg) : FnOk P w K mg base (L2.CX P w) 5 T.a_check_file T.fd_check_file P_check_file (spX K T.cm 2 g_check_file) := by
  have G_fault_in := ok_fault_in (P := P) (base := base) T
  exact dfunX T.d_check_file.F sc_check_file (tb := tb_check_file) (fun cdv A outer s H E hr tk => ⟨_, (dssx_cons (dsx_pure (ds_set (i := 2) sc_check_file.nd (do_call G_fault_in (hr.mono (by decide)) (by rfl) T.d_fault_in.m T.d_fault_in.F.kp T.d_fault_in.b (da_cons (dv 0) (da_cons (dv 1) da_nil)))))
      (dssx_one (dsx_if (db_cmp op_notN rok_notN (dv 2) do_non) (dssx_one (dsx_raiseF (nm := "InvalidFile") tk T.t_InvalidFile fnm_index hr (dv 2) (by rfl))) dssx_nil)))⟩) rd_check_file
theorem ok_width_of (T : Tx P w K mg) : FnOk P w K mg base CX0 2 T.a_width_of T.fd_width_of P_width_of (spP K 1 g_width_of) := by
  have G_ends_of := ok_ends_of (P := P) (base := base) T
  exact dfun T.d_width_of.F sc_width_of (tb := tb_width_of) (fun cdv A outer s H E hr => ⟨_, (dss_cons (ds_unp (do_call G_ends_of (hr.mono (by decide)) (by rfl) T.d_ends_of.m T.d_ends_of.F.kp T.d_ends_of.b (da_cons (dv 0) da_nil)) (dg_tup (dgs_cons (dg_nm (i := 1) sc_width_of.nd) (dgs_cons (dg_nm (i := 2) sc_width_of.nd) dgs_nil))))
      (dss_one (ds_ret (do_bin op_addA rok_add (do_bin op_sub rok_sub (dv 2) (dv 1)) do_int))))⟩) (rd_width_of)
theorem ok_file_at (T : Tx P w K mg) : FnOk P w K mg base (L2.CX P w) 6 T.a_file_at T.fd_file_at P_file_at (spX K T.cm 2 g_file_at) := by
  have G_check_inputs := ok_check_inputs (P := P) (base := base) T
  have G_check_count := ok_check_count (P := P) (base := base) T
  have G_ends_of := ok_ends_of (P := P) (base := base) T
  have G_width_of := ok_width_of (P := P) (base := base) T
  exact dfunX T.d_file_at.F sc_file_at (tb := tb_file_at) (fun cdv A outer s H E hr tk => ⟨_, (dssx_cons (dsx_expr (do_callX tk G_check_inputs (hr.mono (by decide)) (by rfl) T.d_check_inputs.m T.d_check_inputs.F.kp T.d_check_inputs.b (da_cons (dv 0) da_nil)))
      (dssx_cons (dsx_expr (do_callX tk G_check_count (hr.mono (by decide)) (by rfl) T.d_check_count.m T.d_check_count.F.kp T.d_check_count.b (da_cons (dv 1) da_nil)))
      (dssx_nox (dss_cons (ds_set (i := 2) sc_file_at.nd (do_lst da_nil))
      (dss_cons (ds_for PassesOwn.never (di_rev (by rfl) T.z_reversed (dv 0)) (dg_tup (dgs_cons (dg_nm (i := 3) sc_file_at.nd) (dgs_cons (dg_nm (i := 4) sc_file_at.nd) dgs_nil))) (dss_cons (ds_set (i := 5) sc_file_at.nd (do_bin op_modN rok_mod (dv 1) (do_call G_width_of (hr.mono (by decide)) (by rfl) T.d_width_of.m T.d_width_of.F.kp T.d_width_of.b (da_cons (dv 4) da_nil))))
      (dss_cons (ds_set (i := 1) sc_file_at.nd (do_bin op_fdivO rok_fdiv (dv 1) (do_call G_width_of (hr.mono (by decide)) (by rfl) T.d_width_of.m T.d_width_of.F.kp T.d_width_of.b (da_cons (dv 4) da_nil))))
      (dss_one (ds_app (i := 2) (do_ifx (db_cmp (op_eqA hr.units) rok_eq (do_ix (dv 4) do_int) do_str) (do_cmp (op_eqA hr.units) rok_eq (dv 5) do_int) (do_bin op_addA rok_add (do_ix (do_call G_ends_of (hr.mono (by decide)) (by rfl) T.d_ends_of.m T.d_ends_of.F.kp T.d_ends_of.b (da_cons (dv 4) da_nil)) do_int) (dv 5))))))))
      (dss_one (ds_ret (do_ifx (db_cmp (op_eqA hr.units) rok_eq (dv 1) do_int) (do_tupRev (by rfl) (by rfl) T.z_tuple (by rfl) T.z_reversed (dv 2) (by rfl)) do_non))))))))⟩) rd_file_at
theorem ok_number_of (T : Tx P w K mg) : FnOk P w K mg base (L2.CX P w) 6 T.a_number_of T.fd_number_of P_number_of (spX K T.cm 2 g_number_of) := by
  have G_check_inputs := ok_check_inputs (P := P) (base := base) T
  have G_check_file := ok_check_file (P := P) (base := base) T
  have G_width_of := ok_width_of (P := P) (base := base) T
  have G_ends_of := ok_ends_of (P := P) (base := base) T
  exact dfunX T.d_number_of.F sc_number_of (tb := tb_number_of) (fun cdv A outer s H E hr tk => ⟨_, (dssx_cons (dsx_expr (do_callX tk G_check_inputs (hr.mono (by decide)) (by rfl) T.d_check_inputs.m T.d_check_inputs.F.kp T.d_check_inputs.b (da_cons (dv 0) da_nil)))
      (dssx_cons (dsx_expr (do_callX tk G_check_file (hr.mono (by decide)) (by rfl) T.d_check_file.m T.d_check_file.F.kp T.d_check_file.b (da_cons (dv 0) (da_cons (dv 1) da_nil))))
      (dssx_nox (dss_cons (ds_set (i := 2) sc_number_of.nd do_int)
      (dss_cons (ds_for PassesOwn.never (di_zipG' (by rfl) T.z_zip (dv 0) (dv 1)) (dg_tup (dgs_cons (dg_tup (dgs_cons (dg_nm (i := 3) sc_number_of.nd) (dgs_cons (dg_nm (i := 4) sc_number_of.nd) dgs_nil))) (dgs_cons (dg_nm (i := 5) sc_number_of.nd) dgs_nil))) (dss_one (ds_set (i := 2) sc_number_of.nd (do_bin op_sub rok_sub (do_bin op_addA rok_add (do_bin op_mulA rok_mulA (dv 2) (do_call G_width_of (hr.mono (by decide)) (by rfl) T.d_width_of.m T.d_width_of.F.kp T.d_width_of.b (da_cons (dv 4) da_nil))) (do_Ty call_int1 cok_int (by rfl) T.z_int (by decide +kernel) (da_cons (dv 5) da_nil))) (do_ix (do_call G_ends_of (hr.mono (by decide)) (by rfl) T.d_ends_of.m T.d_ends_of.F.kp T.d_ends_of.b (da_cons (dv 4) da_nil)) do_int)))))
      (dss_one (ds_ret (dv 2))))))))⟩) rd_number_of
theorem ok__law_spring (T : Tx P w K mg) : FnOk P w K mg base CX0 1 T.a__law_spring T.fd__law_spring P__law_spring (spP K 1 g__law_spring) := by
  exact dfun T.d__law_spring.F sc__law_spring (tb := tb__law_spring) (fun cdv A outer s H E hr => ⟨_, (dss_cons (ds_setc (i := 1) (own := [("cell", 3)]) sc__law_spring.nd (di_seq (dv 0)) (blkOk_by (own := [("cell", 3)]) (N := N__law_spring) (sc := defScope s__law_spring) (by first | decide +kernel | rfl)) (fun _ _ _ _ _ => (dg_nm (i := 3) sc__law_spring.nd)) (fun _ _ _ _ _ => ⟨_, (dcs_one (db_cmp op_ge rok_rel (dv 3) (do_bin op_pow rok_pow do_int do_int)))⟩) (fun _ _ _ _ _ => ⟨_, (do_bin op_sub rok_sub (dv 3) (do_bin op_pow rok_pow do_int do_int))⟩) (sw_true rfl rfl rfl (by decide +kernel)) (by rfl) (by rfl) (by decide) (by rfl) (by intro _; rfl))
      (dss_cons (ds_set (i := 2) sc__law_spring.nd (do_bin op_addA rok_add do_int (do_bin op_mulA rok_mulA do_int (do_B call_lenA cok_len (by rfl) T.z_len (by decide +kernel) (da_cons (dv 0) da_nil)))))
      (dss_cons (ds_for PassesOwn.never (di_seq (dv 0)) (dg_nm (i := 3) sc__law_spring.nd) (dss_one (ds_set (i := 2) sc__law_spring.nd (do_bin op_modN rok_mod (do_Ty call_int1 cok_int (by rfl) T.z_int (by decide +kernel) (da_cons (do_bin op_addA rok_add (do_bin op_addA rok_add (do_bin op_mulA rok_mulA (dv 2) do_int) (do_bin op_mulA rok_mulA (dv 3) do_int)) do_int) da_nil)) do_int))))
      (dss_one (ds_ret (do_lake (i := 1) (da_cons (dv 2) (da_cons do_int da_nil))))))))⟩) (rd__law_spring)
theorem ok__law_word (T : Tx P w K mg) : FnOk P w K mg base CX0 2 T.a__law_word T.fd__law_word P__law_word (spW K 0 g__law_word) := by
  have G__law_drop := ok__law_drop (P := P) (base := base) T
  exact dfunW T.d__law_word.F sc__law_word rfl (tb := tb__law_word) (fun cdv A outer s H E hr => ⟨_, (dss_cons (ds_set (i := 1) sc__law_word.nd (do_ix (do_lst (da_cons do_int (da_cons do_int (da_cons do_int (da_cons do_int da_nil))))) (do_callW (j := 0) G__law_drop (hr.mono (by decide)) (by rfl) T.d__law_drop.m T.d__law_drop.F.kp T.d__law_drop.b (da_cons do_int da_nil))))
      (dss_one (ds_ret (do_join (do_comp (own := [("k", 2)]) sc__law_word.nd (di_r1 (by rfl) T.z_range (dv 1)) (blkOk_by (own := [("k", 2)]) (N := N__law_word) (sc := defScope s__law_word) (by first | decide +kernel | rfl)) (fun _ _ _ _ _ => (dg_nm (i := 2) sc__law_word.nd)) (fun _ _ _ _ _ => ⟨_, dcs_nil⟩) (fun _ _ _ _ _ => ⟨_, (do_ix do_str (do_callW (j := 0) G__law_drop (hr.mono (by decide)) (by rfl) T.d__law_drop.m T.d__law_drop.F.kp T.d__law_drop.b (da_cons do_int da_nil)))⟩) (by decide) (by rfl) (by intro _; rfl))))))⟩) (rd__law_word)
theorem ok__law_words (T : Tx P w K mg) : FnOk P w K mg base CX0 3 T.a__law_words T.fd__law_words P__law_words (spW K 1 g__law_words) := by
  have G__law_word := ok__law_word (P := P) (base := base) T
  exact dfunW T.d__law_words.F sc__law_words rfl (tb := tb__law_words) (fun cdv A outer s H E hr => ⟨_, (dss_cons (ds_set (i := 2) sc__law_words.nd (do_lst da_nil))
      (dss_cons (ds_for PassesOwn.never (di_r1 (by rfl) T.z_range (dv 1)) (dg_nm (i := 3) sc__law_words.nd) (dss_cons (ds_set (i := 4) sc__law_words.nd (do_callW (j := 0) G__law_word (hr.mono (by decide)) (by rfl) T.d__law_word.m T.d__law_word.F.kp T.d__law_word.b da_nil))
      (dss_cons (ds_if (db_cmp op_inA rok_in (dv 4) (dv 2)) (dss_one (ds_set (i := 4) sc__law_words.nd (do_sl (do_bin op_addA rok_add (dv 4) (do_bin op_mulA rok_mulA (do_ix do_str (dv 3)) do_int)) dp_none (dp_some do_int)))) dss_nil)
      (dss_one (ds_app (i := 2) (do_ifx (db_cmp op_notInA rok_in (dv 4) (dv 2)) (dv 4) (do_bin op_mulA rok_mulA (do_ix do_str (dv 3)) do_int)))))))
      (dss_one (ds_ret (do_Ty call_tuple_of cok_tuple (by rfl) T.z_tuple (by decide +kernel) (da_cons (dv 2) da_nil))))))⟩) (rd__law_words)
theorem ok__law_kind (T : Tx P w K mg) : FnOk P w K mg base CX0 4 T.a__law_kind T.fd__law_kind P__law_kind (spW K 1 g__law_kind) := by
  have G__law_drop := ok__law_drop (P := P) (base := base) T
  have G__law_words := ok__law_words (P := P) (base := base) T
  exact dfunW T.d__law_kind.F sc__law_kind rfl (tb := tb__law_kind) (fun cdv A outer s H E hr => ⟨_, (dss_cons (ds_set (i := 2) sc__law_kind.nd (do_callW (j := 0) G__law_drop (hr.mono (by decide)) (by rfl) T.d__law_drop.m T.d__law_drop.F.kp T.d__law_drop.b (da_cons do_int da_nil)))
      (dss_cons (ds_if (db_cmp (op_eqA hr.units) rok_eq (dv 2) do_int) (dss_one (ds_ret (do_tup (da_cons do_str da_nil)))) dss_nil)
      (dss_cons (ds_if (db_cmp (op_eqA hr.units) rok_eq (dv 2) do_int) (dss_one (ds_ret (do_tup (da_cons do_str (da_cons (do_callW (j := 0) G__law_words (hr.mono (by decide)) (by rfl) T.d__law_words.m T.d__law_words.F.kp T.d__law_words.b (da_cons (do_bin op_addA rok_add do_int (do_callW (j := 0) G__law_drop (hr.mono (by decide)) (by rfl) T.d__law_drop.m T.d__law_drop.F.kp T.d__law_drop.b (da_cons (do_B (call_min2 rfl) cok_min (by rfl) T.z_min (by decide +kernel) (da_cons do_int (da_cons (dv 1) da_nil))) da_nil))) da_nil)) da_nil))))) dss_nil)
      (dss_cons (ds_set (i := 3) sc__law_kind.nd (do_ix (do_lst (da_cons (do_bin op_sub rok_sub (do_callW (j := 0) G__law_drop (hr.mono (by decide)) (by rfl) T.d__law_drop.m T.d__law_drop.F.kp T.d__law_drop.b (da_cons do_int da_nil)) do_int) (da_cons (do_bin op_sub rok_sub (do_callW (j := 0) G__law_drop (hr.mono (by decide)) (by rfl) T.d__law_drop.m T.d__law_drop.F.kp T.d__law_drop.b (da_cons do_int da_nil)) do_int) (da_cons (do_un un_neg uok_neg do_int) (da_cons do_int da_nil))))) (do_callW (j := 0) G__law_drop (hr.mono (by decide)) (by rfl) T.d__law_drop.m T.d__law_drop.F.kp T.d__law_drop.b (da_cons do_int da_nil))))
      (dss_cons (ds_set (i := 4) sc__law_kind.nd (do_ix (do_lst (da_cons (do_callW (j := 0) G__law_drop (hr.mono (by decide)) (by rfl) T.d__law_drop.m T.d__law_drop.F.kp T.d__law_drop.b (da_cons (dv 1) da_nil)) (da_cons (do_bin op_sub rok_sub (dv 1) do_int) (da_cons do_int da_nil)))) (do_callW (j := 0) G__law_drop (hr.mono (by decide)) (by rfl) T.d__law_drop.m T.d__law_drop.F.kp T.d__law_drop.b (da_cons do_int da_nil))))
      (dss_one (ds_ret (do_tup (da_cons do_str (da_cons (dv 3) (da_cons (do_B (call_min2 rfl) cok_min (by rfl) T.z_min (by decide +kernel) (da_cons do_int (da_cons (do_bin op_addA rok_add (dv 3) (dv 4)) da_nil))) da_nil)))))))))))⟩) (rd__law_kind)
theorem ok__law_inputs (T : Tx P w K mg) : FnOk P w K mg base CX0 5 T.a__law_inputs T.fd__law_inputs P__law_inputs (spW K 2 g__law_inputs) := by
  have G__law_kind := ok__law_kind (P := P) (base := base) T
  have G__law_words := ok__law_words (P := P) (base := base) T
  have G__law_drop := ok__law_drop (P := P) (base := base) T
  exact dfunW T.d__law_inputs.F sc__law_inputs rfl (tb := tb__law_inputs) (fun cdv A outer s H E hr => ⟨_, (dss_cons (ds_set (i := 3) sc__law_inputs.nd (do_bin op_addA rok_add do_int (do_callW (j := 0) G__law_drop (hr.mono (by decide)) (by rfl) T.d__law_drop.m T.d__law_drop.F.kp T.d__law_drop.b (da_cons (dv 1) da_nil))))
      (dss_cons (ds_set (i := 4) sc__law_inputs.nd (do_callW (j := 0) G__law_words (hr.mono (by decide)) (by rfl) T.d__law_words.m T.d__law_words.F.kp T.d__law_words.b (da_cons (dv 3) da_nil)))
      (dss_one (ds_ret (do_Ty call_tuple_of cok_tuple (by rfl) T.z_tuple (by decide +kernel) (da_cons (do_comp (own := [("k", 5)]) sc__law_inputs.nd (di_r1 (by rfl) T.z_range (dv 3)) (blkOk_by (own := [("k", 5)]) (N := N__law_inputs) (sc := defScope s__law_inputs) (by first | decide +kernel | rfl)) (fun _ _ _ _ _ => (dg_nm (i := 5) sc__law_inputs.nd)) (fun _ _ _ _ _ => ⟨_, dcs_nil⟩) (fun _ _ _ _ _ => ⟨_, (do_tup (da_cons (do_ix (dv 4) (dv 5)) (da_cons (do_callW (j := 0) G__law_kind (hr.mono (by decide)) (by rfl) T.d__law_kind.m T.d__law_kind.F.kp T.d__law_kind.b (da_cons (dv 2) da_nil)) da_nil)))⟩) (by decide) (by rfl) (by intro _; rfl)) da_nil))))))⟩) (rd__law_inputs)
theorem ok__law_ends (T : Tx P w K mg) : FnOk P w K mg base CX0 1 T.a__law_ends T.fd__law_ends P__law_ends (spP K 1 g__law_ends) := by
  exact dfun T.d__law_ends.F sc__law_ends (tb := tb__law_ends) (fun cdv A outer s H E hr => ⟨_, (dss_cons (ds_if (db_cmp (op_eqA hr.units) rok_eq (do_ix (dv 0) do_int) do_str) (dss_one (ds_ret (do_tup (da_cons (do_ix (dv 0) do_int) (da_cons (do_ix (dv 0) do_int) da_nil))))) dss_nil)
      (dss_one (ds_ret (do_tup (da_cons do_int (da_cons (do_ifx (db_cmp (op_eqA hr.units) rok_eq (do_ix (dv 0) do_int) do_str) do_int (do_bin op_sub rok_sub (do_B call_lenA cok_len (by rfl) T.z_len (by decide +kernel) (da_cons (do_ix (dv 0) do_int) da_nil)) do_int)) da_nil))))))⟩) (rd__law_ends)
theorem ok__law_value (T : Tx P w K mg) : FnOk P w K mg base CX0 2 T.a__law_value T.fd__law_value P__law_value (spW K 1 g__law_value) := by
  have G__law_drop := ok__law_drop (P := P) (base := base) T
  have G__law_ends := ok__law_ends (P := P) (base := base) T
  exact dfunW T.d__law_value.F sc__law_value rfl (tb := tb__law_value) (fun cdv A outer s H E hr => ⟨_, (dss_cons (ds_unp (do_call G__law_ends (hr.mono (by decide)) (by rfl) T.d__law_ends.m T.d__law_ends.F.kp T.d__law_ends.b (da_cons (dv 1) da_nil)) (dg_tup (dgs_cons (dg_nm (i := 2) sc__law_value.nd) (dgs_cons (dg_nm (i := 3) sc__law_value.nd) dgs_nil))))
      (dss_cons (ds_set (i := 4) sc__law_value.nd (do_ix (do_lst (da_cons (dv 2) (da_cons (dv 3) (da_cons (do_bin op_addA rok_add (dv 2) (do_callW (j := 0) G__law_drop (hr.mono (by decide)) (by rfl) T.d__law_drop.m T.d__law_drop.F.kp T.d__law_drop.b (da_cons (do_bin op_addA rok_add (do_bin op_sub rok_sub (dv 3) (dv 2)) do_int) da_nil))) da_nil)))) (do_callW (j := 0) G__law_drop (hr.mono (by decide)) (by rfl) T.d__law_drop.m T.d__law_drop.F.kp T.d__law_drop.b (da_cons do_int da_nil))))
      (dss_one (ds_ret (do_ifx (db_cmp (op_eqA hr.units) rok_eq (do_ix (dv 1) do_int) do_str) (do_cmp (op_eqA hr.units) rok_eq (dv 4) do_int) (dv 4))))))⟩) (rd__law_value)
theorem ok__law_file (T : Tx P w K mg) : FnOk P w K mg base CX0 3 T.a__law_file T.fd__law_file P__law_file (spW K 1 g__law_file) := by
  have G__law_value := ok__law_value (P := P) (base := base) T
  exact dfunW T.d__law_file.F sc__law_file rfl (tb := tb__law_file) (fun cdv A outer s H E hr => ⟨_, (dss_one (ds_ret (do_Ty call_tuple_of cok_tuple (by rfl) T.z_tuple (by decide +kernel) (da_cons (do_compG (own := [("name", 2), ("kind", 3)]) sc__law_file.nd (di_seq (dv 1)) (blkOk_by (own := [("name", 2), ("kind", 3)]) (N := N__law_file) (sc := defScope s__law_file) (by first | decide +kernel | rfl)) [2, 3] (fun _ _ _ _ _ => ⟨_, (dg_tup (dgs_cons (dg_nm (i := 2) sc__law_file.nd) (dgs_cons (dg_nm (i := 3) sc__law_file.nd) dgs_nil)))⟩) (fun _ _ _ _ _ => ⟨_, dcs_nil⟩) (fun _ _ _ _ _ => ⟨_, (do_callW (j := 0) G__law_value (hr.mono (by decide)) (by rfl) T.d__law_value.m T.d__law_value.F.kp T.d__law_value.b (da_cons (dv 3) da_nil))⟩) (by decide) (by rfl) (by intro _; rfl)) da_nil))))⟩) (rd__law_file)
theorem ok__law_tried (T : Tx P w K mg) : FnOk P w K mg base CX0 7 T.a__law_tried T.fd__law_tried P__law_tried (spP K 3 g__law_tried) := by
  have G_number_of := ok_number_of (P := P) (base := base) T
  have G_file_at := ok_file_at (P := P) (base := base) T
  exact dfun T.d__law_tried.F sc__law_tried (tb := tb__law_tried K T.cm) (fun cdv A outer s H E hr => ⟨_, (dss_cons (ds_set (i := 3) sc__law_tried.nd do_str)
      (dss_cons (by exact (ds_try T.sb sc__law_tried.nd (fun W pn xe tk po => dssx_as ((dssx_one (dsx_if (db_cmp (op_eqA hr.units) rok_eq (dv 0) do_int) (dssx_one (dsx_expr (do_callX tk G_number_of (hr.mono (by decide)) (by rfl) T.d_number_of.m T.d_number_of.F.kp T.d_number_of.b (da_cons (dv 1) (da_cons (dv 2) da_nil))))) (dssx_one (dsx_if (db_cmp (op_eqA hr.units) rok_eq (dv 0) do_int) (dssx_one (dsx_expr (do_callKX tk G_number_of (hr.mono (by decide)) (by rfl) T.d_number_of.m T.d_number_of.F.kp (kp_number_of_10 T) rfl (dk_cons (dv 2) (dk_cons (dv 1) dk_nil))))) (dssx_one (dsx_if (db_cmp (op_eqA hr.units) rok_eq (dv 0) do_int) (dssx_one (dsx_expr (do_callX tk G_file_at (hr.mono (by decide)) (by rfl) T.d_file_at.m T.d_file_at.F.kp T.d_file_at.b (da_cons (dv 1) (da_cons (dv 2) da_nil))))) (dssx_one (dsx_expr (do_callKX tk G_file_at (hr.mono (by decide)) (by rfl) T.d_file_at.m T.d_file_at.F.kp (kp_file_at_10 T) rfl (dk_cons (dv 2) (dk_cons (dv 1) dk_nil)))))))))))) (by dsimp only [DL.tr_K] <;> exact rfl)) (ClsOk.plain (nm := "InvalidInputs") (by simp [nmx]) ⟨by rfl, by decide, .inl T.g_InvalidInputs⟩ (fun a oe cls d pn hz hf => (dss_one (ds_set (i := 3) sc__law_tried.nd do_str)))       (ClsOk.named (i := 4) (f := "index") (nm := "InvalidFile") (by simp [nmx]) ⟨by rfl, by decide, .inl T.g_InvalidFile⟩ (by rfl) (by rfl) (fun a oe cls d pn hz hf => (dss_one (ds_set (i := 3) sc__law_tried.nd (do_lst (da_cons do_str (da_cons (do_xf (i := 4) T.xf_InvalidFile T.t_InvalidFile.no hz hf) da_nil))))))       (ClsOk.plain (nm := "InvalidCount") (by simp [nmx]) ⟨by rfl, by decide, .inl T.g_InvalidCount⟩ (fun a oe cls d pn hz hf => (dss_one (ds_set (i := 3) sc__law_tried.nd do_str)))       (ClsOk.plain (nm := "CaseError") (by simp [nmx]) ⟨by rfl, by decide, .inl T.g_CaseError⟩ (fun a oe cls d pn hz hf => (dss_one (ds_set (i := 3) sc__law_tried.nd do_str)))       ClsOk.nil))))))
      (dss_one (ds_ret (dv 3)))))⟩) (rd__law_tried K T.cm)
theorem ok__law_wrong_file (T : Tx P w K mg) : FnOk P w K mg base CX0 2 T.a__law_wrong_file T.fd__law_wrong_file P__law_wrong_file (spW K 2 g__law_wrong_file) := by
  have G__law_drop := ok__law_drop (P := P) (base := base) T
  have G__law_ends := ok__law_ends (P := P) (base := base) T
  exact dfunW T.d__law_wrong_file.F sc__law_wrong_file rfl (tb := tb__law_wrong_file) (fun cdv A outer s H E hr => ⟨_, (dss_cons (ds_par2 (i := 3) (j := 4) sc__law_wrong_file.nd (do_callW (j := 0) G__law_drop (hr.mono (by decide)) (by rfl) T.d__law_drop.m T.d__law_drop.F.kp T.d__law_drop.b (da_cons do_int da_nil)) (do_callW (j := 0) G__law_drop (hr.mono (by decide)) (by rfl) T.d__law_drop.m T.d__law_drop.F.kp T.d__law_drop.b (da_cons (do_B call_lenA cok_len (by rfl) T.z_len (by decide +kernel) (da_cons (dv 2) da_nil)) da_nil)))
      (dss_cons (ds_if (db_cmp op_ltA rok_lt (dv 3) do_int) (dss_cons (ds_unp (do_call G__law_ends (hr.mono (by decide)) (by rfl) T.d__law_ends.m T.d__law_ends.F.kp T.d__law_ends.b (da_cons (do_ix (do_ix (dv 1) (dv 4)) do_int) da_nil)) (dg_tup (dgs_cons (dg_nm (i := 5) sc__law_wrong_file.nd) (dgs_cons (dg_nm (i := 6) sc__law_wrong_file.nd) dgs_nil))))
      (dss_cons (ds_set (i := 7) sc__law_wrong_file.nd (do_lst (da_cons (do_bin op_sub rok_sub (dv 5) do_int) (da_cons (do_bin op_addA rok_add (dv 6) do_int) (da_cons do_non (da_cons (do_tup (da_cons (dv 5) da_nil)) (da_cons (do_Ty call_str_int cok_str (by rfl) T.z_str (by decide +kernel) (da_cons (dv 5) da_nil)) (da_cons (do_bin op_pow rok_pow do_int do_int) (da_cons (do_lst (da_cons (dv 6) da_nil)) da_nil)))))))))
      (dss_cons (ds_app (i := 7) (do_ifx (db_cmp (op_eqA hr.units) rok_eq (do_ix (do_ix (do_ix (dv 1) (dv 4)) do_int) do_int) do_str) (do_Ty call_int1 cok_int (by rfl) T.z_int (by decide +kernel) (da_cons (do_ix (dv 2) (dv 4)) da_nil)) do_bl))
      (dss_cons (ds_set (i := 8) sc__law_wrong_file.nd (do_ix (dv 7) (do_callW (j := 0) G__law_drop (hr.mono (by decide)) (by rfl) T.d__law_drop.m T.d__law_drop.F.kp T.d__law_drop.b (da_cons do_int da_nil))))
      (dss_cons (ds_setc (i := 9) (own := [("k", 10)]) sc__law_wrong_file.nd (di_r1 (by rfl) T.z_range (do_B call_lenA cok_len (by rfl) T.z_len (by decide +kernel) (da_cons (dv 2) da_nil))) (blkOk_by (own := [("k", 10)]) (N := N__law_wrong_file) (sc := defScope s__law_wrong_file) (by first | decide +kernel | rfl)) (fun _ _ _ _ _ => (dg_nm (i := 10) sc__law_wrong_file.nd)) (fun _ _ _ _ _ => ⟨_, dcs_nil⟩) (fun _ _ _ _ _ => ⟨_, (do_ifx (DW.db (dw_and (db_cmp op_gt rok_rel (dv 10) (dv 4)) (dw_and1 (db_cmp (op_eqA hr.units) rok_eq (do_callW (j := 0) G__law_drop (hr.mono (by decide)) (by rfl) T.d__law_drop.m T.d__law_drop.F.kp T.d__law_drop.b (da_cons do_int da_nil)) do_int)))) do_non (do_ix (dv 2) (dv 10)))⟩) (sw_true rfl rfl rfl (by decide +kernel)) (by rfl) (by rfl) (by decide) (by rfl) (by intro _; rfl))
      (dss_one (ds_ret (do_tup (da_cons (do_Ty call_tuple_of cok_tuple (by rfl) T.z_tuple (by decide +kernel) (da_cons (do_bin op_addA rok_add (do_bin op_addA rok_add (do_sl (dv 9) dp_none (dp_some (dv 4))) (do_lst (da_cons (dv 8) da_nil))) (do_sl (dv 9) (dp_some (do_bin op_addA rok_add (dv 4) do_int)) dp_none)) da_nil)) (da_cons (dv 4) da_nil)))))))))) dss_nil)
      (dss_one (ds_ret (do_tup (da_cons (do_ix (do_lst (da_cons (do_sl (dv 2) dp_none (dp_some (do_un un_neg uok_neg do_int))) (da_cons (do_bin op_addA rok_add (dv 2) (do_sl (dv 2) dp_none (dp_some do_int))) (da_cons (do_Ty call_list_of cok_list (by rfl) T.z_list (by decide +kernel) (da_cons (dv 2) da_nil)) (da_cons (do_ix (do_lst (da_cons do_non (da_cons do_str (da_cons do_int (da_cons (do_tup da_nil) da_nil))))) (do_bin op_modN rok_mod (do_Ty call_int1 cok_int (by rfl) T.z_int (by decide +kernel) (da_cons (dv 4) da_nil)) do_int)) da_nil))))) (do_bin op_sub rok_sub (dv 3) do_int)) (da_cons do_int da_nil)))))))⟩) (rd__law_wrong_file)
theorem ok_law (T : Tx P w K mg) : FnOk P w K mg base CX0 8 T.a_law T.fd_law P_law (spP K 1 g_law) := by
  have G__law_tried := ok__law_tried (P := P) (base := base) T
  have G__law_drop := ok__law_drop (P := P) (base := base) T
  have G__law_wrong_file := ok__law_wrong_file (P := P) (base := base) T
  have G__law_file := ok__law_file (P := P) (base := base) T
  have G__law_inputs := ok__law_inputs (P := P) (base := base) T
  have G__law_spring := ok__law_spring (P := P) (base := base) T
  exact dfun T.d_law.F sc_law (tb := tb_law) (fun cdv A outer s H E hr => ⟨_, (dss_cons (ds_set (i := 1) sc_law.nd (do_call G__law_spring (hr.mono (by decide)) (by rfl) T.d__law_spring.m T.d__law_spring.F.kp T.d__law_spring.b (da_cons (dv 0) da_nil)))
      (dss_cons (ds_for PassesOwn.never (di_r1 (by rfl) T.z_range do_int) (dg_nm (i := 2) sc_law.nd) (dss_cons (ds_set (i := 3) sc_law.nd (do_callW (j := 1) G__law_inputs (hr.mono (by decide)) (by rfl) T.d__law_inputs.m T.d__law_inputs.F.kp T.d__law_inputs.b (da_cons do_int (da_cons (do_ix (do_lst (da_cons do_int (da_cons do_int (da_cons do_int da_nil)))) (do_callW (j := 1) G__law_drop (hr.mono (by decide)) (by rfl) T.d__law_drop.m T.d__law_drop.F.kp T.d__law_drop.b (da_cons do_int da_nil))) da_nil))))
      (dss_cons (ds_set (i := 4) sc_law.nd (do_callW (j := 1) G__law_file (hr.mono (by decide)) (by rfl) T.d__law_file.m T.d__law_file.F.kp T.d__law_file.b (da_cons (dv 3) da_nil)))
      (dss_cons (ds_unp (do_callW (j := 1) G__law_wrong_file (hr.mono (by decide)) (by rfl) T.d__law_wrong_file.m T.d__law_wrong_file.F.kp T.d__law_wrong_file.b (da_cons (dv 3) (da_cons (dv 4) da_nil))) (dg_tup (dgs_cons (dg_nm (i := 5) sc_law.nd) (dgs_cons (dg_nm (i := 6) sc_law.nd) dgs_nil))))
      (dss_cons (ds_set (i := 7) sc_law.nd (do_ix (do_lst (da_cons do_non (da_cons (do_tup da_nil) (da_cons (do_Ty call_list_of cok_list (by rfl) T.z_list (by decide +kernel) (da_cons (dv 3) da_nil)) (da_cons (do_bin op_addA rok_add (dv 3) (do_sl (dv 3) dp_none (dp_some do_int))) (da_cons (do_ix (dv 3) do_int) (da_cons do_str (da_cons (do_tup (da_cons (do_tup (da_cons do_str (da_cons do_str da_nil))) da_nil)) (da_cons (do_bin op_repT rok_repT (dv 3) do_int) da_nil))))))))) (do_callW (j := 1) G__law_drop (hr.mono (by decide)) (by rfl) T.d__law_drop.m T.d__law_drop.F.kp T.d__law_drop.b (da_cons do_int da_nil))))
      (dss_cons (ds_set (i := 8) sc_law.nd (do_ix (do_lst (da_cons (do_un un_neg uok_neg do_int) (da_cons do_non (da_cons do_str (da_cons do_bl (da_cons (do_tup (da_cons do_int da_nil)) (da_cons (do_un un_neg uok_neg (do_bin op_pow rok_pow do_int do_int)) (da_cons (do_lst da_nil) (da_cons do_bl da_nil))))))))) (do_callW (j := 1) G__law_drop (hr.mono (by decide)) (by rfl) T.d__law_drop.m T.d__law_drop.F.kp T.d__law_drop.b (da_cons do_int da_nil))))
      (dss_cons (ds_set (i := 9) sc_law.nd (do_ix (do_lst (da_cons do_int (da_cons do_int (da_cons (do_bin op_pow rok_pow do_int do_int) da_nil)))) (do_callW (j := 1) G__law_drop (hr.mono (by decide)) (by rfl) T.d__law_drop.m T.d__law_drop.F.kp T.d__law_drop.b (da_cons do_int da_nil))))
      (dss_cons (ds_for PassesOwn.never (di_seq (do_lst (da_cons do_int (da_cons do_int da_nil)))) (dg_nm (i := 10) sc_law.nd) (dss_cons (ds_if (DW.db (dw_or (db_cmp (op_neA hr.units) rok_ne (do_call G__law_tried (hr.mono (by decide)) (by rfl) T.d__law_tried.m T.d__law_tried.F.kp T.d__law_tried.b (da_cons (dv 10) (da_cons (dv 3) (da_cons (dv 4) da_nil)))) do_str) (dw_or1 (db_cmp (op_neA hr.units) rok_ne (do_call G__law_tried (hr.mono (by decide)) (by rfl) T.d__law_tried.m T.d__law_tried.F.kp T.d__law_tried.b (da_cons (dv 10) (da_cons (dv 3) (da_cons (dv 5) da_nil)))) (do_lst (da_cons do_str (da_cons (dv 6) da_nil))))))) (dss_one (ds_ret do_bl)) dss_nil)
      (dss_one (ds_if (db_cmp (op_neA hr.units) rok_ne (do_call G__law_tried (hr.mono (by decide)) (by rfl) T.d__law_tried.m T.d__law_tried.F.kp T.d__law_tried.b (da_cons (dv 10) (da_cons (dv 7) (da_cons (do_ix (do_lst (da_cons (dv 4) (da_cons (dv 5) da_nil))) (do_callW (j := 1) G__law_drop (hr.mono (by decide)) (by rfl) T.d__law_drop.m T.d__law_drop.F.kp T.d__law_drop.b (da_cons do_int da_nil))) da_nil)))) do_str) (dss_one (ds_ret do_bl)) dss_nil))))
      (dss_one (ds_for PassesOwn.never (di_seq (do_lst (da_cons do_int (da_cons do_int da_nil)))) (dg_nm (i := 10) sc_law.nd) (dss_cons (ds_if (DW.db (dw_or (db_cmp (op_neA hr.units) rok_ne (do_call G__law_tried (hr.mono (by decide)) (by rfl) T.d__law_tried.m T.d__law_tried.F.kp T.d__law_tried.b (da_cons (dv 10) (da_cons (dv 3) (da_cons (dv 9) da_nil)))) do_str) (dw_or1 (db_cmp (op_neA hr.units) rok_ne (do_call G__law_tried (hr.mono (by decide)) (by rfl) T.d__law_tried.m T.d__law_tried.F.kp T.d__law_tried.b (da_cons (dv 10) (da_cons (dv 3) (da_cons (dv 8) da_nil)))) do_str)))) (dss_one (ds_ret do_bl)) dss_nil)
      (dss_one (ds_if (db_cmp (op_neA hr.units) rok_ne (do_call G__law_tried (hr.mono (by decide)) (by rfl) T.d__law_tried.m T.d__law_tried.F.kp T.d__law_tried.b (da_cons (dv 10) (da_cons (dv 7) (da_cons (do_ix (do_lst (da_cons (dv 9) (da_cons (dv 8) da_nil))) (do_callW (j := 1) G__law_drop (hr.mono (by decide)) (by rfl) T.d__law_drop.m T.d__law_drop.F.kp T.d__law_drop.b (da_cons do_int da_nil))) da_nil)))) do_str) (dss_one (ds_ret do_bl)) dss_nil)))))))))))))
      (dss_one (ds_ret do_bl))))⟩) (rd_law)
end
end K01

namespace K01
open PySem PySem.Spec PyProof.Rows L2 BK EX
open DL hiding g_is_between tb_is_between rd_is_between
theorem all_mk {P : Program} {w : World} {K : PySem.W.Frag} {h : Heap} {mg : Str → Option Value} {fa : Addr} (X : K.In h) (G : h.Ns mainGlobals mg) (hfa : mg "law" = some (.ref fa))
    {f0 : Addr} {od0 an0 : Option Addr} {sl0 : Array (Option Value)} {oc0 kV0 dc0 pm0 cd0 ct0 : Value}
    (a0 : PySem.W.nsIn K mainGlobals "is_integer" = some (some (.ref f0)))
    (l0 : K.lookup f0 = some ⟨oc0, od0, .func (PySem.W.fnOf "is_integer" "is_integer" (defArgs s_is_integer) (defBody s_is_integer) (defScope s_is_integer) .none kV0 dc0 pm0 an0 cd0 ct0), sl0⟩)
    (c0 : PySem.W.codeIn K cd0 "is_integer" = true)
    (k0 : PySem.W.keepIn K (.ref f0) = true)
    {f1 : Addr} {od1 an1 : Option Addr} {sl1 : Array (Option Value)} {oc1 kV1 dc1 pm1 cd1 ct1 : Value}
    (a1 : PySem.W.nsIn K mainGlobals "is_between" = some (some (.ref f1)))
    (l1 : K.lookup f1 = some ⟨oc1, od1, .func (PySem.W.fnOf "is_between" "is_between" (defArgs s_is_between) (defBody s_is_between) (defScope s_is_between) .none kV1 dc1 pm1 an1 cd1 ct1), sl1⟩)
    (c1 : PySem.W.codeIn K cd1 "is_between" = true)
    (k1 : PySem.W.keepIn K (.ref f1) = true)
    {f2 : Addr} {od2 an2 : Option Addr} {sl2 : Array (Option Value)} {oc2 kV2 dc2 pm2 cd2 ct2 : Value}
    (a2 : PySem.W.nsIn K mainGlobals "is_tuple_of" = some (some (.ref f2)))
    (l2 : K.lookup f2 = some ⟨oc2, od2, .func (PySem.W.fnOf "is_tuple_of" "is_tuple_of" (defArgs s_is_tuple_of) (defBody s_is_tuple_of) (defScope s_is_tuple_of) .none kV2 dc2 pm2 an2 cd2 ct2), sl2⟩)
    (c2 : PySem.W.codeIn K cd2 "is_tuple_of" = true)
    (k2 : PySem.W.keepIn K (.ref f2) = true)
    {f3 : Addr} {od3 an3 : Option Addr} {sl3 : Array (Option Value)} {oc3 kV3 dc3 pm3 cd3 ct3 : Value}
    (a3 : PySem.W.nsIn K mainGlobals "is_headed" = some (some (.ref f3)))
    (l3 : K.lookup f3 = some ⟨oc3, od3, .func (PySem.W.fnOf "is_headed" "is_headed" (defArgs s_is_headed) (defBody s_is_headed) (defScope s_is_headed) .none kV3 dc3 pm3 an3 cd3 ct3), sl3⟩)
    (c3 : PySem.W.codeIn K cd3 "is_headed" = true)
    (k3 : PySem.W.keepIn K (.ref f3) = true)
    {f4 : Addr} {od4 an4 : Option Addr} {sl4 : Array (Option Value)} {oc4 kV4 dc4 pm4 cd4 ct4 : Value}
    (a4 : PySem.W.nsIn K mainGlobals "is_word" = some (some (.ref f4)))
    (l4 : K.lookup f4 = some ⟨oc4, od4, .func (PySem.W.fnOf "is_word" "is_word" (defArgs s_is_word) (defBody s_is_word) (defScope s_is_word) .none kV4 dc4 pm4 an4 cd4 ct4), sl4⟩)
    (c4 : PySem.W.codeIn K cd4 "is_word" = true)
    (k4 : PySem.W.keepIn K (.ref f4) = true)
    {f5 : Addr} {od5 an5 : Option Addr} {sl5 : Array (Option Value)} {oc5 kV5 dc5 pm5 cd5 ct5 : Value}
    (a5 : PySem.W.nsIn K mainGlobals "check_count" = some (some (.ref f5)))
    (l5 : K.lookup f5 = some ⟨oc5, od5, .func (PySem.W.fnOf "check_count" "check_count" (defArgs s_check_count) (defBody s_check_count) (defScope s_check_count) .none kV5 dc5 pm5 an5 cd5 ct5), sl5⟩)
    (c5 : PySem.W.codeIn K cd5 "check_count" = true)
    (k5 : PySem.W.keepIn K (.ref f5) = true)
    {f6 : Addr} {od6 an6 : Option Addr} {sl6 : Array (Option Value)} {oc6 kV6 dc6 pm6 cd6 ct6 : Value}
    (a6 : PySem.W.nsIn K mainGlobals "are_unlike" = some (some (.ref f6)))
    (l6 : K.lookup f6 = some ⟨oc6, od6, .func (PySem.W.fnOf "are_unlike" "are_unlike" (defArgs s_are_unlike) (defBody s_are_unlike) (defScope s_are_unlike) .none kV6 dc6 pm6 an6 cd6 ct6), sl6⟩)
    (c6 : PySem.W.codeIn K cd6 "are_unlike" = true)
    (k6 : PySem.W.keepIn K (.ref f6) = true)
    {f7 : Addr} {od7 an7 : Option Addr} {sl7 : Array (Option Value)} {oc7 kV7 dc7 pm7 cd7 ct7 : Value}
    (a7 : PySem.W.nsIn K mainGlobals "is_kind" = some (some (.ref f7)))
    (l7 : K.lookup f7 = some ⟨oc7, od7, .func (PySem.W.fnOf "is_kind" "is_kind" (defArgs s_is_kind) (defBody s_is_kind) (defScope s_is_kind) .none kV7 dc7 pm7 an7 cd7 ct7), sl7⟩)
    (c7 : PySem.W.codeIn K cd7 "is_kind" = true)
    (k7 : PySem.W.keepIn K (.ref f7) = true)
    {f8 : Addr} {od8 an8 : Option Addr} {sl8 : Array (Option Value)} {oc8 kV8 dc8 pm8 cd8 ct8 : Value}
    (a8 : PySem.W.nsIn K mainGlobals "is_inputs" = some (some (.ref f8)))
    (l8 : K.lookup f8 = some ⟨oc8, od8, .func (PySem.W.fnOf "is_inputs" "is_inputs" (defArgs s_is_inputs) (defBody s_is_inputs) (defScope s_is_inputs) .none kV8 dc8 pm8 an8 cd8 ct8), sl8⟩)
    (c8 : PySem.W.codeIn K cd8 "is_inputs" = true)
    (k8 : PySem.W.keepIn K (.ref f8) = true)
    {f9 : Addr} {od9 an9 : Option Addr} {sl9 : Array (Option Value)} {oc9 kV9 dc9 pm9 cd9 ct9 : Value}
    (a9 : PySem.W.nsIn K mainGlobals "check_inputs" = some (some (.ref f9)))
    (l9 : K.lookup f9 = some ⟨oc9, od9, .func (PySem.W.fnOf "check_inputs" "check_inputs" (defArgs s_check_inputs) (defBody s_check_inputs) (defScope s_check_inputs) .none kV9 dc9 pm9 an9 cd9 ct9), sl9⟩)
    (c9 : PySem.W.codeIn K cd9 "check_inputs" = true)
    (k9 : PySem.W.keepIn K (.ref f9) = true)
    {f10 : Addr} {od10 an10 : Option Addr} {sl10 : Array (Option Value)} {oc10 kV10 dc10 pm10 cd10 ct10 : Value}
    (a10 : PySem.W.nsIn K mainGlobals "ends_of" = some (some (.ref f10)))
    (l10 : K.lookup f10 = some ⟨oc10, od10, .func (PySem.W.fnOf "ends_of" "ends_of" (defArgs s_ends_of) (defBody s_ends_of) (defScope s_ends_of) .none kV10 dc10 pm10 an10 cd10 ct10), sl10⟩)
    (c10 : PySem.W.codeIn K cd10 "ends_of" = true)
    (k10 : PySem.W.keepIn K (.ref f10) = true)
    {f11 : Addr} {od11 an11 : Option Addr} {sl11 : Array (Option Value)} {oc11 kV11 dc11 pm11 cd11 ct11 : Value}
    (a11 : PySem.W.nsIn K mainGlobals "is_of" = some (some (.ref f11)))
    (l11 : K.lookup f11 = some ⟨oc11, od11, .func (PySem.W.fnOf "is_of" "is_of" (defArgs s_is_of) (defBody s_is_of) (defScope s_is_of) .none kV11 dc11 pm11 an11 cd11 ct11), sl11⟩)
    (c11 : PySem.W.codeIn K cd11 "is_of" = true)
    (k11 : PySem.W.keepIn K (.ref f11) = true)
    {f12 : Addr} {od12 an12 : Option Addr} {sl12 : Array (Option Value)} {oc12 kV12 dc12 pm12 cd12 ct12 : Value}
    (a12 : PySem.W.nsIn K mainGlobals "fault_in" = some (some (.ref f12)))
    (l12 : K.lookup f12 = some ⟨oc12, od12, .func (PySem.W.fnOf "fault_in" "fault_in" (defArgs s_fault_in) (defBody s_fault_in) (defScope s_fault_in) .none kV12 dc12 pm12 an12 cd12 ct12), sl12⟩)
    (c12 : PySem.W.codeIn K cd12 "fault_in" = true)
    (k12 : PySem.W.keepIn K (.ref f12) = true)
    {f13 : Addr} {od13 an13 : Option Addr} {sl13 : Array (Option Value)} {oc13 kV13 dc13 pm13 cd13 ct13 : Value}
    (a13 : PySem.W.nsIn K mainGlobals "check_file" = some (some (.ref f13)))
    (l13 : K.lookup f13 = some ⟨oc13, od13, .func (PySem.W.fnOf "check_file" "check_file" (defArgs s_check_file) (defBody s_check_file) (defScope s_check_file) .none kV13 dc13 pm13 an13 cd13 ct13), sl13⟩)
    (c13 : PySem.W.codeIn K cd13 "check_file" = true)
    (k13 : PySem.W.keepIn K (.ref f13) = true)
    {f14 : Addr} {od14 an14 : Option Addr} {sl14 : Array (Option Value)} {oc14 kV14 dc14 pm14 cd14 ct14 : Value}
    (a14 : PySem.W.nsIn K mainGlobals "width_of" = some (some (.ref f14)))
    (l14 : K.lookup f14 = some ⟨oc14, od14, .func (PySem.W.fnOf "width_of" "width_of" (defArgs s_width_of) (defBody s_width_of) (defScope s_width_of) .none kV14 dc14 pm14 an14 cd14 ct14), sl14⟩)
    (c14 : PySem.W.codeIn K cd14 "width_of" = true)
    (k14 : PySem.W.keepIn K (.ref f14) = true)
    {f15 : Addr} {od15 an15 : Option Addr} {sl15 : Array (Option Value)} {oc15 kV15 dc15 pm15 cd15 ct15 : Value}
    (a15 : PySem.W.nsIn K mainGlobals "file_at" = some (some (.ref f15)))
    (l15 : K.lookup f15 = some ⟨oc15, od15, .func (PySem.W.fnOf "file_at" "file_at" (defArgs s_file_at) (defBody s_file_at) (defScope s_file_at) .none kV15 dc15 pm15 an15 cd15 ct15), sl15⟩)
    (c15 : PySem.W.codeIn K cd15 "file_at" = true)
    (k15 : PySem.W.keepIn K (.ref f15) = true)
    {f16 : Addr} {od16 an16 : Option Addr} {sl16 : Array (Option Value)} {oc16 kV16 dc16 pm16 cd16 ct16 : Value}
    (a16 : PySem.W.nsIn K mainGlobals "number_of" = some (some (.ref f16)))
    (l16 : K.lookup f16 = some ⟨oc16, od16, .func (PySem.W.fnOf "number_of" "number_of" (defArgs s_number_of) (defBody s_number_of) (defScope s_number_of) .none kV16 dc16 pm16 an16 cd16 ct16), sl16⟩)
    (c16 : PySem.W.codeIn K cd16 "number_of" = true)
    (k16 : PySem.W.keepIn K (.ref f16) = true)
    {f17 : Addr} {od17 an17 : Option Addr} {sl17 : Array (Option Value)} {oc17 kV17 dc17 pm17 cd17 ct17 : Value}
    (a17 : PySem.W.nsIn K mainGlobals "_law_spring" = some (some (.ref f17)))
    (l17 : K.lookup f17 = some ⟨oc17, od17, .func (PySem.W.fnOf "_law_spring" "_law_spring" (defArgs s__law_spring) (defBody s__law_spring) (defScope s__law_spring) .none kV17 dc17 pm17 an17 cd17 ct17), sl17⟩)
    (c17 : PySem.W.codeIn K cd17 "_law_spring" = true)
    (k17 : PySem.W.keepIn K (.ref f17) = true)
    {f18 : Addr} {od18 an18 : Option Addr} {sl18 : Array (Option Value)} {oc18 kV18 dc18 pm18 cd18 ct18 : Value}
    (a18 : PySem.W.nsIn K mainGlobals "_law_drop" = some (some (.ref f18)))
    (l18 : K.lookup f18 = some ⟨oc18, od18, .func (PySem.W.fnOf "_law_drop" "_law_drop" (defArgs s__law_drop) (defBody s__law_drop) (defScope s__law_drop) .none kV18 dc18 pm18 an18 cd18 ct18), sl18⟩)
    (c18 : PySem.W.codeIn K cd18 "_law_drop" = true)
    (k18 : PySem.W.keepIn K (.ref f18) = true)
    {f19 : Addr} {od19 an19 : Option Addr} {sl19 : Array (Option Value)} {oc19 kV19 dc19 pm19 cd19 ct19 : Value}
    (a19 : PySem.W.nsIn K mainGlobals "_law_word" = some (some (.ref f19)))
    (l19 : K.lookup f19 = some ⟨oc19, od19, .func (PySem.W.fnOf "_law_word" "_law_word" (defArgs s__law_word) (defBody s__law_word) (defScope s__law_word) .none kV19 dc19 pm19 an19 cd19 ct19), sl19⟩)
    (c19 : PySem.W.codeIn K cd19 "_law_word" = true)
    (k19 : PySem.W.keepIn K (.ref f19) = true)
    {f20 : Addr} {od20 an20 : Option Addr} {sl20 : Array (Option Value)} {oc20 kV20 dc20 pm20 cd20 ct20 : Value}
    (a20 : PySem.W.nsIn K mainGlobals "_law_words" = some (some (.ref f20)))
    (l20 : K.lookup f20 = some ⟨oc20, od20, .func (PySem.W.fnOf "_law_words" "_law_words" (defArgs s__law_words) (defBody s__law_words) (defScope s__law_words) .none kV20 dc20 pm20 an20 cd20 ct20), sl20⟩)
    (c20 : PySem.W.codeIn K cd20 "_law_words" = true)
    (k20 : PySem.W.keepIn K (.ref f20) = true)
    {f21 : Addr} {od21 an21 : Option Addr} {sl21 : Array (Option Value)} {oc21 kV21 dc21 pm21 cd21 ct21 : Value}
    (a21 : PySem.W.nsIn K mainGlobals "_law_kind" = some (some (.ref f21)))
    (l21 : K.lookup f21 = some ⟨oc21, od21, .func (PySem.W.fnOf "_law_kind" "_law_kind" (defArgs s__law_kind) (defBody s__law_kind) (defScope s__law_kind) .none kV21 dc21 pm21 an21 cd21 ct21), sl21⟩)
    (c21 : PySem.W.codeIn K cd21 "_law_kind" = true)
    (k21 : PySem.W.keepIn K (.ref f21) = true)
    {f22 : Addr} {od22 an22 : Option Addr} {sl22 : Array (Option Value)} {oc22 kV22 dc22 pm22 cd22 ct22 : Value}
    (a22 : PySem.W.nsIn K mainGlobals "_law_inputs" = some (some (.ref f22)))
    (l22 : K.lookup f22 = some ⟨oc22, od22, .func (PySem.W.fnOf "_law_inputs" "_law_inputs" (defArgs s__law_inputs) (defBody s__law_inputs) (defScope s__law_inputs) .none kV22 dc22 pm22 an22 cd22 ct22), sl22⟩)
    (c22 : PySem.W.codeIn K cd22 "_law_inputs" = true)
    (k22 : PySem.W.keepIn K (.ref f22) = true)
    {f23 : Addr} {od23 an23 : Option Addr} {sl23 : Array (Option Value)} {oc23 kV23 dc23 pm23 cd23 ct23 : Value}
    (a23 : PySem.W.nsIn K mainGlobals "_law_ends" = some (some (.ref f23)))
    (l23 : K.lookup f23 = some ⟨oc23, od23, .func (PySem.W.fnOf "_law_ends" "_law_ends" (defArgs s__law_ends) (defBody s__law_ends) (defScope s__law_ends) .none kV23 dc23 pm23 an23 cd23 ct23), sl23⟩)
    (c23 : PySem.W.codeIn K cd23 "_law_ends" = true)
    (k23 : PySem.W.keepIn K (.ref f23) = true)
    {f24 : Addr} {od24 an24 : Option Addr} {sl24 : Array (Option Value)} {oc24 kV24 dc24 pm24 cd24 ct24 : Value}
    (a24 : PySem.W.nsIn K mainGlobals "_law_value" = some (some (.ref f24)))
    (l24 : K.lookup f24 = some ⟨oc24, od24, .func (PySem.W.fnOf "_law_value" "_law_value" (defArgs s__law_value) (defBody s__law_value) (defScope s__law_value) .none kV24 dc24 pm24 an24 cd24 ct24), sl24⟩)
    (c24 : PySem.W.codeIn K cd24 "_law_value" = true)
    (k24 : PySem.W.keepIn K (.ref f24) = true)
    {f25 : Addr} {od25 an25 : Option Addr} {sl25 : Array (Option Value)} {oc25 kV25 dc25 pm25 cd25 ct25 : Value}
    (a25 : PySem.W.nsIn K mainGlobals "_law_file" = some (some (.ref f25)))
    (l25 : K.lookup f25 = some ⟨oc25, od25, .func (PySem.W.fnOf "_law_file" "_law_file" (defArgs s__law_file) (defBody s__law_file) (defScope s__law_file) .none kV25 dc25 pm25 an25 cd25 ct25), sl25⟩)
    (c25 : PySem.W.codeIn K cd25 "_law_file" = true)
    (k25 : PySem.W.keepIn K (.ref f25) = true)
    {f26 : Addr} {od26 an26 : Option Addr} {sl26 : Array (Option Value)} {oc26 kV26 dc26 pm26 cd26 ct26 : Value}
    (a26 : PySem.W.nsIn K mainGlobals "_law_tried" = some (some (.ref f26)))
    (l26 : K.lookup f26 = some ⟨oc26, od26, .func (PySem.W.fnOf "_law_tried" "_law_tried" (defArgs s__law_tried) (defBody s__law_tried) (defScope s__law_tried) .none kV26 dc26 pm26 an26 cd26 ct26), sl26⟩)
    (c26 : PySem.W.codeIn K cd26 "_law_tried" = true)
    (k26 : PySem.W.keepIn K (.ref f26) = true)
    {f27 : Addr} {od27 an27 : Option Addr} {sl27 : Array (Option Value)} {oc27 kV27 dc27 pm27 cd27 ct27 : Value}
    (a27 : PySem.W.nsIn K mainGlobals "_law_wrong_file" = some (some (.ref f27)))
    (l27 : K.lookup f27 = some ⟨oc27, od27, .func (PySem.W.fnOf "_law_wrong_file" "_law_wrong_file" (defArgs s__law_wrong_file) (defBody s__law_wrong_file) (defScope s__law_wrong_file) .none kV27 dc27 pm27 an27 cd27 ct27), sl27⟩)
    (c27 : PySem.W.codeIn K cd27 "_law_wrong_file" = true)
    (k27 : PySem.W.keepIn K (.ref f27) = true)
    {f28 : Addr} {od28 an28 : Option Addr} {sl28 : Array (Option Value)} {oc28 kV28 dc28 pm28 cd28 ct28 : Value}
    (a28 : PySem.W.nsIn K mainGlobals "law" = some (some (.ref f28)))
    (l28 : K.lookup f28 = some ⟨oc28, od28, .func (PySem.W.fnOf "law" "law" (defArgs s_law) (defBody s_law) (defScope s_law) .none kV28 dc28 pm28 an28 cd28 ct28), sl28⟩)
    (c28 : PySem.W.codeIn K cd28 "law" = true)
    (k28 : PySem.W.keepIn K (.ref f28) = true)
    (z_isinstance : PySem.W.nsIn K mainGlobals "isinstance" = some none)
    (z_bool : PySem.W.nsIn K mainGlobals "bool" = some none)
    (z_int : PySem.W.nsIn K mainGlobals "int" = some none)
    (z_len : PySem.W.nsIn K mainGlobals "len" = some none)
    (z_tuple : PySem.W.nsIn K mainGlobals "tuple" = some none)
    (z_str : PySem.W.nsIn K mainGlobals "str" = some none)
    (z_all : PySem.W.nsIn K mainGlobals "all" = some none)
    (z_set : PySem.W.nsIn K mainGlobals "set" = some none)
    (z_enumerate : PySem.W.nsIn K mainGlobals "enumerate" = some none)
    (z_reversed : PySem.W.nsIn K mainGlobals "reversed" = some none)
    (z_zip : PySem.W.nsIn K mainGlobals "zip" = some none)
    (z_range : PySem.W.nsIn K mainGlobals "range" = some none)
    (z_min : PySem.W.nsIn K mainGlobals "min" = some none)
    (z_list : PySem.W.nsIn K mainGlobals "list" = some none)
    {w_MOST_WORDS_t : Tok}
    (g_MOST_WORDS : PySem.W.nsIn K mainGlobals "MOST_WORDS" = some (some (.int (6) w_MOST_WORDS_t)))
    {w_GREATEST_t : Tok}
    (g_GREATEST : PySem.W.nsIn K mainGlobals "GREATEST" = some (some (.int (1000000) w_GREATEST_t)))
    {w_MOST_INPUTS_t : Tok}
    (g_MOST_INPUTS : PySem.W.nsIn K mainGlobals "MOST_INPUTS" = some (some (.int (6) w_MOST_INPUTS_t)))
    {cc_CaseError : Addr}
    {cc_InvalidInputs : Addr}
    {cc_InvalidCount : Addr}
    {cc_InvalidFile : Addr}
    (aC_CaseError : PySem.W.nsIn K mainGlobals "CaseError" = some (some (.ref cc_CaseError)))
    (b_CaseError : PySem.W.subIn K (.ref cc_CaseError) (.type "BaseException") = some true)
    (i_CaseError : PySem.W.isClsIn K cc_CaseError = true)
    (ty_CaseError : PySem.W.typeIn K (.ref cc_CaseError) = some (.type "type"))
    (aC_InvalidInputs : PySem.W.nsIn K mainGlobals "InvalidInputs" = some (some (.ref cc_InvalidInputs)))
    (b_InvalidInputs : PySem.W.subIn K (.ref cc_InvalidInputs) (.type "BaseException") = some true)
    (i_InvalidInputs : PySem.W.isClsIn K cc_InvalidInputs = true)
    (ty_InvalidInputs : PySem.W.typeIn K (.ref cc_InvalidInputs) = some (.type "type"))
    (aC_InvalidCount : PySem.W.nsIn K mainGlobals "InvalidCount" = some (some (.ref cc_InvalidCount)))
    (b_InvalidCount : PySem.W.subIn K (.ref cc_InvalidCount) (.type "BaseException") = some true)
    (i_InvalidCount : PySem.W.isClsIn K cc_InvalidCount = true)
    (ty_InvalidCount : PySem.W.typeIn K (.ref cc_InvalidCount) = some (.type "type"))
    (aC_InvalidFile : PySem.W.nsIn K mainGlobals "InvalidFile" = some (some (.ref cc_InvalidFile)))
    (b_InvalidFile : PySem.W.subIn K (.ref cc_InvalidFile) (.type "BaseException") = some true)
    (i_InvalidFile : PySem.W.isClsIn K cc_InvalidFile = true)
    (ty_InvalidFile : PySem.W.typeIn K (.ref cc_InvalidFile) = some (.type "type"))
    (s_CaseError_CaseError : PySem.W.subIn K (.ref cc_CaseError) (.ref cc_CaseError) = some true)
    (s_CaseError_InvalidInputs : PySem.W.subIn K (.ref cc_CaseError) (.ref cc_InvalidInputs) = some false)
    (s_CaseError_InvalidCount : PySem.W.subIn K (.ref cc_CaseError) (.ref cc_InvalidCount) = some false)
    (s_CaseError_InvalidFile : PySem.W.subIn K (.ref cc_CaseError) (.ref cc_InvalidFile) = some false)
    (s_InvalidInputs_CaseError : PySem.W.subIn K (.ref cc_InvalidInputs) (.ref cc_CaseError) = some true)
    (s_InvalidInputs_InvalidInputs : PySem.W.subIn K (.ref cc_InvalidInputs) (.ref cc_InvalidInputs) = some true)
    (s_InvalidInputs_InvalidCount : PySem.W.subIn K (.ref cc_InvalidInputs) (.ref cc_InvalidCount) = some false)
    (s_InvalidInputs_InvalidFile : PySem.W.subIn K (.ref cc_InvalidInputs) (.ref cc_InvalidFile) = some false)
    (s_InvalidCount_CaseError : PySem.W.subIn K (.ref cc_InvalidCount) (.ref cc_CaseError) = some true)
    (s_InvalidCount_InvalidInputs : PySem.W.subIn K (.ref cc_InvalidCount) (.ref cc_InvalidInputs) = some false)
    (s_InvalidCount_InvalidCount : PySem.W.subIn K (.ref cc_InvalidCount) (.ref cc_InvalidCount) = some true)
    (s_InvalidCount_InvalidFile : PySem.W.subIn K (.ref cc_InvalidCount) (.ref cc_InvalidFile) = some false)
    (s_InvalidFile_CaseError : PySem.W.subIn K (.ref cc_InvalidFile) (.ref cc_CaseError) = some true)
    (s_InvalidFile_InvalidInputs : PySem.W.subIn K (.ref cc_InvalidFile) (.ref cc_InvalidInputs) = some false)
    (s_InvalidFile_InvalidCount : PySem.W.subIn K (.ref cc_InvalidFile) (.ref cc_InvalidCount) = some false)
    (s_InvalidFile_InvalidFile : PySem.W.subIn K (.ref cc_InvalidFile) (.ref cc_InvalidFile) = some true)
    (q_InvalidInputs : PySem.W.excIn K cc_InvalidInputs [.type "ValueError", .type "Exception", .type "BaseException", .type "object"] "ValueError.__new__" = true)
    (kc_InvalidInputs : PySem.W.keepIn K (.ref cc_InvalidInputs) = true)
    (q_InvalidCount : PySem.W.excIn K cc_InvalidCount [.type "ValueError", .type "Exception", .type "BaseException", .type "object"] "ValueError.__new__" = true)
    (kc_InvalidCount : PySem.W.keepIn K (.ref cc_InvalidCount) = true)
    {nm_InvalidFile qn_InvalidFile : Str} {N_InvalidFile fi_InvalidFile cda_InvalidFile cell_InvalidFile : Addr} {bs_InvalidFile subs_InvalidFile : List Value} {sn_InvalidFile : List Str} {ab_InvalidFile : Bool} {col_InvalidFile : Option Bool} {dd_InvalidFile od_InvalidFile an_InvalidFile cdd_InvalidFile cld_InvalidFile : Option Addr} {m0_InvalidFile m1_InvalidFile m2_InvalidFile m3_InvalidFile m5_InvalidFile : Option Value} {oc_InvalidFile doc_InvalidFile pm_InvalidFile ct_InvalidFile ccl_InvalidFile cl_InvalidFile : Value} {osl_InvalidFile ccs_InvalidFile csl_InvalidFile : Array (Option Value)} {tx_InvalidFile file_InvalidFile : Str} {j_InvalidFile : Nat} {p1_InvalidFile p2_InvalidFile q1_InvalidFile q2_InvalidFile q3_InvalidFile q4_InvalidFile q5_InvalidFile q6_InvalidFile q7_InvalidFile q8_InvalidFile q9_InvalidFile q10_InvalidFile : Pos} {vs_InvalidFile : Array Value} {tf_InvalidFile : Tok}
    (xL_InvalidFile : K.lookup cc_InvalidFile = some (excClassObj nm_InvalidFile qn_InvalidFile cc_InvalidFile N_InvalidFile bs_InvalidFile [.ref cc_CaseError, .type "ValueError", .type "Exception", .type "BaseException", .type "object"] true sn_InvalidFile subs_InvalidFile ab_InvalidFile col_InvalidFile dd_InvalidFile m0_InvalidFile m1_InvalidFile m2_InvalidFile m3_InvalidFile m5_InvalidFile "ValueError.__new__"))
    (sa_InvalidFile : PySem.W.findIn K (.ref cc_InvalidFile) "__setattr__" = some (some (.builtin "object.__setattr__")))
    (no_InvalidFile : PySem.W.findIn K (.ref cc_InvalidFile) "index" = some none)
    (iC_InvalidFile : PySem.W.findIn K (.ref cc_InvalidFile) "__init__" = some (some (.ref fi_InvalidFile)))
    (tC_InvalidFile : PySem.W.typeIn K (.ref fi_InvalidFile) = some (.type "function"))
    (kC_InvalidFile : PySem.W.keepIn K (.ref cc_InvalidFile) = true)
    (ve_InvalidFile : PySem.W.subIn K (.ref cc_InvalidFile) (.type "ValueError") = some true)
    (me_InvalidFile : PySem.W.mroIn K cc_InvalidFile (.ref cc_InvalidFile) = some true)
    (su_InvalidFile : PySem.W.ks_superIn K cc_InvalidFile cc_InvalidFile "__init__" = some (some (.builtin "ValueError.__init__")))
    (op_InvalidFile : PySem.W.nsIn K cStatics "thirdparty.any" = some none)
    (gS_InvalidFile : PySem.W.nsIn K mainGlobals "super" = some none)
    (top_InvalidFile : (P.main.scope.names.lookup ("super" : Str)).isSome = false)
    (lI_InvalidFile : K.lookup fi_InvalidFile = some ⟨oc_InvalidFile, od_InvalidFile, .func (PySem.W.ksFn "__init__" "InvalidFile.__init__" (SUP.aI "index" p1_InvalidFile p2_InvalidFile) (SUP.bI "index" tx_InvalidFile j_InvalidFile q1_InvalidFile q2_InvalidFile q3_InvalidFile q4_InvalidFile q5_InvalidFile q6_InvalidFile q7_InvalidFile q8_InvalidFile q9_InvalidFile q10_InvalidFile) (SUP.sI "index") .none .none doc_InvalidFile pm_InvalidFile an_InvalidFile (.ref cda_InvalidFile) ct_InvalidFile cell_InvalidFile), osl_InvalidFile⟩)
    (ev_InvalidFile : ∀ env : Env, eval (.Call (.Attribute (.Call (.Name "super" q1_InvalidFile) [] [] q2_InvalidFile) "__init__" q3_InvalidFile) [.Constant (.str tx_InvalidFile) j_InvalidFile q4_InvalidFile] [] q5_InvalidFile) env = (do { let ov ← attributeBase (.Call (.Name "super" q1_InvalidFile) [] [] q2_InvalidFile) "__init__" env (eval (.Call (.Name "super" q1_InvalidFile) [] [] q2_InvalidFile) env); standAt q3_InvalidFile.atName; let (f, first) ← holding [ov] (getMethod ov "__init__" (do return (← (pure (some false) : PySem.Sem (Option Bool))).getD true)); callWith q5_InvalidFile f first (backTo q5_InvalidFile (starEach [.Constant (.str tx_InvalidFile) j_InvalidFile q4_InvalidFile] env)) [] }))
    (cI_InvalidFile : PySem.W.codeIn K (.ref cda_InvalidFile) "InvalidFile.__init__" = true)
    (lc_InvalidFile : K.lookup cda_InvalidFile = some ⟨ccl_InvalidFile, cdd_InvalidFile, .fields vs_InvalidFile, ccs_InvalidFile⟩)
    (v2_InvalidFile : vs_InvalidFile[2]? = some (.str file_InvalidFile tf_InvalidFile))
    (hf_InvalidFile : ((P.main.file : Str) == file_InvalidFile) = true)
    (ll_InvalidFile : K.lookup cell_InvalidFile = some ⟨cl_InvalidFile, cld_InvalidFile, .cell (some (.ref cc_InvalidFile)), csl_InvalidFile⟩)
    (ga_InvalidFile : PySem.W.findIn K (.ref cc_InvalidFile) "__getattribute__" = some (some (.builtin "BaseException.__getattribute__")))
    (gg_InvalidFile : PySem.W.findIn K (.ref cc_InvalidFile) "__getattr__" = some none)
    (hd_InvalidFile : PySem.W.hasDictIn K cc_InvalidFile = true)
    : ∃ fd : FuncData, (∀ (s : Shared) (v : Value), BindsTo s fd ⟨[v], []⟩ [("script", v)]) ∧ ∀ base : Heap, K.In base → base.Ns mainGlobals mg → FnOk P w K mg base CX0 8 fa fd ["script"] (spP K 1 g_law) := by
  have e := hfa.symm.trans (PySem.W.mg_of X G a28)
  cases e
  obtain ⟨cm, m_CaseError, m_InvalidInputs, m_InvalidCount, m_InvalidFile⟩ : ∃ cm : String → Addr, cm "CaseError" = cc_CaseError ∧ cm "InvalidInputs" = cc_InvalidInputs ∧ cm "InvalidCount" = cc_InvalidCount ∧ cm "InvalidFile" = cc_InvalidFile := ⟨fun s => if s = "CaseError" then cc_CaseError else if s = "InvalidInputs" then cc_InvalidInputs else if s = "InvalidCount" then cc_InvalidCount else if s = "InvalidFile" then cc_InvalidFile else 0, by simp, by simp, by simp, by simp⟩
  subst m_CaseError
  subst m_InvalidInputs
  subst m_InvalidCount
  subst m_InvalidFile
  have sb : DL.SubX K cm nmx subx := by
    intro a ha b hb
    simp only [nmx, List.mem_cons, List.not_mem_nil, or_false] at ha hb
    rcases ha with rfl | rfl | rfl | rfl <;> rcases hb with rfl | rfl | rfl | rfl
    · exact DL.exm_of2 b_CaseError i_CaseError ty_CaseError s_CaseError_CaseError (by decide +kernel)
    · exact DL.exm_of2 b_InvalidInputs i_InvalidInputs ty_InvalidInputs s_CaseError_InvalidInputs (by decide +kernel)
    · exact DL.exm_of2 b_InvalidCount i_InvalidCount ty_InvalidCount s_CaseError_InvalidCount (by decide +kernel)
    · exact DL.exm_of2 b_InvalidFile i_InvalidFile ty_InvalidFile s_CaseError_InvalidFile (by decide +kernel)
    · exact DL.exm_of2 b_CaseError i_CaseError ty_CaseError s_InvalidInputs_CaseError (by decide +kernel)
    · exact DL.exm_of2 b_InvalidInputs i_InvalidInputs ty_InvalidInputs s_InvalidInputs_InvalidInputs (by decide +kernel)
    · exact DL.exm_of2 b_InvalidCount i_InvalidCount ty_InvalidCount s_InvalidInputs_InvalidCount (by decide +kernel)
    · exact DL.exm_of2 b_InvalidFile i_InvalidFile ty_InvalidFile s_InvalidInputs_InvalidFile (by decide +kernel)
    · exact DL.exm_of2 b_CaseError i_CaseError ty_CaseError s_InvalidCount_CaseError (by decide +kernel)
    · exact DL.exm_of2 b_InvalidInputs i_InvalidInputs ty_InvalidInputs s_InvalidCount_InvalidInputs (by decide +kernel)
    · exact DL.exm_of2 b_InvalidCount i_InvalidCount ty_InvalidCount s_InvalidCount_InvalidCount (by decide +kernel)
    · exact DL.exm_of2 b_InvalidFile i_InvalidFile ty_InvalidFile s_InvalidCount_InvalidFile (by decide +kernel)
    · exact DL.exm_of2 b_CaseError i_CaseError ty_CaseError s_InvalidFile_CaseError (by decide +kernel)
    · exact DL.exm_of2 b_InvalidInputs i_InvalidInputs ty_InvalidInputs s_InvalidFile_InvalidInputs (by decide +kernel)
    · exact DL.exm_of2 b_InvalidCount i_InvalidCount ty_InvalidCount s_InvalidFile_InvalidCount (by decide +kernel)
    · exact DL.exm_of2 b_InvalidFile i_InvalidFile ty_InvalidFile s_InvalidFile_InvalidFile (by decide +kernel)
  have F0 := fun_mk (st := s_is_integer) l0 c0 k0
  have F1 := fun_mk (st := s_is_between) l1 c1 k1
  have F2 := fun_mk (st := s_is_tuple_of) l2 c2 k2
  have F3 := fun_mk (st := s_is_headed) l3 c3 k3
  have F4 := fun_mk (st := s_is_word) l4 c4 k4
  have F5 := fun_mk (st := s_check_count) l5 c5 k5
  have F6 := fun_mk (st := s_are_unlike) l6 c6 k6
  have F7 := fun_mk (st := s_is_kind) l7 c7 k7
  have F8 := fun_mk (st := s_is_inputs) l8 c8 k8
  have F9 := fun_mk (st := s_check_inputs) l9 c9 k9
  have F10 := fun_mk (st := s_ends_of) l10 c10 k10
  have F11 := fun_mk (st := s_is_of) l11 c11 k11
  have F12 := fun_mk (st := s_fault_in) l12 c12 k12
  have F13 := fun_mk (st := s_check_file) l13 c13 k13
  have F14 := fun_mk (st := s_width_of) l14 c14 k14
  have F15 := fun_mk (st := s_file_at) l15 c15 k15
  have F16 := fun_mk (st := s_number_of) l16 c16 k16
  have F17 := fun_mk (st := s__law_spring) l17 c17 k17
  have F18 := fun_mk (st := s__law_drop) l18 c18 k18
  have F19 := fun_mk (st := s__law_word) l19 c19 k19
  have F20 := fun_mk (st := s__law_words) l20 c20 k20
  have F21 := fun_mk (st := s__law_kind) l21 c21 k21
  have F22 := fun_mk (st := s__law_inputs) l22 c22 k22
  have F23 := fun_mk (st := s__law_ends) l23 c23 k23
  have F24 := fun_mk (st := s__law_value) l24 c24 k24
  have F25 := fun_mk (st := s__law_file) l25 c25 k25
  have F26 := fun_mk (st := s__law_tried) l26 c26 k26
  have F27 := fun_mk (st := s__law_wrong_file) l27 c27 k27
  have F28 := fun_mk (st := s_law) l28 c28 k28
  let T : Tx P w K mg := {
    a_is_integer := f0
    fd_is_integer := _
    d_is_integer := ⟨F0, F0.binds (ps := P_is_integer) fun _ _ _ _ _ _ us hl => match us, hl with | [_], _ => rfl, PySem.W.mg_of X G a0⟩
    a_is_between := f1
    fd_is_between := _
    d_is_between := ⟨F1, F1.binds (ps := P_is_between) fun _ _ _ _ _ _ us hl => match us, hl with | [_, _, _], _ => rfl, PySem.W.mg_of X G a1⟩
    a_is_tuple_of := f2
    fd_is_tuple_of := _
    d_is_tuple_of := ⟨F2, F2.binds (ps := P_is_tuple_of) fun _ _ _ _ _ _ us hl => match us, hl with | [_, _], _ => rfl, PySem.W.mg_of X G a2⟩
    a_is_headed := f3
    fd_is_headed := _
    d_is_headed := ⟨F3, F3.binds (ps := P_is_headed) fun _ _ _ _ _ _ us hl => match us, hl with | [_, _, _], _ => rfl, PySem.W.mg_of X G a3⟩
    a_is_word := f4
    fd_is_word := _
    d_is_word := ⟨F4, F4.binds (ps := P_is_word) fun _ _ _ _ _ _ us hl => match us, hl with | [_], _ => rfl, PySem.W.mg_of X G a4⟩
    a_check_count := f5
    fd_check_count := _
    d_check_count := ⟨F5, F5.binds (ps := P_check_count) fun _ _ _ _ _ _ us hl => match us, hl with | [_], _ => rfl, PySem.W.mg_of X G a5⟩
    a_are_unlike := f6
    fd_are_unlike := _
    d_are_unlike := ⟨F6, F6.binds (ps := P_are_unlike) fun _ _ _ _ _ _ us hl => match us, hl with | [_], _ => rfl, PySem.W.mg_of X G a6⟩
    a_is_kind := f7
    fd_is_kind := _
    d_is_kind := ⟨F7, F7.binds (ps := P_is_kind) fun _ _ _ _ _ _ us hl => match us, hl with | [_], _ => rfl, PySem.W.mg_of X G a7⟩
    a_is_inputs := f8
    fd_is_inputs := _
    d_is_inputs := ⟨F8, F8.binds (ps := P_is_inputs) fun _ _ _ _ _ _ us hl => match us, hl with | [_], _ => rfl, PySem.W.mg_of X G a8⟩
    a_check_inputs := f9
    fd_check_inputs := _
    d_check_inputs := ⟨F9, F9.binds (ps := P_check_inputs) fun _ _ _ _ _ _ us hl => match us, hl with | [_], _ => rfl, PySem.W.mg_of X G a9⟩
    a_ends_of := f10
    fd_ends_of := _
    d_ends_of := ⟨F10, F10.binds (ps := P_ends_of) fun _ _ _ _ _ _ us hl => match us, hl with | [_], _ => rfl, PySem.W.mg_of X G a10⟩
    a_is_of := f11
    fd_is_of := _
    d_is_of := ⟨F11, F11.binds (ps := P_is_of) fun _ _ _ _ _ _ us hl => match us, hl with | [_, _], _ => rfl, PySem.W.mg_of X G a11⟩
    a_fault_in := f12
    fd_fault_in := _
    d_fault_in := ⟨F12, F12.binds (ps := P_fault_in) fun _ _ _ _ _ _ us hl => match us, hl with | [_, _], _ => rfl, PySem.W.mg_of X G a12⟩
    a_check_file := f13
    fd_check_file := _
    d_check_file := ⟨F13, F13.binds (ps := P_check_file) fun _ _ _ _ _ _ us hl => match us, hl with | [_, _], _ => rfl, PySem.W.mg_of X G a13⟩
    a_width_of := f14
    fd_width_of := _
    d_width_of := ⟨F14, F14.binds (ps := P_width_of) fun _ _ _ _ _ _ us hl => match us, hl with | [_], _ => rfl, PySem.W.mg_of X G a14⟩
    a_file_at := f15
    fd_file_at := _
    d_file_at := ⟨F15, F15.binds (ps := P_file_at) fun _ _ _ _ _ _ us hl => match us, hl with | [_, _], _ => rfl, PySem.W.mg_of X G a15⟩
    a_number_of := f16
    fd_number_of := _
    d_number_of := ⟨F16, F16.binds (ps := P_number_of) fun _ _ _ _ _ _ us hl => match us, hl with | [_, _], _ => rfl, PySem.W.mg_of X G a16⟩
    a__law_spring := f17
    fd__law_spring := _
    d__law_spring := ⟨F17, F17.binds (ps := P__law_spring) fun _ _ _ _ _ _ us hl => match us, hl with | [_], _ => rfl, PySem.W.mg_of X G a17⟩
    a__law_drop := f18
    fd__law_drop := _
    d__law_drop := ⟨F18, F18.binds (ps := P__law_drop) fun _ _ _ _ _ _ us hl => match us, hl with | [_, _], _ => rfl, PySem.W.mg_of X G a18⟩
    a__law_word := f19
    fd__law_word := _
    d__law_word := ⟨F19, F19.binds (ps := P__law_word) fun _ _ _ _ _ _ us hl => match us, hl with | [_], _ => rfl, PySem.W.mg_of X G a19⟩
    a__law_words := f20
    fd__law_words := _
    d__law_words := ⟨F20, F20.binds (ps := P__law_words) fun _ _ _ _ _ _ us hl => match us, hl with | [_, _], _ => rfl, PySem.W.mg_of X G a20⟩
    a__law_kind := f21
    fd__law_kind := _
    d__law_kind := ⟨F21, F21.binds (ps := P__law_kind) fun _ _ _ _ _ _ us hl => match us, hl with | [_, _], _ => rfl, PySem.W.mg_of X G a21⟩
    a__law_inputs := f22
    fd__law_inputs := _
    d__law_inputs := ⟨F22, F22.binds (ps := P__law_inputs) fun _ _ _ _ _ _ us hl => match us, hl with | [_, _, _], _ => rfl, PySem.W.mg_of X G a22⟩
    a__law_ends := f23
    fd__law_ends := _
    d__law_ends := ⟨F23, F23.binds (ps := P__law_ends) fun _ _ _ _ _ _ us hl => match us, hl with | [_], _ => rfl, PySem.W.mg_of X G a23⟩
    a__law_value := f24
    fd__law_value := _
    d__law_value := ⟨F24, F24.binds (ps := P__law_value) fun _ _ _ _ _ _ us hl => match us, hl with | [_, _], _ => rfl, PySem.W.mg_of X G a24⟩
    a__law_file := f25
    fd__law_file := _
    d__law_file := ⟨F25, F25.binds (ps := P__law_file) fun _ _ _ _ _ _ us hl => match us, hl with | [_, _], _ => rfl, PySem.W.mg_of X G a25⟩
    a__law_tried := f26
    fd__law_tried := _
    d__law_tried := ⟨F26, F26.binds (ps := P__law_tried) fun _ _ _ _ _ _ us hl => match us, hl with | [_, _, _], _ => rfl, PySem.W.mg_of X G a26⟩
    a__law_wrong_file := f27
    fd__law_wrong_file := _
    d__law_wrong_file := ⟨F27, F27.binds (ps := P__law_wrong_file) fun _ _ _ _ _ _ us hl => match us, hl with | [_, _, _], _ => rfl, PySem.W.mg_of X G a27⟩
    a_law := fa
    fd_law := _
    d_law := ⟨F28, F28.binds (ps := P_law) fun _ _ _ _ _ _ us hl => match us, hl with | [_], _ => rfl, PySem.W.mg_of X G a28⟩
    z_isinstance := PySem.W.mg_none_of X G z_isinstance
    z_bool := PySem.W.mg_none_of X G z_bool
    z_int := PySem.W.mg_none_of X G z_int
    z_len := PySem.W.mg_none_of X G z_len
    z_tuple := PySem.W.mg_none_of X G z_tuple
    z_str := PySem.W.mg_none_of X G z_str
    z_all := PySem.W.mg_none_of X G z_all
    z_set := PySem.W.mg_none_of X G z_set
    z_enumerate := PySem.W.mg_none_of X G z_enumerate
    z_reversed := PySem.W.mg_none_of X G z_reversed
    z_zip := PySem.W.mg_none_of X G z_zip
    z_range := PySem.W.mg_none_of X G z_range
    z_min := PySem.W.mg_none_of X G z_min
    z_list := PySem.W.mg_none_of X G z_list
    v_MOST_WORDS := (.int (6))
    c_MOST_WORDS := DL.cst_i (PySem.W.mg_of X G g_MOST_WORDS)
    v_GREATEST := (.int (1000000))
    c_GREATEST := DL.cst_i (PySem.W.mg_of X G g_GREATEST)
    v_MOST_INPUTS := (.int (6))
    c_MOST_INPUTS := DL.cst_i (PySem.W.mg_of X G g_MOST_INPUTS)
    cm := cm
    sb := sb
    g_CaseError := PySem.W.mg_of X G aC_CaseError
    g_InvalidInputs := PySem.W.mg_of X G aC_InvalidInputs
    x_InvalidInputs := ⟨q_InvalidInputs, PySem.W.mg_of X G aC_InvalidInputs, kc_InvalidInputs, b_InvalidInputs, ty_InvalidInputs⟩
    g_InvalidCount := PySem.W.mg_of X G aC_InvalidCount
    x_InvalidCount := ⟨q_InvalidCount, PySem.W.mg_of X G aC_InvalidCount, kc_InvalidCount, b_InvalidCount, ty_InvalidCount⟩
    g_InvalidFile := PySem.W.mg_of X G aC_InvalidFile
    fi_InvalidFile := fi_InvalidFile
    t_InvalidFile := { gC := PySem.W.mg_of X G aC_InvalidFile, cls := ⟨nm_InvalidFile, qn_InvalidFile, N_InvalidFile, bs_InvalidFile, _, sn_InvalidFile, subs_InvalidFile, ab_InvalidFile, col_InvalidFile, dd_InvalidFile, m0_InvalidFile, m1_InvalidFile, m2_InvalidFile, m3_InvalidFile, m5_InvalidFile, xL_InvalidFile, rfl⟩, sa := sa_InvalidFile, no := no_InvalidFile, iC := iC_InvalidFile, tC := tC_InvalidFile, kC := kC_InvalidFile, exC := b_InvalidFile, veC := ve_InvalidFile, tyC := ty_InvalidFile, me := me_InvalidFile, su := su_InvalidFile, op := op_InvalidFile, gS := PySem.W.mg_none_of X G gS_InvalidFile, top := top_InvalidFile, fn := ⟨oc_InvalidFile, od_InvalidFile, doc_InvalidFile, pm_InvalidFile, an_InvalidFile, cda_InvalidFile, cell_InvalidFile, ct_InvalidFile, osl_InvalidFile, tx_InvalidFile, "InvalidFile.__init__", j_InvalidFile, p1_InvalidFile, p2_InvalidFile, q1_InvalidFile, q2_InvalidFile, q3_InvalidFile, q4_InvalidFile, q5_InvalidFile, q6_InvalidFile, q7_InvalidFile, q8_InvalidFile, q9_InvalidFile, q10_InvalidFile, ccl_InvalidFile, cl_InvalidFile, cdd_InvalidFile, cld_InvalidFile, ccs_InvalidFile, csl_InvalidFile, vs_InvalidFile, file_InvalidFile, tf_InvalidFile, (do return (← (pure (some false) : PySem.Sem (Option Bool))).getD true), lI_InvalidFile, cI_InvalidFile, lc_InvalidFile, v2_InvalidFile, hf_InvalidFile, ll_InvalidFile, fun u v => rfl, ev_InvalidFile⟩ }
    xf_InvalidFile := ⟨ga_InvalidFile, gg_InvalidFile, b_InvalidFile, hd_InvalidFile⟩
  }
  exact ⟨PySem.W.fnOf "law" "law" (defArgs s_law) (defBody s_law) (defScope s_law) .none kV28 dc28 pm28 an28 cd28 ct28, fun s v => .of_eq rfl, fun base _ _ => ok_law (P := P) (base := base) T⟩
end K01
open PySem PySem.W PyProof.Rows
set_option maxHeartbeats 0 in
theorem PySem.Challenge.cw_everyfolk_k01_refusals_of_values_holds : PySem.Challenge.rw_everyfolk_k01_refusals_of_values.Holds := by
  w_on; o_law; k_head; (case hw => w_witness2)
  k_fill
  refine DL.walkD (l := PySem.Challenge.rw_everyfolk_k01_refusals_of_values) (n := 63) (k := 8) (g := K01.g_law) (x := "script") rfl (by decide) rfl ⟨rfl, by decide, by decide⟩ (fun w h Y => PySem.W.kIn_of Y) (fun ns hn P hp => ⟨ns, rfl, hn, hp⟩) ?F
  case F =>
    intro w mg fa h KX G hmg
    refine' K01.all_mk KX G hmg ?a0 ?l0 ?c0 ?k0 ?a1 ?l1 ?c1 ?k1 ?a2 ?l2 ?c2 ?k2 ?a3 ?l3 ?c3 ?k3 ?a4 ?l4 ?c4 ?k4 ?a5 ?l5 ?c5 ?k5 ?a6 ?l6 ?c6 ?k6 ?a7 ?l7 ?c7 ?k7 ?a8 ?l8 ?c8 ?k8 ?a9 ?l9 ?c9 ?k9 ?a10 ?l10 ?c10 ?k10 ?a11 ?l11 ?c11 ?k11 ?a12 ?l12 ?c12 ?k12 ?a13 ?l13 ?c13 ?k13 ?a14 ?l14 ?c14 ?k14 ?a15 ?l15 ?c15 ?k15 ?a16 ?l16 ?c16 ?k16 ?a17 ?l17 ?c17 ?k17 ?a18 ?l18 ?c18 ?k18 ?a19 ?l19 ?c19 ?k19 ?a20 ?l20 ?c20 ?k20 ?a21 ?l21 ?c21 ?k21 ?a22 ?l22 ?c22 ?k22 ?a23 ?l23 ?c23 ?k23 ?a24 ?l24 ?c24 ?k24 ?a25 ?l25 ?c25 ?k25 ?a26 ?l26 ?c26 ?k26 ?a27 ?l27 ?c27 ?k27 ?a28 ?l28 ?c28 ?k28 ?z_isinstance ?z_bool ?z_int ?z_len ?z_tuple ?z_str ?z_all ?z_set ?z_enumerate ?z_reversed ?z_zip ?z_range ?z_min ?z_list ?g_MOST_WORDS ?g_GREATEST ?g_MOST_INPUTS ?aC_CaseError ?b_CaseError ?i_CaseError ?ty_CaseError ?aC_InvalidInputs ?b_InvalidInputs ?i_InvalidInputs ?ty_InvalidInputs ?aC_InvalidCount ?b_InvalidCount ?i_InvalidCount ?ty_InvalidCount ?aC_InvalidFile ?b_InvalidFile ?i_InvalidFile ?ty_InvalidFile ?s_CaseError_CaseError ?s_CaseError_InvalidInputs ?s_CaseError_InvalidCount ?s_CaseError_InvalidFile ?s_InvalidInputs_CaseError ?s_InvalidInputs_InvalidInputs ?s_InvalidInputs_InvalidCount ?s_InvalidInputs_InvalidFile ?s_InvalidCount_CaseError ?s_InvalidCount_InvalidInputs ?s_InvalidCount_InvalidCount ?s_InvalidCount_InvalidFile ?s_InvalidFile_CaseError ?s_InvalidFile_InvalidInputs ?s_InvalidFile_InvalidCount ?s_InvalidFile_InvalidFile ?q_InvalidInputs ?kc_InvalidInputs ?q_InvalidCount ?kc_InvalidCount ?xL_InvalidFile ?sa_InvalidFile ?no_InvalidFile ?iC_InvalidFile ?tC_InvalidFile ?kC_InvalidFile ?ve_InvalidFile ?me_InvalidFile ?su_InvalidFile ?op_InvalidFile ?gS_InvalidFile ?top_InvalidFile ?lI_InvalidFile ?ev_InvalidFile ?cI_InvalidFile ?lc_InvalidFile ?v2_InvalidFile ?hf_InvalidFile ?ll_InvalidFile ?ga_InvalidFile ?gg_InvalidFile ?hd_InvalidFile
    (case a0 => k_is); (case l0 => k_is); (case c0 => k_is); (case k0 => k_is); (case a1 => k_is); (case l1 => k_is); (case c1 => k_is); (case k1 => k_is); (case a2 => k_is); (case l2 => k_is); (case c2 => k_is); (case k2 => k_is); (case a3 => k_is); (case l3 => k_is); (case c3 => k_is); (case k3 => k_is); (case a4 => k_is); (case l4 => k_is); (case c4 => k_is); (case k4 => k_is); (case a5 => k_is); (case l5 => k_is); (case c5 => k_is); (case k5 => k_is); (case a6 => k_is); (case l6 => k_is); (case c6 => k_is); (case k6 => k_is); (case a7 => k_is); (case l7 => k_is); (case c7 => k_is); (case k7 => k_is); (case a8 => k_is); (case l8 => k_is); (case c8 => k_is); (case k8 => k_is); (case a9 => k_is); (case l9 => k_is); (case c9 => k_is); (case k9 => k_is); (case a10 => k_is); (case l10 => k_is); (case c10 => k_is); (case k10 => k_is); (case a11 => k_is); (case l11 => k_is); (case c11 => k_is); (case k11 => k_is); (case a12 => k_is); (case l12 => k_is); (case c12 => k_is); (case k12 => k_is); (case a13 => k_is); (case l13 => k_is); (case c13 => k_is); (case k13 => k_is); (case a14 => k_is); (case l14 => k_is); (case c14 => k_is); (case k14 => k_is); (case a15 => k_is); (case l15 => k_is); (case c15 => k_is); (case k15 => k_is); (case a16 => k_is); (case l16 => k_is); (case c16 => k_is); (case k16 => k_is); (case a17 => k_is); (case l17 => k_is); (case c17 => k_is); (case k17 => k_is); (case a18 => k_is); (case l18 => k_is); (case c18 => k_is); (case k18 => k_is); (case a19 => k_is); (case l19 => k_is); (case c19 => k_is); (case k19 => k_is); (case a20 => k_is); (case l20 => k_is); (case c20 => k_is); (case k20 => k_is); (case a21 => k_is); (case l21 => k_is); (case c21 => k_is); (case k21 => k_is); (case a22 => k_is); (case l22 => k_is); (case c22 => k_is); (case k22 => k_is); (case a23 => k_is); (case l23 => k_is); (case c23 => k_is); (case k23 => k_is); (case a24 => k_is); (case l24 => k_is); (case c24 => k_is); (case k24 => k_is); (case a25 => k_is); (case l25 => k_is); (case c25 => k_is); (case k25 => k_is); (case a26 => k_is); (case l26 => k_is); (case c26 => k_is); (case k26 => k_is); (case a27 => k_is); (case l27 => k_is); (case c27 => k_is); (case k27 => k_is); (case a28 => k_is); (case l28 => k_is); (case c28 => k_is); (case k28 => k_is); (case z_isinstance => k_is); (case z_bool => k_is); (case z_int => k_is); (case z_len => k_is); (case z_tuple => k_is); (case z_str => k_is); (case z_all => k_is); (case z_set => k_is); (case z_enumerate => k_is); (case z_reversed => k_is); (case z_zip => k_is); (case z_range => k_is); (case z_min => k_is); (case z_list => k_is); (case g_MOST_WORDS => k_is); (case g_GREATEST => k_is); (case g_MOST_INPUTS => k_is); (case aC_CaseError => k_is); (case b_CaseError => k_is); (case i_CaseError => k_is); (case ty_CaseError => k_is); (case aC_InvalidInputs => k_is); (case b_InvalidInputs => k_is); (case i_InvalidInputs => k_is); (case ty_InvalidInputs => k_is); (case aC_InvalidCount => k_is); (case b_InvalidCount => k_is); (case i_InvalidCount => k_is); (case ty_InvalidCount => k_is); (case aC_InvalidFile => k_is); (case b_InvalidFile => k_is); (case i_InvalidFile => k_is); (case ty_InvalidFile => k_is); (case s_CaseError_CaseError => first | rfl | k_is); (case s_CaseError_InvalidInputs => first | rfl | k_is); (case s_CaseError_InvalidCount => first | rfl | k_is); (case s_CaseError_InvalidFile => first | rfl | k_is); (case s_InvalidInputs_CaseError => first | rfl | k_is); (case s_InvalidInputs_InvalidInputs => first | rfl | k_is); (case s_InvalidInputs_InvalidCount => first | rfl | k_is); (case s_InvalidInputs_InvalidFile => first | rfl | k_is); (case s_InvalidCount_CaseError => first | rfl | k_is); (case s_InvalidCount_InvalidInputs => first | rfl | k_is); (case s_InvalidCount_InvalidCount => first | rfl | k_is); (case s_InvalidCount_InvalidFile => first | rfl | k_is); (case s_InvalidFile_CaseError => first | rfl | k_is); (case s_InvalidFile_InvalidInputs => first | rfl | k_is); (case s_InvalidFile_InvalidCount => first | rfl | k_is); (case s_InvalidFile_InvalidFile => first | rfl | k_is); (case q_InvalidInputs => k_exc); (case kc_InvalidInputs => k_is); (case q_InvalidCount => k_exc); (case kc_InvalidCount => k_is); (case xL_InvalidFile => k_is); (case sa_InvalidFile => k_is); (case no_InvalidFile => k_is); (case iC_InvalidFile => k_is); (case tC_InvalidFile => k_is); (case kC_InvalidFile => k_is); (case ve_InvalidFile => k_is); (case me_InvalidFile => k_is); (case su_InvalidFile => ks_is); (case op_InvalidFile => k_is); (case gS_InvalidFile => k_is); (case top_InvalidFile => first | rfl | decide +kernel); (case lI_InvalidFile => k_is); (case ev_InvalidFile => exact fun env => rfl); (case cI_InvalidFile => k_is); (case lc_InvalidFile => k_is); (case v2_InvalidFile => rfl); (case hf_InvalidFile => first | rfl | decide +kernel); (case ll_InvalidFile => k_is); (case ga_InvalidFile => k_is); (case gg_InvalidFile => k_is); (case hd_InvalidFile => k_is)
