import PyProof.Rows.All
import Wide.All
import OpenK.AllK
import Wide.FinOn
import HandS.ForMost
import HandS.Wide
import HandS.IsInst
import HandS.TupAny
import HandS.Zip
import HandS.Style
import HandS.Walk
import HandS.Iter
import HandS.NoneIn
import PySem.Challenge.RW_everyfolk_k51_ratios
set_option Elab.async false
set_option linter.all false
set_option maxRecDepth 100000
set_option maxHeartbeats 4000000
/-! DL: plain data over the hand layer: what a value stands for, what a def owns alone, what is frozen. -/
namespace DL
open PySem PySem.Spec PyProof.Rows L2

abbrev Ad := Addr → Prop
abbrev D := PyData
abbrev Sl := List (Option V)

open Classical in
noncomputable def res (F : Ad) (H : Hp) : Hp := fun a => if F a then H a else none
theorem res_in {F : Ad} {H : Hp} {a : Addr} (h : F a) : res F H a = H a := if_pos h
theorem res_out {F : Ad} {H : Hp} {a : Addr} (h : ¬ F a) : res F H a = none := if_neg h
theorem res_some {F : Ad} {H : Hp} {a : Addr} {o : HO} (h : res F H a = some o) : F a ∧ H a = some o := by
  by_cases f : F a
  · exact ⟨f, by rw [res_in f] at h; exact h⟩
  · rw [res_out f] at h; cases h
theorem res_same (F : Ad) (H : Hp) : Same (res F H) H := fun a o h => (res_some h).2

theorem same_rd {H H' : Hp} {a : Addr} {u : HO} (e : Same H H') (h : Rd H a u) : Rd H' a u := by
  rcases h with h | ⟨o, h⟩
  · exact .inl (e _ _ h)
  · exact .inr ⟨o, e _ _ h⟩
theorem same_t {K : PySem.W.Frag} {H H' : Hp} {a : Addr} {xs : List V} (e : Same H H') (h : SqT K H a xs) : SqT K H' a xs := by
  rcases h with h | h
  · exact .inl (same_rd e h)
  · exact .inr h
/-- a list that is read: tracked, locked, or one that the written part holds -/
def Ls (K : PySem.W.Frag) (H : Hp) (a : Addr) (xs : List V) : Prop :=
  Rd H a (.lst xs) ∨ ∃ (its : Array Value) (n : Nat), K.lookup a = some { cls := .type "list", data := .seq its n } ∧ its.size ≤ sizeLine ∧ Vals xs its.toList
theorem Ls.sq {K : PySem.W.Frag} {H : Hp} {a : Addr} {xs : List V} (h : Ls K H a xs) : SqL K H a xs := by
  rcases h with h | ⟨its, n, h, z, r⟩
  · exact .inl h
  · exact .inr ⟨_, its, n, h, rfl, rfl, rfl, z, r⟩
theorem same_l {K : PySem.W.Frag} {H H' : Hp} {a : Addr} {xs : List V} (e : Same H H') (h : Ls K H a xs) : Ls K H' a xs := by
  rcases h with h | h
  · exact .inl (same_rd e h)
  · exact .inr h
mutual
/-- a value stands for data -/
inductive Is (K : PySem.W.Frag) (R : Hp) : V → D → Prop
  | non : Is K R .non .none
  | bl (b : Bool) : Is K R (.bl b) (.bool b)
  | int (i : Int) : Is K R (.int i) (.int i)
  | str (x : Str) : Is K R (.str x) (.str x)
  | lst {a : Addr} {xs : List V} {ds : List D} : Ls K R a xs → IsA K R xs ds → Is K R (.ref a) (.list ds)
  | tup {a : Addr} {xs : List V} {ds : List D} : SqT K R a xs → IsA K R xs ds → Is K R (.ref a) (.tuple ds)
inductive IsA (K : PySem.W.Frag) (R : Hp) : List V → List D → Prop
  | nil : IsA K R [] []
  | cons {v : V} {vs : List V} {d : D} {ds : List D} : Is K R v d → IsA K R vs ds → IsA K R (v :: vs) (d :: ds)
end
section
variable {K : PySem.W.Frag} {R R' H H' : Hp}
mutual
theorem Is.mono (e : Same R R') : ∀ (d : D) {v : V}, Is K R v d → Is K R' v d
  | .none, _, h => by cases h; exact .non
  | .bool _, _, h => by cases h; exact .bl _
  | .int _, _, h => by cases h; exact .int _
  | .str _, _, h => by cases h; exact .str _
  | .list ds, _, h => by
    cases h with
    | lst ha hs => exact .lst (same_l e ha) (IsA.mono e ds hs)
  | .tuple ds, _, h => by
    cases h with
    | tup ha hs => exact .tup (same_t e ha) (IsA.mono e ds hs)
  | .dict _, _, h => by cases h
theorem IsA.mono (e : Same R R') : ∀ (ds : List D) {vs : List V}, IsA K R vs ds → IsA K R' vs ds
  | [], _, h => by cases h; exact .nil
  | d :: ds, _, h => by
    cases h with
    | cons h1 h2 => exact .cons (Is.mono e d h1) (IsA.mono e ds h2)
end
mutual
theorem Is.dp : ∀ (d : D) {v : V}, Is K R v d → Dp K R v d
  | .none, _, h => by cases h; exact .non
  | .bool _, _, h => by cases h; exact .bl _
  | .int _, _, h => by cases h; exact .int _
  | .str _, _, h => by cases h; exact .str _
  | .list ds, _, h => by
    cases h with
    | lst ha hs => exact .lst ha.sq (IsA.dp ds hs)
  | .tuple ds, _, h => by
    cases h with
    | tup ha hs => exact .tup ha (IsA.dp ds hs)
  | .dict _, _, h => by cases h
theorem IsA.dp : ∀ (ds : List D) {vs : List V}, IsA K R vs ds → DpAll K R vs ds
  | [], _, h => by cases h; exact .nil
  | d :: ds, _, h => by
    cases h with
    | cons h1 h2 => exact .cons (Is.dp d h1) (IsA.dp ds h2)
end
theorem IsA.length : ∀ {ds : List D} {vs : List V}, IsA K R vs ds → vs.length = ds.length
  | [], _, h => by cases h; rfl
  | _ :: _, _, h => by
    cases h with
    | cons h1 h2 => rw [List.length_cons, List.length_cons, IsA.length h2]
theorem IsA.get : ∀ {ds : List D} {vs : List V} {i : Nat} {d : D}, IsA K R vs ds → ds[i]? = some d → ∃ v, vs[i]? = some v ∧ Is K R v d
  | [], _, _, _, h, e => by simp at e
  | x :: ds, _, 0, d, h, e => by
    cases h with
    | cons h1 h2 => simp at e; subst e; exact ⟨_, rfl, h1⟩
  | x :: ds, _, i + 1, d, h, e => by
    cases h with
    | cons h1 h2 =>
      obtain ⟨v, q1, q2⟩ := IsA.get (i := i) (d := d) h2 (by simpa using e)
      exact ⟨v, by simpa using q1, q2⟩
theorem IsA.get' : ∀ {ds : List D} {vs : List V} {i : Nat} {v : V}, IsA K R vs ds → vs[i]? = some v → ∃ d, ds[i]? = some d ∧ Is K R v d := by
  intro ds vs i v h e
  have hl := h.length
  have hi : i < vs.length := (List.getElem?_eq_some_iff.mp e).1
  have hd : ds[i]? = some ds[i] := List.getElem?_eq_getElem (by omega)
  obtain ⟨v', q1, q2⟩ := h.get hd
  rw [e] at q1; cases q1
  exact ⟨_, hd, q2⟩
theorem IsA.append : ∀ {ds es : List D} {vs ws : List V}, IsA K R vs ds → IsA K R ws es → IsA K R (vs ++ ws) (ds ++ es)
  | [], _, _, _, h, g => by cases h; exact g
  | _ :: _, _, _, _, h, g => by
    cases h with
    | cons h1 h2 => exact .cons h1 (IsA.append h2 g)
theorem IsA.drop : ∀ {ds : List D} {vs : List V} (n : Nat), IsA K R vs ds → IsA K R (vs.drop n) (ds.drop n)
  | _, _, 0, h => h
  | [], _, n + 1, h => by cases h; exact .nil
  | _ :: _, _, n + 1, h => by
    cases h with
    | cons h1 h2 => exact IsA.drop n h2
theorem IsA.take : ∀ {ds : List D} {vs : List V} (n : Nat), IsA K R vs ds → IsA K R (vs.take n) (ds.take n)
  | _, _, 0, h => .nil
  | [], _, n + 1, h => by cases h; exact .nil
  | _ :: _, _, n + 1, h => by
    cases h with
    | cons h1 h2 => exact .cons h1 (IsA.take n h2)
theorem IsA.set {v : V} {d : D} (g : Is K R v d) : ∀ {ds : List D} {vs : List V} (n : Nat), IsA K R vs ds → IsA K R (vs.set n v) (ds.set n d)
  | [], _, _, h => by cases h; exact .nil
  | _ :: _, _, 0, h => by
    cases h with
    | cons h1 h2 => exact .cons g h2
  | _ :: _, _, n + 1, h => by
    cases h with
    | cons h1 h2 => exact .cons h1 (IsA.set g n h2)
theorem IsA.eraseIdx : ∀ {ds : List D} {vs : List V} (n : Nat), IsA K R vs ds → IsA K R (vs.eraseIdx n) (ds.eraseIdx n)
  | [], _, _, h => by cases h; exact .nil
  | _ :: _, _, 0, h => by
    cases h with
    | cons h1 h2 => exact h2
  | _ :: _, _, n + 1, h => by
    cases h with
    | cons h1 h2 => exact .cons h1 (IsA.eraseIdx n h2)
theorem IsA.reverse : ∀ {ds : List D} {vs : List V}, IsA K R vs ds → IsA K R vs.reverse ds.reverse
  | [], _, h => by cases h; exact .nil
  | _ :: _, _, h => by
    cases h with
    | cons h1 h2 => rw [List.reverse_cons, List.reverse_cons]; exact IsA.append (IsA.reverse h2) (.cons h1 .nil)
theorem IsA.rep {ds : List D} {vs : List V} (h : IsA K R vs ds) : ∀ n : Nat, IsA K R (List.replicate n vs).flatten (List.replicate n ds).flatten
  | 0 => .nil
  | n + 1 => by
    rw [List.replicate_succ, List.replicate_succ, List.flatten_cons, List.flatten_cons]
    exact h.append (IsA.rep h n)
theorem IsA.dropLast {ds : List D} {vs : List V} (h : IsA K R vs ds) : IsA K R vs.dropLast ds.dropLast := by
  rw [List.dropLast_eq_take, List.dropLast_eq_take, h.length]
  exact h.take _
theorem IsA.ints : ∀ {ns : List Int} {vs : List V}, IsA K R vs (ns.map .int) → vs = ns.map V.int
  | [], _, h => by cases h; rfl
  | _ :: _, _, h => by
    cases h with
    | cons h1 h2 => cases h1; rw [IsA.ints h2]; rfl
theorem IsA.of_ints : ∀ (ns : List Int), IsA K R (ns.map V.int) (ns.map .int)
  | [] => .nil
  | _ :: r => .cons (.int _) (IsA.of_ints r)
theorem IsA.strs : ∀ {ns : List Str} {vs : List V}, IsA K R vs (ns.map .str) → vs = ns.map V.str
  | [], _, h => by cases h; rfl
  | _ :: _, _, h => by
    cases h with
    | cons h1 h2 => cases h1; rw [IsA.strs h2]; rfl
theorem IsA.of_strs : ∀ (ns : List Str), IsA K R (ns.map V.str) (ns.map .str)
  | [] => .nil
  | _ :: r => .cons (.str _) (IsA.of_strs r)
theorem IsA.bools : ∀ {ns : List Bool} {vs : List V}, IsA K R vs (ns.map .bool) → vs = ns.map V.bl
  | [], _, h => by cases h; rfl
  | _ :: _, _, h => by
    cases h with
    | cons h1 h2 => cases h1; rw [IsA.bools h2]; rfl
end

/-! ### what a def owns -/
/-- neither a tuple nor an instance's own dict -/
def bigO : HO → Prop
  | .lst _ => True
  | .dK _ => True
  | .dT _ => True
  | .set _ _ => True
  | .ins _ _ _ => True
  | _ => False
def seqO : HO → Prop
  | .lst _ => True
  | .tup _ => True
  | .frz _ _ => True
  | _ => False
/-- a thing that changes, known by what stands of it -/
structure Wd where
  val : V
  fp : Ad
  ok : Hp → Hp → Prop
  mono : ∀ {R R' H H' : Hp}, Same R R' → (∀ a, fp a → H' a = H a) → ok R H → ok R' H'
  dom : ∀ {R H : Hp} {a : Addr}, ok R H → fp a → ∃ o, H a = some o ∧ bigO o
inductive SD where
  | no
  | val (d : D)
  | own (xs : List D)
  | dic (kvs : List (Key × D))
  | wd (w : Wd)
abbrev DS := List SD
/-- a dict's pairs -/
def IsKV (K : PySem.W.Frag) (R : Hp) : List (Key × V) → List (Key × D) → Prop := Paired fun p q => p.1 = q.1 ∧ Is K R p.2 q.2
theorem IsKV.mono {K : PySem.W.Frag} {R R' : Hp} (e : Same R R') {a : List (Key × V)} {b : List (Key × D)} (h : IsKV K R a b) : IsKV K R' a b :=
  Paired.mapP h fun _ _ x => ⟨x.1, x.2.mono e⟩
def SlotOk (K : PySem.W.Frag) (R H : Hp) (ov : Option (Option V)) (fp : Ad) : SD → Prop
  | .no => ∀ a, ¬ fp a
  | .val d => (∃ v, ov = some (some v) ∧ Is K R v d) ∧ ∀ a, ¬ fp a
  | .own xs => ∃ a vs, ov = some (some (.ref a)) ∧ (∀ b, fp b ↔ b = a) ∧ H a = some (.lst vs) ∧ IsA K R vs xs
  | .dic kvs => ∃ a vs, ov = some (some (.ref a)) ∧ (∀ b, fp b ↔ b = a) ∧ H a = some (.dK vs) ∧ IsKV K R vs kvs
  | .wd w => ov = some (some w.val) ∧ (∀ a, fp a ↔ w.fp a) ∧ w.ok R H
section
variable {K : PySem.W.Frag} {R R' H H' : Hp} {ov : Option (Option V)} {fp : Ad}
theorem SlotOk.mono (e : Same R R') (k : ∀ a, fp a → H' a = H a) : ∀ {s : SD}, SlotOk K R H ov fp s → SlotOk K R' H' ov fp s
  | .no, h => h
  | .val d, ⟨⟨v, h1, h2⟩, h3⟩ => ⟨⟨v, h1, h2.mono e⟩, h3⟩
  | .own xs, ⟨a, vs, h1, h2, h3, h4⟩ => ⟨a, vs, h1, h2, by rw [k a ((h2 a).mpr rfl)]; exact h3, h4.mono e⟩
  | .dic kvs, ⟨a, vs, h1, h2, h3, h4⟩ => ⟨a, vs, h1, h2, by rw [k a ((h2 a).mpr rfl)]; exact h3, h4.mono e⟩
  | .wd w, ⟨h1, h2, h3⟩ => ⟨h1, h2, w.mono e (fun a ha => k a ((h2 a).mpr ha)) h3⟩
theorem SlotOk.dom : ∀ {s : SD}, SlotOk K R H ov fp s → ∀ {a : Addr}, fp a → ∃ o, H a = some o ∧ bigO o
  | .no, h, a, q => absurd q (h a)
  | .val d, ⟨_, h⟩, a, q => absurd q (h a)
  | .own xs, ⟨b, vs, _, h2, h3, _⟩, a, q => by rw [(h2 a).mp q]; exact ⟨_, h3, trivial⟩
  | .dic xs, ⟨b, vs, _, h2, h3, _⟩, a, q => by rw [(h2 a).mp q]; exact ⟨_, h3, trivial⟩
  | .wd w, ⟨_, h2, h3⟩, a, q => w.dom h3 ((h2 a).mp q)
/-- the value at the slot matters alone, and the footprint's members -/
theorem SlotOk.fpx {fp' : Ad} (e : ∀ a, fp' a ↔ fp a) : ∀ {s : SD}, SlotOk K R H ov fp s → SlotOk K R H ov fp' s
  | .no, h => fun a q => h a ((e a).mp q)
  | .val d, ⟨h1, h2⟩ => ⟨h1, fun a q => h2 a ((e a).mp q)⟩
  | .own xs, ⟨b, vs, h1, h2, h3⟩ => ⟨b, vs, h1, fun a => (e a).trans (h2 a), h3⟩
  | .dic xs, ⟨b, vs, h1, h2, h3⟩ => ⟨b, vs, h1, fun a => (e a).trans (h2 a), h3⟩
  | .wd w, ⟨h1, h2, h3⟩ => ⟨h1, fun a => (e a).trans (h2 a), h3⟩
end

theorem ne_by {S : Ad} {a p : Addr} (h : S a) (n : ¬ S p) : a ≠ p := fun e => n (e ▸ h)
def Ad.or (S T : Ad) : Ad := fun a => S a ∨ T a
def Ad.nil : Ad := fun _ => False

/-- the def's state stands for ds: F frozen, T temporary, fp what the slots own -/
structure Rep (K : PySem.W.Frag) (F T : Ad) (σ : Sl) (H : Hp) (ds : DS) (fp : Nat → Ad) : Prop where
  len : ds.length = σ.length
  slot : ∀ i s, ds[i]? = some s → SlotOk K (res F H) H σ[i]? (fp i) s
  out : ∀ i a, fp i a → i < ds.length
  fF : ∀ i a, fp i a → ¬ F a
  fT : ∀ i a, fp i a → ¬ T a
  sep : ∀ i j a, fp i a → fp j a → i = j
  tF : ∀ a, T a → ¬ F a
  fd : ∀ a, F a → ∃ o, H a = some o ∧ seqO o
  td : ∀ a, T a → ∃ o, H a = some o ∧ bigO o
def Grow (F : Ad) (H : Hp) (F' : Ad) (H' : Hp) : Prop := ∀ a, F a → F' a ∧ H' a = H a
section
variable {K : PySem.W.Frag} {F F' F1 F2 T T' q : Ad} {σ : Sl} {H H' H1 H2 : Hp} {ds ds' : DS} {fp fp' : Nat → Ad} {p : Addr}
theorem Grow.refl : Grow F H F H := fun _ h => ⟨h, rfl⟩
theorem Grow.trans (a : Grow F H F1 H1) (b : Grow F1 H1 F2 H2) : Grow F H F2 H2 := fun x h => ⟨(b x (a x h).1).1, ((b x (a x h).1).2).trans (a x h).2⟩
theorem Grow.same (g : Grow F H F' H') : Same (res F H) (res F' H') := fun a o h => by
  obtain ⟨f, e⟩ := res_some h
  rw [res_in (g a f).1, (g a f).2]; exact e
theorem Rep.fdom (r : Rep K F T σ H ds fp) {i : Nat} {a : Addr} (h : fp i a) : ∃ o, H a = some o ∧ bigO o := by
  have hi := r.out i a h
  exact (r.slot i _ (List.getElem?_eq_getElem hi)).dom h
/-- the same slots, another heap -/
theorem Rep.go (r : Rep K F T σ H ds fp) (g : Grow F H F' H') (k : ∀ i a, fp i a → H' a = H a ∧ ¬ F' a ∧ ¬ T' a) (tF : ∀ a, T' a → ¬ F' a) (fd : ∀ a, F' a → ∃ o, H' a = some o ∧ seqO o) (td : ∀ a, T' a → ∃ o, H' a = some o ∧ bigO o) : Rep K F' T' σ H' ds fp :=
  ⟨r.len, fun i s e => (r.slot i s e).mono g.same fun a ha => (k i a ha).1, r.out, fun i a h => (k i a h).2.1, fun i a h => (k i a h).2.2, r.sep, tF, fd, td⟩
/-- fewer temporaries -/
theorem Rep.less (r : Rep K F T σ H ds fp) (h : ∀ a, T' a → T a) : Rep K F T' σ H ds fp :=
  r.go .refl (fun i a q => ⟨rfl, r.fF i a q, fun t => r.fT i a q (h a t)⟩) (fun a t => r.tF a (h a t)) r.fd fun a t => r.td a (h a t)
theorem Rep.new_ne (r : Rep K F T σ H ds fp) (hp : H p = none) : ¬ F p ∧ ¬ T p ∧ ∀ i, ¬ fp i p := by
  refine ⟨fun f => ?_, fun f => ?_, fun i f => ?_⟩
  · obtain ⟨o, e, _⟩ := r.fd p f; rw [hp] at e; cases e
  · obtain ⟨o, e, _⟩ := r.td p f; rw [hp] at e; cases e
  · obtain ⟨o, e, _⟩ := r.fdom f; rw [hp] at e; cases e
/-- something new that is frozen at once -/
theorem Rep.newF (r : Rep K F T σ H ds fp) (hp : H p = none) {o : HO} (ho : seqO o) : Rep K (F.or (· = p)) T σ (upd H p o) ds fp ∧ Grow F H (F.or (· = p)) (upd H p o) ∧ ∀ a, T a → upd H p o a = H a := by
  obtain ⟨n1, n2, n3⟩ := r.new_ne hp
  have g : Grow F H (F.or (· = p)) (upd H p o) := fun a f => ⟨.inl f, upd_ne (ne_by f n1)⟩
  refine ⟨r.go g (fun i a q => ⟨upd_ne (ne_by q (n3 i)), ?_, r.fT i a q⟩) (fun a t => ?_) (fun a f => ?_) fun a t => ?_, g, fun a t => upd_ne (ne_by t n2)⟩
  · rintro (f | f)
    · exact r.fF i a q f
    · exact n3 i (f ▸ q)
  · rintro (f | f)
    · exact r.tF a t f
    · exact n2 (f ▸ t)
  · rcases f with f | f
    · rw [upd_ne (ne_by f n1)]; exact r.fd a f
    · rw [f, upd_same]; exact ⟨_, rfl, ho⟩
  · rw [upd_ne (ne_by t n2)]; exact r.td a t
/-- something new, a temporary -/
theorem Rep.newT (r : Rep K F T σ H ds fp) (hp : H p = none) {o : HO} (ho : bigO o) : Rep K F (T.or (· = p)) σ (upd H p o) ds fp ∧ Grow F H F (upd H p o) ∧ ∀ a, T a → upd H p o a = H a := by
  obtain ⟨n1, n2, n3⟩ := r.new_ne hp
  have g : Grow F H F (upd H p o) := fun a f => ⟨f, upd_ne (ne_by f n1)⟩
  refine ⟨r.go g (fun i a q => ⟨upd_ne (ne_by q (n3 i)), r.fF i a q, ?_⟩) (fun a t => ?_) (fun a f => ?_) fun a t => ?_, g, fun a t => upd_ne (ne_by t n2)⟩
  · rintro (f | f)
    · exact r.fT i a q f
    · exact n3 i (f ▸ q)
  · rcases t with t | t
    · exact r.tF a t
    · exact fun f => n1 (t ▸ f)
  · rw [upd_ne (ne_by f n1)]; exact r.fd a f
  · rcases t with t | t
    · rw [upd_ne (ne_by t n2)]; exact r.td a t
    · rw [t, upd_same]; exact ⟨_, rfl, ho⟩
/-- temporaries that are lists become frozen -/
theorem Rep.freezeT (r : Rep K F (T.or q) σ H ds fp) (d : ∀ a, q a → ¬ T a) (l : ∀ a, q a → ∃ o, H a = some o ∧ seqO o) : Rep K (F.or q) T σ H ds fp ∧ Grow F H (F.or q) H := by
  have g : Grow F H (F.or q) H := fun a f => ⟨.inl f, rfl⟩
  refine ⟨r.go g (fun i a h => ⟨rfl, ?_, fun t => r.fT i a h (.inl t)⟩) (fun a t => ?_) (fun a f => ?_) fun a t => r.td a (.inl t), g⟩
  · rintro (f | f)
    · exact r.fF i a h f
    · exact r.fT i a h (.inr f)
  · rintro (f | f)
    · exact r.tF a (.inl t) f
    · exact d a f t
  · rcases f with f | f
    · exact r.fd a f
    · exact l a f
open Classical in
/-- slot i holds v, which is s, and owns q -/
theorem Rep.put (r : Rep K F (T.or q) σ H ds fp) (d : ∀ a, q a → ¬ T a) {i : Nat} {v : V} {s : SD} (hs : SlotOk K (res F H) H (some (some v)) q s) (hi : i < ds.length) :
    Rep K F T (σ.set i (some v)) H (ds.set i s) (fun j => if j = i then q else fp j) := by
  refine ⟨by rw [List.length_set, List.length_set]; exact r.len, fun j u e => ?_, fun j a h => ?_, fun j a h => ?_, fun j a h => ?_, fun j k a h g => ?_, fun a t => r.tF a (.inl t), r.fd, fun a t => r.td a (.inl t)⟩
  · by_cases hj : j = i
    · subst hj
      rw [List.getElem?_set_self hi] at e; cases e
      rw [if_pos rfl, List.getElem?_set_self (by rw [← r.len]; exact hi)]
      exact hs
    · rw [List.getElem?_set_ne (Ne.symm hj)] at e
      rw [if_neg hj, List.getElem?_set_ne (Ne.symm hj)]
      exact r.slot j u e
  · rw [List.length_set]
    by_cases hj : j = i
    · rw [hj]; exact hi
    · rw [if_neg hj] at h; exact r.out j a h
  · by_cases hj : j = i
    · rw [if_pos hj] at h; exact r.tF a (.inr h)
    · rw [if_neg hj] at h; exact r.fF j a h
  · by_cases hj : j = i
    · rw [if_pos hj] at h; exact d a h
    · rw [if_neg hj] at h; exact fun t => r.fT j a h (.inl t)
  · by_cases hj : j = i
    · by_cases hk : k = i
      · rw [hj, hk]
      · rw [if_pos hj] at h; rw [if_neg hk] at g
        exact absurd (.inr h) (r.fT k a g)
    · by_cases hk : k = i
      · rw [if_neg hj] at h; rw [if_pos hk] at g
        exact absurd (.inr g) (r.fT j a h)
      · rw [if_neg hj] at h; rw [if_neg hk] at g
        exact r.sep j k a h g
open Classical in
/-- the list that slot i owns is frozen -/
theorem Rep.freeze (r : Rep K F T σ H ds fp) {i : Nat} {xs : List D} (e : ds[i]? = some (.own xs)) :
    Rep K (F.or (fp i)) T σ H (ds.set i (.val (.list xs))) (fun j => if j = i then Ad.nil else fp j) ∧ Grow F H (F.or (fp i)) H ∧ ∃ a, σ[i]? = some (some (.ref a)) ∧ Is K (res (F.or (fp i)) H) (.ref a) (.list xs) := by
  obtain ⟨a, vs, h1, h2, h3, h4⟩ := r.slot i _ e
  have hi : i < ds.length := (List.getElem?_eq_some_iff.mp e).1
  have g : Grow F H (F.or (fp i)) H := fun b f => ⟨.inl f, rfl⟩
  have his : Is K (res (F.or (fp i)) H) (.ref a) (.list xs) := .lst (.inl (.inl (by rw [res_in (.inr ((h2 a).mpr rfl))]; exact h3))) (h4.mono g.same)
  refine ⟨⟨by rw [List.length_set]; exact r.len, fun j u e' => ?_, fun j b h => ?_, fun j b h => ?_, fun j b h => ?_, fun j k b h g' => ?_, fun b t => ?_, fun b f => ?_, r.td⟩, g, a, h1, his⟩
  · by_cases hj : j = i
    · subst hj
      rw [List.getElem?_set_self hi] at e'; cases e'
      rw [if_pos rfl]
      exact ⟨⟨_, h1, his⟩, fun _ z => z⟩
    · rw [List.getElem?_set_ne (Ne.symm hj)] at e'
      rw [if_neg hj]
      exact (r.slot j u e').mono g.same fun _ _ => rfl
  · rw [List.length_set]
    by_cases hj : j = i
    · rw [hj]; exact hi
    · rw [if_neg hj] at h; exact r.out j b h
  · by_cases hj : j = i
    · rw [if_pos hj] at h; exact h.elim
    · rw [if_neg hj] at h
      rintro (f | f)
      · exact r.fF j b h f
      · exact hj (r.sep j i b h f)
  · by_cases hj : j = i
    · rw [if_pos hj] at h; exact h.elim
    · rw [if_neg hj] at h; exact r.fT j b h
  · by_cases hj : j = i
    · rw [if_pos hj] at h; exact h.elim
    · rw [if_neg hj] at h
      by_cases hk : k = i
      · rw [if_pos hk] at g'; exact g'.elim
      · rw [if_neg hk] at g'; exact r.sep j k b h g'
  · rintro (f | f)
    · exact r.tF b t f
    · exact r.fT i b f t
  · rcases f with f | f
    · exact r.fd b f
    · rw [(h2 b).mp f]; exact ⟨_, h3, trivial⟩
end
end DL

/-! DL: expressions. -/
namespace DL
open PySem PySem.Spec PyProof.Rows L2

/-- what an expression hands on: data, the object of a slot, a new object that nobody else holds -/
inductive Hd where
  | tmp (d : D)
  | slot (i : Nat)
  | new (s : SD)
abbrev QE := Hd → DS → Prop
abbrev DT := DS → QE → Prop
abbrev DTT := DS → (Bool → DS → Prop) → Prop
abbrev DTA := DS → (List Hd → DS → Prop) → Prop

def HdR (K : PySem.W.Frag) (F : Ad) (H : Hp) (σ : Sl) (v : V) (q : Ad) : Hd → Prop
  | .tmp d => Is K (res F H) v d
  | .slot i => σ[i]? = some (some v)
  | .new s => SlotOk K (res F H) H (some (some v)) q s
structure Pst (K : PySem.W.Frag) (F T : Ad) (H : Hp) (σ : Sl) (v : V) (h : Hd) (ds' : DS) (F' : Ad) (H' : Hp) (fp' : Nat → Ad) (q : Ad) : Prop where
  rep : Rep K F' (T.or q) σ H' ds' fp'
  qT : ∀ a, q a → ¬ T a
  g : Grow F H F' H'
  t : ∀ a, T a → H' a = H a
  r : HdR K F' H' σ v q h
def EOk (K : PySem.W.Frag) (te : TE) (t : DT) : Prop :=
  ∀ (F T : Ad) (σ : Sl) (H : Hp) (ds : DS) (fp : Nat → Ad) (Q : QE) (R : VK), Rep K F T σ H ds fp → t ds Q →
    (∀ h ds' v H' F' fp' q, Q h ds' → Pst K F T H σ v h ds' F' H' fp' q → R v H') → te σ H R
structure DO (X : Cx) (e : Expr) (te : TE) (t : DT) : Prop where
  pe : PE X e te
  ok : EOk X.K te t

@[simp] def peek (ds : DS) : Hd → Option D
  | .tmp d => some d
  | .slot i => match ds[i]? with
    | some (.val d) => some d
    | some (.own xs) => some (.list xs)
    | _ => none
  | .new (.own xs) => some (.list xs)
  | .new (.val d) => some d
  | .new _ => none
@[simp] def pk (ds : DS) (h : Hd) (P : D → Prop) : Prop := match peek ds h with
  | some d => P d
  | none => False
/-- to be looked at -/
def PkR (K : PySem.W.Frag) (F : Ad) (H : Hp) (v : V) (d : D) : Prop :=
  Is K (res F H) v d ∨ ∃ a vs xs, v = .ref a ∧ d = .list xs ∧ Ls K H a vs ∧ IsA K (res F H) vs xs
section
variable {K : PySem.W.Frag} {F F' T q : Ad} {σ : Sl} {H H' : Hp} {ds : DS} {fp : Nat → Ad} {v : V} {h : Hd} {d : D}
theorem HdR.keep (g : Grow F H F' H') (k : ∀ a, q a → H' a = H a) : ∀ {h : Hd}, HdR K F H σ v q h → HdR K F' H' σ v q h
  | .tmp d, h => Is.mono g.same d h
  | .slot _, h => h
  | .new _, h => SlotOk.mono g.same k h
theorem PkR.is (p : PkR K F H v d) : Is K H v d := by
  rcases p with p | ⟨a, vs, xs, rfl, rfl, h, hs⟩
  · exact p.mono (res_same _ _)
  · exact .lst h (hs.mono (res_same _ _))
theorem PkR.list {xs : List D} (p : PkR K F H v (.list xs)) : ∃ a vs, v = .ref a ∧ Ls K H a vs ∧ IsA K (res F H) vs xs := by
  rcases p with p | ⟨a, vs, ys, rfl, e, h, hs⟩
  · cases p with
    | lst h hs => exact ⟨_, _, rfl, same_l (res_same _ _) h, hs⟩
  · cases e; exact ⟨_, _, rfl, h, hs⟩
theorem PkR.tuple {xs : List D} (p : PkR K F H v (.tuple xs)) : ∃ a vs, v = .ref a ∧ SqT K H a vs ∧ IsA K (res F H) vs xs ∧ Is K (res F H) v (.tuple xs) := by
  rcases p with p | ⟨a, vs, ys, rfl, e, h, hs⟩
  · have p' := p
    cases p with
    | tup h hs => exact ⟨_, _, rfl, same_t (res_same _ _) h, hs, p'⟩
  · cases e
theorem PkR.flat (p : PkR K F H v d) (n : ∀ xs, d ≠ .list xs) : Is K (res F H) v d := by
  rcases p with p | ⟨a, vs, ys, rfl, e, h, hs⟩
  · exact p
  · exact absurd e (n _)
theorem PkR.int {i : Int} (p : PkR K F H v (.int i)) : v = .int i := by
  cases p.flat (fun _ e => nomatch e); rfl
theorem PkR.bool {i : Bool} (p : PkR K F H v (.bool i)) : v = .bl i := by
  cases p.flat (fun _ e => nomatch e); rfl
theorem PkR.str {i : Str} (p : PkR K F H v (.str i)) : v = .str i := by
  cases p.flat (fun _ e => nomatch e); rfl
theorem PkR.none (p : PkR K F H v .none) : v = .non := by
  cases p.flat (fun _ e => nomatch e); rfl
theorem peek_ok (r : Rep K F T σ H ds fp) (x : HdR K F H σ v q h) (e : peek ds h = some d) : PkR K F H v d := by
  cases h with
  | tmp d' => cases e; exact .inl x
  | slot i =>
    have x' : σ[i]? = some (some v) := x
    cases hd : ds[i]? with
    | none => simp [peek, hd] at e
    | some s =>
      cases s with
      | val d' =>
        simp [peek, hd] at e
        subst e
        obtain ⟨⟨v', h1, h2⟩, _⟩ := r.slot i _ hd
        rw [x'] at h1; cases h1
        exact .inl h2
      | own xs =>
        simp [peek, hd] at e
        subst e
        obtain ⟨a, vs, h1, _, h3, h4⟩ := r.slot i _ hd
        rw [x'] at h1; cases h1
        exact .inr ⟨a, vs, xs, rfl, rfl, .inl (.inl h3), h4⟩
      | no => simp [peek, hd] at e
      | dic _ => simp [peek, hd] at e
      | wd _ => simp [peek, hd] at e
  | new s =>
    cases s with
    | own xs =>
      cases e
      obtain ⟨a, vs, h1, _, h3, h4⟩ := x
      cases h1
      exact .inr ⟨a, vs, xs, rfl, rfl, .inl (.inl h3), h4⟩
    | val d' =>
      cases e
      obtain ⟨⟨v', h1, h2⟩, _⟩ := x
      cases h1
      exact .inl h2
    | no => cases e
    | dic _ => cases e
    | wd _ => cases e
theorem pk_ok {P : D → Prop} (r : Rep K F T σ H ds fp) (x : HdR K F H σ v q h) (e : pk ds h P) : ∃ d, PkR K F H v d ∧ P d := by
  unfold pk at e
  split at e
  · exact ⟨_, peek_ok r x ‹_›, e⟩
  · exact e.elim
end

/-! ### taking: what is stored elsewhere is frozen -/
@[simp] def take1 : Hd → DS → (D → DS → Prop) → Prop
  | .tmp d, ds, Q => Q d ds
  | .slot i, ds, Q => match ds[i]? with
    | some (.val d) => Q d ds
    | some (.own xs) => Q (.list xs) (ds.set i (.val (.list xs)))
    | _ => False
  | .new (.own xs), ds, Q => Q (.list xs) ds
  | .new (.val d), ds, Q => Q d ds
  | .new _, _, _ => False
@[simp] def takes : List Hd → DS → (List D → DS → Prop) → Prop
  | [], ds, Q => Q [] ds
  | h :: hs, ds, Q => take1 h ds fun d ds1 => takes hs ds1 fun dl ds2 => Q (d :: dl) ds2
inductive HdRs (K : PySem.W.Frag) (F : Ad) (H : Hp) (σ : Sl) : List V → Ad → List Hd → Prop
  | nil {q : Ad} : HdRs K F H σ [] q []
  | cons {v : V} {vs : List V} {q1 q2 q : Ad} {h : Hd} {hs : List Hd} : HdR K F H σ v q1 h → HdRs K F H σ vs q2 hs → (∀ a, q1 a ∨ q2 a → q a) → (∀ a, q1 a → ¬ q2 a) → HdRs K F H σ (v :: vs) q (h :: hs)
section
variable {K : PySem.W.Frag} {F F' T q q' : Ad} {σ : Sl} {H H' : Hp} {ds : DS} {fp : Nat → Ad} {v : V} {vs : List V} {h : Hd} {hs : List Hd} {d : D}
theorem HdRs.keep (g : Grow F H F' H') (k : ∀ a, q a → H' a = H a) (x : HdRs K F H σ vs q hs) : HdRs K F' H' σ vs q hs := by
  induction x with
  | nil => exact .nil
  | cons a b c d ih => exact .cons (a.keep g fun z hz => k z (c z (.inl hz))) (ih fun z hz => k z (c z (.inr hz))) c d
theorem HdRs.length (x : HdRs K F H σ vs q hs) : vs.length = hs.length := by
  induction x with
  | nil => rfl
  | cons a b c d ih => rw [List.length_cons, List.length_cons, ih]
theorem take1_ok {Q : D → DS → Prop} (r : Rep K F (T.or q) σ H ds fp) (dj : ∀ a, q a → ¬ T a) (x : HdR K F H σ v q h) (e : take1 h ds Q) :
    ∃ d ds' F' fp', Q d ds' ∧ Rep K F' T σ H ds' fp' ∧ Grow F H F' H ∧ Is K (res F' H) v d := by
  have r0 : Rep K F T σ H ds fp := r.less fun a t => .inl t
  cases h with
  | tmp d => exact ⟨_, _, F, fp, e, r0, .refl, x⟩
  | slot i =>
    have x' : σ[i]? = some (some v) := x
    cases hd : ds[i]? with
    | none => simp [take1, hd] at e
    | some s =>
      cases s with
      | val d' =>
        simp [take1, hd] at e
        obtain ⟨⟨v', h1, h2⟩, _⟩ := r.slot i _ hd
        rw [x'] at h1; cases h1
        exact ⟨_, _, F, fp, e, r0, .refl, h2⟩
      | own xs =>
        simp [take1, hd] at e
        obtain ⟨r1, g, a, h1, h2⟩ := r0.freeze hd
        rw [x'] at h1; cases h1
        exact ⟨_, _, _, _, e, r1, g, h2⟩
      | no => simp [take1, hd] at e
      | dic _ => simp [take1, hd] at e
      | wd _ => simp [take1, hd] at e
  | new s =>
    cases s with
    | own xs =>
      obtain ⟨a, ws, h1, h2, h3, h4⟩ := x
      cases h1
      obtain ⟨r1, g⟩ := r.freezeT dj fun b hb => by rw [(h2 b).mp hb]; exact ⟨_, h3, trivial⟩
      exact ⟨_, _, _, fp, e, r1, g, .lst (.inl (.inl (by rw [res_in (.inr ((h2 a).mpr rfl))]; exact h3))) (h4.mono g.same)⟩
    | val d =>
      obtain ⟨⟨v', h1, h2⟩, _⟩ := x
      cases h1
      exact ⟨_, _, F, fp, e, r0, .refl, h2⟩
    | no => exact e.elim
    | dic _ => exact e.elim
    | wd _ => exact e.elim
theorem takes_ok (x : HdRs K F H σ vs q hs) : ∀ {F1 T ds fp} {Q : List D → DS → Prop}, Grow F H F1 H → Rep K F1 (T.or q) σ H ds fp → (∀ a, q a → ¬ T a) → takes hs ds Q →
    ∃ dl ds' F' fp', Q dl ds' ∧ Rep K F' T σ H ds' fp' ∧ Grow F1 H F' H ∧ IsA K (res F' H) vs dl := by
  induction x with
  | nil =>
    intro F1 T ds fp Q g r dj e
    exact ⟨[], ds, F1, fp, e, r.less fun a t => .inl t, .refl, .nil⟩
  | @cons v vs q1 q2 q h hs a b c d ih =>
    intro F1 T ds fp Q g r dj e
    have r1 : Rep K F1 ((T.or q2).or q1) σ H ds fp := r.less fun a t => t.elim (fun t => t.elim .inl fun t => .inr (c a (.inr t))) fun t => .inr (c a (.inl t))
    obtain ⟨d1, ds1, F2, fp2, e1, r2, g2, i1⟩ := take1_ok r1 (fun a z => by
      rintro (t | t)
      · exact dj a (c a (.inl z)) t
      · exact d a z t) (a.keep g fun _ _ => rfl) e
    obtain ⟨dl, ds2, F3, fp3, e2, r3, g3, i2⟩ := ih (g.trans g2) r2 (fun a z => dj a (c a (.inr z))) e1
    exact ⟨_, _, _, _, e2, r3, g2.trans g3, .cons (i1.mono g3.same) i2⟩
end

/-! ### arguments -/
structure Psts (K : PySem.W.Frag) (F T : Ad) (H : Hp) (σ : Sl) (vs : List V) (hs : List Hd) (ds' : DS) (F' : Ad) (H' : Hp) (fp' : Nat → Ad) (q : Ad) : Prop where
  rep : Rep K F' (T.or q) σ H' ds' fp'
  qT : ∀ a, q a → ¬ T a
  g : Grow F H F' H'
  t : ∀ a, T a → H' a = H a
  r : HdRs K F' H' σ vs q hs
def AOk (K : PySem.W.Frag) (n : Nat) (ta : TA) (t : DTA) : Prop :=
  ∀ (F T : Ad) (σ : Sl) (H : Hp) (ds : DS) (fp : Nat → Ad) (Q : List Hd → DS → Prop) (R : List V → Hp → Prop), Rep K F T σ H ds fp → t ds Q →
    (∀ hs ds' vs H' F' fp' q, Q hs ds' → Psts K F T H σ vs hs ds' F' H' fp' q → vs.length = n → R vs H') → ta σ H R
structure DA (X : Cx) (es : List Expr) (ta : TA) (t : DTA) : Prop where
  pa : PA X es ta
  ok : AOk X.K es.length ta t
@[simp] def aNil : DTA := fun ds Q => Q [] ds
@[simp] def aCons (t : DT) (u : DTA) : DTA := fun ds Q => t ds fun h ds1 => u ds1 fun hs ds2 => Q (h :: hs) ds2
theorem or_empty {T : Ad} (a : Addr) (h : (T.or Ad.nil) a) : T a := h.elim id fun z => z.elim
section
variable {X : Cx} {e : Expr} {es : List Expr} {te : TE} {ta : TA} {t : DT} {u : DTA} {K : PySem.W.Frag} {n : Nat}
theorem aok_nil : AOk K 0 tNil aNil := fun F T σ H ds fp Q R r h k =>
  k [] ds [] H F fp Ad.nil h ⟨r.less or_empty, fun _ z => z.elim, .refl, fun _ _ => rfl, .nil⟩ rfl
theorem aok_cons (a : EOk K te t) (b : AOk K n ta u) : AOk K (n + 1) (tCons te ta) (aCons t u) := fun F T σ H ds fp Q R r h k => by
  refine a F T σ H ds fp _ _ r h fun h1 ds1 v1 H1 F1 fp1 q1 k1 p1 => ?_
  refine b F1 (T.or q1) σ H1 ds1 fp1 _ _ p1.rep k1 fun hs ds2 vs H2 F2 fp2 q2 k2 p2 l2 => ?_
  refine k _ _ _ _ _ fp2 (q1.or q2) k2 ⟨p2.rep.less ?_, ?_, p1.g.trans p2.g, fun a ta => ?_, ?_⟩ (by rw [List.length_cons, l2])
  · rintro a (z | z | z)
    · exact .inl (.inl z)
    · exact .inl (.inr z)
    · exact .inr z
  · rintro a (z | z)
    · exact p1.qT a z
    · exact fun y => p2.qT a z (.inl y)
  · rw [p2.t a (.inl ta), p1.t a ta]
  · exact .cons (p1.r.keep p2.g fun a z => p2.t a (.inr z)) p2.r (fun _ z => z) fun a z y => p2.qT a y (.inr z)
theorem da_nil : DA X [] tNil aNil := ⟨pa_nil, aok_nil⟩
theorem da_cons (a : DO X e te t) (b : DA X es ta u) (hs : starEach (e :: es) X.env = (false, eval e X.env) :: starEach es X.env := by rfl) : DA X (e :: es) (tCons te ta) (aCons t u) :=
  ⟨pa_cons a.pe b.pa hs, aok_cons a.ok b.ok⟩
end

/-! ### atoms -/
@[simp] def dVar (i : Nat) : DT := fun ds Q => match ds[i]? with
  | some .no => False
  | some _ => Q (.slot i) ds
  | none => False
@[simp] def dC (d : D) : DT := fun ds Q => Q (.tmp d) ds
section
variable {X : Cx} {K : PySem.W.Frag} {F T : Ad} {σ : Sl} {H : Hp} {ds : DS} {fp : Nat → Ad}
theorem Pst.here {v : V} {h : Hd} (r : Rep K F T σ H ds fp) (x : HdR K F H σ v Ad.nil h) : Pst K F T H σ v h ds F H fp Ad.nil :=
  ⟨r.less or_empty, fun _ z => z.elim, .refl, fun _ _ => rfl, x⟩
theorem eok_var {i : Nat} : EOk K (tVar i) (dVar i) := fun F T σ H ds fp Q R r h k => by
  unfold dVar at h
  have key : ∀ {v : V}, σ[i]? = some (some v) → Q (.slot i) ds → tVar i σ H R := fun {v} e q => ⟨v, e, k _ _ _ _ _ _ _ q (.here r e)⟩
  split at h
  · exact h.elim
  · rename_i s hne hs
    have z := r.slot i _ hs
    cases s with
    | no => exact absurd rfl (hne)
    | val d => obtain ⟨⟨v, e, _⟩, _⟩ := z; exact key e h
    | own xs => obtain ⟨a, vs, e, _⟩ := z; exact key e h
    | dic xs => obtain ⟨a, vs, e, _⟩ := z; exact key e h
    | wd w => obtain ⟨e, _⟩ := z; exact key e h
  · exact h.elim
theorem eok_c {v : V} {d : D} (i : ∀ R, Is K R v d) : EOk K (tC v) (dC d) := fun F T σ H ds fp Q R r h k => k _ _ _ _ _ _ _ h (.here r (i _))
theorem dv (i : Nat) {x : Str} {pos : Pos} (hN : X.N[i]? = some x := by rfl) (hv : Vis X.env.scope x := by first | exact Or.inl rfl | exact Or.inr (Or.inl rfl) | exact Or.inr (Or.inr rfl)) (hd : (x == ("__debug__" : Str)) = false := by decide)
    (hcd : (x == ("__classdict__" : Str)) = false := by decide) : DO X (.Name x pos) (tVar i) (dVar i) := ⟨pe_var hN hv hd hcd, eok_var⟩
theorem do_int {i j pos} : DO X (.Constant (.int i) j pos) (tC (.int i)) (dC (.int i)) := ⟨pe_int, eok_c fun _ => .int _⟩
theorem do_bl {b j pos} : DO X (.Constant (.bool b) j pos) (tC (.bl b)) (dC (.bool b)) := ⟨pe_bl, eok_c fun _ => .bl _⟩
theorem do_non {j pos} : DO X (.Constant .none j pos) (tC .non) (dC .none) := ⟨pe_non, eok_c fun _ => .non⟩
theorem do_str {x j pos} : DO X (.Constant (.str x) j pos) (tC (.str x)) (dC (.str x)) := ⟨pe_str, eok_c fun _ => .str _⟩
theorem do_glob {x : Str} {v : V} {u : Value} {d : D} {pos : Pos} (hg : Gl X x) (hm : X.mg x = some u) (r : RelV v u) (i : ∀ R, Is X.K R v d) (hd : (x == ("__debug__" : Str)) = false := by decide) : DO X (.Name x pos) (tC v) (dC d) :=
  ⟨pe_glob hg hm r hd, eok_c i⟩
end

/-! ### displays -/
@[simp] def dTup (t : DTA) : DT := fun ds Q => t ds fun hs ds1 => takes hs ds1 fun dl ds2 => Q (.tmp (.tuple dl)) ds2
@[simp] def dLst (t : DTA) : DT := fun ds Q => t ds fun hs ds1 => takes hs ds1 fun dl ds2 => Q (.new (.own dl)) ds2
section
variable {X : Cx} {K : PySem.W.Frag} {F F' T q : Ad} {σ : Sl} {H H' : Hp} {ds ds' : DS} {fp fp' : Nat → Ad} {ta : TA} {t : DTA} {n : Nat} {es : List Expr} {pos : Pos}
/-- after the arguments are taken: a new tuple -/
theorem Pst.tuple {vs : List V} {dl : List D} {p : Addr} (r : Rep K F T σ H ds fp) (x : IsA K (res F H) vs dl) (hp : H p = none) :
    Pst K F T H σ (.ref p) (.tmp (.tuple dl)) ds (F.or (· = p)) (upd H p (.tup vs)) fp Ad.nil := by
  obtain ⟨r1, g, k⟩ := r.newF (o := .tup vs) hp trivial
  exact ⟨r1.less or_empty, fun _ z => z.elim, g, k, .tup (.of (by rw [res_in (.inr rfl), upd_same])) (x.mono g.same)⟩
theorem Pst.list {vs : List V} {dl : List D} {p : Addr} (r : Rep K F T σ H ds fp) (x : IsA K (res F H) vs dl) (hp : H p = none) :
    Pst K F T H σ (.ref p) (.new (.own dl)) ds F (upd H p (.lst vs)) fp (· = p) := by
  obtain ⟨r1, g, k⟩ := r.newT (o := .lst vs) hp trivial
  refine ⟨r1, fun a z => ?_, g, k, ⟨p, vs, rfl, fun _ => Iff.rfl, upd_same, x.mono g.same⟩⟩
  intro t; rw [z] at t
  exact (r.new_ne hp).2.1 t
theorem Pst.pre {F0 : Ad} {H0 : Hp} {v : V} {h : Hd} (g : Grow F0 H0 F H) (k : ∀ a, T a → H a = H0 a) (p : Pst K F T H σ v h ds' F' H' fp' q) : Pst K F0 T H0 σ v h ds' F' H' fp' q :=
  ⟨p.rep, p.qT, g.trans p.g, fun a t => (p.t a t).trans (k a t), p.r⟩
theorem eok_tup (a : AOk K n ta t) (hn : n ≤ 1000) : EOk K (tTup ta) (dTup t) := fun F T σ H ds fp Q R r h k => by
  refine a F T σ H ds fp _ _ r h fun hs ds1 vs H1 F1 fp1 q1 k1 p1 l1 => ?_
  refine ⟨by rw [l1]; exact Nat.le_of_lt (small1000 hn), fun p hp => ?_⟩
  obtain ⟨dl, ds2, F2, fp2, e2, r2, g2, i2⟩ := takes_ok p1.r .refl p1.rep p1.qT k1
  exact k _ _ _ _ _ _ _ e2 ((Pst.tuple r2 i2 hp).pre (p1.g.trans g2) p1.t)
theorem eok_lst (a : AOk K n ta t) (hn : n ≤ 1000) : EOk K (tLst ta) (dLst t) := fun F T σ H ds fp Q R r h k => by
  refine a F T σ H ds fp _ _ r h fun hs ds1 vs H1 F1 fp1 q1 k1 p1 l1 => ?_
  refine ⟨by rw [l1]; exact Nat.le_of_lt (small1000 hn), fun p hp => ?_⟩
  obtain ⟨dl, ds2, F2, fp2, e2, r2, g2, i2⟩ := takes_ok p1.r .refl p1.rep p1.qT k1
  exact k _ _ _ _ _ _ _ e2 ((Pst.list r2 i2 hp).pre (p1.g.trans g2) p1.t)
theorem do_tup {x1} (a : DA X es ta t) (hn : es.length ≤ 1000 := by decide) : DO X (.Tuple es x1 pos) (tTup ta) (dTup t) := ⟨pe_tup a.pa, eok_tup a.ok hn⟩
theorem do_lst (a : DA X es ta t) (hn : es.length ≤ 1000 := by decide) : DO X (.List es pos) (tLst ta) (dLst t) := ⟨pe_lst a.pa, eok_lst a.ok hn⟩
end

/-! ### operators by their data -/
abbrev D2 := D → D → (Hd → Prop) → Prop
def ROk (K : PySem.W.Frag) (r : R2) (op : D2) : Prop :=
  ∀ (F T : Ad) (σ : Sl) (H : Hp) (ds : DS) (fp : Nat → Ad) (x y : V) (d e : D) (Q : Hd → Prop) (R : VK), Rep K F T σ H ds fp → PkR K F H x d → PkR K F H y e → op d e Q →
    (∀ h v H' F' q, Q h → Pst K F T H σ v h ds F' H' fp q → R v H') → r x y H R
@[simp] def d2 (op : D2) (t u : DT) : DT := fun ds Q => t ds fun h1 ds1 => u ds1 fun h2 ds2 => pk ds2 h1 fun d1 => pk ds2 h2 fun e => op d1 e fun h => Q h ds2
section
variable {X : Cx} {K : PySem.W.Frag} {a b : Expr} {ta tb : TE} {t u : DT} {r : R2} {op : D2} {pos : Pos}
/-- two operands, one behind the other -/
theorem two_ok (ha : EOk K ta t) (hb : EOk K tb u) {F T : Ad} {σ : Sl} {H : Hp} {ds : DS} {fp : Nat → Ad} {Q : D → D → DS → Prop} {R : V → V → Hp → Prop} (rp : Rep K F T σ H ds fp)
    (h : t ds fun h1 ds1 => u ds1 fun h2 ds2 => pk ds2 h1 fun d1 => pk ds2 h2 fun e => Q d1 e ds2)
    (k : ∀ d e ds' x y H' F' fp', Q d e ds' → Rep K F' T σ H' ds' fp' → Grow F H F' H' → (∀ a, T a → H' a = H a) → PkR K F' H' x d → PkR K F' H' y e → R x y H') : ta σ H fun x H1 => tb σ H1 fun y H2 => R x y H2 := by
  refine ha F T σ H ds fp _ _ rp h fun h1 ds1 v1 H1 F1 fp1 q1 k1 p1 => ?_
  refine hb F1 (T.or q1) σ H1 ds1 fp1 _ _ p1.rep k1 fun h2 ds2 v2 H2 F2 fp2 q2 k2 p2 => ?_
  have x1 := p1.r.keep p2.g fun a z => p2.t a (.inr z)
  obtain ⟨d1, i1, k3⟩ := pk_ok p2.rep x1 k2
  obtain ⟨e1, i2, k4⟩ := pk_ok p2.rep p2.r k3
  exact k _ _ _ _ _ _ _ fp2 k4 (p2.rep.less fun a z => .inl (.inl z)) (p1.g.trans p2.g) (fun a z => (p2.t a (.inl z)).trans (p1.t a z)) i1 i2
theorem eok_2 (ha : EOk K ta t) (hb : EOk K tb u) (hr : ROk K r op) : EOk K (tOp r ta tb) (d2 op t u) := fun F T σ H ds fp Q R rp h k =>
  two_ok ha hb (Q := fun d e ds2 => op d e fun h => Q h ds2) rp h fun d e ds' x y H' F' fp' h1 r1 g1 k1 i1 i2 =>
    hr F' T σ H' ds' fp' x y d e _ R r1 i1 i2 h1 fun h v H2 F2 q qh p => k _ _ _ _ _ _ _ qh (p.pre g1 k1)
theorem do_bin {o : Operator} (ho : OpR X (binaryOp o) r) (hr : ROk X.K r op) (ha : DO X a ta t) (hb : DO X b tb u) : DO X (.BinOp a o b pos) (tOp r ta tb) (d2 op t u) := ⟨pe_op ho ha.pe hb.pe, eok_2 ha.ok hb.ok hr⟩
theorem do_cmp {o : CmpOp} (ho : OpR X (compareOp o) r) (hr : ROk X.K r op) (ha : DO X a ta t) (hb : DO X b tb u) (hm : behindInMarks o b = false := by first | exact nomark _ | rfl) : DO X (.Compare a [o] [b] pos) (tOp r ta tb) (d2 op t u) :=
  ⟨pe_cmpR ho ha.pe hb.pe hm, eok_2 ha.ok hb.ok hr⟩
end
end DL

/-! DL: operators, comparisons, tests, subscripts. -/
namespace DL
open PySem PySem.Spec PyProof.Rows L2

section
variable {K : PySem.W.Frag} {X : Cx}
/-! ### lists that are read, locked ones too -/
theorem lstRd {pins : List (Addr × Obj)} {σ : Sl} {H : Hp} {s : Shared} {l : Addr} {xs : List V} (I : Inv X pins σ H s) (hH : Ls X.K H l xs) : xs.length ≤ sizeLine ∧ ∃ (its : List Value) (n : Nat), Vals xs its ∧ xs.length = its.length ∧ s.heap.get? l = some { cls := .type "list", data := .seq its.toArray n } := by
  rcases hH with hH | ⟨its, n, hk, z, r⟩
  · obtain ⟨z, its, n, r, e⟩ := hH.ok I.hok
    exact ⟨z, its, n, r, r.length, e⟩
  · refine ⟨?_, its.toList, n, r, r.length, by have := I.kIn l _ hk; simpa using this⟩
    have e := r.length
    have e2 : its.toList.length = its.size := Array.length_toList
    omega
def rCatR (K : PySem.W.Frag) : R2 := fun x y H Q => ∃ l b xs zs, x = .ref l ∧ y = .ref b ∧ Ls K H l xs ∧ Ls K H b zs ∧ xs.length + zs.length ≤ sizeLine ∧ ∀ p, H p = none → Q (.ref p) (upd H p (.lst (xs ++ zs)))
theorem op_catR : OpR X (binaryOp .Add) (rCatR X.K) := by
  intro pins s σ H x y v u Q I rx ry h
  obtain ⟨l, b, xs, zs, rfl, rfl, hH, hB, hz, q⟩ := h
  cases rx
  cases ry
  obtain ⟨z, its, n, r, hl, e⟩ := lstRd I hH
  obtain ⟨z2, its2, n2, r2, hl2, e2⟩ := lstRd I hB
  refine PySem.P.add_list e e2 ?_ (by rw [List.size_toArray, List.size_toArray]; omega)
  have ea : its.toArray ++ its2.toArray = (its ++ its2).toArray := by simp
  rw [ea]
  exact ⟨.ref _, _, I.lnew (t' := s.toks) (r.append r2) (by rw [List.length_append]; omega), rfl, q _ I.fresh⟩
/-! ### arithmetic -/
@[simp] def dAdd : D2
  | .int i, .int j, Q => Q (.tmp (.int (i + j)))
  | .str x, .str y, Q => x.length + y.length ≤ sizeLine ∧ Q (.tmp (.str (x ++ y)))
  | .tuple xs, .tuple ys, Q => xs.length + ys.length ≤ sizeLine ∧ Q (.tmp (.tuple (xs ++ ys)))
  | .list xs, .list ys, Q => xs.length + ys.length ≤ sizeLine ∧ Q (.new (.own (xs ++ ys)))
  | _, _, _ => False
def rAddA (K : PySem.W.Frag) : R2 := fun x y H Q => (∃ i j, x = .int i ∧ y = .int j ∧ Q (.int (i + j)) H) ∨ ((∃ i j, x = .str i ∧ y = .str j ∧ i.length + j.length ≤ sizeLine ∧ Q (.str (i ++ j)) H) ∨ (rCatA K x y H Q ∨ rCatR K x y H Q))
theorem op_addA : OpR X (binaryOp .Add) (rAddA X.K) := OpR.or op_add (OpR.or op_add_str (OpR.or op_catA op_catR))
theorem rok_add : ROk K (rAddA K) dAdd := by
  intro F T σ H ds fp x y d e Q R r px py h k
  cases d <;> cases e <;> first | exact False.elim h | skip
  · rw [px.int, py.int]
    exact .inl ⟨_, _, rfl, rfl, k _ _ _ _ _ h (.here r (.int _))⟩
  · rw [px.str, py.str]
    exact .inr (.inl ⟨_, _, rfl, rfl, h.1, k _ _ _ _ _ h.2 (.here r (.str _))⟩)
  · obtain ⟨a, vs, rfl, ha, ia⟩ := px.list
    obtain ⟨b, ws, rfl, hb, ib⟩ := py.list
    refine .inr (.inr (.inr ⟨a, b, vs, ws, rfl, rfl, ha, hb, by rw [ia.length, ib.length]; exact h.1, fun p hp => ?_⟩))
    exact k _ _ _ _ _ h.2 (.list r (ia.append ib) hp)
  · obtain ⟨a, vs, rfl, ha, ia, ta⟩ := px.tuple
    obtain ⟨b, ws, rfl, hb, ib, tb⟩ := py.tuple
    rename_i xs ys
    refine .inr (.inr (.inl ⟨a, b, vs, ws, rfl, rfl, ha, hb, by rw [ia.length, ib.length]; exact h.1, fun e => ?_, fun _ e => ?_, fun _ _ p hp => ?_⟩))
    · have : xs = [] := by
        have := ia.length; rw [e] at this; exact List.length_eq_zero_iff.mp this.symm
      subst this
      exact k _ _ _ _ _ h.2 (.here r tb)
    · have : ys = [] := by
        have := ib.length; rw [e] at this; exact List.length_eq_zero_iff.mp this.symm
      subst this
      have h2 : Q (.tmp (.tuple (xs ++ []))) := h.2
      rw [List.append_nil] at h2
      exact k _ _ _ _ _ h2 (.here r ta)
    · exact k _ _ _ _ _ h.2 (.tuple r (ia.append ib) hp)
@[simp] def dSub : D2
  | .int i, .int j, Q => Q (.tmp (.int (i - j)))
  | _, _, _ => False
theorem rok_sub : ROk K (rI0 fun i j => .int (i - j)) dSub := by
  intro F T σ H ds fp x y d e Q R r px py h k
  cases d <;> cases e <;> first | exact False.elim h | skip
  rw [px.int, py.int]
  exact ⟨_, _, rfl, rfl, k _ _ _ _ _ h (.here r (.int _))⟩
structure MulOk (i j : Int) : Prop where
  ok : IntMulOk i j
theorem MulOk.l {i j : Int} (h : -(2 ^ 64) < i ∧ i < 2 ^ 64) : MulOk i j := ⟨CMul.ok (.inl h)⟩
theorem MulOk.r {i j : Int} (h : -(2 ^ 64) < j ∧ j < 2 ^ 64) : MulOk i j := ⟨CMul.ok (.inr h)⟩
theorem MulOk.w {i j : Int} {a b : Nat} (ha : i.natAbs < 2 ^ a) (hb : j.natAbs < 2 ^ b) (h : a + b ≤ 900000) : MulOk i j := by
  have ha' : i.natAbs < 2 ^ (a + 1) := Nat.lt_of_lt_of_le ha (Nat.pow_le_pow_right (by decide) (by omega))
  have hb' : j.natAbs < 2 ^ (b + 1) := Nat.lt_of_lt_of_le hb (Nat.pow_le_pow_right (by decide) (by omega))
  exact ⟨CMulW.ok (wide_mul ha' hb' (by omega) (by omega) (by omega))⟩
@[simp] def dMul : D2
  | .int i, .int j, Q => MulOk i j ∧ Q (.tmp (.int (i * j)))
  | _, _, _ => False
theorem op_mulO : OpR X (binaryOp .Mult) (rI MulOk fun i j => .int (i * j)) := opI fun _ _ _ _ _ _ _ hc q => mul_int q hc.ok
theorem rok_mul : ROk K (rI MulOk fun i j => .int (i * j)) dMul := by
  intro F T σ H ds fp x y d e Q R r px py h k
  cases d <;> cases e <;> first | exact False.elim h | skip
  rw [px.int, py.int]
  exact ⟨_, _, rfl, rfl, h.1, k _ _ _ _ _ h.2 (.here r (.int _))⟩
/-- a new list, so many times -/
@[simp] def dRep (t u : DT) : DT := fun ds Q => t ds fun h1 ds1 => u ds1 fun h2 ds2 => match h1 with
  | .new (.own xs) => pk ds2 h2 fun d => match d with
    | .int k => (-(2 ^ 63) ≤ k ∧ k < 2 ^ 63 ∧ xs.length * k.toNat ≤ sizeLine) ∧ Q (.new (.own (List.replicate k.toNat xs).flatten)) ds2
    | _ => False
  | _ => False
theorem do_rep {a b : Expr} {ta tb : TE} {t u : DT} {pos : Pos} (ha : DO X a ta t) (hb : DO X b tb u) : DO X (.BinOp a .Mult b pos) (tOp rRep ta tb) (dRep t u) := ⟨pe_op op_rep ha.pe hb.pe, fun F T σ H ds fp Q R rp h k => by
  refine ha.ok F T σ H ds fp _ _ rp h fun h1 ds1 v1 H1 F1 fp1 q1 k1 p1 => ?_
  refine hb.ok F1 (T.or q1) σ H1 ds1 fp1 _ _ p1.rep k1 fun h2 ds2 v2 H2 F2 fp2 q2 k2 p2 => ?_
  cases h1 with
  | tmp _ => exact False.elim k2
  | slot _ => exact False.elim k2
  | new s =>
    cases s <;> first | exact False.elim k2 | skip
    obtain ⟨a, vs, e1, _, ha, ia⟩ := p1.r.keep p2.g fun a z => p2.t a (.inr z)
    cases e1
    obtain ⟨d, i, k3⟩ := pk_ok p2.rep p2.r k2
    cases d <;> first | exact False.elim k3 | skip
    rw [i.int]
    refine ⟨a, _, vs, rfl, rfl, ha, k3.1.1, k3.1.2.1, by rw [ia.length]; exact k3.1.2.2, fun p hp => ?_⟩
    exact k _ _ _ _ _ _ _ k3.2 ((Pst.list (p2.rep.less fun a z => .inl (.inl z)) (ia.rep _) hp).pre (p1.g.trans p2.g) fun a z => (p2.t a (.inl z)).trans (p1.t a z))⟩
structure DivOk (j : Int) : Prop where
  ne : j ≠ 0
  lg : j.natAbs.log2 < 9000
theorem DivOk.of {j : Int} {b : Nat} (h : j ≠ 0) (hb : j.natAbs < 2 ^ b) (hb9 : b < 9000) : DivOk j := ⟨h, by
  have h1 : j.natAbs < 2 ^ (b + 1) := Nat.lt_of_lt_of_le hb (Nat.pow_le_pow_right (by decide) (by omega))
  exact Nat.lt_of_lt_of_le (PySem.Flt.log2_lt_of (by omega) h1) (by omega)⟩
theorem op_fdivO : OpR X (binaryOp .FloorDiv) (rI (fun _ j => DivOk j) fun i j => .int (i.fdiv j)) := opI fun _ _ _ _ _ _ _ hc q => floordiv_int hc.1 q (.inl (PyProof.noPylong_of_log2 hc.2))
@[simp] def dFdiv : D2
  | .int i, .int j, Q => DivOk j ∧ Q (.tmp (.int (i.fdiv j)))
  | _, _, _ => False
theorem rok_fdiv : ROk K (rI (fun _ j => DivOk j) fun i j => .int (i.fdiv j)) dFdiv := by
  intro F T σ H ds fp x y d e Q R r px py h k
  cases d <;> cases e <;> first | exact False.elim h | skip
  rw [px.int, py.int]
  exact ⟨_, _, rfl, rfl, h.1, k _ _ _ _ _ h.2 (.here r (.int _))⟩
@[simp] def dMod : D2
  | .int i, .int j, Q => j ≠ 0 ∧ Q (.tmp (.int (i.fmod j)))
  | _, _, _ => False
theorem rok_mod : ROk K (rI (fun _ j => j ≠ 0) fun i j => .int (i.fmod j)) dMod := by
  intro F T σ H ds fp x y d e Q R r px py h k
  cases d <;> cases e <;> first | exact False.elim h | skip
  rw [px.int, py.int]
  exact ⟨_, _, rfl, rfl, h.1, k _ _ _ _ _ h.2 (.here r (.int _))⟩
@[simp] def dPow : D2
  | .int i, .int j, Q => CPow i j ∧ Q (.tmp (.int (i ^ j.toNat)))
  | _, _, _ => False
theorem rok_pow : ROk K (rI CPow fun i j => .int (i ^ j.toNat)) dPow := by
  intro F T σ H ds fp x y d e Q R r px py h k
  cases d <;> cases e <;> first | exact False.elim h | skip
  rw [px.int, py.int]
  exact ⟨_, _, rfl, rfl, h.1, k _ _ _ _ _ h.2 (.here r (.int _))⟩

/-! ### comparisons -/
@[simp] def dRel (p : Int → Int → Bool) : D2
  | .int i, .int j, Q => Q (.tmp (.bool (p i j)))
  | _, _, _ => False
theorem rok_rel {p : Int → Int → Bool} : ROk K (rI0 fun i j => .bl (p i j)) (dRel p) := by
  intro F T σ H ds fp x y d e Q R r px py h k
  cases d <;> cases e <;> first | exact False.elim h | skip
  rw [px.int, py.int]
  exact ⟨_, _, rfl, rfl, k _ _ _ _ _ h (.here r (.bl _))⟩
@[simp] def dLt : D2
  | .int i, .int j, Q => Q (.tmp (.bool (decide (i < j))))
  | .str i, .str j, Q => Q (.tmp (.bool (decide (i.cps.toList < j.cps.toList))))
  | _, _, _ => False
@[simp] def dLe : D2
  | .int i, .int j, Q => Q (.tmp (.bool (decide (i ≤ j))))
  | .str i, .str j, Q => Q (.tmp (.bool (!decide (j.cps.toList < i.cps.toList))))
  | _, _, _ => False
def rLtA : R2 := fun x y H Q => (∃ i j, x = .int i ∧ y = .int j ∧ Q (.bl (decide (i < j))) H) ∨ ∃ i j, x = .str i ∧ y = .str j ∧ Q (.bl (decide (i.cps.toList < j.cps.toList))) H
def rLeA : R2 := fun x y H Q => (∃ i j, x = .int i ∧ y = .int j ∧ Q (.bl (decide (i ≤ j))) H) ∨ ∃ i j, x = .str i ∧ y = .str j ∧ Q (.bl (!decide (j.cps.toList < i.cps.toList))) H
theorem op_ltA : OpR X (compareOp .Lt) rLtA := OpR.or op_lt op_lt_str
theorem op_leA : OpR X (compareOp .LtE) rLeA := OpR.or op_le op_le_str
theorem rok_lt : ROk K rLtA dLt := by
  intro F T σ H ds fp x y d e Q R r px py h k
  cases d <;> cases e <;> first | exact False.elim h | skip
  · rw [px.int, py.int]; exact .inl ⟨_, _, rfl, rfl, k _ _ _ _ _ h (.here r (.bl _))⟩
  · rw [px.str, py.str]; exact .inr ⟨_, _, rfl, rfl, k _ _ _ _ _ h (.here r (.bl _))⟩
theorem rok_le : ROk K rLeA dLe := by
  intro F T σ H ds fp x y d e Q R r px py h k
  cases d <;> cases e <;> first | exact False.elim h | skip
  · rw [px.int, py.int]; exact .inl ⟨_, _, rfl, rfl, k _ _ _ _ _ h (.here r (.bl _))⟩
  · rw [px.str, py.str]; exact .inr ⟨_, _, rfl, rfl, k _ _ _ _ _ h (.here r (.bl _))⟩
abbrev dGt : D2 := dRel fun i j => decide (j < i)
abbrev dGe : D2 := dRel fun i j => decide (j ≤ i)
/-- equality of data; texts and bools within need their form alone where no scalars are compared -/
@[simp] def dEqB (neg : Bool) : D2
  | .int i, .int j, Q => Q (.tmp (.bool (if neg then !decide (i = j) else decide (i = j))))
  | .str i, .str j, Q => Q (.tmp (.bool (if neg then !decide (i = j) else decide (i = j))))
  | .str _, .int _, Q => Q (.tmp (.bool neg))
  | .int _, .str _, Q => Q (.tmp (.bool neg))
  | .bool _, .str _, Q => Q (.tmp (.bool neg))
  | .str _, .bool _, Q => Q (.tmp (.bool neg))
  | .none, .str _, Q => Q (.tmp (.bool neg))
  | .str _, .none, Q => Q (.tmp (.bool neg))
  | d, e, Q => SeqAt.shaped d = true ∧ SeqAt.shaped e = true ∧ Q (.tmp (.bool (if neg then !PyData.eqv d e else PyData.eqv d e)))
abbrev dEq : D2 := dEqB false
abbrev dNe : D2 := dEqB true
def rEqA (K : PySem.W.Frag) : R2 := fun x y H Q => rEq x y H Q ∨ rEqD K x y H Q
def rNeA (K : PySem.W.Frag) : R2 := fun x y H Q => rNe x y H Q ∨ rNeD K x y H Q
theorem op_eqA (hu : X.A.units + 64 < cLine) : OpR X (compareOp .Eq) (rEqA X.K) := OpR.or op_eq (op_eqD hu)
theorem op_neA (hu : X.A.units + 64 < cLine) : OpR X (compareOp .NotEq) (rNeA X.K) := OpR.or op_ne (op_neD hu)
theorem dec_i {i j : Int} : decide (V.int i = V.int j) = decide (i = j) := by
  by_cases e : i = j
  · rw [e]; simp
  · rw [decide_eq_false e, decide_eq_false fun h => e (V.int.inj h)]
theorem dec_s {i j : Str} : decide (V.str i = V.str j) = decide (i = j) := by
  by_cases e : i = j
  · rw [e]; simp
  · rw [decide_eq_false e, decide_eq_false fun h => e (V.str.inj h)]
theorem rok_eq : ROk K (rEqA K) dEq := by
  intro F T σ H ds fp x y d e Q R r px py h k
  have dflt : (SeqAt.shaped d = true ∧ SeqAt.shaped e = true ∧ Q (.tmp (.bool (PyData.eqv d e)))) → rEqA K x y H R := fun h =>
    .inr ⟨d, e, px.is.dp, py.is.dp, h.1, h.2.1, k _ _ _ _ _ h.2.2 (.here r (.bl _))⟩
  cases d <;> cases e <;> first | exact dflt h | skip
  · rw [px.none, py.str]; exact .inl ⟨rfl, k _ _ _ _ _ h (.here r (.bl _))⟩
  · rw [px.bool, py.str]; exact .inl ⟨rfl, k _ _ _ _ _ h (.here r (.bl _))⟩
  · rw [px.int, py.int]; exact .inl ⟨rfl, by rw [dec_i]; exact k _ _ _ _ _ h (.here r (.bl _))⟩
  · rw [px.int, py.str]; exact .inl ⟨rfl, k _ _ _ _ _ h (.here r (.bl _))⟩
  · rw [px.str, py.none]; exact .inl ⟨rfl, k _ _ _ _ _ h (.here r (.bl _))⟩
  · rw [px.str, py.bool]; exact .inl ⟨rfl, k _ _ _ _ _ h (.here r (.bl _))⟩
  · rw [px.str, py.int]; exact .inl ⟨rfl, k _ _ _ _ _ h (.here r (.bl _))⟩
  · rw [px.str, py.str]; exact .inl ⟨rfl, by rw [dec_s]; exact k _ _ _ _ _ h (.here r (.bl _))⟩
theorem rok_ne : ROk K (rNeA K) dNe := by
  intro F T σ H ds fp x y d e Q R r px py h k
  have dflt : (SeqAt.shaped d = true ∧ SeqAt.shaped e = true ∧ Q (.tmp (.bool (!PyData.eqv d e)))) → rNeA K x y H R := fun h =>
    .inr ⟨d, e, px.is.dp, py.is.dp, h.1, h.2.1, k _ _ _ _ _ h.2.2 (.here r (.bl _))⟩
  cases d <;> cases e <;> first | exact dflt h | skip
  · rw [px.none, py.str]; exact .inl ⟨rfl, k _ _ _ _ _ h (.here r (.bl _))⟩
  · rw [px.bool, py.str]; exact .inl ⟨rfl, k _ _ _ _ _ h (.here r (.bl _))⟩
  · rw [px.int, py.int]; exact .inl ⟨rfl, by rw [dec_i]; exact k _ _ _ _ _ h (.here r (.bl _))⟩
  · rw [px.int, py.str]; exact .inl ⟨rfl, k _ _ _ _ _ h (.here r (.bl _))⟩
  · rw [px.str, py.none]; exact .inl ⟨rfl, k _ _ _ _ _ h (.here r (.bl _))⟩
  · rw [px.str, py.bool]; exact .inl ⟨rfl, k _ _ _ _ _ h (.here r (.bl _))⟩
  · rw [px.str, py.int]; exact .inl ⟨rfl, k _ _ _ _ _ h (.here r (.bl _))⟩
  · rw [px.str, py.str]; exact .inl ⟨rfl, by rw [dec_s]; exact k _ _ _ _ _ h (.here r (.bl _))⟩
/-- is None -/
@[simp] def isNone : D → Bool
  | .none => true
  | _ => false
@[simp] def dIsN (neg : Bool) : D2
  | d, .none, Q => Q (.tmp (.bool (if neg then !isNone d else isNone d)))
  | _, _, _ => False
theorem is_non {R : Hp} {v : V} {d : D} (h : Is K R v d) : decide (v = .non) = isNone d := by
  cases d with
  | dict _ => cases h
  | _ => cases h <;> rfl
theorem rok_isN : ROk K (fun x y H Q => y = .non ∧ Q (.bl (decide (x = .non))) H) (dIsN false) := by
  intro F T σ H ds fp x y d e Q R r px py h k
  cases e with
  | none =>
    refine ⟨py.none, ?_⟩
    rw [is_non px.is]
    cases d <;> exact k _ _ _ _ _ h (.here r (.bl _))
  | _ => exact False.elim (by cases d <;> exact h)
theorem rok_notN : ROk K (fun x y H Q => y = .non ∧ Q (.bl (!decide (x = .non))) H) (dIsN true) := by
  intro F T σ H ds fp x y d e Q R r px py h k
  cases e with
  | none =>
    refine ⟨py.none, ?_⟩
    rw [is_non px.is]
    cases d <;> exact k _ _ _ _ _ h (.here r (.bl _))
  | _ => exact False.elim (by cases d <;> exact h)
@[simp] def dIsB (neg : Bool) : D2
  | .bool a, .bool b, Q => Q (.tmp (.bool (if neg then !decide (a = b) else decide (a = b))))
  | _, _, _ => False
theorem rok_isB : ROk K rIsB (dIsB false) := by
  intro F T σ H ds fp x y d e Q R r px py h k
  cases d <;> cases e <;> first | exact False.elim h | skip
  rw [px.bool, py.bool]
  exact ⟨_, _, rfl, rfl, k _ _ _ _ _ h (.here r (.bl _))⟩
theorem rok_notB : ROk K rNotB (dIsB true) := by
  intro F T σ H ds fp x y d e Q R r px py h k
  cases d <;> cases e <;> first | exact False.elim h | skip
  rw [px.bool, py.bool]
  exact ⟨_, _, rfl, rfl, k _ _ _ _ _ h (.here r (.bl _))⟩
/-- in, not in: a flat thing among flat things; one sign in a text -/
def flatD : D → Bool
  | .none => true
  | .bool _ => true
  | .int _ => true
  | .str _ => true
  | _ => false
def inD (d : D) (xs : List D) : Bool := xs.any fun y => PyData.eqv y d
def dIn (neg : Bool) : D2
  | .str a, .str b, Q => a.cps.size = 1 ∧ Q (.tmp (.bool (if neg then !decide (a.cps.getD 0 0 ∈ b.cps.toList) else decide (a.cps.getD 0 0 ∈ b.cps.toList))))
  | d, .list xs, Q => flatD d = true ∧ xs.all flatD = true ∧ Q (.tmp (.bool (if neg then !inD d xs else inD d xs)))
  | d, .tuple xs, Q => flatD d = true ∧ xs.all flatD = true ∧ Q (.tmp (.bool (if neg then !inD d xs else inD d xs)))
  | _, _, _ => False
theorem flat_of {R : Hp} : ∀ {v : V} {d : D}, Is K R v d → flatD d = true → flatV v = true
  | _, .none, h, _ => by cases h; rfl
  | _, .bool _, h, _ => by cases h; rfl
  | _, .int _, h, _ => by cases h; rfl
  | _, .str _, h, _ => by cases h; rfl
  | _, .list _, _, f => by cases f
  | _, .tuple _, _, f => by cases f
  | _, .dict _, _, f => by cases f
theorem eqv_of {R R' : Hp} {v w : V} {d e : D} (h : Is K R v d) (g : Is K R' w e) (f : flatD d = true) (f' : flatD e = true) : eqV v w = PyData.eqv d e := by
  cases d <;> first | cases f | skip
  all_goals cases e <;> first | cases f' | skip
  all_goals cases h <;> cases g <;> rfl
theorem flats_of {R : Hp} : ∀ {vs : List V} {ds : List D}, IsA K R vs ds → ds.all flatD = true → vs.all flatV = true
  | _, [], h, _ => by cases h; rfl
  | _, d :: ds, h, f => by
    cases h with
    | cons h1 h2 =>
      rw [List.all_cons, Bool.and_eq_true] at f ⊢
      exact ⟨flat_of h1 f.1, flats_of h2 f.2⟩
theorem inV_of {R R' : Hp} {v : V} {d : D} (g : Is K R' v d) (f' : flatD d = true) : ∀ {vs : List V} {ds : List D}, IsA K R vs ds → ds.all flatD = true → inV v vs = inD d ds
  | _, [], h, _ => by cases h; rfl
  | _, e :: ds, h, f => by
    cases h with
    | cons h1 h2 =>
      rw [List.all_cons, Bool.and_eq_true] at f
      have ih : inV v _ = inD d ds := inV_of g f' h2 f.2
      show (eqV _ v || _) = (PyData.eqv e d || _)
      rw [eqv_of h1 g f.1 f']
      exact congrArg _ ih
def rInA (K : PySem.W.Frag) (neg : Bool) : R2 := fun x y H Q => rIn K neg x y H Q ∨ ∃ (c : Nat) (z : Str), x = .str ⟨#[c]⟩ ∧ y = .str z ∧ Q (.bl (if neg then !decide (c ∈ z.cps.toList) else decide (c ∈ z.cps.toList))) H
theorem op_inA : OpR X (compareOp .In) (rInA X.K false) := OpR.or op_in_seq op_in_sign
theorem op_notInA : OpR X (compareOp .NotIn) (rInA X.K true) := OpR.or op_notIn_seq op_notIn_sign
theorem rok_in {neg : Bool} : ROk K (rInA K neg) (dIn neg) := by
  intro F T σ H ds fp x y d e Q R r px py h k
  have seq : ∀ {xs : List D} {a : Addr} {vs : List V}, y = .ref a → (SqL K H a vs ∨ SqT K H a vs) → IsA K (res F H) vs xs → (flatD d = true ∧ xs.all flatD = true ∧ Q (.tmp (.bool (if neg then !inD d xs else inD d xs)))) → rInA K neg x y H R := fun {xs a vs} e1 e2 e3 h => by
    refine .inl ⟨a, vs, e1, e2, flat_of px.is h.1, flats_of e3 h.2.1, ?_⟩
    rw [inV_of px.is h.1 e3 h.2.1]
    exact k _ _ _ _ _ h.2.2 (.here r (.bl _))
  cases e with
  | list xs =>
    obtain ⟨a, vs, e1, e2, e3⟩ := py.list
    exact seq e1 (.inl e2.sq) e3 (by cases d <;> exact h)
  | tuple xs =>
    obtain ⟨a, vs, e1, e2, e3, _⟩ := py.tuple
    exact seq e1 (.inr e2) e3 (by cases d <;> exact h)
  | str b =>
    cases d <;> first | exact False.elim h | skip
    rename_i a
    obtain ⟨h1, h2⟩ := h
    rw [px.str, py.str]
    obtain ⟨⟨l⟩⟩ := a
    match l, h1, h2 with
    | [c], _, h2 => exact .inr ⟨c, b, rfl, rfl, k _ _ _ _ _ h2 (.here r (.bl _))⟩
  | _ => cases d <;> exact False.elim h
end
end DL

/-! DL: tests, subscripts, slices, built-ins, calls of defs. -/
namespace DL
open PySem PySem.Spec PyProof.Rows L2

/-! ### tests -/
def BTOk (K : PySem.W.Frag) (tt : TT) (t : DTT) : Prop :=
  ∀ (F T : Ad) (σ : Sl) (H : Hp) (ds : DS) (fp : Nat → Ad) (Q : Bool → DS → Prop) (R : Bool → Hp → Prop), Rep K F T σ H ds fp → t ds Q →
    (∀ b ds' H' F' fp', Q b ds' → Rep K F' T σ H' ds' fp' → Grow F H F' H' → (∀ a, T a → H' a = H a) → R b H') → tt σ H R
structure DB (X : Cx) (e : Expr) (tt : TT) (t : DTT) : Prop where
  pt : PT X e tt
  ok : BTOk X.K tt t
structure DW (X : Cx) (e : Expr) (tt : TT) (t : DTT) : Prop where
  pw : PW X e tt
  ok : BTOk X.K tt t
theorem Pst.bool {K : PySem.W.Frag} {F T : Ad} {σ : Sl} {H : Hp} {ds : DS} {fp : Nat → Ad} {b : Bool} (r : Rep K F T σ H ds fp) : Pst K F T H σ (.bl b) (.tmp (.bool b)) ds F H fp Ad.nil := .here r (Is.bl b)
theorem Pst.int {K : PySem.W.Frag} {F T : Ad} {σ : Sl} {H : Hp} {ds : DS} {fp : Nat → Ad} {b : Int} (r : Rep K F T σ H ds fp) : Pst K F T H σ (.int b) (.tmp (.int b)) ds F H fp Ad.nil := .here r (Is.int b)
@[simp] def hB : Hd → (Bool → Prop) → Prop
  | .tmp (.bool b), P => P b
  | _, _ => False
/-- the truth of what is a bool -/
@[simp] def bT (t : DT) : DTT := fun ds Q => t ds fun h ds1 => pk ds1 h fun d => match d with
  | .bool b => Q b ds1
  | _ => False
@[simp] def bAnd (t u : DTT) : DTT := fun ds Q => t ds fun b ds1 => if b = true then u ds1 Q else Q false ds1
@[simp] def bOr (t u : DTT) : DTT := fun ds Q => t ds fun b ds1 => if b = true then Q true ds1 else u ds1 Q
@[simp] def bNot (t : DTT) : DTT := fun ds Q => t ds fun b ds1 => Q (!b) ds1
@[simp] def dAnd (t u : DT) : DT := fun ds Q => bT t ds fun b ds1 => if b = true then u ds1 Q else Q (.tmp (.bool false)) ds1
@[simp] def dOr (t u : DT) : DT := fun ds Q => bT t ds fun b ds1 => if b = true then Q (.tmp (.bool true)) ds1 else u ds1 Q
@[simp] def dNot (t : DT) : DT := fun ds Q => bT t ds fun b ds1 => Q (.tmp (.bool (!b))) ds1
@[simp] def dIf (c : DTT) (t u : DT) : DT := fun ds Q => c ds fun b ds1 => if b = true then t ds1 Q else u ds1 Q
section
variable {X : Cx} {K : PySem.W.Frag} {a b c : Expr} {rest : List Expr} {ta tb tc : TE} {t u w : DT} {tt tt' : TT} {p p' : DTT} {pos : Pos} {r r' : R2} {op op' : D2}
theorem bt_val (h : EOk K ta t) : BTOk K (tB ta) (bT t) := fun F T σ H ds fp Q R rp e k => by
  refine h F T σ H ds fp _ _ rp e fun h1 ds1 v1 H1 F1 fp1 q1 k1 p1 => ?_
  obtain ⟨d, i, k2⟩ := pk_ok p1.rep p1.r k1
  cases d <;> first | exact False.elim k2 | skip
  exact ⟨_, i.bool, k _ _ _ _ fp1 k2 (p1.rep.less fun _ z => .inl z) p1.g p1.t⟩
theorem db_val (h : DO X a ta t) (he : ∀ whole, isTrue a X.env whole = (do let v ← whole; standAt a.pos; holding [v] (truthy v)) := by intro _; rfl) : DB X a (tB ta) (bT t) := ⟨pt_val h.pe he, bt_val h.ok⟩
theorem db_cmp {o : CmpOp} (ho : OpR X (compareOp o) r) (hr : ROk X.K r op) (ha : DO X a ta t) (hb : DO X b tb u) (hm : behindInMarks o b = false := by first | exact nomark _ | rfl) : DB X (.Compare a [o] [b] pos) (tTest (tOp r ta tb)) (bT (d2 op t u)) :=
  ⟨pt_cmpR ho ha.pe hb.pe hm, bt_val (eok_2 ha.ok hb.ok hr)⟩
theorem bt_not (h : BTOk K tt p) : BTOk K (tNot tt) (bNot p) := fun F T σ H ds fp Q R rp e k =>
  h F T σ H ds fp _ _ rp e fun b ds1 H1 F1 fp1 k1 r1 g1 t1 => k _ _ _ _ _ k1 r1 g1 t1
theorem bt_and (h : BTOk K tt p) (h' : BTOk K tt' p') : BTOk K (tAnd tt tt') (bAnd p p') := fun F T σ H ds fp Q R rp e k =>
  h F T σ H ds fp _ _ rp e fun b ds1 H1 F1 fp1 k1 r1 g1 t1 => by
    cases b with
    | true => exact h' F1 T σ H1 ds1 fp1 Q R r1 k1 fun b ds2 H2 F2 fp2 k2 r2 g2 t2 => k _ _ _ _ _ k2 r2 (g1.trans g2) fun a z => (t2 a z).trans (t1 a z)
    | false => exact k _ _ _ _ _ k1 r1 g1 t1
theorem bt_or (h : BTOk K tt p) (h' : BTOk K tt' p') : BTOk K (tOr tt tt') (bOr p p') := fun F T σ H ds fp Q R rp e k =>
  h F T σ H ds fp _ _ rp e fun b ds1 H1 F1 fp1 k1 r1 g1 t1 => by
    cases b with
    | false => exact h' F1 T σ H1 ds1 fp1 Q R r1 k1 fun b ds2 H2 F2 fp2 k2 r2 g2 t2 => k _ _ _ _ _ k2 r2 (g1.trans g2) fun a z => (t2 a z).trans (t1 a z)
    | true => exact k _ _ _ _ _ k1 r1 g1 t1
theorem db_not (h : DB X a tt p) : DB X (.UnaryOp .Not a pos) (tNot tt) (bNot p) := ⟨pt_not h.pt, bt_not h.ok⟩
theorem dw_and1 (h : DB X a tt p) : DW X (.BoolOp .And [a] pos) tt p := ⟨pw_and1 h.pt, h.ok⟩
theorem dw_or1 (h : DB X a tt p) : DW X (.BoolOp .Or [a] pos) tt p := ⟨pw_or1 h.pt, h.ok⟩
theorem dw_and (h : DB X a tt p) (h' : DW X (.BoolOp .And (b :: rest) pos) tt' p') : DW X (.BoolOp .And (a :: b :: rest) pos) (tAnd tt tt') (bAnd p p') := ⟨pw_and h.pt h'.pw, bt_and h.ok h'.ok⟩
theorem dw_or (h : DB X a tt p) (h' : DW X (.BoolOp .Or (b :: rest) pos) tt' p') : DW X (.BoolOp .Or (a :: b :: rest) pos) (tOr tt tt') (bOr p p') := ⟨pw_or h.pt h'.pw, bt_or h.ok h'.ok⟩
theorem DW.db (h : DW X a tt p) : DB X a tt p := ⟨h.pw.pt, h.ok⟩

theorem eok_and (h : EOk K ta t) (h' : EOk K tb u) : EOk K (tAndV ta tb) (dAnd t u) := fun F T σ H ds fp Q R rp e k =>
  bt_val h F T σ H ds fp _ _ rp e fun b ds1 H1 F1 fp1 k1 r1 g1 t1 => by
    cases b with
    | true =>
      show tb σ H1 R
      exact h' F1 T σ H1 ds1 fp1 Q R r1 k1 fun h ds2 v2 H2 F2 fp2 q2 k2 p2 => k _ _ _ _ _ _ _ k2 (p2.pre g1 t1)
    | false => exact k _ _ _ _ _ _ _ k1 ((Pst.bool r1).pre g1 t1)
theorem eok_or (h : EOk K ta t) (h' : EOk K tb u) : EOk K (tOrV ta tb) (dOr t u) := fun F T σ H ds fp Q R rp e k =>
  bt_val h F T σ H ds fp _ _ rp e fun b ds1 H1 F1 fp1 k1 r1 g1 t1 => by
    cases b with
    | false =>
      show tb σ H1 R
      exact h' F1 T σ H1 ds1 fp1 Q R r1 k1 fun h ds2 v2 H2 F2 fp2 q2 k2 p2 => k _ _ _ _ _ _ _ k2 (p2.pre g1 t1)
    | true => exact k _ _ _ _ _ _ _ k1 ((Pst.bool r1).pre g1 t1)
theorem eok_not (h : EOk K ta t) : EOk K (tNotV ta) (dNot t) := fun F T σ H ds fp Q R rp e k =>
  bt_val h F T σ H ds fp _ _ rp e fun b ds1 H1 F1 fp1 k1 r1 g1 t1 => k _ _ _ _ _ _ _ k1 ((Pst.bool r1).pre g1 t1)
theorem eok_if (h : BTOk K tt p) (h1 : EOk K ta t) (h2 : EOk K tb u) : EOk K (tIf tt ta tb) (dIf p t u) := fun F T σ H ds fp Q R rp e k =>
  h F T σ H ds fp _ _ rp e fun b ds1 H1 F1 fp1 k1 r1 g1 t1 => by
    cases b with
    | true => exact h1 F1 T σ H1 ds1 fp1 Q R r1 k1 fun h ds2 v2 H2 F2 fp2 q2 k2 p2 => k _ _ _ _ _ _ _ k2 (p2.pre g1 t1)
    | false => exact h2 F1 T σ H1 ds1 fp1 Q R r1 k1 fun h ds2 v2 H2 F2 fp2 q2 k2 p2 => k _ _ _ _ _ _ _ k2 (p2.pre g1 t1)
theorem do_one {o} (h : DO X a ta t) : DO X (.BoolOp o [a] pos) ta t := ⟨pe_one h.pe, h.ok⟩
theorem do_and (h : DO X a ta t) (h' : DO X (.BoolOp .And (b :: rest) pos) tb u) : DO X (.BoolOp .And (a :: b :: rest) pos) (tAndV ta tb) (dAnd t u) := ⟨pe_and h.pe h'.pe, eok_and h.ok h'.ok⟩
theorem do_or (h : DO X a ta t) (h' : DO X (.BoolOp .Or (b :: rest) pos) tb u) : DO X (.BoolOp .Or (a :: b :: rest) pos) (tOrV ta tb) (dOr t u) := ⟨pe_or h.pe h'.pe, eok_or h.ok h'.ok⟩
theorem do_not (h : DO X a ta t) : DO X (.UnaryOp .Not a pos) (tNotV ta) (dNot t) := ⟨pe_not h.pe, eok_not h.ok⟩
theorem do_ifx (h : DB X c tt p) (h1 : DO X a ta t) (h2 : DO X b tb u) : DO X (.IfExp c a b pos) (tIf tt ta tb) (dIf p t u) := ⟨pe_ifExp h.pt h1.pe h2.pe, eok_if h.ok h1.ok h2.ok⟩

/-! a < b < c -/
@[simp] def dChain (op op' : D2) (t u w : DT) : DT := fun ds Q => t ds fun h1 ds1 => u ds1 fun h2 ds2 => pk ds2 h1 fun d1 => pk ds2 h2 fun e => op d1 e fun h => hB h fun k =>
  if k = true then w ds2 fun h3 ds3 => pk ds3 h2 fun e' => pk ds3 h3 fun f => op' e' f fun h => Q h ds3 else Q (.tmp (.bool false)) ds2
theorem eok_chain (ha : EOk K ta t) (hb : EOk K tb u) (hc : EOk K tc w) (hr : ROk K r op) (hr' : ROk K r' op') : EOk K (tChain r r' ta tb tc) (dChain op op' t u w) := fun F T σ H ds fp Q R rp e k => by
  refine ha F T σ H ds fp _ _ rp e fun h1 ds1 v1 H1 F1 fp1 q1 k1 p1 => ?_
  refine hb F1 (T.or q1) σ H1 ds1 fp1 _ _ p1.rep k1 fun h2 ds2 v2 H2 F2 fp2 q2 k2 p2 => ?_
  obtain ⟨d1, i1, k3⟩ := pk_ok p2.rep (p1.r.keep p2.g fun a z => p2.t a (.inr z)) k2
  obtain ⟨e1, i2, k4⟩ := pk_ok p2.rep p2.r k3
  refine hr F2 ((T.or q1).or q2) σ H2 ds2 fp2 _ _ _ _ _ _ p2.rep i1 i2 k4 fun h v H3 F3 q3 k5 p3 => ?_
  have T2 : ∀ a, T a → H3 a = H a := fun a z => (p3.t a (.inl (.inl z))).trans ((p2.t a (.inl z)).trans (p1.t a z))
  have G2 := (p1.g.trans p2.g).trans p3.g
  cases h with
  | tmp d =>
    cases d <;> first | exact False.elim k5 | skip
    rename_i b
    obtain rfl : v = .bl b := by have := p3.r; cases (show Is K _ v (.bool b) from this); rfl
    refine ⟨b, rfl, ?_⟩
    cases b with
    | false => exact k _ _ _ _ _ _ _ k5 ((Pst.bool (p3.rep.less fun a z => .inl (.inl (.inl z)))).pre G2 T2)
    | true =>
      show tc σ H3 fun w' H4 => r' v2 w' H4 R
      refine hc F3 (((T.or q1).or q2).or q3) σ H3 ds2 fp2 _ _ p3.rep k5 fun h3 ds4 v4 H4 F4 fp4 q4 k6 p4 => ?_
      obtain ⟨e2, i3, k7⟩ := pk_ok p4.rep ((p2.r.keep p3.g fun a z => p3.t a (.inr z)).keep p4.g fun a z => p4.t a (.inl (.inr z))) k6
      obtain ⟨f2, i4, k8⟩ := pk_ok p4.rep p4.r k7
      refine hr' F4 T σ H4 ds4 fp4 _ _ _ _ _ _ (p4.rep.less fun a z => .inl (.inl (.inl (.inl z)))) i3 i4 k8 fun h v H5 F5 q5 k9 p5 => ?_
      exact k _ _ _ _ _ _ _ k9 (p5.pre (G2.trans p4.g) fun a z => (p4.t a (.inl (.inl (.inl z)))).trans (T2 a z))
  | slot _ => exact False.elim k5
  | new _ => exact False.elim k5
theorem do_chain {o o' : CmpOp} (ho : OpR X (compareOp o) r) (hr : ROk X.K r op) (ho' : OpR X (compareOp o') r') (hr' : ROk X.K r' op') (ha : DO X a ta t) (hb : DO X b tb u) (hc : DO X c tc w)
    (hm : lastMarks [o, o'] [b, c] = false := by with_unfolding_all rfl) : DO X (.Compare a [o, o'] [b, c] pos) (tChain r r' ta tb tc) (dChain op op' t u w) := ⟨pe_chain ho ho' ha.pe hb.pe hc.pe hm, eok_chain ha.ok hb.ok hc.ok hr hr'⟩
theorem db_chain {o o' : CmpOp} (ho : OpR X (compareOp o) r) (hr : ROk X.K r op) (ho' : OpR X (compareOp o') r') (hr' : ROk X.K r' op') (ha : DO X a ta t) (hb : DO X b tb u) (hc : DO X c tc w)
    (hm : lastMarks [o, o'] [b, c] = false := by with_unfolding_all rfl) : DB X (.Compare a [o, o'] [b, c] pos) (tTest (tChain r r' ta tb tc)) (bT (dChain op op' t u w)) := ⟨pt_chain ho ho' ha.pe hb.pe hc.pe hm, bt_val (eok_chain ha.ok hb.ok hc.ok hr hr')⟩

/-! ### one operand -/
abbrev D1 := D → (Hd → Prop) → Prop
def UOk (K : PySem.W.Frag) (r : V → Hp → VK → Prop) (op : D1) : Prop :=
  ∀ (F T : Ad) (σ : Sl) (H : Hp) (ds : DS) (fp : Nat → Ad) (x : V) (d : D) (Q : Hd → Prop) (R : VK), Rep K F T σ H ds fp → PkR K F H x d → op d Q →
    (∀ h v H' F' q, Q h → Pst K F T H σ v h ds F' H' fp q → R v H') → r x H R
@[simp] def d1 (op : D1) (t : DT) : DT := fun ds Q => t ds fun h1 ds1 => pk ds1 h1 fun d => op d fun h => Q h ds1
theorem eok_1 {r : V → Hp → VK → Prop} {op : D1} (ha : EOk K ta t) (hr : UOk K r op) : EOk K (tUn r ta) (d1 op t) := fun F T σ H ds fp Q R rp e k => by
  refine ha F T σ H ds fp _ _ rp e fun h1 ds1 v1 H1 F1 fp1 q1 k1 p1 => ?_
  obtain ⟨d, i, k2⟩ := pk_ok p1.rep p1.r k1
  exact hr F1 T σ H1 ds1 fp1 _ _ _ _ (p1.rep.less fun _ z => .inl z) i k2 fun h v H2 F2 q qh p => k _ _ _ _ _ _ _ qh (p.pre p1.g p1.t)
@[simp] def dNeg : D1
  | .int i, Q => Q (.tmp (.int (-i)))
  | _, _ => False
theorem uok_neg : UOk K (rU fun i => .int (-i)) dNeg := by
  intro F T σ H ds fp x d Q R rp px h k
  cases d <;> first | exact False.elim h | skip
  rw [px.int]
  exact ⟨_, rfl, k _ _ _ _ _ h (.here rp (.int _))⟩
theorem do_un {o : UnaryOp} {r : V → Hp → VK → Prop} {op : D1} (ho : UnR X (unaryOp o) r) (hr : UOk X.K r op) (ha : DO X a ta t) : DO X (.UnaryOp o a pos) (tUn r ta) (d1 op t) := ⟨pe_un ho ha.pe, eok_1 ha.ok hr⟩

/-! ### subscripts -/
@[simp] def dIx : D2
  | .list xs, .int i, Q => match atI xs i with
    | some d => Q (.tmp d)
    | none => False
  | .tuple xs, .int i, Q => match atI xs i with
    | some d => Q (.tmp d)
    | none => False
  | .str z, .int i, Q => z.length ≤ sizeLine ∧ match atI z.cps.toList i with
    | some c => Q (.tmp (.str ⟨#[c]⟩))
    | none => False
  | _, _, _ => False
theorem atI_is {R : Hp} {vs : List V} {xs : List D} {i : Int} {d : D} (h : IsA K R vs xs) (e : atI xs i = some d) : ∃ v, atI vs i = some v ∧ Is K R v d := by
  unfold atI at e ⊢
  rw [h.length]
  cases q : ixN xs.length i with
  | none => rw [q] at e; cases e
  | some j =>
    rw [q] at e
    exact h.get e
theorem rok_ix : ROk K (rIx K) dIx := by
  intro F T σ H ds fp x y d e Q R r px py h k
  cases d <;> cases e <;> first | exact False.elim h | skip
  · rename_i z i
    obtain ⟨h1, h2⟩ := h
    cases q : atI z.cps.toList i with
    | none => rw [q] at h2; exact h2.elim
    | some c =>
      rw [q] at h2
      rw [px.str, py.int]
      exact .inr (.inr ⟨z, i, c, rfl, rfl, h1, q, k _ _ _ _ _ h2 (.here r (.str _))⟩)
  · rename_i xs i
    have h' : (match atI xs i with | some d => Q (.tmp d) | none => False) := h
    cases q : atI xs i with
    | none => rw [q] at h'; exact h'.elim
    | some d =>
      rw [q] at h'
      obtain ⟨a, vs, rfl, ha, ia⟩ := px.list
      obtain ⟨v, e1, iv⟩ := atI_is ia q
      rw [py.int]
      exact .inl ⟨a, vs, i, v, rfl, rfl, ha.sq, e1, k _ _ _ _ _ h' (.here r iv)⟩
  · rename_i xs i
    have h' : (match atI xs i with | some d => Q (.tmp d) | none => False) := h
    cases q : atI xs i with
    | none => rw [q] at h'; exact h'.elim
    | some d =>
      rw [q] at h'
      obtain ⟨a, vs, rfl, ha, ia, _⟩ := px.tuple
      obtain ⟨v, e1, iv⟩ := atI_is ia q
      rw [py.int]
      exact .inr (.inl ⟨a, vs, i, v, rfl, rfl, ha, e1, k _ _ _ _ _ h' (.here r iv)⟩)
theorem do_ix (ha : DO X a ta t) (hb : DO X b tb u) (hs : PlainIx b := by exact fun _ _ => rfl) : DO X (.Subscript a b pos) (tOp (rIx X.K) ta tb) (d2 dIx t u) := ⟨pe_ix ix_seq ha.pe hb.pe hs, eok_2 ha.ok hb.ok rok_ix⟩
end
end DL

/-! DL: slices, built-ins. -/
namespace DL
open PySem PySem.Spec PyProof.Rows L2

theorem Pst.is {K : PySem.W.Frag} {F T : Ad} {σ : Sl} {H : Hp} {ds : DS} {fp : Nat → Ad} {v : V} {d : D} (r : Rep K F T σ H ds fp) (i : Is K (res F H) v d) : Pst K F T H σ v (.tmp d) ds F H fp Ad.nil := .here r i
/-! ### slices -/
abbrev DPT := DS → (Option Int → DS → Prop) → Prop
def POk (K : PySem.W.Frag) (to : TO) (p : DPT) : Prop :=
  ∀ (F T : Ad) (σ : Sl) (H : Hp) (ds : DS) (fp : Nat → Ad) (Q : Option Int → DS → Prop) (R : Option Int → Hp → Prop), Rep K F T σ H ds fp → p ds Q →
    (∀ b ds' H' F' fp', Q b ds' → Rep K F' T σ H' ds' fp' → Grow F H F' H' → (∀ a, T a → H' a = H a) → R b H') → to σ H R
structure DP (X : Cx) (e : Option Expr) (to : TO) (p : DPT) : Prop where
  po : PO X e to
  ok : POk X.K to p
@[simp] def pNone : DPT := fun ds Q => Q none ds
@[simp] def pSome (t : DT) : DPT := fun ds Q => t ds fun h ds1 => pk ds1 h fun d => match d with
  | .int i => Q (some i) ds1
  | _ => False
def cutD {α : Type} (xs : List α) (lo hi : Option Int) : List α := (xs.drop (HT.sIx xs.length 0 lo)).take (HT.sIx xs.length xs.length hi - HT.sIx xs.length 0 lo)
@[simp] def dCut : D → Option Int → Option Int → (Hd → Prop) → Prop
  | .list xs, l, u, Q => Q (.new (.own (cutD xs l u)))
  | .tuple xs, l, u, Q => Q (.tmp (.tuple (cutD xs l u)))
  | .str z, l, u, Q => z.length ≤ sizeLine ∧ Q (.tmp (.str (cutS z l u)))
  | _, _, _, _ => False
@[simp] def dSl (t : DT) (p p' : DPT) : DT := fun ds Q => t ds fun h ds1 => p ds1 fun l ds2 => p' ds2 fun u ds3 => pk ds3 h fun d => dCut d l u fun h => Q h ds3
def rSlAll (K : PySem.W.Frag) : V → Option Int → Option Int → Hp → VK → Prop := fun x lo hi H Q => rSlL K x lo hi H Q ∨ (rSlA K x lo hi H Q ∨ rSlS x lo hi H Q)
section
variable {X : Cx} {K : PySem.W.Frag} {a b c e : Expr} {lo hi : Option Expr} {es : List Expr} {ta tb te : TE} {tl th : TO} {t u : DT} {p p' : DPT} {pos p2 : Pos}
theorem dp_none : DP X none tNoPart pNone := ⟨po_none, fun F T σ H ds fp Q R r h k => k _ _ _ _ _ h r .refl fun _ _ => rfl⟩
theorem dp_some (h : DO X e te t) : DP X (some e) (tPart te) (pSome t) := ⟨po_some h.pe, fun F T σ H ds fp Q R r h' k => by
  refine h.ok F T σ H ds fp _ _ r h' fun h1 ds1 v1 H1 F1 fp1 q1 k1 p1 => ?_
  obtain ⟨d, i, k2⟩ := pk_ok p1.rep p1.r k1
  cases d <;> first | exact False.elim k2 | skip
  exact ⟨_, i.int, k _ _ _ _ fp1 k2 (p1.rep.less fun _ z => .inl z) p1.g p1.t⟩⟩
theorem sl_all : SlR X (rSlAll X.K) := sl_list.or (sl_tupA.or sl_str)
theorem sIx_whole {α : Type} {xs : List α} {lo hi : Option Int} (h : HT.sIx xs.length 0 lo = 0 ∧ HT.sIx xs.length xs.length hi = xs.length) : cutD xs lo hi = xs := by
  unfold cutD
  rw [h.1, h.2]
  simp
theorem IsA.cut {R : Hp} {vs : List V} {xs : List D} {lo hi : Option Int} (h : IsA K R vs xs) : IsA K R (cutV vs lo hi) (cutD xs lo hi) := by
  unfold cutV cutD
  rw [h.length]
  exact (h.drop _).take _
theorem eok_sl (h : EOk K ta t) (h1 : POk K tl p) (h2 : POk K th p') : EOk K (tSl (rSlAll K) ta tl th) (dSl t p p') := fun F T σ H ds fp Q R r e k => by
  refine h F T σ H ds fp _ _ r e fun h1' ds1 v1 H1 F1 fp1 q1 k1 p1 => ?_
  refine h1 F1 (T.or q1) σ H1 ds1 fp1 _ _ p1.rep k1 fun l ds2 H2 F2 fp2 k2 r2 g2 t2 => ?_
  refine h2 F2 (T.or q1) σ H2 ds2 fp2 _ _ r2 k2 fun u ds3 H3 F3 fp3 k3 r3 g3 t3 => ?_
  obtain ⟨d, i, k4⟩ := pk_ok r3 ((p1.r.keep g2 fun a z => t2 a (.inr z)).keep g3 fun a z => t3 a (.inr z)) k3
  have G : Grow F H F3 H3 := (p1.g.trans g2).trans g3
  have TT : ∀ a, T a → H3 a = H a := fun a z => (t3 a (.inl z)).trans ((t2 a (.inl z)).trans (p1.t a z))
  have r4 : Rep K F3 T σ H3 ds3 fp3 := r3.less fun _ z => .inl z
  cases d <;> first | exact False.elim k4 | skip
  · rename_i z
    rw [i.str]
    exact .inr (.inr ⟨z, rfl, k4.1, k _ _ _ _ _ _ _ k4.2 ((Pst.is r4 (Is.str _)).pre G TT)⟩)
  · obtain ⟨a, vs, rfl, ha, ia⟩ := i.list
    exact .inl ⟨a, vs, rfl, ha.sq, fun q hq => k _ _ _ _ _ _ _ k4 ((Pst.list r4 ia.cut hq).pre G TT)⟩
  · rename_i xs
    obtain ⟨a, vs, rfl, ha, ia, it⟩ := i.tuple
    refine .inr (.inl ⟨a, vs, rfl, ha, fun w => ?_, fun _ q hq => k _ _ _ _ _ _ _ k4 ((Pst.tuple r4 ia.cut hq).pre G TT)⟩)
    rw [ia.length] at w
    have k5 : Q (.tmp (.tuple (cutD xs l u))) ds3 := k4
    rw [sIx_whole w] at k5
    exact k _ _ _ _ _ _ _ k5 ((Pst.is r4 it).pre G TT)
theorem do_sl (h : DO X e te t) (h1 : DP X lo tl p) (h2 : DP X hi th p') : DO X (.Subscript e (.Slice lo hi none p2) pos) (tSl (rSlAll X.K) te tl th) (dSl t p p') := ⟨pe_slice sl_all h.pe h1.po h2.po, eok_sl h.ok h1.ok h2.ok⟩
end

/-! ### built-ins: their arguments are looked at -/
@[simp] def peeks (ds : DS) : List Hd → (List D → Prop) → Prop
  | [], P => P []
  | h :: hs, P => pk ds h fun d => peeks ds hs fun dl => P (d :: dl)
abbrev PkRs (K : PySem.W.Frag) (F : Ad) (H : Hp) : List V → List D → Prop := Paired (PkR K F H)
abbrev DN := List D → (Hd → Prop) → Prop
def COk (K : PySem.W.Frag) (r : List V → Hp → VK → Prop) (op : DN) : Prop :=
  ∀ (F T : Ad) (σ : Sl) (H : Hp) (ds : DS) (fp : Nat → Ad) (vs : List V) (dl : List D) (Q : Hd → Prop) (R : VK), Rep K F T σ H ds fp → PkRs K F H vs dl → op dl Q →
    (∀ h v H' F' q, Q h → Pst K F T H σ v h ds F' H' fp q → R v H') → r vs H R
@[simp] def dB (op : DN) (t : DTA) : DT := fun ds Q => t ds fun hs ds1 => peeks ds1 hs fun dl => op dl fun h => Q h ds1
section
variable {X : Cx} {K : PySem.W.Frag} {F T q : Ad} {σ : Sl} {H : Hp} {ds : DS} {fp : Nat → Ad} {e : Expr} {es : List Expr} {ta : TA} {te : TE} {t : DTA} {u : DT} {n : Nat} {r : List V → Hp → VK → Prop} {op : DN} {bid T' : String} {x : Str} {p pos : Pos}
theorem peeks_ok {vs : List V} {hs : List Hd} (rp : Rep K F T σ H ds fp) (x : HdRs K F H σ vs q hs) : ∀ {P : List D → Prop}, peeks ds hs P → ∃ dl, PkRs K F H vs dl ∧ P dl := by
  induction x with
  | nil => intro P h; exact ⟨[], .nil, h⟩
  | cons a b c d ih =>
    intro P h
    obtain ⟨d1, i1, h1⟩ := pk_ok rp a h
    obtain ⟨dl, i2, h2⟩ := ih h1
    exact ⟨_, .cons i1 i2, h2⟩
theorem eok_b (ha : AOk K n ta t) (hr : COk K r op) : EOk K (tCB r ta) (dB op t) := fun F T σ H ds fp Q R rp e k => by
  refine ha F T σ H ds fp _ _ rp e fun hs ds1 vs H1 F1 fp1 q1 k1 p1 _ => ?_
  obtain ⟨dl, i, k2⟩ := peeks_ok p1.rep p1.r k1
  exact hr F1 T σ H1 ds1 fp1 _ _ _ _ (p1.rep.less fun _ z => .inl z) i k2 fun h v H2 F2 q qh p => k _ _ _ _ _ _ _ qh (p.pre p1.g p1.t)
theorem do_B (hc : CallR X (.builtin bid) r) (hr : COk X.K r op) (hg : Gl X x) (hm : X.mg x = none) (hv : bootBuiltins x = some (.builtin bid)) (ha : DA X (e :: es) ta t) (hn : x ≠ "__name__" := by decide) (hdb : (x == ("__debug__" : Str)) = false := by decide)
    (he : starEach (e :: es) X.env = (false, eval e X.env) :: starEach es X.env := by rfl) (hpl : (backTo pos (starEach es X.env)).any (·.1) = false := by rfl) : DO X (.Call (.Name x p) (e :: es) [] pos) (tCB r ta) (dB op t) :=
  ⟨pe_callB hc hg hm hv ha.pa hn hdb he hpl, eok_b ha.ok hr⟩
theorem do_Ty (hc : CallR X (.type T') r) (hr : COk X.K r op) (hg : Gl X x) (hm : X.mg x = none) (hv : bootBuiltins x = some (.type T')) (ha : DA X (e :: es) ta t) (hn : x ≠ "__name__" := by decide) (hdb : (x == ("__debug__" : Str)) = false := by decide)
    (he : starEach (e :: es) X.env = (false, eval e X.env) :: starEach es X.env := by rfl) (hpl : (backTo pos (starEach es X.env)).any (·.1) = false := by rfl) : DO X (.Call (.Name x p) (e :: es) [] pos) (tCB r ta) (dB op t) :=
  ⟨pe_callTy hc hg hm hv ha.pa hn hdb he hpl, eok_b ha.ok hr⟩

/-! the built-ins -/
@[simp] def bLen : DN
  | [.list xs], Q => Q (.tmp (.int xs.length))
  | [.tuple xs], Q => Q (.tmp (.int xs.length))
  | [.str z], Q => z.length ≤ sizeLine ∧ Q (.tmp (.int z.length))
  | _, _ => False
def rLenA (K : PySem.W.Frag) : List V → Hp → VK → Prop := fun xs H Q => (∃ p ys, xs = [.ref p] ∧ (SqL K H p ys ∨ SqT K H p ys) ∧ Q (.int ys.length) H) ∨ ∃ z, xs = [.str z] ∧ z.length ≤ sizeLine ∧ Q (.int z.length) H
theorem call_lenA : CallR X (.builtin "len") (rLenA X.K) := CallR.or call_len_seq call_len_str
theorem one_of {P : V → D → Prop} {vs : List V} {dl : List D} {d : D} (h : Paired P vs dl) (e : dl = [d]) : ∃ v, vs = [v] ∧ P v d := by
  subst e
  cases h with
  | cons a b => cases b; exact ⟨_, rfl, a⟩
theorem two_of {P : V → D → Prop} {vs : List V} {dl : List D} {d d' : D} (h : Paired P vs dl) (e : dl = [d, d']) : ∃ v v', vs = [v, v'] ∧ P v d ∧ P v' d' := by
  subst e
  cases h with
  | cons a b =>
    obtain ⟨v', rfl, c⟩ := one_of b rfl
    exact ⟨_, _, rfl, a, c⟩
theorem cok_len : COk K (rLenA K) bLen := by
  intro F T σ H ds fp vs dl Q R rp pv h k
  match dl, pv, h with
  | [.list xs], pv, h =>
    obtain ⟨v, rfl, i⟩ := one_of pv rfl
    obtain ⟨a, ws, rfl, ha, ia⟩ := i.list
    exact .inl ⟨a, ws, rfl, .inl ha.sq, by rw [ia.length]; exact k _ _ _ _ _ h (.int rp)⟩
  | [.tuple xs], pv, h =>
    obtain ⟨v, rfl, i⟩ := one_of pv rfl
    obtain ⟨a, ws, rfl, ha, ia, _⟩ := i.tuple
    exact .inl ⟨a, ws, rfl, .inr ha, by rw [ia.length]; exact k _ _ _ _ _ h (.int rp)⟩
  | [.str z], pv, h =>
    obtain ⟨v, rfl, i⟩ := one_of pv rfl
    rw [i.str]
    exact .inr ⟨z, rfl, h.1, k _ _ _ _ _ h.2 (.int rp)⟩
@[simp] def bAbs : DN
  | [.int i], Q => Q (.tmp (.int (i.natAbs : Int)))
  | _, _ => False
theorem cok_abs : COk K (fun xs H Q => ∃ i, xs = [.int i] ∧ Q (.int (if i < 0 then -i else i)) H) bAbs := by
  intro F T σ H ds fp vs dl Q R rp pv h k
  match dl, pv, h with
  | [.int i], pv, h =>
    obtain ⟨v, rfl, x⟩ := one_of pv rfl
    rw [x.int]
    refine ⟨i, rfl, ?_⟩
    have e : (if i < 0 then -i else i) = (i.natAbs : Int) := by split <;> omega
    rw [e]
    exact k _ _ _ _ _ h (.int rp)
@[simp] def bMin : DN
  | [.int i, .int j], Q => Q (.tmp (.int (min i j)))
  | _, _ => False
@[simp] def bMax : DN
  | [.int i, .int j], Q => Q (.tmp (.int (max i j)))
  | _, _ => False
theorem cok_min : COk K (fun xs H Q => ∃ i j, xs = [.int i, .int j] ∧ Q (.int (if j < i then j else i)) H) bMin := by
  intro F T σ H ds fp vs dl Q R rp pv h k
  match dl, pv, h with
  | [.int i, .int j], pv, h =>
    obtain ⟨v, v', rfl, x, y⟩ := two_of pv rfl
    rw [x.int, y.int]
    refine ⟨i, j, rfl, ?_⟩
    have e : (if j < i then j else i) = min i j := by split <;> omega
    rw [e]
    exact k _ _ _ _ _ h (.int rp)
theorem cok_max : COk K (fun xs H Q => ∃ i j, xs = [.int i, .int j] ∧ Q (.int (if j > i then j else i)) H) bMax := by
  intro F T σ H ds fp vs dl Q R rp pv h k
  match dl, pv, h with
  | [.int i, .int j], pv, h =>
    obtain ⟨v, v', rfl, x, y⟩ := two_of pv rfl
    rw [x.int, y.int]
    refine ⟨i, j, rfl, ?_⟩
    have e : (if j > i then j else i) = max i j := by split <;> omega
    rw [e]
    exact k _ _ _ _ _ h (.int rp)
@[simp] def bInt : DN
  | [.int i], Q => Q (.tmp (.int i))
  | [.bool b], Q => Q (.tmp (.int (if b then 1 else 0)))
  | _, _ => False
theorem cok_int : COk K (fun xs H Q => (∃ i, xs = [.int i] ∧ Q (.int i) H) ∨ ∃ k, xs = [.bl k] ∧ Q (.int (if k then 1 else 0)) H) bInt := by
  intro F T σ H ds fp vs dl Q R rp pv h k
  match dl, pv, h with
  | [.int i], pv, h =>
    obtain ⟨v, rfl, x⟩ := one_of pv rfl
    rw [x.int]
    exact .inl ⟨i, rfl, k _ _ _ _ _ h (.int rp)⟩
  | [.bool i], pv, h =>
    obtain ⟨v, rfl, x⟩ := one_of pv rfl
    rw [x.bool]
    exact .inr ⟨i, rfl, k _ _ _ _ _ h (.int rp)⟩
@[simp] def bSum : DN
  | [.list xs], Q => ∃ ns : List Int, xs = ns.map .int ∧ Q (.tmp (.int ns.sum))
  | _, _ => False
theorem cok_sum : COk K (rSum K) bSum := by
  intro F T σ H ds fp vs dl Q R rp pv h k
  match dl, pv, h with
  | [.list xs], pv, h =>
    obtain ⟨ns, rfl, h⟩ := h
    obtain ⟨v, rfl, i⟩ := one_of pv rfl
    obtain ⟨a, ws, rfl, ha, ia⟩ := i.list
    have e := ia.ints
    subst e
    exact ⟨a, ns, rfl, ha.sq, k _ _ _ _ _ h (.int rp)⟩
@[simp] def bAll : DN
  | [.list xs], Q => ∃ ns : List Bool, xs = ns.map .bool ∧ Q (.tmp (.bool (ns.all id)))
  | _, _ => False
@[simp] def bAny : DN
  | [.list xs], Q => ∃ ns : List Bool, xs = ns.map .bool ∧ Q (.tmp (.bool (ns.any id)))
  | _, _ => False
theorem cok_all : COk K (rAll K) bAll := by
  intro F T σ H ds fp vs dl Q R rp pv h k
  match dl, pv, h with
  | [.list xs], pv, h =>
    obtain ⟨ns, rfl, h⟩ := h
    obtain ⟨v, rfl, i⟩ := one_of pv rfl
    obtain ⟨a, ws, rfl, ha, ia⟩ := i.list
    have e := ia.bools
    subst e
    exact ⟨a, ns, rfl, ha.sq, k _ _ _ _ _ h (.bool rp)⟩
theorem cok_any : COk K (rAny K) bAny := by
  intro F T σ H ds fp vs dl Q R rp pv h k
  match dl, pv, h with
  | [.list xs], pv, h =>
    obtain ⟨ns, rfl, h⟩ := h
    obtain ⟨v, rfl, i⟩ := one_of pv rfl
    obtain ⟨a, ws, rfl, ha, ia⟩ := i.list
    have e := ia.bools
    subst e
    exact ⟨a, ns, rfl, ha.sq, k _ _ _ _ _ h (.bool rp)⟩
@[simp] def bList : DN
  | [.list xs], Q => Q (.new (.own xs))
  | [.tuple xs], Q => Q (.new (.own xs))
  | _, _ => False
theorem cok_list : COk K (fun xs H Q => ∃ p ys, xs = [.ref p] ∧ (SqL K H p ys ∨ SqT K H p ys) ∧ ∀ l, H l = none → Q (.ref l) (upd H l (.lst ys))) bList := by
  intro F T σ H ds fp vs dl Q R rp pv h k
  match dl, pv, h with
  | [.list xs], pv, h =>
    obtain ⟨v, rfl, i⟩ := one_of pv rfl
    obtain ⟨a, ws, rfl, ha, ia⟩ := i.list
    exact ⟨a, ws, rfl, .inl ha.sq, fun p hp => k _ _ _ _ _ h (.list rp ia hp)⟩
  | [.tuple xs], pv, h =>
    obtain ⟨v, rfl, i⟩ := one_of pv rfl
    obtain ⟨a, ws, rfl, ha, ia, _⟩ := i.tuple
    exact ⟨a, ws, rfl, .inr ha, fun p hp => k _ _ _ _ _ h (.list rp ia hp)⟩
@[simp] def bTuple : DN
  | [.list xs], Q => Q (.tmp (.tuple xs))
  | [.tuple xs], Q => Q (.tmp (.tuple xs))
  | _, _ => False
theorem cok_tuple : COk K (fun xs H Q => ∃ p ys, xs = [.ref p] ∧ ((SqL K H p ys ∧ ∀ l, H l = none → Q (.ref l) (upd H l (.tup ys))) ∨ (SqT K H p ys ∧ Q (.ref p) H))) bTuple := by
  intro F T σ H ds fp vs dl Q R rp pv h k
  match dl, pv, h with
  | [.list xs], pv, h =>
    obtain ⟨v, rfl, i⟩ := one_of pv rfl
    obtain ⟨a, ws, rfl, ha, ia⟩ := i.list
    exact ⟨a, ws, rfl, .inl ⟨ha.sq, fun p hp => k _ _ _ _ _ h (.tuple rp ia hp)⟩⟩
  | [.tuple xs], pv, h =>
    obtain ⟨v, rfl, i⟩ := one_of pv rfl
    obtain ⟨a, ws, rfl, ha, ia, it⟩ := i.tuple
    exact ⟨a, ws, rfl, .inr ⟨ha, k _ _ _ _ _ h (.here rp it)⟩⟩

/-! isinstance with a built-in class -/
def tyD : D → String
  | .none => "NoneType"
  | .bool _ => "bool"
  | .int _ => "int"
  | .str _ => "str"
  | .list _ => "list"
  | .tuple _ => "tuple"
  | .dict _ => "dict"
def isT (n : String) (d : D) : Bool := (kitB (tyD d) n).getD false
@[simp] def dIsi (n : String) (t : DT) : DT := fun ds Q => t ds fun h ds1 => pk ds1 h fun d => Q (.tmp (.bool (isT n d))) ds1
theorem tyX_of {v : V} {d : D} (h : PkR K F H v d) : TyX K H v (.type (tyD d)) := by
  cases d with
  | none => rw [h.none]; exact .base .non
  | bool b => rw [h.bool]; exact .base (.bl _)
  | int b => rw [h.int]; exact .base (.int _)
  | str b => rw [h.str]; exact .base (.str _)
  | list xs =>
    obtain ⟨a, vs, rfl, ha, _⟩ := h.list
    rcases ha with (ha | ⟨o, ha⟩) | ⟨its, n, h1, _⟩
    · exact .base (.lst ha)
    · exact .base (.frz ha)
    · exact .kList h1 rfl
  | tuple xs =>
    obtain ⟨a, vs, rfl, ha, _⟩ := h.tuple
    rcases ha with (ha | ⟨o, ha⟩) | ⟨o, its, n, h1, h2, _⟩
    · exact .base (.tup ha)
    · exact .fTuple ha
    · exact .kTuple h1 h2
  | dict kvs =>
    rcases h with h | ⟨_, _, _, _, e, _⟩
    · cases h
    · cases e
/-- the names of classes that isinstance tells for all data -/
def isiOk (n : String) : Bool := (["NoneType", "bool", "int", "str", "list", "tuple", "dict"] : List String).all fun a => (kitB a n).isSome
theorem kit_of_ok {n : String} (hn : isiOk n = true) (d : D) : kitB (tyD d) n = some (isT n d) := by
  have key : ∀ a, a ∈ (["NoneType", "bool", "int", "str", "list", "tuple", "dict"] : List String) → (kitB a n).isSome = true := List.all_eq_true.mp hn
  have hm : tyD d ∈ (["NoneType", "bool", "int", "str", "list", "tuple", "dict"] : List String) := by cases d <;> simp [tyD]
  have h := key _ hm
  unfold isT
  cases e : kitB (tyD d) n with
  | none => rw [e] at h; cases h
  | some b => rfl
def tIsi (K : PySem.W.Frag) (n : String) (ta : TE) : TE := tCB (rIsi K) (tCons ta (tCons (tC (.ty n)) tNil))
theorem eok_isi {n : String} (hn : isiOk n = true) (ha : EOk K te u) : EOk K (tIsi K n te) (dIsi n u) := fun F T σ H ds fp Q R rp e k => by
  refine ha F T σ H ds fp _ _ rp e fun h1 ds1 v1 H1 F1 fp1 q1 k1 p1 => ?_
  obtain ⟨d, i, k2⟩ := pk_ok p1.rep p1.r k1
  exact ⟨v1, .ty n, .type (tyD d), .type n, isT n d, rfl, .ty n, tyX_of i, kit_ty (kit_of_ok hn d), k _ _ _ _ _ _ _ k2 ((Pst.bool (p1.rep.less fun _ z => .inl z)).pre p1.g p1.t)⟩
theorem do_isi {n : String} {y : Str} {p' : Pos} (hn : isiOk n = true) (hg : Gl X "isinstance") (hm : X.mg "isinstance" = none) (hg2 : Gl X y) (hm2 : X.mg y = none) (hv2 : bootBuiltins y = some (.type n)) (hn2 : y ≠ "__name__") (hd2 : (y == ("__debug__" : Str)) = false) (ha : DO X e te u)
    (he : starEach [e, .Name y p'] X.env = (false, eval e X.env) :: starEach [.Name y p'] X.env := by rfl) (he2 : starEach [.Name y p'] X.env = (false, eval (.Name y p') X.env) :: starEach [] X.env := by rfl) (hpl : (backTo pos (starEach [.Name y p'] X.env)).any (·.1) = false := by rfl) :
    DO X (.Call (.Name "isinstance" p) [e, .Name y p'] [] pos) (tIsi X.K n te) (dIsi n u) :=
  ⟨pe_callB call_isi hg hm (by decide +kernel) (pa_cons ha.pe (pa_cons (pe_bltn hg2 hm2 hv2 (show RelV (.ty n) (.type n) from rfl) hn2 hd2) pa_nil he2) he) (by decide) (by decide) he hpl, eok_isi hn ha.ok⟩
end
end DL

/-! DL: a def is called with what it may see; what the caller owns is out of its sight. -/
namespace DL
open PySem PySem.Spec PyProof.Rows L2

theorem hok_there {P : Program} {w : World} {H : Hp} {h : Heap} {a : Addr} {o : HO} (x : HOk P w H h) (e : H a = some o) : ∃ ob, h.get? a = some ob := by
  have y := x a o e
  cases o with
  | lst xs => obtain ⟨_, _, _, _, e⟩ := y; exact ⟨_, e⟩
  | tup xs => obtain ⟨_, _, _, ob, e, _⟩ := y; exact ⟨_, e⟩
  | dK kvs => obtain ⟨_, _, _, _, o, _, _, e, _⟩ := y; exact ⟨_, e⟩
  | dT kvs => obtain ⟨_, _, _, _, o, _, _, e, _⟩ := y; exact ⟨_, e⟩
  | set S n => obtain ⟨o, _, _, _, e, _⟩ := y; exact ⟨_, e⟩
  | ins C dx fs => obtain ⟨_, _, _, e, _⟩ := y; exact ⟨_, e⟩
  | own z => obtain ⟨_, e⟩ := y; exact ⟨_, e⟩
  | xd fs => obtain ⟨_, ⟨_, _, _, e, _⟩, _⟩ := y; exact ⟨_, e⟩
  | rng lo hi => obtain ⟨_, _, _, e⟩ := y; exact ⟨_, e⟩
  | frz ob u => obtain ⟨e, _⟩ := y; exact ⟨_, e⟩
  | tbl ps => exact ⟨_, (show h.get? a = some _ from y)⟩
  | met f z => exact ⟨_, (show h.get? a = some _ from y)⟩
  | ext φ => obtain ⟨_, ⟨_, e⟩, _⟩ := y; exact ⟨_, e⟩

def hidden (G : Ad) (H : Hp) : Ad := fun a => G a ∨ ∃ x, G x ∧ H a = some (.own x)
open Classical in
noncomputable def hide (G : Ad) (H : Hp) : Hp := fun a => if hidden G H a then none else H a
open Classical in
noncomputable def back (G : Ad) (H H' : Hp) : Hp := fun a => if hidden G H a then H a else H' a
theorem hide_in {G : Ad} {H : Hp} {a : Addr} (h : hidden G H a) : hide G H a = none := if_pos h
theorem hide_out {G : Ad} {H : Hp} {a : Addr} (h : ¬ hidden G H a) : hide G H a = H a := if_neg h
theorem back_in {G : Ad} {H H' : Hp} {a : Addr} (h : hidden G H a) : back G H H' a = H a := if_pos h
theorem back_out {G : Ad} {H H' : Hp} {a : Addr} (h : ¬ hidden G H a) : back G H H' a = H' a := if_neg h
def frm (sp : Sp) : Sp := fun vs H Q _ => ∃ G : Ad, (∀ a, G a → ∃ o, H a = some o ∧ bigO o) ∧ sp vs (hide G H) (fun v H' => (∀ a, hidden G H a → H' a = none) → Q v (back G H H')) (fun _ _ _ => False)
theorem hidden_some {G : Ad} {H : Hp} (hG : ∀ a, G a → ∃ o, H a = some o ∧ bigO o) {a : Addr} (h : hidden G H a) : ∃ o, H a = some o ∧ (bigO o ∨ ∃ x, G x ∧ o = .own x) := by
  rcases h with h | ⟨x, hx, e⟩
  · obtain ⟨o, e, b⟩ := hG a h; exact ⟨o, e, .inl b⟩
  · exact ⟨_, e, .inr ⟨x, hx, rfl⟩⟩
/-- what is neither big nor an own dict is in sight -/
theorem seen_of {G : Ad} {H : Hp} (hG : ∀ a, G a → ∃ o, H a = some o ∧ bigO o) {a : Addr} {o : HO} (e : H a = some o) (nb : ¬ bigO o) (no : ∀ x, o ≠ .own x) : ¬ hidden G H a := fun h => by
  obtain ⟨o', e', h⟩ := hidden_some hG h
  rw [e] at e'; cases e'
  rcases h with h | ⟨x, _, h⟩
  · exact nb h
  · exact no x h
theorem frame_fn {P : Program} {w : World} {K : PySem.W.Frag} {mg : Str → Option Value} {base : Heap} {k : Nat} {f : Addr} {fd : FuncData} {ps : List Str} {sp : Sp} (F : FnOk P w K mg base CX0 k f fd ps sp) :
    FnOk P w K mg base CX0 k f fd ps (frm sp) := by
  refine ⟨fun vs H Q E ⟨G, _, h⟩ => F.len _ _ _ _ h, fun A outer s H args us vs Q E hr e0 hb hv ⟨G, hG, h⟩ => ?_⟩
  have hok1 : HOk P w (hide G H) s.heap := fun b o e => by
    by_cases hb : hidden G H b
    · rw [hide_in hb] at e; cases e
    · rw [hide_out hb] at e
      refine (e0.hok b o e).stay (fun _ _ _ q => q) (fun c hc => ?_) fun c xs hc => ?_
      · rw [hide_out]; exact hc
        rintro (g | ⟨x, gx, ex⟩)
        · obtain ⟨o', e1, b1⟩ := hG c g
          rw [hc] at e1; cases e1; exact b1
        · rw [hc] at ex; cases ex; exact hb (.inl gx)
      · rw [hide_out (seen_of hG hc (fun z => z) (fun x z => by cases z))]; exact hc
  have e1 : Env0 P w K mg base A outer s (hide G H) := ⟨e0.frames, e0.mod, fun b o q => ⟨(e0.bs b o q).1, by
    by_cases hb : hidden G H b
    · exact hide_in hb
    · rw [hide_out hb]; exact (e0.bs b o q).2⟩, e0.bsz, e0.funs, fun b q => by
    by_cases hb : hidden G H b
    · exact hide_in hb
    · rw [hide_out hb]; exact e0.frf b q, hok1, e0.bare⟩
  refine codeAny_mono (F.run A outer s (hide G H) args us vs _ _ hr e1 hb hv h) fun r s' hq => ?_
  cases r with
  | error e => exact False.elim hq
  | ok fl =>
    cases fl with
    | next => exact False.elim hq
    | brk => exact False.elim hq
    | cont => exact False.elim hq
    | ret u =>
      obtain ⟨v, H', os, bare, un, hok', rv, q⟩ := hq
      have hn : ∀ a, hidden G H a → H' a = none := fun a ha => by
        obtain ⟨o, e, _⟩ := hidden_some hG ha
        obtain ⟨ob, he⟩ := hok_there e0.hok e
        exact un.free a ob he (hide_in ha) (by simp)
      have hnf : ∀ a, hidden G H a → a ∉ frs outer := fun a ha z => by
        obtain ⟨o, e, _⟩ := hidden_some hG ha
        rw [e0.frf a z] at e; cases e
      have none1 : ∀ b, H b = none → hide G H b = none ∧ ¬ hidden G H b := fun b n => by
        have nh : ¬ hidden G H b := fun z => by
          obtain ⟨o, e, _⟩ := hidden_some hG z
          rw [n] at e; cases e
        exact ⟨by rw [hide_out nh]; exact n, nh⟩
      refine ⟨v, back G H H', os, bare, ⟨fun b o e n => un.keep b o e (none1 b n).1, fun b o e n => un.slot b o e (none1 b n).1, fun b o e n x => ?_, un.there, fun b xs e => ?_, fun b o u e => ?_, fun b ps e => ?_⟩, fun b o e => ?_, rv, q hn⟩
      · rw [back_out (none1 b n).2]
        exact un.free b o e (none1 b n).1 x
      · have nh := seen_of hG e (fun z => z) (fun x z => by cases z)
        rw [back_out nh]
        exact un.tups b xs (by rw [hide_out nh]; exact e)
      · have nh := seen_of hG e (fun z => z) (fun x z => by cases z)
        rw [back_out nh]
        exact un.frzs b o u (by rw [hide_out nh]; exact e)
      · have nh := seen_of hG e (fun z => z) (fun x z => by cases z)
        rw [back_out nh]
        exact un.tbls b ps (by rw [hide_out nh]; exact e)
      · by_cases hb : hidden G H b
        · rw [back_in hb] at e
          have stayed : ∀ c u, hidden G H c → s.heap.get? c = some u → s'.heap.get? c = some u := fun c u hc q => un.keep c u q (hide_in hc) (hnf c hc) (by simp)
          rcases hidden_some hG hb with ⟨o', e', hh⟩
          rw [e] at e'; cases e'
          rcases hh with hh | ⟨x, _, rfl⟩
          · have gb : G b := by
              rcases hb with g | ⟨x, _, ex⟩
              · exact g
              · rw [e] at ex; cases ex; exact hh.elim
            refine (e0.hok b o e).stay (fun c u hc r => ?_) (fun c hc => ?_) fun c xs hc => ?_
            · rcases hc with rfl | hc
              · exact stayed _ u hb r
              · exact stayed c u (.inr ⟨b, gb, hc⟩) r
            · rw [back_in (.inr ⟨b, gb, hc⟩)]; exact hc
            · have nh := seen_of hG hc (fun z => z) (fun x z => by cases z)
              rw [back_out nh]
              exact un.tups c xs (by rw [hide_out nh]; exact hc)
          · obtain ⟨ob, he⟩ := e0.hok b _ e
            exact ⟨ob, stayed b ob hb he⟩
        · rw [back_out hb] at e
          refine (hok' b o e).stay (fun _ _ _ r => r) (fun c hc => ?_) fun c xs hc => ?_
          · rw [back_out fun z => by rw [hn c z] at hc; cases hc]; exact hc
          · rw [back_out fun z => by rw [hn c z] at hc; cases hc]; exact hc

/-! ### the promise of a def over data -/
abbrev DF := List D → (SD → Prop) → Prop
def seqAll (F : Ad) (H : Hp) : Prop := ∀ a, F a → ∃ o, H a = some o ∧ seqO o
def spP (K : PySem.W.Frag) (n : Nat) (g : DF) : Sp := fun vs H Q _ => vs.length = n ∧ ∃ F dl, IsA K (res F H) vs dl ∧ seqAll F H ∧
  ∃ P : SD → Prop, g dl P ∧ ∀ r, P r → ∀ (H' : Hp) (v : V) (F' q : Ad), Grow F H F' H' → seqAll F' H' → (∀ a, q a → ¬ F' a ∧ ∃ o, H' a = some o ∧ bigO o) → SlotOk K (res F' H') H' (some (some v)) q r → Q v H'
@[simp] def hdOf : SD → Hd
  | .val d => .tmp d
  | s => .new s
@[simp] def dCall (g : DF) (t : DTA) : DT := fun ds Q => t ds fun hs ds1 => takes hs ds1 fun dl ds2 => g dl fun r => Q (hdOf r) ds2
section
variable {X : Cx} {K : PySem.W.Frag} {F T q : Ad} {σ : Sl} {H : Hp} {ds : DS} {fp : Nat → Ad} {e : Expr} {es : List Expr} {ta tk : TA} {t tkD : DTA} {n k : Nat} {g : DF} {f : Addr} {fd : FuncData} {ps ks : List Str} {x : Str} {p pos : Pos}
/-- the call itself -/
theorem call_core {vs : List V} {dl : List D} {Q : Hd → Prop} {R : VK} {E : XK} (r2 : Rep K F T σ H ds fp) (ia : IsA K (res F H) vs dl) (hn : vs.length = n) (h : g dl fun r => Q (hdOf r))
    (k : ∀ h v H' F' q, Q h → Pst K F T H σ v h ds F' H' fp q → R v H') : frm (spP K n g) vs H R E := by
  have hG : ∀ a, (T a ∨ ∃ i, fp i a) → ∃ o, H a = some o ∧ bigO o := fun a z => by
    rcases z with z | ⟨i, z⟩
    · exact r2.td a z
    · exact r2.fdom z
  have nF : ∀ a, F a → ¬ hidden (fun a => T a ∨ ∃ i, fp i a) H a := fun a f z => by
    rcases z with (z | ⟨i, z⟩) | ⟨y, _, z⟩
    · exact r2.tF a z f
    · exact r2.fF i a z f
    · obtain ⟨o, e, b⟩ := r2.fd a f
      rw [z] at e; cases e; exact b
  refine ⟨fun a => T a ∨ ∃ i, fp i a, hG, hn, F, dl, ia.mono fun a o e => ?_, fun a f => ?_, ?_⟩
  · obtain ⟨f, e⟩ := res_some e
    rw [res_in f, hide_out (nF a f)]; exact e
  · rw [hide_out (nF a f)]; exact r2.fd a f
  · refine ⟨_, h, fun r hr H' v F' q g' sa qa so hh => ?_⟩
    have nh' : ∀ a o, H' a = some o → ¬ hidden (fun a => T a ∨ ∃ i, fp i a) H a := fun a o e z => by rw [hh a z] at e; cases e
    have nF' : ∀ a, F' a → ¬ hidden (fun a => T a ∨ ∃ i, fp i a) H a := fun a f => by
      obtain ⟨o, e, _⟩ := sa a f
      exact nh' a o e
    have nq : ∀ a, q a → ¬ hidden (fun a => T a ∨ ∃ i, fp i a) H a := fun a f => by
      obtain ⟨_, o, e, _⟩ := qa a f
      exact nh' a o e
    have G : Grow F H F' (back (fun a => T a ∨ ∃ i, fp i a) H H') := fun a f => ⟨(g' a f).1, by
      rw [back_out (nF a f), (g' a f).2, hide_out (nF a f)]⟩
    have so' : SlotOk K (res F' (back (fun a => T a ∨ ∃ i, fp i a) H H')) (back (fun a => T a ∨ ∃ i, fp i a) H H') (some (some v)) q r :=
      so.mono (fun a o e => by
        obtain ⟨f, e⟩ := res_some e
        rw [res_in f, back_out (nF' a f)]; exact e) fun a z => back_out (nq a z)
    refine k (hdOf r) v _ F' q hr ⟨r2.go G (fun i a z => ⟨back_in (.inl (.inr ⟨i, z⟩)), fun f => nF' a f (.inl (.inr ⟨i, z⟩)), ?_⟩) (fun a z => ?_) (fun a f => ?_) (fun a z => ?_), fun a z y => nq a z (.inl (.inl y)), G, fun a z => back_in (.inl (.inl z)), ?_⟩
    · rintro (y | y)
      · exact r2.fT i a z y
      · exact nq a y (.inl (.inr ⟨i, z⟩))
    · rcases z with z | z
      · exact fun f => nF' a f (.inl (.inl z))
      · exact (qa a z).1
    · obtain ⟨o, e, b⟩ := sa a f
      exact ⟨o, by rw [back_out (nF' a f)]; exact e, b⟩
    · rcases z with z | z
      · rw [back_in (.inl (.inl z))]; exact r2.td a z
      · obtain ⟨_, o, e, b⟩ := qa a z
        exact ⟨o, by rw [back_out (nq a z)]; exact e, b⟩
    · cases r with
      | val d =>
        obtain ⟨⟨v', e, i⟩, _⟩ := so'
        cases e
        exact i
      | no => exact so'
      | own _ => exact so'
      | dic _ => exact so'
      | wd _ => exact so'
theorem eok_call (ha : AOk K n ta t) : EOk K (tCall (frm (spP K n g)) [] E0 ta) (dCall g t) := fun F T σ H ds fp Q R rp e k => by
  refine ha F T σ H ds fp _ _ rp e fun hs ds1 vs H1 F1 fp1 q1 k1 p1 l1 => ?_
  obtain ⟨dl, ds2, F2, fp2, e2, r2, g2, i2⟩ := takes_ok p1.r .refl p1.rep p1.qT k1
  rw [List.append_nil]
  exact call_core r2 i2 l1 e2 fun h v H' F' q qh p => k _ _ _ _ _ _ _ qh (p.pre (p1.g.trans g2) p1.t)
theorem do_call (F : FnOk X.prog X.w X.K X.mg X.base CX0 k f fd ps (spP X.K n g)) (hr : Room k X.A) (hg : Gl X x) (hm : X.mg x = some (.ref f)) (hk : PySem.W.keepIn X.K (.ref f) = true) (hb : Binds X.K fd ps [])
    (ha : DA X (e :: es) ta t) (hn : (e :: es).length = n := by rfl) (hdb : (x == ("__debug__" : Str)) = false := by decide) (he : starEach (e :: es) X.env = (false, eval e X.env) :: starEach es X.env := by rfl) (hpl : (backTo pos (starEach es X.env)).any (·.1) = false := by rfl) :
    DO X (.Call (.Name x p) (e :: es) [] pos) (tCall (frm (spP X.K n g)) [] E0 ta) (dCall g t) :=
  ⟨pe_call (frame_fn F) hr hg hm hk hb .nil pass0 ha.pa hdb he hpl, eok_call (hn ▸ ha.ok)⟩
end
end DL

/-! DL: statements. -/
namespace DL
open PySem PySem.Spec PyProof.Rows L2

structure En where
  nx : DS → Prop
  rt : Hd → DS → Prop
  bk : DS → Prop
  ct : DS → Prop
abbrev DM := En → DS → Prop
structure EndsOk (K : PySem.W.Frag) (F : Ad) (H : Hp) (E : En) (D : Ends) : Prop where
  nx : ∀ σ' H' ds' F' fp', E.nx ds' → Rep K F' Ad.nil σ' H' ds' fp' → Grow F H F' H' → D.nx σ' H'
  rt : ∀ h ds' v σ' H' F' fp' q, E.rt h ds' → Pst K F Ad.nil H σ' v h ds' F' H' fp' q → D.rt v H'
  bk : ∀ σ' H' ds' F' fp', E.bk ds' → Rep K F' Ad.nil σ' H' ds' fp' → Grow F H F' H' → D.bk σ' H'
  ct : ∀ σ' H' ds' F' fp', E.ct ds' → Rep K F' Ad.nil σ' H' ds' fp' → Grow F H F' H' → D.ct σ' H'
theorem EndsOk.grow {K : PySem.W.Frag} {F F' : Ad} {H H' : Hp} {E : En} {D : Ends} (e : EndsOk K F H E D) (g : Grow F H F' H') : EndsOk K F' H' E D :=
  ⟨fun _ _ _ _ _ a r b => e.nx _ _ _ _ _ a r (g.trans b), fun _ _ _ _ _ _ _ _ a p => e.rt _ _ _ _ _ _ _ _ a (p.pre g fun _ z => z.elim), fun _ _ _ _ _ a r b => e.bk _ _ _ _ _ a r (g.trans b), fun _ _ _ _ _ a r b => e.ct _ _ _ _ _ a r (g.trans b)⟩
def SOk (K : PySem.W.Frag) (ts : TS) (t : DM) : Prop :=
  ∀ (F : Ad) (σ : Sl) (H : Hp) (ds : DS) (fp : Nat → Ad) (E : En) (D : Ends), Rep K F Ad.nil σ H ds fp → t E ds → EndsOk K F H E D → ts D σ H
structure DSt (X : Cx) (st : Stmt) (ts : TS) (t : DM) : Prop where
  ps : PS X st ts
  ok : SOk X.K ts t
structure DSs (X : Cx) (st : List Stmt) (ts : TS) (t : DM) : Prop where
  ps : PSs X st ts
  ok : SOk X.K ts t
@[simp] def mNil : DM := fun E ds => E.nx ds
@[simp] def mSeq (t u : DM) : DM := fun E ds => t { E with nx := u E } ds
@[simp] def mExpr (t : DT) : DM := fun E ds => t ds fun _ ds1 => E.nx ds1
@[simp] def mRet (t : DT) : DM := fun E ds => t ds E.rt
@[simp] def mRetN : DM := fun E ds => E.rt (.tmp .none) ds
@[simp] def mIf (c : DTT) (t u : DM) : DM := fun E ds => c ds fun b ds1 => if b = true then t E ds1 else u E ds1
@[simp] def mBrk : DM := fun E ds => E.bk ds
@[simp] def mCont : DM := fun E ds => E.ct ds
@[simp] def mNever : DM := fun _ _ => False
section
variable {X : Cx} {K : PySem.W.Frag} {st : Stmt} {sts : List Stmt} {ts us : TS} {t u : DM} {e c : Expr} {te : TE} {d : DT} {tt : TT} {p : DTT} {pos : Pos}
theorem dss_nil : DSs X [] tNext mNil := ⟨pss_nil, fun F σ H ds fp E D r h k => k.nx _ _ _ _ _ h r .refl⟩
theorem sok_seq (h1 : SOk K ts t) (h2 : SOk K us u) : SOk K (tSeq ts us) (mSeq t u) := fun F σ H ds fp E D r h k =>
  h1 F σ H ds fp _ _ r h ⟨fun σ' H' ds' F' fp' a r' g => h2 F' σ' H' ds' fp' E D r' a (k.grow g), k.rt, k.bk, k.ct⟩
theorem dss_cons (h1 : DSt X st ts t) (h2 : DSs X sts us u) : DSs X (st :: sts) (tSeq ts us) (mSeq t u) := ⟨pss_cons h1.ps h2.ps, sok_seq h1.ok h2.ok⟩
theorem dss_one (h1 : DSt X st ts t) : DSs X [st] ts t := ⟨pss_one h1.ps, h1.ok⟩
theorem ds_expr (h : DO X e te d) (hs : swapsWith e none pos.line X.env = pure false := by rfl) : DSt X (.Expr e pos) (tDrop te) (mExpr d) := ⟨ps_expr h.pe hs, fun F σ H ds fp E D r a k =>
  h.ok F _ σ H ds fp _ _ r a fun h ds' v H' F' fp' q b p => k.nx _ _ _ _ fp' b (p.rep.less fun _ z => .inl z) p.g⟩
theorem ds_ret (h : DO X e te d) : DSt X (.Return (some e) pos) (tRet te) (mRet d) := ⟨ps_ret h.pe, fun F σ H ds fp E D r a k =>
  h.ok F _ σ H ds fp _ _ r a fun h ds' v H' F' fp' q b p => k.rt _ _ _ _ _ _ _ _ b p⟩
theorem ds_retN : DSt X (.Return none pos) tRetN mRetN := ⟨ps_retN, fun F σ H ds fp E D r a k => k.rt _ _ _ _ _ _ _ _ a (Pst.is r .non)⟩
theorem ds_if {a b : List Stmt} (hc : DB X c tt p) (ha : DSs X a ts t) (hb : DSs X b us u) : DSt X (.If c a b pos) (tIfS tt ts us) (mIf p t u) := ⟨ps_if hc.pt ha.ps hb.ps, fun F σ H ds fp E D r h k =>
  hc.ok F _ σ H ds fp _ _ r h fun b ds' H' F' fp' h' r' g _ => by
    cases b with
    | true => exact ha.ok F' σ H' ds' fp' E D r' h' (k.grow g)
    | false => exact hb.ok F' σ H' ds' fp' E D r' h' (k.grow g)⟩
theorem ds_pass : DSt X (.Pass pos) tNext mNil := ⟨ps_pass, fun F σ H ds fp E D r h k => k.nx _ _ _ _ _ h r .refl⟩
theorem ds_break : DSt X (.Break pos) tBreak mBrk := ⟨ps_break, fun F σ H ds fp E D r h k => k.bk _ _ _ _ _ h r .refl⟩
theorem ds_continue : DSt X (.Continue pos) tCont mCont := ⟨ps_continue, fun F σ H ds fp E D r h k => k.ct _ _ _ _ _ h r .refl⟩
theorem ds_never : DSt X st tNever mNever := ⟨ps_never, fun F σ H ds fp E D r h k => h⟩
end

/-! ### stores -/
/-- what a handle is when it is stored: new things stay owned -/
@[simp] def sett : Hd → DS → (SD → DS → Prop) → Prop
  | .tmp d, ds, Q => Q (.val d) ds
  | .slot i, ds, Q => match ds[i]? with
    | some (.val d) => Q (.val d) ds
    | some (.own xs) => Q (.val (.list xs)) (ds.set i (.val (.list xs)))
    | _ => False
  | .new s, ds, Q => Q s ds
@[simp] def put (i : Nat) (s : SD) (ds : DS) (P : DS → Prop) : Prop := match ds[i]? with
  | some _ => P (ds.set i s)
  | none => False
section
variable {K : PySem.W.Frag} {F F' T q : Ad} {σ : Sl} {H H' : Hp} {ds : DS} {fp : Nat → Ad} {v : V} {h : Hd}
theorem sett_ok {Q : SD → DS → Prop} (r : Rep K F (T.or q) σ H ds fp) (dj : ∀ a, q a → ¬ T a) (x : HdR K F H σ v q h) (e : sett h ds Q) :
    ∃ s ds' F' fp' q', Q s ds' ∧ Rep K F' (T.or q') σ H ds' fp' ∧ (∀ a, q' a → q a) ∧ Grow F H F' H ∧ SlotOk K (res F' H) H (some (some v)) q' s := by
  cases h with
  | tmp d => exact ⟨_, _, F, fp, Ad.nil, e, r.less fun a z => .inl (or_empty a z), fun _ z => z.elim, .refl, ⟨v, rfl, x⟩, fun _ z => z⟩
  | slot i =>
    have x' : σ[i]? = some (some v) := x
    cases hd : ds[i]? with
    | none => simp [sett, hd] at e
    | some s =>
      cases s with
      | val d' =>
        simp [sett, hd] at e
        obtain ⟨⟨v', h1, h2⟩, _⟩ := r.slot i _ hd
        rw [x'] at h1; cases h1
        exact ⟨_, _, F, fp, Ad.nil, e, r.less fun a z => .inl (or_empty a z), fun _ z => z.elim, .refl, ⟨v, rfl, h2⟩, fun _ z => z⟩
      | own xs =>
        simp [sett, hd] at e
        obtain ⟨r1, g, a, h1, h2⟩ := (r.less (T' := T.or Ad.nil) fun a z => .inl (or_empty a z)).freeze hd
        rw [x'] at h1; cases h1
        exact ⟨_, _, _, _, Ad.nil, e, r1, fun _ z => z.elim, g, ⟨_, rfl, h2⟩, fun _ z => z⟩
      | no => simp [sett, hd] at e
      | dic _ => simp [sett, hd] at e
      | wd _ => simp [sett, hd] at e
  | new s => exact ⟨s, ds, F, fp, q, e, r, fun _ z => z, .refl, x⟩
end
@[simp] def mSet (i : Nat) (t : DT) : DM := fun E ds => t ds fun h ds1 => sett h ds1 fun s ds2 => put i s ds2 E.nx
@[simp] def mPar (i j : Nat) (t u : DT) : DM := fun E ds => t ds fun h1 ds1 => u ds1 fun h2 ds2 => sett h1 ds2 fun s1 ds3 => sett h2 ds3 fun s2 ds4 => put i s1 ds4 fun ds5 => put j s2 ds5 E.nx
section
variable {X : Cx} {K : PySem.W.Frag} {i j : Nat} {x y : Str} {e a b : Expr} {te ta tb : TE} {t u : DT} {pos pos' px py pt pt2 : Pos} {kt k2 : Nat}
theorem put_ok {F T q : Ad} {σ : Sl} {H : Hp} {ds : DS} {fp : Nat → Ad} {P : DS → Prop} {v : V} {s : SD} (r : Rep K F (T.or q) σ H ds fp) (d : ∀ a, q a → ¬ T a) (hs : SlotOk K (res F H) H (some (some v)) q s) (h : put i s ds P) :
    P (ds.set i s) ∧ ∃ fp', Rep K F T (σ.set i (some v)) H (ds.set i s) fp' := by
  unfold put at h
  split at h
  · rename_i s' e
    exact ⟨h, _, r.put d hs (List.getElem?_eq_some_iff.mp e).1⟩
  · exact h.elim
theorem sok_set (he : EOk K te t) : SOk K (tAsg te (gName i)) (mSet i t) := fun F σ H ds fp E D r h k => by
  refine he F _ σ H ds fp _ _ r h fun h ds' v H' F' fp' q b p => ?_
  obtain ⟨s, ds2, F2, fp2, q2, e2, r2, sub, g2, so⟩ := sett_ok p.rep p.qT p.r b
  obtain ⟨e3, fp3, r3⟩ := put_ok r2 (fun a z => p.qT a (sub a z)) so e2
  exact k.nx _ _ _ _ fp3 e3 r3 (p.g.trans g2)
theorem ds_set (hN : X.N.Nodup) (he : DO X e te t) (hi : X.N[i]? = some x := by rfl) (hx : Loc X.env.scope x := by first | exact .inl rfl | exact .inr rfl) (hs : swapsWith e (some (.Name x pos')) pos.line X.env = pure false := by rfl) (hf : X.fn x = true ∨ X.env.scope.names.lookup x = some .local := by first | exact .inl rfl | exact .inr rfl | assumption) :
    DSt X (.Assign [.Name x pos'] e pos) (tAsg te (gName i)) (mSet i t) := ⟨ps_set hN hi hx he.pe hs hf, sok_set he.ok⟩
theorem ds_par (hN : X.N.Nodup) (ha : DO X a ta t) (hb : DO X b tb u) (hc : X.calm = true := by rfl) (hi : X.N[i]? = some x := by rfl) (hj : X.N[j]? = some y := by rfl) (hij : i ≠ j := by decide)
    (hx : X.env.scope.names.lookup x = some .local := by rfl) (hy : X.env.scope.names.lookup y = some .local := by rfl)
    (h1 : starEach [a, b] X.env = (false, eval a X.env) :: starEach [b] X.env := by rfl) (h2 : starEach [b] X.env = (false, eval b X.env) :: starEach [] X.env := by rfl)
    (hw : swappedStores [.Tuple [.Name x px, .Name y py] kt pt] (.Tuple [a, b] k2 pt2) X.env = pure (some [x, y]) := by rfl)
    (hs : swapsWithSole [.Tuple [.Name x px, .Name y py] kt pt] (.Tuple [a, b] k2 pt2) pos.line X.env = pure false := by rfl) :
    DSt X (.Assign [.Tuple [.Name x px, .Name y py] kt pt] (.Tuple [a, b] k2 pt2) pos) (tPar i j (tCons ta (tCons tb tNil))) (mPar i j t u) := ⟨ps_par hc hN hi hj hij hx hy (pa_cons ha.pe (pa_cons hb.pe pa_nil h2) h1) hw hs, fun F σ H ds fp E D r h k => by
  refine ha.ok F _ σ H ds fp _ _ r h fun h1 ds1 v1 H1 F1 fp1 q1 k1 p1 => ?_
  refine hb.ok F1 (Ad.nil.or q1) σ H1 ds1 fp1 _ _ p1.rep k1 fun h2 ds2 v2 H2 F2 fp2 q2 k2 p2 => ?_
  refine ⟨v1, v2, rfl, ?_⟩
  have x1 := p1.r.keep p2.g fun a z => p2.t a (.inr z)
  have r2 : Rep X.K F2 (q2.or q1) σ H2 ds2 fp2 := p2.rep.less fun a z => z.elim .inr fun z => .inl (.inr z)
  obtain ⟨s3, ds3, F3, fp3, q3, e3, r3, sub3, g3, so3⟩ := sett_ok r2 (fun a z y => p2.qT a y (.inr z)) x1 k2
  have r3' : Rep X.K F3 (q3.or q2) σ H2 ds3 fp3 := r3.less fun a z => z.elim .inr .inl
  obtain ⟨s4, ds4, F4, fp4, q4, e4, r4, sub4, g4, so4⟩ := sett_ok r3' (fun a z y => p2.qT a z (.inr (sub3 a y))) (p2.r.keep g3 fun _ _ => rfl) e3
  have r4' : Rep X.K F4 (q4.or q3) σ H2 ds4 fp4 := r4.less fun a z => z.elim .inr .inl
  obtain ⟨e5, fp5, r5⟩ := put_ok r4' (fun a z y => p2.qT a (sub4 a y) (.inr (sub3 a z))) (so3.mono g4.same fun _ _ => rfl) e4
  have r5' : Rep X.K F4 (Ad.nil.or q4) (σ.set i (some v1)) H2 (ds4.set i s3) fp5 := r5.less fun a z => z.elim (fun z => z.elim) id
  obtain ⟨e6, fp6, r6⟩ := put_ok r5' (fun _ _ z => z) so4 e5
  exact k.nx _ _ _ _ fp6 e6 r6 (((p1.g.trans p2.g).trans g3).trans g4)⟩
end

/-! ### targets -/
abbrev DGT := D → DS → (DS → Prop) → Prop
def GOk (K : PySem.W.Frag) (g : TG) (us : List Nat) (t : DGT) : Prop :=
  ∀ (F T : Ad) (σ : Sl) (H : Hp) (ds : DS) (fp : Nat → Ad) (v : V) (d : D) (Q : DS → Prop) (R : L2.St → Hp → Prop), Rep K F T σ H ds fp → Is K (res F H) v d → t d ds Q →
    (∀ σ' ds' fp', Q ds' → Rep K F T σ' H ds' fp' → σ'.length = σ.length → (∀ j, j ∉ us → σ'[j]? = σ[j]?) → R σ' H) → g v σ H R
structure DG (X : Cx) (tg : Expr) (g : TG) (us : List Nat) (t : DGT) : Prop where
  pg : PG X tg g
  ok : GOk X.K g us t
abbrev DGTs := List D → DS → (DS → Prop) → Prop
def GsOk (K : PySem.W.Frag) (g : TGs) (us : List Nat) (t : DGTs) : Prop :=
  ∀ (F T : Ad) (σ : Sl) (H : Hp) (ds : DS) (fp : Nat → Ad) (vs : List V) (dl : List D) (Q : DS → Prop) (R : L2.St → Hp → Prop), Rep K F T σ H ds fp → IsA K (res F H) vs dl → t dl ds Q →
    (∀ σ' ds' fp', Q ds' → Rep K F T σ' H ds' fp' → σ'.length = σ.length → (∀ j, j ∉ us → σ'[j]? = σ[j]?) → R σ' H) → g vs σ H R
structure DGs (X : Cx) (tgs : List Expr) (g : TGs) (us : List Nat) (t : DGTs) : Prop where
  pg : PGs X tgs g
  ok : GsOk X.K g us t
@[simp] def gNm (i : Nat) : DGT := fun d ds P => put i (.val d) ds P
@[simp] def gsNil : DGTs := fun dl ds P => match dl with
  | [] => P ds
  | _ => False
@[simp] def gsCons (t : DGT) (u : DGTs) : DGTs := fun dl ds P => match dl with
  | d :: r => t d ds fun ds1 => u r ds1 P
  | [] => False
@[simp] def gTp (n : Nat) (t : DGTs) : DGT := fun d ds P => match d with
  | .tuple xs => xs.length = n ∧ t xs ds P
  | .list xs => xs.length = n ∧ t xs ds P
  | _ => False
section
variable {X : Cx} {K : PySem.W.Frag} {i : Nat} {x : Str} {e : Expr} {es : List Expr} {g : TG} {gs : TGs} {t : DGT} {u : DGTs} {us us' : List Nat} {pos : Pos} {n k : Nat}
theorem gok_nm : GOk K (gName i) [i] (gNm i) := fun F T σ H ds fp v d Q R r x h k => by
  obtain ⟨e, fp', r'⟩ := put_ok (q := Ad.nil) (r.less or_empty) (fun _ z => z.elim) (show SlotOk K (res F H) H (some (some v)) Ad.nil (.val d) from ⟨⟨v, rfl, x⟩, fun _ z => z⟩) h
  exact k _ _ fp' e r' (List.length_set ..) fun j hj => List.getElem?_set_ne fun z => hj (by rw [z]; exact List.mem_singleton.mpr rfl)
theorem dg_nm (hN : X.N.Nodup) (hi : X.N[i]? = some x := by rfl) (hx : Loc X.env.scope x := by first | exact .inl rfl | exact .inr rfl) (hf : X.fn x = true ∨ X.env.scope.names.lookup x = some .local := by first | exact .inl rfl | exact .inr rfl | assumption) : DG X (.Name x pos) (gName i) [i] (gNm i) :=
  ⟨pg_name hN hi hx hf, gok_nm⟩
theorem dgs_nil : DGs X [] gNil [] gsNil := ⟨pgs_nil, fun F T σ H ds fp vs dl Q R r x h k => by
  cases dl with
  | nil => cases x; exact ⟨rfl, k _ _ _ h r rfl fun _ _ => rfl⟩
  | cons _ _ => exact False.elim h⟩
theorem gsok_cons (a : GOk K g us t) (b : GsOk K gs us' u) : GsOk K (gCons g gs) (us ++ us') (gsCons t u) := fun F T σ H ds fp vs dl Q R r x h k => by
  cases dl with
  | nil => exact False.elim h
  | cons d dl =>
    cases x with
    | @cons v vs _ _ x1 x2 =>
      refine ⟨v, vs, rfl, a F T σ H ds fp v d _ _ r x1 h fun σ' ds' fp' h' r' l' o' => ?_⟩
      exact b F T σ' H ds' fp' vs dl _ _ r' x2 h' fun σ'' ds'' fp'' h'' r'' l'' o'' => k _ _ _ h'' r'' (l''.trans l') fun j hj => (o'' j fun z => hj (List.mem_append_right _ z)).trans (o' j fun z => hj (List.mem_append_left _ z))
theorem dgs_cons (a : DG X e g us t) (b : DGs X es gs us' u) (hs : (assignEach (e :: es) X.env).map (·.2) = assign e X.env :: (assignEach es X.env).map (·.2) := by rfl) : DGs X (e :: es) (gCons g gs) (us ++ us') (gsCons t u) := ⟨pgs_cons a.pg b.pg hs, gsok_cons a.ok b.ok⟩
end
end DL

/-! DL: unpacking, in-place operators, lists that grow, loops, comprehensions, a def's body. -/
namespace DL
open PySem PySem.Spec PyProof.Rows L2

section
variable {X : Cx} {K : PySem.W.Frag} {i : Nat} {x : Str} {e tg : Expr} {es : List Expr} {g : TG} {gs : TGs} {t : DGT} {u : DGTs} {us : List Nat} {te : TE} {d : DT} {pos p2 p3 pos' : Pos} {n k : Nat}
theorem pg_or {g g' : TG} (h : PG X e g) (h' : PG X e g') : PG X e (fun v σ H Q => g v σ H Q ∨ g' v σ H Q) :=
  ⟨fun pins s σ H v u Q I r w => w.elim (h.run pins s σ H v u Q I r) (h'.run pins s σ H v u Q I r)⟩
theorem dg_tup (h : DGs X es gs us u) (hc : X.calm = true := by rfl) (hn : (assignEach es X.env).length = n := by rfl) (hst : (assignEach es X.env).findIdx? (·.1) = none := by rfl) :
    DG X (.Tuple es k pos) (fun v σ H Q => gTup X.K n gs v σ H Q ∨ gUnl X.K n gs v σ H Q) us (gTp n u) := ⟨pg_or (pg_tup hc h.pg hn hst) (pg_unl hc h.pg hn hst), fun F T σ H ds fp v dd Q R r x h' kk => by
  cases dd <;> first | exact False.elim h' | skip
  · cases x with
    | lst ha hs => exact .inr ⟨_, _, rfl, (same_l (res_same _ _) ha).sq, by rw [hs.length]; exact h'.1, h.ok F T σ H ds fp _ _ _ _ r hs h'.2 kk⟩
  · cases x with
    | tup ha hs => exact .inl ⟨_, _, rfl, same_t (res_same _ _) ha, by rw [hs.length]; exact h'.1, h.ok F T σ H ds fp _ _ _ _ r hs h'.2 kk⟩⟩
/-- target = e, the value taken apart -/
@[simp] def mUnp (d : DT) (t : DGT) : DM := fun E ds => d ds fun h ds1 => take1 h ds1 fun x ds2 => t x ds2 E.nx
theorem ds_unp (he : DO X e te d) (hg : DG X tg g us t) (hs : swapsWithSole [tg] e pos.line X.env = pure false := by rfl) (hw : swappedStores [tg] e X.env = pure none := by rfl) (h1 : (assignEach [tg] X.env).map (·.2) = [assign tg X.env] := by rfl) : DSt X (.Assign [tg] e pos) (tAsg te g) (mUnp d t) :=
  ⟨ps_asg he.pe hg.pg hs hw h1, fun F σ H ds fp E D r a k => by
    refine he.ok F _ σ H ds fp _ _ r a fun h ds' v H' F' fp' q b p => ?_
    obtain ⟨x, ds2, F2, fp2, e2, r2, g2, i2⟩ := take1_ok p.rep p.qT p.r b
    exact hg.ok F2 _ σ H' ds2 fp2 v x _ _ r2 i2 e2 fun σ' ds3 fp3 h3 r3 _ _ => k.nx _ _ _ _ fp3 h3 r3 (p.g.trans g2)⟩

/-! x += e -/
@[simp] def augD : SD → D → (SD → Prop) → Prop
  | .val (.int a), .int b, P => P (.val (.int (a + b)))
  | .own xs, .list ys, P => xs.length + ys.length ≤ sizeLine ∧ P (.own (xs ++ ys))
  | _, _, _ => False
theorem augD_inv {P : SD → Prop} : ∀ {s : SD} {d : D}, augD s d P → (∃ a b, s = .val (.int a) ∧ d = .int b ∧ P (.val (.int (a + b)))) ∨ ∃ xs ys, s = .own xs ∧ d = .list ys ∧ xs.length + ys.length ≤ sizeLine ∧ P (.own (xs ++ ys))
  | .val (.int a), .int b, h => .inl ⟨a, b, rfl, rfl, h⟩
  | .own xs, .list ys, h => .inr ⟨xs, ys, rfl, rfl, h⟩
@[simp] def hasV (ds : DS) (i : Nat) : Prop := match ds[i]? with
  | some .no => False
  | some _ => True
  | none => False
theorem hasV_ok {F T : Ad} {σ : Sl} {H : Hp} {ds : DS} {fp : Nat → Ad} (r : Rep K F T σ H ds fp) (h : hasV ds i) : ∃ v, σ[i]? = some (some v) := by
  cases hs : ds[i]? with
  | none => simp [hasV, hs] at h
  | some s =>
    have z := r.slot i s hs
    cases s with
    | no => simp [hasV, hs] at h
    | val d => obtain ⟨⟨v, e, _⟩, _⟩ := z; exact ⟨v, e⟩
    | own xs => obtain ⟨a, vs, e, _⟩ := z; exact ⟨_, e⟩
    | dic xs => obtain ⟨a, vs, e, _⟩ := z; exact ⟨_, e⟩
    | wd w => obtain ⟨e, _⟩ := z; exact ⟨_, e⟩
@[simp] def mAug (i : Nat) (t : DT) : DM := fun E ds => hasV ds i ∧ t ds fun h ds1 => pk ds1 h fun d => match ds1[i]? with
  | some s => augD s d fun s' => E.nx (ds1.set i s')
  | none => False
/-- a list that grows by one that may be locked -/
def rExtR (K : PySem.W.Frag) : R2 := fun x y H Q => ∃ l b xs zs, x = .ref l ∧ y = .ref b ∧ H l = some (.lst xs) ∧ Ls K H b zs ∧ xs.length + zs.length ≤ sizeLine ∧ Q (.ref l) (upd H l (.lst (xs ++ zs)))
theorem iop_extR : OpR X (inplaceOp .Add) (rExtR X.K) := by
  rintro pins s σ H x y v u Q I rx ry ⟨l, b, xs, zs, rfl, rfl, hl, hb, hz, q⟩
  cases rx; cases ry
  obtain ⟨_, is1, n1, r1, l1, g1⟩ := lstRd I (.inl (.inl hl))
  obtain ⟨_, is2, n2, r2, l2, g2⟩ := lstRd I hb
  have room : is1.toArray.size + is2.toArray.size ≤ sizeLine := by simp only [List.size_toArray]; omega
  have free : ¬ (!is1.toArray.isEmpty && Builtin.List.listTooLong (is1.toArray.size + is2.toArray.size)) = true := by rw [notLongL room, Bool.and_false]; exact Bool.false_ne_true
  refine iadd_road ⟨_, g1, rfl⟩ ⟨_, g2, rfl⟩ (call_meets PySem.F.slot_list_iadd ⟨_, g1, rfl⟩ PySem.F.entry_list_iadd (PySem.F.args_list_iadd_2 _ _) (AutoSeq1.list___iadd___list_list_0 l _ n1 b _ n2 free (by omega) (by omega)) ⟨g1, g2, ?_⟩)
  exact ⟨.ref l, _, I.lset (its' := is1 ++ is2) (t' := s.toks) hl g1 (by simp) (r1.append r2) (by simp only [List.length_append]; omega), rfl, q⟩
def rAugA (K : PySem.W.Frag) : R2 := fun x y H Q => (∃ a b, x = .int a ∧ y = .int b ∧ Q (.int (a + b)) H) ∨ rExtR K x y H Q
theorem ip_aug : PIp X .Add (rAugA X.K) := OpR.or iop_add iop_extR
open Classical in
/-- the list that slot i owns is another one now -/
theorem Rep.relist {F T : Ad} {σ : Sl} {H : Hp} {ds : DS} {fp : Nat → Ad} {xs ys : List D} (r : Rep K F T σ H ds fp) (e : ds[i]? = some (.own xs)) :
    ∃ a vs, σ[i]? = some (some (.ref a)) ∧ H a = some (.lst vs) ∧ IsA K (res F H) vs xs ∧ ∀ ws, IsA K (res F H) ws ys → Rep K F T σ (upd H a (.lst ws)) (ds.set i (.own ys)) fp ∧ Grow F H F (upd H a (.lst ws)) ∧ ∀ b, T b → upd H a (.lst ws) b = H b := by
  obtain ⟨a, vs, h1, h2, h3, h4⟩ := r.slot i _ e
  have hi : i < ds.length := (List.getElem?_eq_some_iff.mp e).1
  have ha : fp i a := (h2 a).mpr rfl
  refine ⟨a, vs, h1, h3, h4, fun ws hw => ?_⟩
  have g : Grow F H F (upd H a (.lst ws)) := fun b f => ⟨f, upd_ne (ne_by f (r.fF i a ha))⟩
  refine ⟨⟨by rw [List.length_set]; exact r.len, fun j s e' => ?_, fun j b h => by rw [List.length_set]; exact r.out j b h, r.fF, r.fT, r.sep, r.tF, fun b f => ?_, fun b t => ?_⟩, g, fun b t => upd_ne (ne_by t (r.fT i a ha))⟩
  · by_cases hj : j = i
    · subst hj
      rw [List.getElem?_set_self hi] at e'; cases e'
      exact ⟨a, ws, h1, h2, upd_same, hw.mono g.same⟩
    · rw [List.getElem?_set_ne (Ne.symm hj)] at e'
      exact (r.slot j s e').mono g.same fun b hb => upd_ne fun z => by rw [z] at hb; exact hj (r.sep j i a hb ha)
  · rw [upd_ne (ne_by f (r.fF i a ha))]; exact r.fd b f
  · rw [upd_ne (ne_by t (r.fT i a ha))]; exact r.td b t
theorem set_same {α : Type} {l : List α} {i : Nat} {a : α} (h : l[i]? = some a) : l.set i a = l := by
  apply List.ext_getElem?
  intro j
  by_cases hj : j = i
  · subst hj
    rw [List.getElem?_set_self (List.getElem?_eq_some_iff.mp h).1, h]
  · rw [List.getElem?_set_ne (Ne.symm hj)]
theorem ds_aug (hN : X.N.Nodup) (he : DO X e te d) (hi : X.N[i]? = some x := by rfl) (hx : Loc X.env.scope x := by first | exact .inl rfl | exact .inr rfl) (hf : X.fn x = true ∨ X.env.scope.names.lookup x = some .local := by first | exact .inl rfl | exact .inr rfl | assumption) :
    DSt X (.AugAssign (.Name x pos') .Add e pos) (tAug i te (rAugA X.K)) (mAug i d) := ⟨ps_aug hN hi hx he.pe ip_aug hf, fun F σ H ds fp E D r a k => by
  obtain ⟨v, hv⟩ := hasV_ok r a.1
  replace a := a.2
  refine ⟨v, hv, ?_⟩
  refine he.ok F _ σ H ds fp _ _ r a fun h ds' w H' F' fp' q b p => ?_
  obtain ⟨d, pd, k2⟩ := pk_ok p.rep p.r b
  cases hs : ds'[i]? with
  | none => simp [hs] at k2
  | some s =>
    simp [hs] at k2
    rcases augD_inv k2 with ⟨c, dd, rfl, rfl, k3⟩ | ⟨xs, ys, rfl, rfl, hz, k3⟩
    · obtain ⟨⟨w', e1, i1⟩, _⟩ := p.rep.slot i _ hs
      rw [hv] at e1; cases e1
      cases i1
      rw [pd.int]
      obtain ⟨r4, fp4, r5⟩ := put_ok (i := i) (P := E.nx) (q := Ad.nil) (T := Ad.nil) (p.rep.less fun a z => z.elim .inl fun z => z.elim) (fun _ z => z.elim) (show SlotOk X.K (res F' H') H' (some (some (.int (c + dd)))) Ad.nil (.val (.int (c + dd))) from ⟨⟨_, rfl, .int _⟩, fun _ z => z⟩) (by simp only [put, hs]; exact k3)
      exact .inl ⟨_, _, rfl, rfl, k.nx _ _ _ _ fp4 r4 r5 p.g⟩
    · obtain ⟨b, ws, rfl, hb, ib⟩ := pd.list
      obtain ⟨a, vs, e1, ha, ia, rl⟩ := p.rep.relist (ys := xs ++ ys) hs
      rw [hv] at e1; cases e1
      obtain ⟨r5, g5, _⟩ := rl (vs ++ ws) (ia.append ib)
      refine .inr ⟨a, b, vs, ws, rfl, rfl, ha, hb, by rw [ia.length, ib.length]; exact hz, ?_⟩
      show D.nx (σ.set i (some (.ref a))) _
      rw [set_same hv]
      exact k.nx _ _ _ _ fp' k3 (r5.less fun _ z => .inl z) (p.g.trans g5)⟩
end
end DL

/-! DL: append, loops, comprehensions, a def's body. -/
namespace DL
open PySem PySem.Spec PyProof.Rows L2

/-! ### xs.append(e) as a statement -/
@[simp] def isOwn (ds : DS) (i : Nat) : Prop := match ds[i]? with
  | some (.own _) => True
  | _ => False
@[simp] def ownAt (ds : DS) (i : Nat) (P : List D → Prop) : Prop := match ds[i]? with
  | some (.own xs) => P xs
  | _ => False
theorem ownAt_inv {ds : DS} {i : Nat} {P : List D → Prop} (h : ownAt ds i P) : ∃ xs, ds[i]? = some (.own xs) ∧ P xs := by
  cases hs : ds[i]? with
  | none => simp [ownAt, hs] at h
  | some s =>
    cases s with
    | own xs => simp [ownAt, hs] at h; exact ⟨xs, rfl, h⟩
    | no => simp [ownAt, hs] at h
    | val _ => simp [ownAt, hs] at h
    | dic _ => simp [ownAt, hs] at h
    | wd _ => simp [ownAt, hs] at h
@[simp] def mApp (i : Nat) (t : DT) : DM := fun E ds => ownAt ds i fun _ => t ds fun h ds1 => take1 h ds1 fun d ds2 => ownAt ds2 i fun xs => xs.length < sizeLine ∧ E.nx (ds2.set i (.own (xs ++ [d])))
section
variable {X : Cx} {K : PySem.W.Frag} {i : Nat} {x : Str} {e tg iter : Expr} {es : List Expr} {g : TG} {gt : DGT} {us : List Nat} {te : TE} {t : DT} {pos px apos cpos : Pos} {n : Nat}
theorem ds_app (he : DO X e te t) (hi : X.N[i]? = some x := by rfl) (hv : Vis X.env.scope x := by first | exact Or.inl rfl | exact Or.inr (Or.inl rfl) | exact Or.inr (Or.inr rfl)) (hd : (x == ("__debug__" : Str)) = false := by decide)
    (hcd : (x == ("__classdict__" : Str)) = false := by decide) (hse : starEach [e] X.env = (false, eval e X.env) :: starEach [] X.env := by rfl)
    (h1 : attributeBase (.Name x px) "append" X.env (eval (.Name x px) X.env) = eval (.Name x px) X.env := by rfl)
    (h2 : ((backTo cpos (starEach [e] X.env)).all (fun x => !x.1) && (backToKw cpos (keywordEach [] X.env)).all (fun x => x.1.isSome) && decide (([e] : List Expr).length + ([] : List Keyword).length + (if ([] : List Keyword).isEmpty then 0 else 1) < 30)) = true := by rfl)
    (h3 : (apos.endLine == cpos.line) = true := by rfl) (h4 : (backTo cpos (starEach [] X.env)).any (·.1) = false := by rfl)
    (hs : swapsWith (.Call (.Attribute (.Name x px) "append" apos) [e] [] cpos) none pos.line X.env = pure false := by rfl) :
    DSt X (.Expr (.Call (.Attribute (.Name x px) "append" apos) [e] [] cpos) pos) (tDrop (tBM X.K "list" rAppend (tVar i) (tCons te tNil))) (mApp i t) := ⟨ps_expr (pe_bm PySem.F.plainAttrs_list PySem.F.slot_list_append PySem.F.type_list_append mt_append (pe_var hi hv hd hcd) (pa_cons he.pe pa_nil hse) h1 h2 h3 hse h4) hs, fun F σ H ds fp E D r a k => by
  obtain ⟨xs0, h0, a⟩ := ownAt_inv a
  obtain ⟨b, vs0, e0, _, hb, _⟩ := r.slot i _ h0
  refine ⟨.ref b, e0, .inl ⟨rfl, _, .of hb⟩, ?_⟩
  refine he.ok F _ σ H ds fp _ _ r a fun h ds1 v H1 F1 fp1 q c p => ?_
  obtain ⟨d, ds2, F2, fp2, e2, r2, g2, i2⟩ := take1_ok p.rep p.qT p.r c
  obtain ⟨xs, h2, hz, e3⟩ := ownAt_inv e2
  obtain ⟨b', vs, e1, hb', ib, rl⟩ := r2.relist (ys := xs ++ [d]) h2
  rw [e0] at e1; cases e1
  obtain ⟨r5, g5, _⟩ := rl (vs ++ [v]) (ib.append (.cons i2 .nil))
  exact ⟨_, _, _, rfl, rfl, hb', by rw [ib.length]; exact hz, k.nx _ _ _ _ fp2 e3 r5 ((p.g.trans g2).trans g5)⟩⟩

/-! ### what is walked -/
structure ItD (K : PySem.W.Frag) (F : Ad) (H : Hp) (J : It) (items : List D) : Prop where
  go : ∀ F' H' i, Grow F H F' H' → i < items.length → J.go i H'
  stop : ∀ F' H', Grow F H F' H' → J.stop items.length H'
  yld : ∀ F' H' i x H'' d, Grow F H F' H' → items[i]? = some d → J.yld i H' x H'' → (H'' = H' ∧ Is K (res F' H') x d) ∨ ∃ p o, H' p = none ∧ H'' = upd H' p o ∧ seqO o ∧ ∀ F'' : Ad, (∀ a, F' a → F'' a) → F'' p → Is K (res F'' H'') x d
abbrev DIT := DS → (List D → DS → Prop) → Prop
def IOk (K : PySem.W.Frag) (wi : TI) (t : DIT) : Prop :=
  ∀ (F T : Ad) (σ : Sl) (H : Hp) (ds : DS) (fp : Nat → Ad) (Q : List D → DS → Prop) (R : It → Hp → Prop), Rep K F T σ H ds fp → t ds Q →
    (∀ items ds' J H' F' fp', Q items ds' → Rep K F' T σ H' ds' fp' → Grow F H F' H' → (∀ a, T a → H' a = H a) → ItD K F' H' J items → R J H') → wi σ H R
structure DI (X : Cx) (tg iter : Expr) (wi : TI) (t : DIT) : Prop where
  pi : PI X tg iter wi
  ok : IOk X.K wi t
def strItems (z : Str) : List D := z.cps.toList.map fun c => .str ⟨#[c]⟩
@[simp] def iSeq (t : DT) : DIT := fun ds Q => t ds fun h ds1 => take1 h ds1 fun d ds2 => match d with
  | .list xs => Q xs ds2
  | .tuple xs => Q xs ds2
  | .str z => Q (strItems z) ds2
  | _ => False
def iAny (K : PySem.W.Frag) (tl : TE) : TI := fun σ H R => tl σ H fun x H1 => (∃ a, x = .ref a ∧ (∃ xs, SqL K H1 a xs) ∧ R (Itl K a) H1) ∨ ((∃ a, x = .ref a ∧ (∃ xs, SqT K H1 a xs) ∧ R (Itt K a) H1) ∨ ∃ z, x = .str z ∧ R (Its z) H1)
theorem pi_any (hl : PE X e te) : PI X tg e (iAny X.K te) := by
  refine ⟨fun pins s σ H R I h => ?_⟩
  refine thn (hl.run pins s σ H _ I h) fun v s1 ⟨x, H1, I1, r1, q1⟩ => ?_
  rcases q1 with ⟨a, e, ⟨xs, hq⟩, q⟩ | ⟨a, e, ⟨xs, hq⟩, q⟩ | ⟨z, e, q⟩
  · subst e
    cases r1
    obtain ⟨its, rv, p, hz⟩ := I1.list hq
    refine wpAny_pyIter_list p.isList ?_
    refine ⟨s1.heap.objs.size, [s1.heap.objs.size], _, _, H1, rfl, I1.kept (t' := s1.toks) fun b o e => Heap.get?_push_of_some _ e, turn_list a _, ⟨_, Heap.get?_push_size _ rfl, rfl, rfl⟩, fun b hb => ?_, q⟩
    have e : b = s1.heap.objs.size := by simpa using hb
    subst e
    exact I1.fpOk (Nat.le_refl _) (I1.hok.fresh (Nat.le_refl _))
  · subst e
    cases r1
    obtain ⟨its, rv, p, hz⟩ := I1.tuple hq
    refine wpAny_pyIter_tuple (show s1.heap.IsTuple a its.toArray from p) ?_
    refine ⟨s1.heap.objs.size, [s1.heap.objs.size], _, _, H1, rfl, I1.kept (t' := s1.toks) fun b o e => Heap.get?_push_of_some _ e, turn_tuple a _, ⟨_, Heap.get?_push_size _ rfl, rfl, rfl⟩, fun b hb => ?_, q⟩
    have e : b = s1.heap.objs.size := by simpa using hb
    subst e
    exact I1.fpOk (Nat.le_refl _) (I1.hok.fresh (Nat.le_refl _))
  · subst e
    obtain ⟨t, rfl⟩ := r1
    cases ha : z.cps.all (· < 128)
    · exact wpAny_pyIter_wide ha (pi_one (tk := s1.toks) I1 _ (turn_str _ z t "str_iterator" (.inr rfl)) ⟨_, Heap.get?_push_size _ rfl, rfl, rfl⟩ q)
    · exact wpAny_pyIter_ascii ha (pi_one (tk := s1.toks) I1 _ (turn_str _ z t "str_ascii_iterator" (.inl rfl)) ⟨_, Heap.get?_push_size _ rfl, rfl, rfl⟩ q)
theorem itd_list {F : Ad} {H : Hp} {a : Addr} {vs : List V} {xs : List D} (ha : Ls K (res F H) a vs) (h : IsA K (res F H) vs xs) : ItD K F H (Itl K a) xs := by
  have key : ∀ F' H', Grow F H F' H' → SqL K H' a vs ∧ IsA K (res F' H') vs xs := fun F' H' g => ⟨(same_l (res_same _ _) (same_l g.same ha)).sq, h.mono g.same⟩
  refine ⟨fun F' H' i g hi => ?_, fun F' H' g => ?_, fun F' H' i x H'' d g hd y => ?_⟩
  · exact walk_list.goes i H' (by rw [h.length]; exact hi) (key F' H' g).1
  · rw [← h.length]; exact walk_list.stops H' (key F' H' g).1
  · obtain ⟨k1, k2⟩ := key F' H' g
    have hi : i < vs.length := by rw [h.length]; exact (List.getElem?_eq_some_iff.mp hd).1
    obtain ⟨e, hx⟩ := walk_list.yields i H' x H'' hi k1 y
    obtain ⟨d', hd', iv⟩ := k2.get' hx
    rw [hd] at hd'; cases hd'
    exact .inl ⟨e, iv⟩
theorem itd_tup {F : Ad} {H : Hp} {a : Addr} {vs : List V} {xs : List D} (ha : SqT K (res F H) a vs) (h : IsA K (res F H) vs xs) : ItD K F H (Itt K a) xs := by
  have key : ∀ F' H', Grow F H F' H' → SqT K H' a vs ∧ IsA K (res F' H') vs xs := fun F' H' g => ⟨same_t (res_same F' H') (same_t g.same ha), h.mono g.same⟩
  refine ⟨fun F' H' i g hi => ?_, fun F' H' g => ?_, fun F' H' i x H'' d g hd y => ?_⟩
  · exact walk_tup.goes i H' (by rw [h.length]; exact hi) (key F' H' g).1
  · rw [← h.length]; exact walk_tup.stops H' (key F' H' g).1
  · obtain ⟨k1, k2⟩ := key F' H' g
    have hi : i < vs.length := by rw [h.length]; exact (List.getElem?_eq_some_iff.mp hd).1
    obtain ⟨e, hx⟩ := walk_tup.yields i H' x H'' hi k1 y
    obtain ⟨d', hd', iv⟩ := k2.get' hx
    rw [hd] at hd'; cases hd'
    exact .inl ⟨e, iv⟩
theorem itd_str {F : Ad} {H : Hp} {z : Str} : ItD K F H (Its z) (strItems z) := by
  have hl : (strItems z).length = z.cps.size := by unfold strItems; rw [List.length_map, Array.length_toList]
  refine ⟨fun F' H' i g hi => walk_str.goes i H' (by rw [hl] at hi; exact hi) trivial, fun F' H' g => by rw [hl]; exact walk_str.stops H' trivial, fun F' H' i x H'' d g hd y => ?_⟩
  have hi : i < z.cps.size := by rw [← hl]; exact (List.getElem?_eq_some_iff.mp hd).1
  obtain ⟨e, c, hc, rfl⟩ := walk_str.yields i H' x H'' hi trivial y
  unfold strItems at hd
  rw [List.getElem?_map, Array.getElem?_toList, hc] at hd
  cases hd
  exact .inl ⟨e, .str _⟩
theorem iok_seq (h : EOk K te t) : IOk K (iAny K te) (iSeq t) := fun F T σ H ds fp Q R r a k => by
  refine h F T σ H ds fp _ _ r a fun h ds1 v H1 F1 fp1 q c p => ?_
  obtain ⟨d, ds2, F2, fp2, e2, r2, g2, i2⟩ := take1_ok p.rep p.qT p.r c
  cases d <;> first | exact False.elim e2 | skip
  · cases i2
    exact .inr (.inr ⟨_, rfl, k _ _ _ _ _ _ e2 r2 (p.g.trans g2) p.t itd_str⟩)
  · cases i2 with
    | lst ha hs => exact .inl ⟨_, rfl, ⟨_, (same_l (res_same _ _) ha).sq⟩, k _ _ _ _ _ _ e2 r2 (p.g.trans g2) p.t (itd_list ha hs)⟩
  · cases i2 with
    | tup ha hs => exact .inr (.inl ⟨_, rfl, ⟨_, same_t (res_same _ _) ha⟩, k _ _ _ _ _ _ e2 r2 (p.g.trans g2) p.t (itd_tup ha hs)⟩)
theorem di_seq (h : DO X e te t) : DI X tg e (iAny X.K te) (iSeq t) := ⟨pi_any h.pe, iok_seq h.ok⟩
/-! ranges -/
def rngD (lo : Int) (n : Nat) : List D := (List.range n).map fun i : Nat => .int (lo + (i : Int))
theorem itd_rng {F : Ad} {H : Hp} {lo : Int} {n : Nat} : ItD K F H (Itr lo n) (rngD lo n) := by
  have hl : (rngD lo n).length = n := by unfold rngD; rw [List.length_map, List.length_range]
  refine ⟨fun F' H' i g hi => walk_range.goes i H' (by rw [hl] at hi; exact hi) trivial, fun F' H' g => by rw [hl]; exact walk_range.stops H' trivial, fun F' H' i x H'' d g hd y => ?_⟩
  have hi : i < n := by rw [← hl]; exact (List.getElem?_eq_some_iff.mp hd).1
  obtain ⟨e, rfl⟩ := walk_range.yields i H' x H'' hi trivial y
  unfold rngD at hd
  rw [List.getElem?_map, List.getElem?_range hi] at hd
  cases hd
  exact .inl ⟨e, .int _⟩
@[simp] def iR1 (t : DT) : DIT := fun ds Q => t ds fun h ds1 => pk ds1 h fun d => match d with
  | .int n => (-(2 ^ 62) ≤ n ∧ n < 2 ^ 62) ∧ Q (rngD 0 n.toNat) ds1
  | _ => False
@[simp] def iR2 (t u : DT) : DIT := fun ds Q => t ds fun h ds1 => u ds1 fun h2 ds2 => pk ds2 h fun d => pk ds2 h2 fun d2 => match d, d2 with
  | .int m, .int n => (-(2 ^ 62) ≤ m ∧ m < 2 ^ 62 ∧ -(2 ^ 62) ≤ n ∧ n < 2 ^ 62) ∧ Q (rngD m (n - m).toNat) ds2
  | _, _ => False
theorem di_r1 {p' : Pos} (hg : Gl X "range") (hm : X.mg "range" = none) (h : DO X e te t) (hs : starEach [e] X.env = [(false, eval e X.env)] := by rfl) : DI X tg (.Call (.Name "range" p') [e] [] pos) (iRng1 (tCons te tNil)) (iR1 t) :=
  ⟨pi_range1 hg hm (pa_cons h.pe pa_nil hs) hs, fun F T σ H ds fp Q R r a k => by
    refine h.ok F T σ H ds fp _ _ r a fun h ds1 v H1 F1 fp1 q c p => ?_
    obtain ⟨d, i, k2⟩ := pk_ok p.rep p.r c
    cases d <;> first | exact False.elim k2 | skip
    rename_i n
    rw [i.int]
    exact ⟨n, rfl, k2.1.1, k2.1.2, k _ _ _ _ _ fp1 k2.2 (p.rep.less fun _ z => .inl z) p.g p.t itd_rng⟩⟩
theorem di_r2 {b : Expr} {tb : TE} {u : DT} {p' : Pos} (hg : Gl X "range") (hm : X.mg "range" = none) (h : DO X e te t) (h' : DO X b tb u) (hs : starEach [e, b] X.env = [(false, eval e X.env), (false, eval b X.env)] := by rfl) (hs2 : starEach [b] X.env = [(false, eval b X.env)] := by rfl) :
    DI X tg (.Call (.Name "range" p') [e, b] [] pos) (iRng2 (tCons te (tCons tb tNil))) (iR2 t u) :=
  ⟨pi_range2 hg hm (pa_cons h.pe (pa_cons h'.pe pa_nil hs2) (by rw [hs, hs2])) hs hs2, fun F T σ H ds fp Q R r a k => by
    refine two_ok h.ok h'.ok (Q := fun d d2 ds2 => match d, d2 with
      | .int m, .int n => (-(2 ^ 62) ≤ m ∧ m < 2 ^ 62 ∧ -(2 ^ 62) ≤ n ∧ n < 2 ^ 62) ∧ Q (rngD m (n - m).toNat) ds2
      | _, _ => False) (R := fun x y H2 => ∃ i j : Int, [x, y] = [V.int i, .int j] ∧ (-(2 ^ 62) ≤ i ∧ i < 2 ^ 62 ∧ -(2 ^ 62) ≤ j ∧ j < 2 ^ 62) ∧ R (Itr i (j - i).toNat) H2) r a fun d e ds' x y H' F' fp' h1 r1 g1 k1 i1 i2 => ?_
    cases d <;> cases e <;> first | exact False.elim h1 | skip
    rename_i m n
    rw [i1.int, i2.int]
    exact ⟨m, n, rfl, h1.1, k _ _ _ _ _ fp' h1.2 r1 g1 k1 itd_rng⟩⟩
/-! zip of two lists, of two tuples: each turn a new pair -/
def zipD (xs ys : List D) : List D := (xs.zip ys).map fun p => .tuple [p.1, p.2]
@[simp] def iZp (t u : DT) : DIT := fun ds Q => t ds fun h ds1 => u ds1 fun h2 ds2 => takes [h, h2] ds2 fun dl ds3 => match dl with
  | [.list xs, .list ys] => Q (zipD xs ys) ds3
  | [.tuple xs, .tuple ys] => Q (zipD xs ys) ds3
  | _ => False
theorem pair_new {F' : Ad} {H' : Hp} {p : Addr} {x y : V} {a b : D} (hp : H' p = none) (ix : Is K (res F' H') x a) (iy : Is K (res F' H') y b) : ∀ F'' : Ad, (∀ a, F' a → F'' a) → F'' p → Is K (res F'' (upd H' p (.tup [x, y]))) (.ref p) (.tuple [a, b]) := fun F'' h1 h2 => by
  have s : Same (res F' H') (res F'' (upd H' p (.tup [x, y]))) := fun c o e => by
    obtain ⟨f, e⟩ := res_some e
    rw [res_in (h1 c f), upd_ne (ne_of_none e hp)]; exact e
  exact .tup (.of (by rw [res_in h2, upd_same])) (.cons (ix.mono s) (.cons (iy.mono s) .nil))
theorem itd_zip {F : Ad} {H : Hp} {J : It} {xs ys : List D} {G : Hp → Prop} {vs ws : List V} (w : Walk J (min vs.length ws.length) G (YPair (fun i => vs[i]?) fun i => ws[i]?)) (hv : IsA K (res F H) vs xs) (hw : IsA K (res F H) ws ys) (hG : ∀ F' H', Grow F H F' H' → G H') : ItD K F H J (zipD xs ys) := by
  have hl : (zipD xs ys).length = min vs.length ws.length := by unfold zipD; rw [List.length_map, List.length_zip, hv.length, hw.length]
  refine ⟨fun F' H' i g hi => w.goes i H' (by rw [hl] at hi; exact hi) (hG F' H' g), fun F' H' g => by rw [hl]; exact w.stops H' (hG F' H' g), fun F' H' i x H'' d g hd y => ?_⟩
  have hi : i < min vs.length ws.length := by rw [← hl]; exact (List.getElem?_eq_some_iff.mp hd).1
  obtain ⟨p, a, b, rfl, hp, rfl, h1, h2⟩ := w.yields i H' x H'' hi (hG F' H' g) y
  obtain ⟨a', ha, ia⟩ := (hv.mono g.same).get' h1
  obtain ⟨b', hb, ib⟩ := (hw.mono g.same).get' h2
  unfold zipD at hd
  rw [List.getElem?_map, show (xs.zip ys)[i]? = some (a', b') from List.getElem?_zip_eq_some.mpr ⟨ha, hb⟩] at hd
  cases hd
  exact .inr ⟨p, _, hp, rfl, trivial, pair_new hp ia ib⟩
theorem walk_zipT {a b : Addr} {xs ys : List V} {n : Nat} (hn : n = min xs.length ys.length) : Walk (RZ.ItzT K a b) n (fun H => SqT K H a xs ∧ SqT K H b ys) (YPair (fun i => xs[i]?) (fun i => ys[i]?)) := by
  subst hn
  refine ⟨fun i _ hi q => ?_, fun _ q => ⟨xs, ys, q.1, q.2, by omega⟩, fun i H v H' _ q y => ?_⟩
  · have h1 : i < xs.length := by omega
    have h2 : i < ys.length := by omega
    exact ⟨xs, ys, xs[i], ys[i], q.1, q.2, by simp [h1], by simp [h2]⟩
  · obtain ⟨T, x, z, h1, h2, h3, h4, h5⟩ := y
    exact ⟨T, x, z, h1, h2, h3, h4 xs q.1, h5 ys q.2⟩
theorem di_zip {b : Expr} {tb : TE} {u : DT} {p' tpos : Pos} {elts : List Expr} {kk : Nat} (hg : Gl X "zip") (hm : X.mg "zip" = none) (h : DO X e te t) (h' : DO X b tb u) (hs : starEach [e, b] X.env = (false, eval e X.env) :: starEach [b] X.env := by rfl)
    (hs2 : starEach [b] X.env = (false, eval b X.env) :: starEach [] X.env := by rfl) (hpl : (backTo pos (starEach [b] X.env)).any (·.1) = false := by rfl) :
    DI X (.Tuple elts kk tpos) (.Call (.Name "zip" p') [e, b] [] pos) (RZ.iZipA X.K (tCons te (tCons tb tNil))) (iZp t u) :=
  ⟨RZ.pi_zipA hg hm (pa_cons h.pe (pa_cons h'.pe pa_nil hs2) hs) hs hpl, fun F T σ H ds fp Q R r a k => by
    refine aok_cons h.ok (aok_cons h'.ok aok_nil) F T σ H ds fp (fun hs ds2 => takes hs ds2 fun dl ds3 => match dl with
      | [.list xs, .list ys] => Q (zipD xs ys) ds3
      | [.tuple xs, .tuple ys] => Q (zipD xs ys) ds3
      | _ => False) _ r a fun hs ds1 vs H1 F1 fp1 q1 k1 p1 l1 => ?_
    obtain ⟨dl, ds2, F2, fp2, e2, r2, g2, i2⟩ := takes_ok p1.r .refl p1.rep p1.qT k1
    match dl, i2, e2 with
    | [.list xs, .list ys], .cons (.lst ha ia) (.cons (.lst hb ib) .nil), e2 =>
      exact ⟨_, _, _, _, rfl, .inl ⟨(same_l (res_same _ _) ha).sq, (same_l (res_same _ _) hb).sq, k _ _ _ _ _ _ e2 r2 (p1.g.trans g2) p1.t (itd_zip (walk_zip rfl) ia ib fun F' H' g => ⟨(same_l (res_same _ _) (same_l g.same ha)).sq, (same_l (res_same _ _) (same_l g.same hb)).sq⟩)⟩⟩
    | [.tuple xs, .tuple ys], .cons (.tup ha ia) (.cons (.tup hb ib) .nil), e2 =>
      exact ⟨_, _, _, _, rfl, .inr ⟨same_t (res_same _ _) ha, same_t (res_same _ _) hb, k _ _ _ _ _ _ e2 r2 (p1.g.trans g2) p1.t (itd_zip (walk_zipT rfl) ia ib fun F' H' g => ⟨same_t (res_same _ _) (same_t g.same ha), same_t (res_same _ _) (same_t g.same hb)⟩)⟩⟩⟩
end

/-! ### for -/
def loopD (g : DGT) (b : DM) : List D → DM
  | [], E, ds => E.nx ds
  | d :: r, E, ds => g d ds fun ds1 => b { E with nx := loopD g b r E, ct := loopD g b r E, bk := E.nx } ds1
@[simp] def mFor (ti : DIT) (g : DGT) (b : DM) : DM := fun E ds => ti ds fun items ds1 => loopD g b items E ds1
section
variable {X : Cx} {K : PySem.W.Frag} {tg iter c : Expr} {body : List Stmt} {wi : TI} {g : TG} {us : List Nat} {ts : TS} {ti : DIT} {gt : DGT} {b : DM} {pos : Pos} {tt : TT} {p : DTT}
/-- what a turn hands over -/
theorem yld_rep {F T : Ad} {σ : Sl} {H H'' : Hp} {ds : DS} {fp : Nat → Ad} {x : V} {d : D} (r : Rep K F T σ H ds fp) (y : (H'' = H ∧ Is K (res F H) x d) ∨ ∃ p o, H p = none ∧ H'' = upd H p o ∧ seqO o ∧ ∀ F'' : Ad, (∀ a, F a → F'' a) → F'' p → Is K (res F'' H'') x d) :
    ∃ F'', Rep K F'' T σ H'' ds fp ∧ Grow F H F'' H'' ∧ (∀ a, T a → H'' a = H a) ∧ Is K (res F'' H'') x d ∧ ∀ a o, H a = some o → H'' a = some o := by
  rcases y with ⟨rfl, i⟩ | ⟨p, o, hp, rfl, so, i⟩
  · exact ⟨F, r, .refl, fun _ _ => rfl, i, fun _ _ e => e⟩
  · obtain ⟨r1, g, k⟩ := r.newF hp so
    exact ⟨_, r1, g, k, i _ (fun a f => .inl f) (.inr rfl), fun a o e => by rw [upd_ne (ne_of_none e hp)]; exact e⟩
theorem sok_for (hi : IOk K wi ti) (hg : GOk K g us gt) (hb : SOk K ts b) : SOk K (tFor wi g ts) (mFor ti gt b) := fun F σ H ds fp E D r a k => by
  refine hi F _ σ H ds fp _ _ r a fun items ds1 J H1 F1 fp1 h1 r1 g1 _ I => ?_
  refine ⟨fun i m σ' H' => i + m = items.length ∧ ∃ ds' F' fp', loopD gt b (items.drop i) E ds' ∧ Rep K F' Ad.nil σ' H' ds' fp' ∧ Grow F1 H1 F' H', ⟨items.length, by omega, ds1, F1, fp1, h1, r1, .refl⟩, ?_⟩
  rintro i m σ' H' ⟨hm, ds', F', fp', h', r', g'⟩
  by_cases hlt : i < items.length
  · refine .inr ⟨I.go F' H' i g' hlt, fun σ'' H'' => ∃ ds' F' fp', loopD gt b (items.drop (i + 1)) E ds' ∧ Rep K F' Ad.nil σ'' H'' ds' fp' ∧ Grow F1 H1 F' H'', fun σ'' H'' z => ⟨m - 1, by omega, by omega, z⟩, fun x H2 y => ?_⟩
    rw [List.drop_eq_getElem_cons hlt] at h'
    obtain ⟨F2, r2, g2, _, i2, _⟩ := yld_rep r' (I.yld F' H' i x H2 items[i] g' (List.getElem?_eq_getElem hlt) y)
    refine hg F2 _ σ' H2 ds' fp' x items[i] _ _ r2 i2 h' fun σ3 ds3 fp3 h3 r3 _ _ => ?_
    refine hb F2 σ3 H2 ds3 fp3 _ _ r3 h3 ⟨fun σ4 H4 ds4 F4 fp4 a4 r4 g4 => ⟨ds4, F4, fp4, a4, r4, (g'.trans g2).trans g4⟩, fun h ds4 v σ4 H4 F4 fp4 q a4 p4 => ?_, fun σ4 H4 ds4 F4 fp4 a4 r4 g4 => ?_, fun σ4 H4 ds4 F4 fp4 a4 r4 g4 => ⟨ds4, F4, fp4, a4, r4, (g'.trans g2).trans g4⟩⟩
    · exact k.rt _ _ _ _ _ _ _ _ a4 (p4.pre (((g1.trans g').trans g2)) fun _ z => z.elim)
    · exact k.nx _ _ _ _ _ a4 r4 (((g1.trans g').trans g2).trans g4)
  · have e : i = items.length := by omega
    subst e
    rw [List.drop_length] at h'
    exact .inl ⟨I.stop F' H' g', k.nx _ _ _ _ _ h' r' (g1.trans g')⟩
theorem ds_for (hp : PassesOwn (model X.prog X.w) X.A X.env X.xe) (hi : DI X tg iter wi ti) (hg : DG X tg g us gt) (hb : DSs X body ts b) (hc : X.calm = true := by rfl) (hs : ∀ x, foldedSetIterable iter X.env x = pure x := by intro _; rfl) :
    DSt X (.For tg iter body [] pos) (tFor wi g ts) (mFor ti gt b) := ⟨ps_for hp hc hi.pi hg.pg hb.ps hs, sok_for hi.ok hg.ok hb.ok⟩

/-! ### while -/
def whileD (c : DTT) (b : DM) : Nat → DM
  | 0, _, _ => False
  | n + 1, E, ds => c ds fun k ds1 => if k = true then b { E with nx := whileD c b n E, ct := whileD c b n E, bk := E.nx } ds1 else E.nx ds1
def mWhile (c : DTT) (b : DM) : DM := fun E ds => ∃ n, whileD c b n E ds
theorem sok_while (hc : BTOk K tt p) (hb : SOk K ts b) : SOk K (tWhile tt ts) (mWhile p b) := fun F σ H ds fp E D r ⟨n, a⟩ k => by
  refine ⟨fun m σ' H' => ∃ ds' F' fp', whileD p b m E ds' ∧ Rep K F' Ad.nil σ' H' ds' fp' ∧ Grow F H F' H', ⟨n, ds, F, fp, a, r, .refl⟩, ?_⟩
  rintro m σ' H' ⟨ds', F', fp', h', r', g'⟩
  cases m with
  | zero => exact False.elim h'
  | succ m =>
    refine hc F' _ σ' H' ds' fp' _ _ r' h' fun kk ds2 H2 F2 fp2 h2 r2 g2 _ => ?_
    cases kk with
    | false => exact k.nx _ _ _ _ _ h2 r2 (g'.trans g2)
    | true =>
      refine ⟨fun σ'' H'' => ∃ ds' F' fp', whileD p b m E ds' ∧ Rep K F' Ad.nil σ'' H'' ds' fp' ∧ Grow F H F' H'', fun σ'' H'' z => ⟨m, Nat.lt_succ_self m, z⟩, ?_⟩
      refine hb F2 σ' H2 ds2 fp2 _ _ r2 h2 ⟨fun σ4 H4 ds4 F4 fp4 a4 r4 g4 => ⟨ds4, F4, fp4, a4, r4, (g'.trans g2).trans g4⟩, fun h ds4 v σ4 H4 F4 fp4 q a4 p4 => ?_, fun σ4 H4 ds4 F4 fp4 a4 r4 g4 => ?_, fun σ4 H4 ds4 F4 fp4 a4 r4 g4 => ⟨ds4, F4, fp4, a4, r4, (g'.trans g2).trans g4⟩⟩
      · exact k.rt _ _ _ _ _ _ _ _ a4 (p4.pre (g'.trans g2) fun _ z => z.elim)
      · exact k.nx _ _ _ _ _ a4 r4 ((g'.trans g2).trans g4)
theorem ds_while (hp : PassesOwn (model X.prog X.w) X.A X.env X.xe) (hc : DB X c tt p) (hb : DSs X body ts b) : DSt X (.While c body [] pos) (tWhile tt ts) (mWhile p b) := ⟨ps_while hp hc.pt hb.ps, sok_while hc.ok hb.ok⟩
end
end DL

/-! DL: comprehensions, a def's body. -/
namespace DL
open PySem PySem.Spec PyProof.Rows L2

structure DCs (X : Cx) (ifs : List Expr) (tt : TT) (t : DTT) : Prop where
  pt : PTs X ifs tt
  ok : BTOk X.K tt t
/-- what an expression needs, told by its data alone -/
def tStar (K : PySem.W.Frag) (t : DT) : TE := fun σ H R => ∃ (F T : Ad) (ds : DS) (fp : Nat → Ad) (Q : QE), Rep K F T σ H ds fp ∧ t ds Q ∧ ∀ h ds' v H' F' fp' q, Q h ds' → Pst K F T H σ v h ds' F' H' fp' q → R v H'
theorem DO.star {X : Cx} {e : Expr} {te : TE} {t : DT} (h : DO X e te t) : DO X e (tStar X.K t) t :=
  ⟨⟨fun pins s σ H Q I ⟨F, T, ds, fp, D, r, a, k⟩ => h.pe.run pins s σ H Q I (h.ok F T σ H ds fp D Q r a k)⟩, fun F T σ H ds fp Q R r a k => ⟨F, T, ds, fp, Q, r, a, k⟩⟩
def tStarB (K : PySem.W.Frag) (t : DTT) : TT := fun σ H R => ∃ (F T : Ad) (ds : DS) (fp : Nat → Ad) (Q : Bool → DS → Prop), Rep K F T σ H ds fp ∧ t ds Q ∧ ∀ b ds' H' F' fp', Q b ds' → Rep K F' T σ H' ds' fp' → Grow F H F' H' → (∀ a, T a → H' a = H a) → R b H'
theorem DCs.star {X : Cx} {ifs : List Expr} {tt : TT} {t : DTT} (h : DCs X ifs tt t) : DCs X ifs (tStarB X.K t) t :=
  ⟨⟨fun pins s σ H Q I ⟨F, T, ds, fp, D, r, a, k⟩ => h.pt.run pins s σ H Q I (h.ok F T σ H ds fp D Q r a k)⟩, fun F T σ H ds fp Q R r a k => ⟨F, T, ds, fp, Q, r, a, k⟩⟩
@[simp] def cYes : DTT := fun ds Q => Q true ds
theorem dcs_nil {X : Cx} : DCs X [] tYes cYes := ⟨pts_nil, fun F T σ H ds fp Q R r h k => k _ _ _ _ _ h r .refl fun _ _ => rfl⟩
theorem dcs_one {X : Cx} {c : Expr} {tt : TT} {t : DTT} (h : DB X c tt t) : DCs X [c] tt t := ⟨pts_one h.pt, h.ok⟩

@[simp] def wipeD (ds : DS) : List Nat → DS
  | [] => ds
  | v :: vs => (wipeD ds vs).set v .no
@[simp] def keepV : SD → SD
  | .val d => .val d
  | _ => .no
@[simp] def restD (vs : List Nat) : Nat → DS → DS → DS
  | k, a :: as, b :: bs => (if vs.contains k = true then keepV a else b) :: restD vs (k + 1) as bs
  | _, _, bs => bs
section
variable {K : PySem.W.Frag} {F F' F1 T T1 : Ad} {σ : Sl} {H H' H1 : Hp} {ds ds1 ds2 : DS} {fp fp1 fp2 : Nat → Ad} {v : Nat} {vs : List Nat}
theorem Rep.unset (r : Rep K F T σ H ds fp) (v : Nat) : Rep K F T (σ.set v none) H (ds.set v .no) (fun j a => j ≠ v ∧ fp j a) := by
  refine ⟨by rw [List.length_set, List.length_set]; exact r.len, fun j s e => ?_, fun j a h => by rw [List.length_set]; exact r.out j a h.2, fun j a h => r.fF j a h.2, fun j a h => r.fT j a h.2, fun i j a h h' => r.sep i j a h.2 h'.2, r.tF, r.fd, r.td⟩
  by_cases hj : j = v
  · subst hj
    have hi : j < ds.length := by have := (List.getElem?_eq_some_iff.mp e).1; rw [List.length_set] at this; exact this
    rw [List.getElem?_set_self hi] at e; cases e
    exact fun a z => z.1 rfl
  · rw [List.getElem?_set_ne (Ne.symm hj)] at e
    rw [List.getElem?_set_ne (Ne.symm hj)]
    exact (r.slot j s e).fpx fun a => ⟨fun z => z.2, fun z => ⟨hj, z⟩⟩
theorem Rep.wipe (r : Rep K F T σ H ds fp) : ∀ vs : List Nat, ∃ fp', Rep K F T (wipe σ vs) H (wipeD ds vs) fp'
  | [] => ⟨fp, r⟩
  | v :: vs => by
    obtain ⟨fp', r'⟩ := Rep.wipe r vs
    exact ⟨_, r'.unset v⟩
theorem restD_get : ∀ (vs : List Nat) (k : Nat) (ds1 ds2 : DS) (i : Nat), ds1.length = ds2.length → (restD vs k ds1 ds2)[i]? = if vs.contains (k + i) = true then ds1[i]?.map keepV else ds2[i]?
  | vs, k, [], [], i, _ => by simp [restD]
  | vs, k, a :: as, b :: bs, 0, _ => by
    simp only [restD, Nat.add_zero, List.getElem?_cons_zero, Option.map_some]
    split <;> rfl
  | vs, k, a :: as, b :: bs, i + 1, h => by
    simp only [restD, List.getElem?_cons_succ]
    rw [restD_get vs (k + 1) as bs i (by simpa using h)]
    rw [show k + 1 + i = k + (i + 1) by omega]
theorem restD_len : ∀ (vs : List Nat) (k : Nat) (ds1 ds2 : DS), (restD vs k ds1 ds2).length = ds2.length
  | _, _, [], _ => by simp [restD]
  | _, _, _ :: _, [] => by simp [restD]
  | vs, k, a :: as, b :: bs => by simp [restD, restD_len vs (k + 1) as bs]
theorem wipe_in {σ : Sl} {i : Nat} : ∀ {vs : List Nat}, i ∈ vs → (L2.wipe σ vs)[i]? = if i < σ.length then some none else none
  | v :: vs, h => by
    unfold L2.wipe
    by_cases e : i = v
    · subst e
      by_cases hi : i < σ.length
      · rw [List.getElem?_set_self (by rw [wipe_length]; exact hi), if_pos hi]
      · rw [List.getElem?_eq_none (by rw [List.length_set, wipe_length]; omega), if_neg hi]
    · rw [List.getElem?_set_ne (Ne.symm e)]
      exact wipe_in ((List.mem_cons.mp h).resolve_left e)
theorem wipe_eq {σ σ2 : Sl} {us vs : List Nat} (hl : σ2.length = (L2.wipe σ vs).length) (h : ∀ j, j ∉ us → σ2[j]? = (L2.wipe σ vs)[j]?) (hs : ∀ i ∈ us, i ∈ vs) : L2.wipe σ2 vs = L2.wipe σ vs := by
  rw [wipe_length] at hl
  apply List.ext_getElem?
  intro j
  by_cases hj : j ∈ vs
  · rw [wipe_in hj, wipe_in hj, hl]
  · rw [wipe_out hj, h j fun z => hj (hs j z)]
open Classical in
theorem Rep.unwipe (r : Rep K F' T (L2.wipe σ vs) H' ds2 fp2) (r1 : Rep K F1 T1 σ H1 ds1 fp1) (g : Grow F1 H1 F' H') : Rep K F' T σ H' (restD vs 0 ds1 ds2) (fun j a => j ∉ vs ∧ fp2 j a) := by
  have l2 : ds2.length = σ.length := by rw [r.len, wipe_length]
  refine ⟨by rw [restD_len]; exact l2, fun j s e => ?_, fun j a h => by rw [restD_len]; exact r.out j a h.2, fun j a h => r.fF j a h.2, fun j a h => r.fT j a h.2, fun i j a h h' => r.sep i j a h.2 h'.2, r.tF, r.fd, r.td⟩
  rw [restD_get vs 0 ds1 ds2 j (r1.len.trans l2.symm), Nat.zero_add] at e
  by_cases hj : j ∈ vs
  · rw [if_pos (List.contains_iff_mem.mpr hj)] at e
    cases h1 : ds1[j]? with
    | none => rw [h1] at e; cases e
    | some s1 =>
      rw [h1] at e
      cases e
      have z := r1.slot j s1 h1
      cases s1 with
      | val d =>
        obtain ⟨⟨v, e1, i1⟩, _⟩ := z
        exact ⟨⟨v, e1, i1.mono g.same⟩, fun a z => z.1 hj⟩
      | no => exact fun a z => z.1 hj
      | own _ => exact fun a z => z.1 hj
      | dic _ => exact fun a z => z.1 hj
      | wd _ => exact fun a z => z.1 hj
  · rw [if_neg fun z => hj (List.contains_iff_mem.mp z)] at e
    have z := r.slot j s e
    rw [wipe_out hj] at z
    exact z.fpx fun a => ⟨fun z => z.2, fun z => ⟨hj, z⟩⟩
end
def compD (g : DGT) (c : DTT) (t : DT) (vs : List Nat) : List D → List D → DS → (List D → DS → Prop) → Prop
  | [], acc, ds, P => P acc ds
  | d :: r, acc, ds, P => g d ds fun ds1 => c ds1 fun b ds2 => if b = true then t ds2 fun h ds3 => take1 h ds3 fun x ds4 => compD g c t vs r (acc ++ [x]) (wipeD ds4 vs) P else compD g c t vs r acc (wipeD ds2 vs) P
@[simp] def dComp (ti : DIT) (g : DGT) (c : DTT) (t : DT) (vs : List Nat) : DT := fun ds Q => ti ds fun items ds1 => items.length ≤ sizeLine ∧ compD g c t vs items [] (wipeD ds1 vs) fun out ds2 => Q (.new (.own out)) (restD vs 0 ds1 ds2)
section
variable {X : Cx} {K : PySem.W.Frag} {elt tg iter : Expr} {ifs : List Expr} {scope : Scope} {own : List (Str × Nat)} {wi : TI} {g : TG} {us vs : List Nat} {tt : TT} {te : TE} {ti : DIT} {gt : DGT} {ct : DTT} {et : DT} {pos spos py : Pos} {i : Nat} {y : Str}
theorem eok_comp (hi : IOk K wi ti) (hg : GOk K g us gt) (hsub : ∀ i ∈ us, i ∈ vs) (hc : BTOk K tt ct) (he : EOk K te et) : EOk K (tLc wi g tt te vs) (dComp ti gt ct et vs) := fun F T σ H ds fp Q R r a k => by
  refine hi F T σ H ds fp _ _ r a fun items ds1 J H1 F1 fp1 h1 r1 g1 t1 I => ?_
  intro L hL
  obtain ⟨r2, g2, t2⟩ := r1.newT (o := .lst []) hL trivial
  obtain ⟨fp2, r2⟩ := r2.wipe vs
  obtain ⟨nF, nT, _⟩ := r1.new_ne hL
  refine ⟨fun i m H' => i + m = items.length ∧ ∃ acc accV ds' F' fp', compD gt ct et vs (items.drop i) acc ds' (fun out ds2 => Q (.new (.own out)) (restD vs 0 ds1 ds2)) ∧ Rep K F' (T.or (· = L)) (L2.wipe σ vs) H' ds' fp' ∧ Grow F1 H1 F' H' ∧
    (∀ a, T a → H' a = H1 a) ∧ H' L = some (.lst accV) ∧ IsA K (res F' H') accV acc ∧ acc.length ≤ i, ⟨items.length, by omega, [], [], _, F1, fp2, h1.2, r2, g2, t2, upd_same, .nil, Nat.le_refl _⟩, ?_⟩
  rintro i m H' ⟨hm, acc, accV, ds', F', fp', h', r', g', t', hL', ia, hacc⟩
  by_cases hlt : i < items.length
  · refine .inr ⟨I.go F' H' i g' hlt, fun H'' => ∃ acc accV ds' F' fp', compD gt ct et vs (items.drop (i + 1)) acc ds' (fun out ds2 => Q (.new (.own out)) (restD vs 0 ds1 ds2)) ∧ Rep K F' (T.or (· = L)) (L2.wipe σ vs) H'' ds' fp' ∧ Grow F1 H1 F' H'' ∧
      (∀ a, T a → H'' a = H1 a) ∧ H'' L = some (.lst accV) ∧ IsA K (res F' H'') accV acc ∧ acc.length ≤ i + 1, fun H'' z => ⟨m - 1, by omega, by omega, z⟩, fun x H2 y => ?_⟩
    rw [List.drop_eq_getElem_cons hlt] at h'
    obtain ⟨F2, r2, g2, t2, i2, kp⟩ := yld_rep r' (I.yld F' H' i x H2 items[i] g' (List.getElem?_eq_getElem hlt) y)
    refine hg F2 _ _ H2 ds' fp' x items[i] _ _ r2 i2 h' fun σ3 ds3 fp3 h3 r3 l3 o3 => ?_
    have hw : L2.wipe σ3 vs = L2.wipe σ vs := wipe_eq l3 o3 hsub
    refine ⟨hw, ?_⟩
    refine hc F2 _ σ3 H2 ds3 fp3 _ _ r3 h3 fun b ds4 H4 F4 fp4 h4 r4 g4 t4 => ?_
    have hL4 : H4 L = some (.lst accV) := by rw [t4 L (.inr rfl), t2 L (.inr rfl)]; exact hL'
    cases b with
    | false =>
      obtain ⟨fp5, r5⟩ := r4.wipe vs
      rw [hw] at r5
      exact ⟨acc, accV, _, F4, fp5, h4, r5, (g'.trans g2).trans g4, fun a z => (t4 a (.inl z)).trans ((t2 a (.inl z)).trans (t' a z)), hL4, (ia.mono g2.same).mono g4.same, by omega⟩
    | true =>
      show te σ3 H4 _
      refine he F4 _ σ3 H4 ds4 fp4 _ _ r4 h4 fun h ds5 v H5 F5 fp5 q5 k5 p5 => ?_
      obtain ⟨d, ds6, F6, fp6, k6, r6, g6, i6⟩ := take1_ok p5.rep p5.qT p5.r k5
      have hL5 : H5 L = some (.lst accV) := by rw [p5.t L (.inr rfl)]; exact hL4
      have nF6 : ¬ F6 L := r6.tF L (.inr rfl)
      have G6 : Grow F6 H5 F6 (upd H5 L (.lst (accV ++ [v]))) := fun a f => ⟨f, upd_ne (ne_by f nF6)⟩
      have r7 : Rep K F6 (T.or (· = L)) σ3 (upd H5 L (.lst (accV ++ [v]))) ds6 fp6 := by
        refine r6.go G6 (fun i a z => ⟨upd_ne fun e => ?_, r6.fF i a z, r6.fT i a z⟩) r6.tF (fun a f => ?_) fun a z => ?_
        · exact r6.fT i a z (.inr e)
        · rw [upd_ne (ne_by f nF6)]; exact r6.fd a f
        · by_cases e : a = L
          · rw [e, upd_same]; exact ⟨_, rfl, trivial⟩
          · rw [upd_ne e]; exact r6.td a z
      obtain ⟨fp8, r8⟩ := r7.wipe vs
      rw [hw] at r8
      have G : Grow F1 H1 F6 (upd H5 L (.lst (accV ++ [v]))) := ((((g'.trans g2).trans g4).trans p5.g).trans g6).trans G6
      have ia6 : IsA K (res F6 H5) accV acc := (((ia.mono g2.same).mono g4.same).mono p5.g.same).mono g6.same
      refine ⟨accV, hL5, ?_, acc ++ [d], accV ++ [v], _, F6, fp8, k6, r8, G, fun a z => ?_, upd_same, (ia6.append (.cons i6 .nil)).mono G6.same, ?_⟩
      · rw [ia6.length]
        have := h1.1
        omega
      · have : a ≠ L := ne_by z nT
        rw [upd_ne this, p5.t a (.inl z), t4 a (.inl z), t2 a (.inl z), t' a z]
      · rw [List.length_append, List.length_singleton]; omega
  · have e : i = items.length := by omega
    subst e
    rw [List.drop_length] at h'
    refine .inl ⟨I.stop F' H' g', ?_⟩
    refine k _ _ _ _ _ _ (· = L) h' ⟨r'.unwipe r1 g', fun a z t => nT (z ▸ t), g1.trans g', fun a z => (t' a z).trans (t1 a z), ⟨L, accV, rfl, fun _ => Iff.rfl, hL', ia⟩⟩
theorem do_comp0 (hN : X.N.Nodup) (hi : DI X tg iter wi ti) (ok : BlkOk X.N X.env.scope scope own)
    (hg : ∀ (s : Shared) (H : Hp) (C : Addr) (cl : List (Str × Addr)) (fp : List Addr), DG (X.blk s H scope (compEnvC scope cl C X.env) fp) tg g us gt)
    (ht : ∀ (s : Shared) (H : Hp) (C : Addr) (cl : List (Str × Addr)) (fp : List Addr), DCs (X.blk s H scope (compEnvC scope cl C X.env) fp) ifs tt ct)
    (he : ∀ (s : Shared) (H : Hp) (C : Addr) (cl : List (Str × Addr)) (fp : List Addr), DO (X.blk s H scope (compEnvC scope cl C X.env) fp) elt te et)
    (hsub : ∀ i ∈ us, i ∈ own.map (·.2)) (hc : X.calm = true) (hs : ∀ x, foldedSetIterable iter X.env x = pure x) :
    DO X (.ListComp elt [⟨tg, iter, ifs, 0⟩] scope pos) (tLc wi g tt te (own.map (·.2))) (dComp ti gt ct et (own.map (·.2))) :=
  ⟨pe_lc hc hN hi.pi ok (fun s H C cl fp => (hg s H C cl fp).pg) (fun s H C cl fp => (ht s H C cl fp).pt) (fun s H C cl fp => (he s H C cl fp).pe) hs,
    eok_comp hi.ok (hg X.s_0 X.H_0 0 [] []).ok hsub (ht X.s_0 X.H_0 0 [] []).ok (he X.s_0 X.H_0 0 [] []).ok⟩
theorem ds_setc0 (hN : X.N.Nodup) (hi : DI X tg iter wi ti) (ok : BlkOk X.N X.env.scope scope own)
    (hg : ∀ (s : Shared) (H : Hp) (C : Addr) (cl : List (Str × Addr)) (fp : List Addr), DG (X.blk s H scope (compEnvC scope cl C X.env) fp) tg g us gt)
    (ht : ∀ (s : Shared) (H : Hp) (C : Addr) (cl : List (Str × Addr)) (fp : List Addr), DCs (X.blk s H scope (compEnvC scope cl C X.env) fp) ifs tt ct)
    (he : ∀ (s : Shared) (H : Hp) (C : Addr) (cl : List (Str × Addr)) (fp : List Addr), DO (X.blk s H scope (compEnvC scope cl C X.env) fp) elt te et)
    (hsw : swapsWith (.ListComp elt [⟨tg, iter, ifs, 0⟩] scope pos) (some (.Name y py)) spos.line X.env = pure true)
    (hy : X.N[i]? = some y := by rfl) (hyl : X.env.scope.names.lookup y = some .local := by rfl)
    (hsub : ∀ i ∈ us, i ∈ own.map (·.2)) (hc : X.calm = true) (hs : ∀ x, foldedSetIterable iter X.env x = pure x) :
    DSt X (.Assign [.Name y py] (.ListComp elt [⟨tg, iter, ifs, 0⟩] scope pos) spos) (tAsg (tLc wi g tt te (own.map (·.2))) (gName i)) (mSet i (dComp ti gt ct et (own.map (·.2)))) :=
  ⟨ps_setLc hc hN hy hyl hsw hi.pi ok (fun s H C cl fp => (hg s H C cl fp).pg) (fun s H C cl fp => (ht s H C cl fp).pt) (fun s H C cl fp => (he s H C cl fp).pe) hs,
    sok_set (eok_comp hi.ok (hg X.s_0 X.H_0 0 [] []).ok hsub (ht X.s_0 X.H_0 0 [] []).ok (he X.s_0 X.H_0 0 [] []).ok)⟩
theorem do_comp (hN : X.N.Nodup) (hi : DI X tg iter wi ti) (ok : BlkOk X.N X.env.scope scope own)
    (hg : ∀ (s : Shared) (H : Hp) (C : Addr) (cl : List (Str × Addr)) (fp : List Addr), DG (X.blk s H scope (compEnvC scope cl C X.env) fp) tg g us gt)
    (ht : ∀ (s : Shared) (H : Hp) (C : Addr) (cl : List (Str × Addr)) (fp : List Addr), ∃ tt, DCs (X.blk s H scope (compEnvC scope cl C X.env) fp) ifs tt ct)
    (he : ∀ (s : Shared) (H : Hp) (C : Addr) (cl : List (Str × Addr)) (fp : List Addr), ∃ te, DO (X.blk s H scope (compEnvC scope cl C X.env) fp) elt te et)
    (hsub : ∀ i ∈ us, i ∈ own.map (·.2)) (hc : X.calm = true) (hs : ∀ x, foldedSetIterable iter X.env x = pure x) :
    DO X (.ListComp elt [⟨tg, iter, ifs, 0⟩] scope pos) (tLc wi g (tStarB X.K ct) (tStar X.K et) (own.map (·.2))) (dComp ti gt ct et (own.map (·.2))) :=
  do_comp0 hN hi ok hg (fun s H C cl fp => (ht s H C cl fp).elim fun _ z => z.star) (fun s H C cl fp => (he s H C cl fp).elim fun _ z => z.star) hsub hc hs
theorem ds_setc (hN : X.N.Nodup) (hi : DI X tg iter wi ti) (ok : BlkOk X.N X.env.scope scope own)
    (hg : ∀ (s : Shared) (H : Hp) (C : Addr) (cl : List (Str × Addr)) (fp : List Addr), DG (X.blk s H scope (compEnvC scope cl C X.env) fp) tg g us gt)
    (ht : ∀ (s : Shared) (H : Hp) (C : Addr) (cl : List (Str × Addr)) (fp : List Addr), ∃ tt, DCs (X.blk s H scope (compEnvC scope cl C X.env) fp) ifs tt ct)
    (he : ∀ (s : Shared) (H : Hp) (C : Addr) (cl : List (Str × Addr)) (fp : List Addr), ∃ te, DO (X.blk s H scope (compEnvC scope cl C X.env) fp) elt te et)
    (hsw : swapsWith (.ListComp elt [⟨tg, iter, ifs, 0⟩] scope pos) (some (.Name y py)) spos.line X.env = pure true)
    (hy : X.N[i]? = some y := by rfl) (hyl : X.env.scope.names.lookup y = some .local := by rfl)
    (hsub : ∀ i ∈ us, i ∈ own.map (·.2)) (hc : X.calm = true) (hs : ∀ x, foldedSetIterable iter X.env x = pure x) :
    DSt X (.Assign [.Name y py] (.ListComp elt [⟨tg, iter, ifs, 0⟩] scope pos) spos) (tAsg (tLc wi g (tStarB X.K ct) (tStar X.K et) (own.map (·.2))) (gName i)) (mSet i (dComp ti gt ct et (own.map (·.2)))) :=
  ds_setc0 hN hi ok hg (fun s H C cl fp => (ht s H C cl fp).elim fun _ z => z.star) (fun s H C cl fp => (he s H C cl fp).elim fun _ z => z.star) hsw hy hyl hsub hc hs
end

/-! ### a def over data -/
@[simp] def retD : Hd → DS → (SD → Prop) → Prop
  | .tmp d, _, Q => Q (.val d)
  | .new s, _, Q => Q s
  | .slot i, ds, Q => match ds[i]? with
    | some (.val d) => Q (.val d)
    | some (.own xs) => Q (.own xs)
    | _ => False
@[simp] def enF (P : SD → Prop) : En := ⟨fun _ => P (.val .none), fun h ds => retD h ds P, fun _ => False, fun _ => False⟩
@[simp] def slots0 (n : Nat) (dl : List D) : DS := dl.map .val ++ List.replicate (n - dl.length) .no
section
variable {P : Program} {w : World} {K : PySem.W.Frag} {mg : Str → Option Value} {base : Heap}
theorem isA_rep {F : Ad} {H : Hp} (sa : seqAll F H) {vs : List V} {dl : List D} (h : IsA K (res F H) vs dl) (m : Nat) : Rep K F Ad.nil (vs.map some ++ List.replicate m none) H (dl.map .val ++ List.replicate m .no) (fun _ => Ad.nil) := by
  refine ⟨by simp [h.length], fun i s e => ?_, fun _ _ z => z.elim, fun _ _ z => z.elim, fun _ _ z => z.elim, fun _ _ _ z => z.elim, fun _ z => z.elim, sa, fun _ z => z.elim⟩
  by_cases hi : i < dl.length
  · rw [List.getElem?_append_left (by simpa using hi), List.getElem?_map, List.getElem?_eq_getElem hi] at e
    cases e
    obtain ⟨v, hv, iv⟩ := h.get (List.getElem?_eq_getElem hi)
    refine ⟨⟨v, ?_, iv⟩, fun _ z => z⟩
    rw [List.getElem?_append_left (by rw [List.length_map, h.length]; exact hi), List.getElem?_map, hv]
    rfl
  · rw [List.getElem?_append_right (by simpa using hi), List.getElem?_replicate] at e
    split at e
    · cases e; exact fun _ z => z
    · cases e
theorem dfun {x qual : Str} {st : Stmt} {f : Addr} {fd : FuncData} {N ps : List Str} {k : Nat} {g : DF} {tb : DM} (F : Fun K x qual st f fd) (S : FnScope N ps (defScope st))
    (hd : ∀ (cdv : Value) (A : Around) (outer : List Env) (s : Shared) (H : Hp) (E : XK), Room k (A.deeper (envOfC qual (defScope st) s.heap.objs.size f cdv)) → ∃ ts, DSs (cxOf CX0 P w K mg base N qual (defScope st) f cdv A outer s H E).nox (defBody st) ts tb)
    (hr : ∀ dl Q, dl.length = ps.length → g dl Q → tb (enF Q) (slots0 N.length dl)) : FnOk P w K mg base CX0 (k + 1) f fd ps (spP K ps.length g) := by
  refine F.ok S (fun vs H Q E h => h.1) (fun cdv A outer s H vs Q E hroom h => ?_)
  obtain ⟨hn, F0, dl, ia, sa, W, hg, hk⟩ := h
  obtain ⟨ts, b⟩ := hd cdv A outer s H E hroom
  refine ⟨ts, b.ps, ?_⟩
  have hl : dl.length = ps.length := by rw [← ia.length]; exact hn
  have r := isA_rep sa ia (N.length - vs.length)
  have e1 : (dl.map .val ++ List.replicate (N.length - vs.length) .no : DS) = slots0 N.length dl := by unfold slots0; rw [ia.length]
  rw [e1] at r
  have r : Rep K F0 Ad.nil (start N vs) H (slots0 N.length dl) (fun _ => Ad.nil) := r
  refine b.ok F0 _ H _ _ _ _ r (hr dl W hl hg) ⟨fun σ' H' ds' F' fp' e r' g' => ?_, fun h ds' v σ' H' F' fp' q e p => ?_, fun _ _ _ _ _ e => e.elim, fun _ _ _ _ _ e => e.elim⟩
  · exact hk _ e H' .non F' Ad.nil g' r'.fd (fun _ z => z.elim) ⟨⟨_, rfl, .non⟩, fun _ z => z⟩
  · cases h with
    | tmp d => exact hk _ e H' v F' Ad.nil p.g p.rep.fd (fun _ z => z.elim) ⟨⟨_, rfl, p.r⟩, fun _ z => z⟩
    | new s => exact hk _ e H' v F' q p.g p.rep.fd (fun a z => ⟨p.rep.tF a (.inr z), p.rep.td a (.inr z)⟩) p.r
    | slot i =>
      have e : retD (.slot i) ds' W := e
      have hv : σ'[i]? = some (some v) := p.r
      cases hs : ds'[i]? with
      | none => simp [retD, hs] at e
      | some s =>
        have z := p.rep.slot i s hs
        cases s with
        | val d =>
          simp [retD, hs] at e
          obtain ⟨⟨v', e1, i1⟩, _⟩ := z
          rw [hv] at e1; cases e1
          exact hk _ e H' v F' Ad.nil p.g p.rep.fd (fun _ z => z.elim) ⟨⟨_, rfl, i1⟩, fun _ z => z⟩
        | own xs =>
          simp [retD, hs] at e
          have z' := z
          obtain ⟨a, vs', e1, e2, e3, e4⟩ := z'
          rw [hv] at z
          exact hk _ e H' v F' (fp' i) p.g p.rep.fd (fun a z => ⟨p.rep.fF i a z, p.rep.fdom z⟩) z
        | no => simp [retD, hs] at e
        | dic _ => simp [retD, hs] at e
        | wd _ => simp [retD, hs] at e
end
end DL

/-! DL: defs whose first argument is a thing that changes; calls by keywords. -/
namespace DL
open PySem PySem.Spec PyProof.Rows L2

abbrev DFW := Wd → List D → (SD → Wd → Prop) → Prop
def spW (K : PySem.W.Frag) (n : Nat) (g : DFW) : Sp := fun vs H Q _ => vs.length = n + 1 ∧ ∃ F w ws dl, vs = w.val :: ws ∧ IsA K (res F H) ws dl ∧ seqAll F H ∧ w.ok (res F H) H ∧ (∀ a, w.fp a → ¬ F a) ∧
  ∃ P : SD → Wd → Prop, g w dl P ∧ ∀ r w', P r w' → ∀ (H' : Hp) (v : V) (F' q : Ad), Grow F H F' H' → seqAll F' H' → (∀ a, q a → ¬ F' a ∧ ¬ w'.fp a ∧ ∃ o, H' a = some o ∧ bigO o) → w'.val = w.val → w'.ok (res F' H') H' → (∀ a, w'.fp a → ¬ F' a) →
    SlotOk K (res F' H') H' (some (some v)) q r → Q v H'
@[simp] def wdAt (ds : DS) (i : Nat) (P : Wd → Prop) : Prop := match ds[i]? with
  | some (.wd w) => P w
  | _ => False
theorem wdAt_inv {ds : DS} {i : Nat} {P : Wd → Prop} (h : wdAt ds i P) : ∃ w, ds[i]? = some (.wd w) ∧ P w := by
  cases hs : ds[i]? with
  | none => simp [wdAt, hs] at h
  | some s =>
    cases s with
    | wd w => simp [wdAt, hs] at h; exact ⟨w, rfl, h⟩
    | no => simp [wdAt, hs] at h
    | val _ => simp [wdAt, hs] at h
    | dic _ => simp [wdAt, hs] at h
    | own _ => simp [wdAt, hs] at h
/-- f(x, ..), x the thing at slot j -/
@[simp] def dCallW (j : Nat) (g : DFW) (t : DTA) : DT := fun ds Q => wdAt ds j fun _ => t ds fun hs ds1 => takes hs ds1 fun dl ds2 => wdAt ds2 j fun w => g w dl fun r w' => w'.val = w.val ∧ Q (hdOf r) (ds2.set j (.wd w'))
section
variable {X : Cx} {K : PySem.W.Frag} {F T q : Ad} {σ : Sl} {H : Hp} {ds : DS} {fp : Nat → Ad} {e : Expr} {es : List Expr} {ta tk : TA} {t tkD : DTA} {n k j : Nat} {g : DFW} {f : Addr} {fd : FuncData} {ps ks : List Str} {x y : Str} {p pos py : Pos}
open Classical in
theorem callW_core {w : Wd} {vs : List V} {dl : List D} {Q : Hd → Wd → Prop} {R : VK} {E : XK} (r2 : Rep K F T σ H ds fp) (hj : ds[j]? = some (.wd w)) (ia : IsA K (res F H) vs dl) (hn : vs.length = n) (h : g w dl fun r w' => w'.val = w.val ∧ Q (hdOf r) w')
    (k : ∀ h w' v H' F' q fp', Q h w' → Pst K F T H σ v h (ds.set j (.wd w')) F' H' fp' q → R v H') : frm (spW K n g) (w.val :: vs) H R E := by
  obtain ⟨jv, jf, jo⟩ := r2.slot j _ hj
  have hlt : j < ds.length := (List.getElem?_eq_some_iff.mp hj).1
  let G : Ad := fun a => T a ∨ ∃ i, i ≠ j ∧ fp i a
  have hG : ∀ a, G a → ∃ o, H a = some o ∧ bigO o := fun a z => by
    rcases z with z | ⟨i, _, z⟩
    · exact r2.td a z
    · exact r2.fdom z
  have nF : ∀ a, F a → ¬ hidden G H a := fun a f z => by
    rcases z with (z | ⟨i, _, z⟩) | ⟨y, _, z⟩
    · exact r2.tF a z f
    · exact r2.fF i a z f
    · obtain ⟨o, e, b⟩ := r2.fd a f
      rw [z] at e; cases e; exact b
  have nW : ∀ a, w.fp a → ¬ hidden G H a := fun a f z => by
    have fj : fp j a := (jf a).mpr f
    rcases z with (z | ⟨i, ni, z⟩) | ⟨y, _, z⟩
    · exact r2.fT j a fj z
    · exact ni (r2.sep i j a z fj)
    · obtain ⟨o, e, b⟩ := w.dom jo f
      rw [z] at e; cases e; exact b
  have sm : Same (res F H) (res F (hide G H)) := fun a o e => by
    obtain ⟨f, e⟩ := res_some e
    rw [res_in f, hide_out (nF a f)]; exact e
  refine ⟨G, hG, by rw [List.length_cons, hn], F, w, vs, dl, rfl, ia.mono sm, fun a f => by rw [hide_out (nF a f)]; exact r2.fd a f, w.mono sm (fun a f => hide_out (nW a f)) jo, fun a f => r2.fF j a ((jf a).mpr f), _, h, fun r w' hr H' v F' q g' sa qa ev wo wF so hh => ?_⟩
  have nh' : ∀ a o, H' a = some o → ¬ hidden G H a := fun a o e z => by rw [hh a z] at e; cases e
  have nF' : ∀ a, F' a → ¬ hidden G H a := fun a f => by
    obtain ⟨o, e, _⟩ := sa a f
    exact nh' a o e
  have nq : ∀ a, q a → ¬ hidden G H a := fun a f => by
    obtain ⟨_, _, o, e, _⟩ := qa a f
    exact nh' a o e
  have nW' : ∀ a, w'.fp a → ¬ hidden G H a := fun a f => by
    obtain ⟨o, e, _⟩ := w'.dom wo f
    exact nh' a o e
  have GG : Grow F H F' (back G H H') := fun a f => ⟨(g' a f).1, by
    rw [back_out (nF a f), (g' a f).2, hide_out (nF a f)]⟩
  have sm' : Same (res F' H') (res F' (back G H H')) := fun a o e => by
    obtain ⟨f, e⟩ := res_some e
    rw [res_in f, back_out (nF' a f)]; exact e
  have so' : SlotOk K (res F' (back G H H')) (back G H H') (some (some v)) q r := so.mono sm' fun a z => back_out (nq a z)
  refine k (hdOf r) w' v _ F' q (fun i => if i = j then w'.fp else fp i) hr.2 ⟨⟨by rw [List.length_set]; exact r2.len, fun i s e => ?_, fun i a z => ?_, fun i a z f => ?_, fun i a z y => ?_, fun i i' a z z' => ?_, fun a z => ?_, fun a f => ?_, fun a z => ?_⟩, fun a z y => nq a z (.inl (.inl y)), GG, fun a z => back_in (.inl (.inl z)), ?_⟩
  · by_cases hi : i = j
    · subst hi
      rw [List.getElem?_set_self hlt] at e; cases e
      rw [if_pos rfl]
      exact ⟨by rw [jv, hr.1], fun _ => Iff.rfl, w'.mono sm' (fun a z => back_out (nW' a z)) wo⟩
    · rw [List.getElem?_set_ne (Ne.symm hi)] at e
      rw [if_neg hi]
      exact (r2.slot i s e).mono GG.same fun a z => back_in (.inl (.inr ⟨i, hi, z⟩))
  · rw [List.length_set]
    by_cases hi : i = j
    · rw [hi]; exact hlt
    · rw [if_neg hi] at z; exact r2.out i a z
  · by_cases hi : i = j
    · rw [if_pos hi] at z; exact wF a z f
    · rw [if_neg hi] at z; exact nF' a f (.inl (.inr ⟨i, hi, z⟩))
  · by_cases hi : i = j
    · rw [if_pos hi] at z
      rcases y with y | y
      · exact nW' a z (.inl (.inl y))
      · exact (qa a y).2.1 z
    · rw [if_neg hi] at z
      rcases y with y | y
      · exact r2.fT i a z y
      · exact nq a y (.inl (.inr ⟨i, hi, z⟩))
  · by_cases hi : i = j
    · by_cases hi' : i' = j
      · rw [hi, hi']
      · rw [if_pos hi] at z; rw [if_neg hi'] at z'
        exact absurd (.inl (.inr ⟨i', hi', z'⟩)) (nW' a z)
    · by_cases hi' : i' = j
      · rw [if_neg hi] at z; rw [if_pos hi'] at z'
        exact absurd (.inl (.inr ⟨i, hi, z⟩)) (nW' a z')
      · rw [if_neg hi] at z; rw [if_neg hi'] at z'
        exact r2.sep i i' a z z'
  · rcases z with z | z
    · exact fun f => nF' a f (.inl (.inl z))
    · exact (qa a z).1
  · obtain ⟨o, e, b⟩ := sa a f
    exact ⟨o, by rw [back_out (nF' a f)]; exact e, b⟩
  · rcases z with z | z
    · rw [back_in (.inl (.inl z))]; exact r2.td a z
    · obtain ⟨_, _, o, e, b⟩ := qa a z
      exact ⟨o, by rw [back_out (nq a z)]; exact e, b⟩
  · cases r with
    | val d =>
      obtain ⟨⟨v', e, i⟩, _⟩ := so'
      cases e
      exact i
    | no => exact so'
    | own _ => exact so'
    | dic _ => exact so'
    | wd _ => exact so'
theorem eok_callW (ha : AOk K n ta t) : EOk K (tCall (frm (spW K n g)) [] E0 (tCons (tVar j) ta)) (dCallW j g t) := fun F T σ H ds fp Q R rp e k => by
  obtain ⟨w0, hj, e⟩ := wdAt_inv e
  obtain ⟨jv, _, _⟩ := rp.slot j _ hj
  refine ⟨w0.val, jv, ?_⟩
  refine ha F T σ H ds fp _ _ rp e fun hs ds1 vs H1 F1 fp1 q1 k1 p1 l1 => ?_
  obtain ⟨dl, ds2, F2, fp2, e2, r2, g2, i2⟩ := takes_ok p1.r .refl p1.rep p1.qT k1
  obtain ⟨w, hj2, e2⟩ := wdAt_inv e2
  obtain ⟨jv2, _, _⟩ := r2.slot j _ hj2
  rw [jv] at jv2
  have ev : w0.val = w.val := Option.some.inj (Option.some.inj jv2)
  rw [List.append_nil, ev]
  exact callW_core (Q := fun h w' => Q h (ds2.set j (.wd w'))) r2 hj2 i2 l1 e2 fun h w' v H' F' q fp' qh p => k _ _ _ _ _ _ _ qh (p.pre (p1.g.trans g2) p1.t)
theorem do_callW (F : FnOk X.prog X.w X.K X.mg X.base CX0 k f fd ps (spW X.K n g)) (hr : Room k X.A) (hg : Gl X x) (hm : X.mg x = some (.ref f)) (hk : PySem.W.keepIn X.K (.ref f) = true) (hb : Binds X.K fd ps [])
    (ha : DA X es ta t) (hn : es.length = n := by rfl) (hN : X.N[j]? = some y := by rfl) (hv : Vis X.env.scope y := by first | exact Or.inl rfl | exact Or.inr (Or.inl rfl) | exact Or.inr (Or.inr rfl)) (hd : (y == ("__debug__" : Str)) = false := by decide)
    (hcd : (y == ("__classdict__" : Str)) = false := by decide)
    (hdb : (x == ("__debug__" : Str)) = false := by decide) (he : starEach (.Name y py :: es) X.env = (false, eval (.Name y py) X.env) :: starEach es X.env := by rfl) (hpl : (backTo pos (starEach es X.env)).any (·.1) = false := by rfl) :
    DO X (.Call (.Name x p) (.Name y py :: es) [] pos) (tCall (frm (spW X.K n g)) [] E0 (tCons (tVar j) ta)) (dCallW j g t) :=
  ⟨pe_call (frame_fn F) hr hg hm hk hb .nil pass0 (pa_cons (pe_var hN hv hd hcd) ha.pa he) hdb he hpl, eok_callW (hn ▸ ha.ok)⟩
end

/-! ### a def whose first parameter is such a thing -/
@[simp] def enW (w : Wd) (P : SD → Wd → Prop) : En := ⟨fun ds => wdAt ds 0 fun w' => w'.val = w.val ∧ P (.val .none) w', fun h ds => wdAt ds 0 fun w' => w'.val = w.val ∧ retD h ds fun r => P r w', fun _ => False, fun _ => False⟩
@[simp] def slotsW (n : Nat) (w : Wd) (dl : List D) : DS := .wd w :: (dl.map .val ++ List.replicate (n - (dl.length + 1)) .no)
section
variable {P : Program} {w : World} {K : PySem.W.Frag} {mg : Str → Option Value} {base : Heap}
open Classical in
theorem isA_repW {F : Ad} {H : Hp} (sa : seqAll F H) {vs : List V} {dl : List D} {wd : Wd} (h : IsA K (res F H) vs dl) (ho : wd.ok (res F H) H) (hf : ∀ a, wd.fp a → ¬ F a) (m : Nat) :
    Rep K F Ad.nil (some wd.val :: (vs.map some ++ List.replicate m none)) H (.wd wd :: (dl.map .val ++ List.replicate m .no)) (fun i => if i = 0 then wd.fp else Ad.nil) := by
  have r := isA_rep sa h m
  refine ⟨by simp [h.length], fun i s e => ?_, fun i a z => ?_, fun i a z => ?_, fun _ _ _ z => z.elim, fun i j a z z' => ?_, fun _ z => z.elim, sa, fun _ z => z.elim⟩
  · cases i with
    | zero =>
      cases e
      rw [if_pos rfl]
      exact ⟨rfl, fun _ => Iff.rfl, ho⟩
    | succ i =>
      rw [if_neg (Nat.succ_ne_zero i)]
      exact r.slot i s e
  · cases i with
    | zero => simp
    | succ i => rw [if_neg (Nat.succ_ne_zero i)] at z; exact z.elim
  · cases i with
    | zero => rw [if_pos rfl] at z; exact hf a z
    | succ i => rw [if_neg (Nat.succ_ne_zero i)] at z; exact z.elim
  · cases i with
    | zero =>
      cases j with
      | zero => rfl
      | succ j => rw [if_neg (Nat.succ_ne_zero j)] at z'; exact z'.elim
    | succ i => rw [if_neg (Nat.succ_ne_zero i)] at z; exact z.elim
theorem dfunW {x qual : Str} {st : Stmt} {f : Addr} {fd : FuncData} {N ps : List Str} {k n : Nat} {g : DFW} {tb : DM} (F : Fun K x qual st f fd) (S : FnScope N ps (defScope st)) (hps : ps.length = n + 1)
    (hd : ∀ (cdv : Value) (A : Around) (outer : List Env) (s : Shared) (H : Hp) (E : XK), Room k (A.deeper (envOfC qual (defScope st) s.heap.objs.size f cdv)) → ∃ ts, DSs (cxOf CX0 P w K mg base N qual (defScope st) f cdv A outer s H E).nox (defBody st) ts tb)
    (hr : ∀ w dl Q, dl.length = n → g w dl Q → tb (enW w Q) (slotsW N.length w dl)) : FnOk P w K mg base CX0 (k + 1) f fd ps (spW K n g) := by
  refine F.ok S (fun vs H Q E h => by rw [hps]; exact h.1) (fun cdv A outer s H vs Q E hroom h => ?_)
  obtain ⟨hn, F0, wd, ws, dl, rfl, ia, sa, wo, wF, W, hg, hk⟩ := h
  obtain ⟨ts, b⟩ := hd cdv A outer s H E hroom
  refine ⟨ts, b.ps, ?_⟩
  have hl : dl.length = n := by rw [← ia.length]; exact Nat.succ.inj hn
  have r := isA_repW sa ia wo wF (N.length - (ws.length + 1))
  have e1 : (.wd wd :: (dl.map .val ++ List.replicate (N.length - (ws.length + 1)) .no) : DS) = slotsW N.length wd dl := by unfold slotsW; rw [ia.length]
  rw [e1] at r
  have r : Rep K F0 Ad.nil (start N (wd.val :: ws)) H (slotsW N.length wd dl) _ := r
  refine b.ok F0 _ H _ _ _ _ r (hr wd dl W hl hg) ⟨fun σ' H' ds' F' fp' e r' g' => ?_, fun h ds' v σ' H' F' fp' q e p => ?_, fun _ _ _ _ _ e => e.elim, fun _ _ _ _ _ e => e.elim⟩
  · obtain ⟨w', h0, ev, e⟩ := wdAt_inv e
    obtain ⟨_, jf, jo⟩ := r'.slot 0 _ h0
    exact hk _ _ e H' .non F' Ad.nil g' r'.fd (fun _ z => z.elim) ev jo (fun a z => r'.fF 0 a ((jf a).mpr z)) ⟨⟨_, rfl, .non⟩, fun _ z => z⟩
  · obtain ⟨w', h0, ev, e⟩ := wdAt_inv e
    obtain ⟨_, jf, jo⟩ := p.rep.slot 0 _ h0
    have jF : ∀ a, w'.fp a → ¬ F' a := fun a z => p.rep.fF 0 a ((jf a).mpr z)
    cases h with
    | tmp d => exact hk _ _ e H' v F' Ad.nil p.g p.rep.fd (fun _ z => z.elim) ev jo jF ⟨⟨_, rfl, p.r⟩, fun _ z => z⟩
    | new s => exact hk _ _ e H' v F' q p.g p.rep.fd (fun a z => ⟨p.rep.tF a (.inr z), fun y => p.rep.fT 0 a ((jf a).mpr y) (.inr z), p.rep.td a (.inr z)⟩) ev jo jF p.r
    | slot i =>
      have hv : σ'[i]? = some (some v) := p.r
      cases hs : ds'[i]? with
      | none => simp [retD, hs] at e
      | some s =>
        have z := p.rep.slot i s hs
        cases s with
        | val d =>
          simp [retD, hs] at e
          obtain ⟨⟨v', e1, i1⟩, _⟩ := z
          rw [hv] at e1; cases e1
          exact hk _ _ e H' v F' Ad.nil p.g p.rep.fd (fun _ z => z.elim) ev jo jF ⟨⟨_, rfl, i1⟩, fun _ z => z⟩
        | own xs =>
          simp [retD, hs] at e
          rw [hv] at z
          have hi : i ≠ 0 := fun z0 => by subst z0; rw [h0] at hs; cases hs
          exact hk _ _ e H' v F' (fp' i) p.g p.rep.fd (fun a z => ⟨p.rep.fF i a z, fun y => hi (p.rep.sep i 0 a z ((jf a).mpr y)), p.rep.fdom z⟩) ev jo jF z
        | no => simp [retD, hs] at e
        | dic _ => simp [retD, hs] at e
        | wd _ => simp [retD, hs] at e
end

/-! ### calls by keywords alone -/
structure DK (X : Cx) (kws : List Keyword) (ta : TA) (t : DTA) : Prop where
  pk : PK X kws ta
  ok : AOk X.K kws.length ta t
theorem dk_nil {X : Cx} : DK X [] tNil aNil := ⟨pk_nil, aok_nil⟩
theorem dk_cons {X : Cx} {e : Expr} {kws : List Keyword} {te : TE} {ta : TA} {t : DT} {u : DTA} {nm : Option Str} {kpos : Pos} (a : DO X e te t) (b : DK X kws ta u) : DK X (⟨nm, e, kpos⟩ :: kws) (tCons te ta) (aCons t u) := ⟨pk_cons a.pe b.pk, aok_cons a.ok b.ok⟩
/-- how the keywords' values come to the parameters: a permutation of them -/
structure KPerm (K : PySem.W.Frag) (fd : FuncData) (ps ks : List Str) (ix : List Nat) : Prop where
  to : ∀ (s : Shared) (ws : List Value), K.In s.heap → ws.length = ks.length → BindsTo s fd ⟨[], ks.zip ws⟩ (ps.zip (ix.filterMap fun i => ws[i]?))
  len : ix.length = ps.length
  lt : ∀ i ∈ ix, i < ks.length
@[simp] def pick {α : Type} (ix : List Nat) (l : List α) : List α := ix.filterMap fun i => l[i]?
@[simp] def dCallK (ix : List Nat) (g : DF) (t : DTA) : DT := fun ds Q => t ds fun hs ds1 => takes hs ds1 fun dl ds2 => g (pick ix dl) fun r => Q (hdOf r) ds2
theorem pick_len {α : Type} {ix : List Nat} {l : List α} (h : ∀ i ∈ ix, i < l.length) : (pick ix l).length = ix.length := by
  induction ix with
  | nil => rfl
  | cons i r ih =>
    unfold pick
    rw [List.filterMap_cons, List.getElem?_eq_getElem (h i List.mem_cons_self), List.length_cons]
    exact congrArg (· + 1) (ih fun j hj => h j (List.mem_cons_of_mem _ hj))
theorem pick_is {K : PySem.W.Frag} {R : Hp} {vs : List V} {dl : List D} (h : IsA K R vs dl) : ∀ {ix : List Nat}, (∀ i ∈ ix, i < dl.length) → IsA K R (pick ix vs) (pick ix dl)
  | [], _ => .nil
  | i :: r, hi => by
    have h1 := List.getElem?_eq_getElem (l := dl) (hi i List.mem_cons_self)
    obtain ⟨v, hv, iv⟩ := h.get h1
    unfold pick
    rw [List.filterMap_cons, List.filterMap_cons, h1, hv]
    exact .cons iv (pick_is h fun j hj => hi j (List.mem_cons_of_mem _ hj))
theorem pick_vals {vs : List V} {us : List Value} (h : Vals vs us) : ∀ {ix : List Nat}, (∀ i ∈ ix, i < us.length) → Vals (pick ix vs) (pick ix us)
  | [], _ => .nil
  | i :: r, hi => by
    have hl := h.length
    have h1 := List.getElem?_eq_getElem (l := vs) (i := i) (by rw [hl]; exact hi i List.mem_cons_self)
    obtain ⟨u, hu, ru⟩ := h.get h1
    unfold pick
    rw [List.filterMap_cons, List.filterMap_cons, h1, hu]
    exact .cons ru (pick_vals h fun j hj => hi j (List.mem_cons_of_mem _ hj))
section
variable {X : Cx} {K : PySem.W.Frag} {ta : TA} {t : DTA} {n k : Nat} {g : DF} {f : Addr} {fd : FuncData} {ps ks : List Str} {x : Str} {p pos : Pos} {kws : List Keyword} {ix : List Nat}
def tCallKw (sp : Sp) (ix : List Nat) (n : Nat) (ta : TA) : TE := fun σ H Q => ta σ H fun zs H2 => zs.length = n ∧ sp (pick ix zs) H2 Q E0
theorem do_callK (F : FnOk X.prog X.w X.K X.mg X.base CX0 k f fd ps (spP X.K n g)) (hr : Room k X.A) (hg : Gl X x) (hm : X.mg x = some (.ref f)) (hk : PySem.W.keepIn X.K (.ref f) = true) (hb : KPerm X.K fd ps ks ix) (hn : ps.length = n)
    (ha : DK X kws ta t) (hks : (backToKw pos (keywordEach kws X.env)).filterMap (·.1) = ks := by rfl) (hkl : kws.length = ks.length := by rfl) (hall : (backToKw pos (keywordEach kws X.env)).all (·.1.isSome) = true := by rfl)
    (hdb : (x == ("__debug__" : Str)) = false := by decide)
    (hpl : ((backTo pos (starEach [] X.env)).any (·.1) || (backToKw pos (keywordEach kws X.env)).any (·.1.isNone)) = false := by rfl) :
    DO X (.Call (.Name x p) [] kws pos) (tCallKw (frm (spP X.K n g)) ix ks.length ta) (dCallK ix g t) := ⟨by
  refine ⟨fun pins s σ H Q I h => ?_⟩
  refine wpAny_Call_Name_kw (ld_glob I hg hm ?_ hdb)
  refine PySem.W.callWith_KW0 (h₀ := X.base) I.ok.mod.kin hk hall (thn (ha.pk.run pos pins s σ H _ I h) fun ws s1 ⟨zs, H1, I1, rz, hz, q⟩ => ⟨I1.kIn, ?_⟩) hpl
  rw [hks]
  have hl : ws.length = ks.length := by rw [← rz.length]; exact hz
  have lt : ∀ i ∈ ix, i < ws.length := fun i hi => by rw [hl]; exact hb.lt i hi
  refine wpAny_call (codeAny_mono ((frame_fn F).run X.A X.stack s1 H1 ⟨[], ks.zip ws⟩ (pick ix ws) (pick ix zs) Q E0 hr I1.env0 (hb.to s1 ws I1.kIn hl) (pick_vals rz lt) q) fun r s' hq => ?_)
  cases r with
  | error e => exact False.elim hq
  | ok fl =>
    cases fl with
    | ret u => exact I1.after hq
    | next => exact False.elim hq
    | brk => exact False.elim hq
    | cont => exact False.elim hq, fun F' T σ H ds fp Q R rp e k => by
  refine ha.ok F' T σ H ds fp _ _ rp e fun hs ds1 vs H1 F1 fp1 q1 k1 p1 l1 => ?_
  obtain ⟨dl, ds2, F2, fp2, e2, r2, g2, i2⟩ := takes_ok p1.r .refl p1.rep p1.qT k1
  have lt : ∀ i ∈ ix, i < dl.length := fun i hi => by rw [← i2.length, l1, hkl]; exact hb.lt i hi
  refine ⟨l1.trans hkl, call_core r2 (pick_is i2 lt) ?_ e2 fun h v H' F' q qh p => k _ _ _ _ _ _ _ qh (p.pre (p1.g.trans g2) p1.t)⟩
  rw [pick_len (by rw [i2.length]; exact lt), hb.len, hn]⟩
end
end DL

/-! DL: how loops are read. -/
namespace DL
open PySem PySem.Spec PyProof.Rows L2

theorem loopD_ind {g : DGT} {b : DM} {E : En} (Inv : List D → DS → Prop) (h0 : ∀ ds, Inv [] ds → E.nx ds)
    (hs : ∀ d r ds (L : DS → Prop), (∀ ds', Inv r ds' → L ds') → Inv (d :: r) ds → g d ds fun ds1 => b { E with nx := L, ct := L, bk := E.nx } ds1) : ∀ items ds, Inv items ds → loopD g b items E ds
  | [], ds, h => h0 ds h
  | d :: r, ds, h => hs d r ds (loopD g b r E) (fun ds' h' => loopD_ind Inv h0 hs r ds' h') h
theorem compD_ind {g : DGT} {c : DTT} {t : DT} {vs : List Nat} {P : List D → DS → Prop} (Inv : List D → List D → DS → Prop) (h0 : ∀ acc ds, Inv [] acc ds → P acc ds)
    (hs : ∀ d r acc ds (L : List D → DS → Prop), (∀ acc' ds', Inv r acc' ds' → L acc' ds') → Inv (d :: r) acc ds →
      g d ds fun ds1 => c ds1 fun b ds2 => if b = true then t ds2 fun h ds3 => take1 h ds3 fun x ds4 => L (acc ++ [x]) (wipeD ds4 vs) else L acc (wipeD ds2 vs)) : ∀ items acc ds, Inv items acc ds → compD g c t vs items acc ds P
  | [], acc, ds, h => h0 acc ds h
  | d :: r, acc, ds, h => hs d r acc ds (fun acc' ds' => compD g c t vs r acc' ds' P) (fun acc' ds' h' => compD_ind Inv h0 hs r acc' ds' h') h
theorem while_ind {c : DTT} {b : DM} {E : En} {ds : DS} (Inv : DS → Prop) (μ : DS → Nat) (hs : ∀ ds (L : DS → Prop), (∀ ds', Inv ds' → μ ds' < μ ds → L ds') → Inv ds →
      c ds fun k ds1 => if k = true then b { E with nx := L, ct := L, bk := E.nx } ds1 else E.nx ds1) (h : Inv ds) : mWhile c b E ds := by
  have key : ∀ n ds, Inv ds → μ ds < n → whileD c b n E ds := by
    intro n
    induction n with
    | zero => intro ds _ hn; omega
    | succ n ih => intro ds hi hn; exact hs ds (whileD c b n E) (fun ds' h' l => ih ds' h' (by omega)) hi
  exact ⟨μ ds + 1, key _ ds h (Nat.lt_succ_self _)⟩
/-- a comprehension whose element is a function of the item, and which leaves the slots as they are -/
theorem compD_map {g : DGT} {t : DT} {vs : List Nat} {P : List D → DS → Prop} (f : D → D) (ds : DS) (items : List D) (acc : List D)
    (hs : ∀ d ∈ items, ∀ (L : D → DS → Prop), L (f d) ds → g d ds fun ds2 => t ds2 fun h ds3 => take1 h ds3 fun x ds4 => L x (wipeD ds4 vs)) (hp : P (acc ++ items.map f) ds) : compD g cYes t vs items acc ds P := by
  refine compD_ind (fun r acc' ds' => ds' = ds ∧ acc' ++ r.map f = acc ++ items.map f ∧ ∀ d ∈ r, d ∈ items) ?_ ?_ items acc ds ⟨rfl, rfl, fun _ h => h⟩
  · rintro acc' ds' ⟨rfl, e, _⟩
    rw [List.map_nil, List.append_nil] at e
    rw [e]; exact hp
  · rintro d r acc' ds' L hL ⟨rfl, e, hm⟩
    refine hs d (hm d List.mem_cons_self) (fun x ds4 => L (acc' ++ [x]) ds4) (hL _ _ ⟨rfl, ?_, fun z hz => hm z (List.mem_cons_of_mem _ hz)⟩)
    rw [← e, List.map_cons, List.append_assoc]; rfl
theorem isT_int (d : D) : isT "int" d = match d with | .int _ => true | .bool _ => true | _ => false := by cases d <;> (simp only [isT, tyD]; decide +kernel)
theorem isT_bool (d : D) : isT "bool" d = match d with | .bool _ => true | _ => false := by cases d <;> (simp only [isT, tyD]; decide +kernel)
theorem isT_str (d : D) : isT "str" d = match d with | .str _ => true | _ => false := by cases d <;> (simp only [isT, tyD]; decide +kernel)
theorem isT_tuple (d : D) : isT "tuple" d = match d with | .tuple _ => true | _ => false := by cases d <;> (simp only [isT, tyD]; decide +kernel)
theorem isT_list (d : D) : isT "list" d = match d with | .list _ => true | _ => false := by cases d <;> (simp only [isT, tyD]; decide +kernel)
@[simp] theorem atI_0 {α : Type} (a : α) (l : List α) : atI (a :: l) 0 = some a := by
  have := atI_nat (xs := a :: l) (j := 0) (v := a) rfl
  exact this
@[simp] theorem atI_1 {α : Type} (a b : α) (l : List α) : atI (a :: b :: l) 1 = some b := atI_nat (xs := a :: b :: l) (j := 1) (v := b) rfl
@[simp] theorem atI_2 {α : Type} (a b c : α) (l : List α) : atI (a :: b :: c :: l) 2 = some c := atI_nat (xs := a :: b :: c :: l) (j := 2) (v := c) rfl
@[simp] theorem atI_3 {α : Type} (a b c d : α) (l : List α) : atI (a :: b :: c :: d :: l) 3 = some d := atI_nat (xs := a :: b :: c :: d :: l) (j := 3) (v := d) rfl
end DL

/-! DL: the pot of draws: a list of cells and two counters. -/
namespace DL
open PySem PySem.Spec PyProof.Rows L2

def potB (p c : Addr) (b : Nat) : Wd where
  val := .ref p
  fp := fun a => a = p ∨ a = c
  ok := fun _ H => p ≠ c ∧ ∃ (cells : List Int) (i j : Int) (sh : V), H p = some (.lst [.ref c, .int i, .int j, sh]) ∧ H c = some (.lst (cells.map V.int)) ∧ (∀ x ∈ cells, 0 ≤ x) ∧ cells.length ≤ 63 ∧ 0 ≤ i ∧ i ≤ j ∧ j ≤ b
  mono := fun _ k ⟨h0, cells, i, j, sh, h1, h2, h⟩ => ⟨h0, cells, i, j, sh, by rw [k _ (.inl rfl)]; exact h1, by rw [k _ (.inr rfl)]; exact h2, h⟩
  dom := fun ⟨_, cells, i, j, sh, h1, h2, _⟩ f => by
    rcases f with rfl | rfl
    · exact ⟨_, h1, trivial⟩
    · exact ⟨_, h2, trivial⟩
def gDraw : DFW := fun w dl P => ∃ p c b many, w = potB p c b ∧ dl = [.int many] ∧ 1 ≤ many ∧ many < 2 ^ 64 ∧ b < 2 ^ 60 ∧ ∀ r : Int, 0 ≤ r → r < many → P (.val (.int r)) (potB p c (b + 1))
def gPot : DF := fun dl P => ∃ (ns : List Int) (s : D), dl = [.list (ns.map .int), s] ∧ ns.length ≤ 63 ∧ ∀ p c, P (.wd (potB p c 0))

/-! a list whose first item is a new list of ints: a pot -/
def dPot (t : DT) (u : DTA) : DT := fun ds Q => t ds fun h1 ds1 => u ds1 fun hs ds2 => match h1 with
  | .new (.own xs) => (∃ cells : List Int, xs = cells.map .int ∧ (∀ x ∈ cells, 0 ≤ x) ∧ cells.length ≤ 63) ∧ takes hs ds2 fun dl ds3 => (∃ s, dl = [.int 0, .int 0, s]) ∧ ∀ p c, Q (.new (.wd (potB p c 0))) ds3
  | _ => False
section
variable {X : Cx} {K : PySem.W.Frag} {e : Expr} {es : List Expr} {te : TE} {ta : TA} {t : DT} {u : DTA} {pos : Pos}
theorem do_pot (a : DO X e te t) (b : DA X es ta u) (hn : es.length = 3 := by rfl) (hs : starEach (e :: es) X.env = (false, eval e X.env) :: starEach es X.env := by rfl) : DO X (.List (e :: es) pos) (tLst (tCons te ta)) (dPot t u) :=
  ⟨pe_lst (pa_cons a.pe b.pa hs), fun F T σ H ds fp Q R rp h k => by
    refine a.ok F T σ H ds fp _ _ rp h fun h1 ds1 v1 H1 F1 fp1 q1 k1 p1 => ?_
    refine b.ok F1 (T.or q1) σ H1 ds1 fp1 _ _ p1.rep k1 fun hs ds2 vs H2 F2 fp2 q2 k2 p2 l2 => ?_
    refine ⟨by rw [List.length_cons, l2, hn]; decide, fun p hp => ?_⟩
    cases h1 with
    | tmp _ => exact False.elim k2
    | slot _ => exact False.elim k2
    | new s =>
      cases s <;> first | exact False.elim k2 | skip
      obtain ⟨c, ws, e1, hq, hc, ia⟩ := p1.r.keep p2.g fun a z => p2.t a (.inr z)
      cases e1
      obtain ⟨⟨cells, rfl, hnn, hlen⟩, k3⟩ := k2
      have r2 : Rep X.K F2 ((T.or q1).or q2) σ H2 ds2 fp2 := p2.rep
      obtain ⟨dl, ds3, F3, fp3, ⟨⟨s, rfl⟩, k4⟩, r3, g3, i3⟩ := takes_ok p2.r .refl r2 p2.qT k3
      have hcc := ia.ints
      subst hcc
      obtain ⟨x1, xs1, i1, j1⟩ : ∃ x1 xs1, vs = x1 :: xs1 ∧ True := by
        cases i3; exact ⟨_, _, rfl, trivial⟩
      obtain ⟨v4, ev⟩ : ∃ v4, vs = [.int 0, .int 0, v4] := by
        cases i3 with
        | cons a b => cases a; cases b with
          | cons a b => cases a; cases b with
            | cons a b => cases b; exact ⟨_, rfl⟩
      rw [ev]
      have npc : p ≠ c := fun e => by rw [e, hc] at hp; cases hp
      have hqc : q1 c := (hq c).mpr rfl
      obtain ⟨r4, g4, t4⟩ := r3.newT (o := .lst [.ref c, .int 0, .int 0, v4]) hp trivial
      obtain ⟨nF, nT, nfp⟩ := r3.new_ne hp
      refine k _ _ _ _ _ fp3 (fun a => a = p ∨ a = c) (k4 p c) ⟨r4.less ?_, ?_, ((p1.g.trans p2.g).trans g3).trans g4, fun a z => ?_, ⟨rfl, fun _ => Iff.rfl, npc, cells, 0, 0, v4, upd_same, ?_, hnn, hlen, by decide, by decide, by decide⟩⟩
      · rintro a (z | rfl | rfl)
        · exact .inl (.inl z)
        · exact .inr rfl
        · exact .inl (.inr hqc)
      · rintro a (rfl | rfl)
        · exact fun z => nT (.inl z)
        · exact p1.qT _ hqc
      · rw [t4 a (.inl z), p2.t a (.inl z), p1.t a z]
      · rw [upd_ne npc.symm]; exact hc⟩
end
/-! reading an item for o[i] += e -/
def rGetL (K : PySem.W.Frag) : V → V → Hp → VK → Prop := fun x y H Q => ∃ p xs i v, x = .ref p ∧ y = .int i ∧ SqL K H p xs ∧ 0 ≤ i ∧ i < 2 ^ 62 ∧ xs[i.toNat]? = some v ∧ Q v H
theorem get_listL {X : Cx} : PGet X (rGetL X.K) := by
  rintro pins s σ H o i ov iv Q I ro ri ⟨p, xs, k, v, rfl, rfl, hq, h0, h1, hv, q⟩
  cases ro
  obtain ⟨t, rfl⟩ := ri
  obtain ⟨its, r, pl, hz⟩ := I.list hq
  obtain ⟨u, hu, ru⟩ := r.get hv
  exact wpAny_getItem_list pl.isList h0 (by omega) (by simpa using hu) ⟨v, H, I, ru, q⟩
/-! data of small depth -/
theorem depthAll_le {n : Nat} : ∀ {xs : List D}, (∀ x ∈ xs, PyData.depth x ≤ n) → PyData.depthAll xs ≤ n
  | [], _ => by simp [PyData.depthAll]
  | x :: xs, h => by
    have h1 := h x List.mem_cons_self
    have h2 := depthAll_le fun y hy => h y (List.mem_cons_of_mem _ hy)
    simp only [PyData.depthAll]
    omega
theorem canAll {xs : List D} (h : ∀ x ∈ xs, PyData.canLay0 x = true) : PyData.canLayAll0 xs = true := by
  induction xs with
  | nil => rfl
  | cons x xs ih =>
    simp only [PyData.canLayAll0, Bool.and_eq_true]
    exact ⟨h x List.mem_cons_self, ih fun y hy => h y (List.mem_cons_of_mem _ hy)⟩
/-- a datum of at most this depth, its texts right -/
def Shp (n : Nat) (d : D) : Prop := PyData.canLay0 d = true ∧ PyData.depth d ≤ n
theorem Shp.mono {m n : Nat} {d : D} (h : Shp m d) (hm : m ≤ n) : Shp n d := ⟨h.1, Nat.le_trans h.2 hm⟩
theorem Shp.shaped {n : Nat} {d : D} (h : Shp n d) (hn : n ≤ 64 := by decide) : SeqAt.shaped d = true := by
  unfold SeqAt.shaped
  rw [h.1, decide_eq_true (Nat.le_trans h.2 hn)]; rfl
theorem Shp.int {n : Nat} {i : Int} : Shp (n + 1) (.int i) := ⟨rfl, by simp [PyData.depth]⟩
theorem Shp.bool {n : Nat} {i : Bool} : Shp (n + 1) (.bool i) := ⟨rfl, by simp [PyData.depth]⟩
theorem Shp.none {n : Nat} : Shp (n + 1) .none := ⟨rfl, by simp [PyData.depth]⟩
theorem Shp.list {n : Nat} {xs : List D} (h : ∀ x ∈ xs, Shp n x) : Shp (n + 1) (.list xs) := ⟨canAll fun x hx => (h x hx).1, by
  have := depthAll_le fun x hx => (h x hx).2
  simp only [PyData.depth]; omega⟩
theorem Shp.tuple {n : Nat} {xs : List D} (h : ∀ x ∈ xs, Shp n x) : Shp (n + 1) (.tuple xs) := ⟨canAll fun x hx => (h x hx).1, by
  have := depthAll_le fun x hx => (h x hx).2
  simp only [PyData.depth]; omega⟩
theorem Shp.ints (ns : List Int) : Shp 2 (.list (ns.map .int)) := Shp.list fun x hx => by
  obtain ⟨i, _, rfl⟩ := List.mem_map.mp hx
  exact Shp.int
theorem eqv_nil (xs : List D) : PyData.eqv (.list xs) (.list []) = xs.isEmpty := by
  cases xs <;> simp [PyData.eqv, PyData.eqvAll]
theorem eqv_nilT (xs : List D) : PyData.eqv (.tuple xs) (.tuple []) = xs.isEmpty := by
  cases xs <;> simp [PyData.eqv, PyData.eqvAll]
end DL

/-! DL: what the small defs that many laws share answer. -/
namespace DL
open PySem PySem.Spec PyProof.Rows L2

def intB : D → Bool
  | .int _ => true
  | _ => false
def tupN (n : Int) : D → Bool
  | .tuple xs => decide ((xs.length : Int) = n)
  | _ => false
@[simp] theorem intB_none : intB (.none) = false := rfl
@[simp] theorem tupN_none {n : Int} : tupN n (.none) = false := rfl
@[simp] theorem intB_bool {b : Bool} : intB (.bool b) = false := rfl
@[simp] theorem tupN_bool {n : Int} {b : Bool} : tupN n (.bool b) = false := rfl
@[simp] theorem intB_int {i : Int} : intB (.int i) = true := rfl
@[simp] theorem tupN_int {n : Int} {i : Int} : tupN n (.int i) = false := rfl
@[simp] theorem intB_str {s : Str} : intB (.str s) = false := rfl
@[simp] theorem tupN_str {n : Int} {s : Str} : tupN n (.str s) = false := rfl
@[simp] theorem intB_list {xs : List D} : intB (.list xs) = false := rfl
@[simp] theorem tupN_list {n : Int} {xs : List D} : tupN n (.list xs) = false := rfl
@[simp] theorem intB_tuple {xs : List D} : intB (.tuple xs) = false := rfl
@[simp] theorem tupN_tuple {n : Int} {xs : List D} : tupN n (.tuple xs) = decide ((xs.length : Int) = n) := rfl
@[simp] theorem intB_dict {kvs : List (D × D)} : intB (.dict kvs) = false := rfl
@[simp] theorem tupN_dict {n : Int} {kvs : List (D × D)} : tupN n (.dict kvs) = false := rfl
def g_is_integer : DF := fun dl P => ∃ d, dl = [d] ∧ P (.val (.bool (intB d)))
@[simp] theorem at_is_integer {d : D} {P : SD → Prop} : g_is_integer [d] P = P (.val (.bool (intB d))) := by
  refine propext ⟨?_, fun h => ⟨_, rfl, h⟩⟩
  rintro ⟨_, e, h⟩
  cases e; exact h
def tb_is_integer : DM := (mRet (dAnd (dIsi "int" (dVar 0)) (dNot (dIsi "bool" (dVar 0)))))
theorem rd_is_integer : ∀ dl Q, dl.length = 1 → g_is_integer dl Q → tb_is_integer (enF Q) (slots0 1 dl) := by
  rintro dl Q - ⟨d, rfl, h⟩
  cases d <;> simpa [tb_is_integer, isT_int, isT_bool] using h
def g_is_tuple_of : DF := fun dl P => ∃ n d, dl = [.int n, d] ∧ P (.val (.bool (tupN n d)))
@[simp] theorem at_is_tuple_of {n : Int} {d : D} {P : SD → Prop} : g_is_tuple_of [.int n, d] P = P (.val (.bool (tupN n d))) := by
  refine propext ⟨?_, fun h => ⟨_, _, rfl, h⟩⟩
  rintro ⟨_, _, e, h⟩
  cases e; exact h
def tb_is_tuple_of : DM := (mRet (dAnd (dIsi "tuple" (dVar 1)) (d2 dEq (dB bLen (aCons (dVar 1) aNil)) (dVar 0))))
theorem rd_is_tuple_of : ∀ dl Q, dl.length = 2 → g_is_tuple_of dl Q → tb_is_tuple_of (enF Q) (slots0 2 dl) := by
  rintro dl Q - ⟨n, d, rfl, h⟩
  cases d <;> simpa [tb_is_tuple_of, isT_tuple, dEqB] using h
def betw (lo hi : Int) : D → Bool
  | .int v => decide (lo ≤ v ∧ v ≤ hi)
  | _ => false
def g_is_between : DF := fun dl P => ∃ lo d hi, dl = [.int lo, d, .int hi] ∧ P (.val (.bool (betw lo hi d)))
@[simp] theorem betw_int {lo hi v : Int} : betw lo hi (.int v) = decide (lo ≤ v ∧ v ≤ hi) := rfl
@[simp] theorem at_is_between {lo hi : Int} {d : D} {P : SD → Prop} : g_is_between [.int lo, d, .int hi] P = P (.val (.bool (betw lo hi d))) := by
  refine propext ⟨?_, fun h => ⟨_, _, _, rfl, h⟩⟩
  rintro ⟨_, _, _, e, h⟩
  cases e; exact h
def tb_is_between : DM := (mRet (dAnd (dIsi "int" (dVar 1)) (dAnd (dNot (dIsi "bool" (dVar 1))) (dChain dLe dLe (dVar 0) (dVar 1) (dVar 2)))))
theorem rd_is_between : ∀ dl Q, dl.length = 3 → g_is_between dl Q → tb_is_between (enF Q) (slots0 3 dl) := by
  rintro dl Q - ⟨lo, d, hi, rfl, h⟩
  cases d with
  | int v => by_cases h1 : lo ≤ v <;> by_cases h2 : v ≤ hi <;> simpa [tb_is_between, isT_int, isT_bool, dRel, h1, h2] using h
  | _ => simpa [tb_is_between, isT_int, isT_bool, betw] using h
/-! the greatest common divisor -/
def g_common : DF := fun dl P => ∃ a b : Int, dl = [.int a, .int b] ∧ 0 ≤ a ∧ 0 ≤ b ∧ P (.val (.int (Int.gcd a b)))
@[simp] theorem at_common {a b : Int} {P : SD → Prop} : g_common [.int a, .int b] P = (0 ≤ a ∧ 0 ≤ b ∧ P (.val (.int (Int.gcd a b)))) := by
  refine propext ⟨?_, fun h => ⟨_, _, rfl, h⟩⟩
  rintro ⟨_, _, e, h⟩
  cases e; exact h
def lc_common_1 : DTT := (bT (d2 dGt (dVar 1) (dC (.int 0))))
def lb_common_1 : DM := (mPar 0 1 (dVar 1) (d2 dMod (dVar 0) (dVar 1)))
def tb_common : DM := (mSeq (mWhile lc_common_1 lb_common_1)
    (mRet (dVar 0)))
theorem gcd_fmod {a b : Int} (hb : 0 < b) : Int.gcd b (a.fmod b) = Int.gcd a b := by
  rw [Int.fmod_eq_emod_of_nonneg _ (Int.le_of_lt hb)]
  apply Nat.dvd_antisymm
  · have h1 : (Int.gcd b (a % b) : Int) ∣ b := Int.gcd_dvd_left ..
    have h2 : (Int.gcd b (a % b) : Int) ∣ a % b := Int.gcd_dvd_right ..
    have h3 : (Int.gcd b (a % b) : Int) ∣ a := by
      have := Int.dvd_add h2 (Int.dvd_trans h1 (Int.dvd_mul_right b (a / b)))
      rwa [Int.emod_add_mul_ediv] at this
    exact Int.natCast_dvd_natCast.mp (Int.dvd_coe_gcd h3 h1)
  · have h1 : (Int.gcd a b : Int) ∣ a := Int.gcd_dvd_left ..
    have h2 : (Int.gcd a b : Int) ∣ b := Int.gcd_dvd_right ..
    have h3 : (Int.gcd a b : Int) ∣ a % b := by
      have := Int.dvd_sub h1 (Int.dvd_trans h2 (Int.dvd_mul_right b (a / b)))
      rwa [← Int.emod_def] at this
    exact Int.natCast_dvd_natCast.mp (Int.dvd_coe_gcd h2 h3)
theorem rd_common : ∀ dl Q, dl.length = 2 → g_common dl Q → tb_common (enF Q) (slots0 2 dl) := by
  rintro dl Q - ⟨a, b, rfl, ha, hb, h⟩
  refine while_ind (fun ds => ∃ x y : Int, ds = [.val (.int x), .val (.int y)] ∧ 0 ≤ x ∧ 0 ≤ y ∧ Int.gcd x y = Int.gcd a b) (fun ds : DS => match ds[1]? with | some (SD.val (PyData.int y)) => y.natAbs | _ => 0) ?_ ⟨a, b, rfl, ha, hb, rfl⟩
  rintro ds L hL ⟨x, y, rfl, hx, hy, hg⟩
  simp only [lc_common_1, bT, d2, dGt, dRel, dVar, dC]
  by_cases h0 : 0 < y
  · have n0 := Int.fmod_nonneg_of_pos x h0
    have n1 := Int.fmod_lt_of_pos x h0
    simp [h0, lb_common_1]
    refine ⟨by omega, hL _ ⟨y, x.fmod y, rfl, hy, n0, by rw [gcd_fmod h0, hg]⟩ ?_⟩
    simp; omega
  · have : y = 0 := by omega
    subst this
    simp [enF]
    rw [← hg, Int.gcd_zero_right, Int.natAbs_of_nonneg hx] at h
    exact h
@[simp] theorem shaped_bool (b : Bool) : SeqAt.shaped (.bool b) = true := by cases b <;> rfl
@[simp] theorem shaped_int (b : Int) : SeqAt.shaped (.int b) = true := by rw [Shp.shaped (n := 1) Shp.int]
@[simp] theorem shaped_none : SeqAt.shaped .none = true := by rw [Shp.shaped (n := 1) Shp.none]
@[simp] theorem eqv_bool (a b : Bool) : PyData.eqv (.bool a) (.bool b) = (a == b) := by cases a <;> cases b <;> decide +kernel
/-! the laws' comparing def, at equal things -/
def SameD : Nat → D → Prop
  | n + 1, .list xs => xs.length ≤ sizeLine ∧ ∀ x ∈ xs, SameD n x
  | n + 1, .tuple xs => xs.length ≤ sizeLine ∧ ∀ x ∈ xs, SameD n x
  | _ + 1, .int _ => True
  | _ + 1, .bool _ => True
  | _ + 1, .str _ => True
  | _ + 1, .none => True
  | _, _ => False
theorem SameD.mono : ∀ {m n : Nat} {d : D}, SameD m d → m ≤ n → SameD n d
  | m + 1, n + 1, .list xs, h, l => ⟨h.1, fun x hx => SameD.mono (h.2 x hx) (Nat.le_of_succ_le_succ l)⟩
  | m + 1, n + 1, .tuple xs, h, l => ⟨h.1, fun x hx => SameD.mono (h.2 x hx) (Nat.le_of_succ_le_succ l)⟩
  | _ + 1, n + 1, .int _, _, _ => trivial
  | _ + 1, n + 1, .bool _, _, _ => trivial
  | _ + 1, n + 1, .str _, _, _ => trivial
  | _ + 1, n + 1, .none, _, _ => trivial
def gSame (n : Nat) : DF := fun dl P => ∃ d, dl = [d, d] ∧ SameD n d ∧ P (.val (.bool true))
@[simp] theorem at_same {n : Nat} {d e : D} {P : SD → Prop} : gSame n [d, e] P = (d = e ∧ SameD n d ∧ P (.val (.bool true))) := by
  refine propext ⟨?_, ?_⟩
  · rintro ⟨_, e, h, k⟩
    cases e; exact ⟨rfl, h, k⟩
  · rintro ⟨rfl, h, k⟩
    exact ⟨_, rfl, h, k⟩
def ceSame (g : DF) : DT := (dCall g (aCons (d2 dIx (dVar 0) (dVar 2)) (aCons (d2 dIx (dVar 1) (dVar 2)) aNil)))
def tbSame (g : DF) : DM := (mSeq (mIf (bOr (bT (dIsi "tuple" (dVar 1))) (bT (dIsi "list" (dVar 1)))) (mSeq (mIf (bOr (bT (d2 dNe (dIsi "tuple" (dVar 1)) (dIsi "tuple" (dVar 0)))) (bT (d2 dNe (dIsi "list" (dVar 1)) (dIsi "list" (dVar 0))))) (mRet (dC (.bool false))) mNil)
    (mRet (dAnd (d2 dEq (dB bLen (aCons (dVar 0) aNil)) (dB bLen (aCons (dVar 1) aNil))) (dB bAll (aCons (dComp (iR1 (dB bLen (aCons (dVar 1) aNil))) (gNm 2) cYes (ceSame g) [2]) aNil))))) mNil)
    (mSeq (mIf (bT (d2 (dIsN false) (dVar 1) (dC .none))) (mRet (d2 (dIsN false) (dVar 0) (dC .none))) mNil)
    (mSeq (mIf (bT (dIsi "bool" (dVar 1))) (mRet (dAnd (dIsi "bool" (dVar 0)) (d2 dEq (dVar 0) (dVar 1)))) mNil)
    (mSeq (mIf (bOr (bT (dIsi "bool" (dVar 0))) (bOr (bT (d2 dNe (dIsi "int" (dVar 0)) (dIsi "int" (dVar 1)))) (bT (d2 dNe (dIsi "str" (dVar 0)) (dIsi "str" (dVar 1)))))) (mRet (dC (.bool false))) mNil)
    (mRet (d2 dEq (dVar 0) (dVar 1)))))))
theorem mem_rng {a : Int} {n : Nat} {d : D} (h : d ∈ rngD a n) : ∃ k : Nat, k < n ∧ d = .int (a + k) := by
  unfold rngD at h
  simp at h
  obtain ⟨k, hk, e⟩ := h
  exact ⟨k, hk, e.symm⟩
theorem all_true {α : Type} (xs : List α) : (xs.map fun _ => (PyData.bool true)) = (xs.map fun _ => true).map .bool := by rw [List.map_map]; rfl
theorem rdSame (n : Nat) : ∀ dl Q, dl.length = 2 → gSame (n + 1) dl Q → tbSame (gSame n) (enF Q) (slots0 3 dl) := by
  rintro dl Q - ⟨d, rfl, hs, h⟩
  have seq : ∀ (C : List D → D) (xs : List D), (C = .list ∨ C = .tuple) → xs.length ≤ sizeLine → (∀ x ∈ xs, SameD n x) → ∀ (Q' : List D → DS → Prop), Q' ((rngD 0 xs.length).map fun _ => .bool true) [.val (C xs), .val (C xs), .no] →
      compD (gNm 2) cYes (ceSame (gSame n)) [2] (rngD 0 xs.length) [] [.val (C xs), .val (C xs), .no] Q' := fun C xs hC hl hx Q' hQ => by
    refine compD_map (fun _ => .bool true) _ _ _ (fun d hd L hL => ?_) (by simpa using hQ)
    obtain ⟨k, hk, rfl⟩ := mem_rng hd
    have e : atI xs (0 + (k : Int)) = some xs[k] := by rw [Int.zero_add]; exact atI_nat (List.getElem?_eq_getElem hk)
    have e' : atI xs (k : Int) = some xs[k] := by rw [Int.zero_add] at e; exact e
    rcases hC with rfl | rfl
    · simp [ceSame, e, e']
      exact ⟨hx _ (List.getElem_mem hk), hL⟩
    · simp [ceSame, e, e']
      exact ⟨hx _ (List.getElem_mem hk), hL⟩
  have sz : sizeLine < 2 ^ 62 := by decide +kernel
  cases d with
  | none => simpa [tbSame, isT_tuple, isT_list] using h
  | bool b => simpa [tbSame, isT_tuple, isT_list, isT_bool] using h
  | int i => simpa [tbSame, isT_tuple, isT_list, isT_bool, isT_int, isT_str] using h
  | str i => simpa [tbSame, isT_tuple, isT_list, isT_bool, isT_int, isT_str] using h
  | list xs =>
    simp [tbSame, isT_tuple, isT_list]
    refine ⟨by have := hs.1; omega, by simpa [rngD] using hs.1, seq .list xs (.inl rfl) hs.1 hs.2 _ ?_⟩
    exact ⟨(rngD 0 xs.length).map fun _ => true, by rw [List.map_map]; rfl, by
      have e : (((rngD 0 xs.length).map fun _ => true).all id) = true := List.all_eq_true.mpr fun b hb => by
        obtain ⟨_, _, rfl⟩ := List.mem_map.mp hb
        rfl
      simpa [e] using h⟩
  | tuple xs =>
    simp [tbSame, isT_tuple, isT_list]
    refine ⟨by have := hs.1; omega, by simpa [rngD] using hs.1, seq .tuple xs (.inr rfl) hs.1 hs.2 _ ?_⟩
    exact ⟨(rngD 0 xs.length).map fun _ => true, by rw [List.map_map]; rfl, by
      have e : (((rngD 0 xs.length).map fun _ => true).all id) = true := List.all_eq_true.mpr fun b hb => by
        obtain ⟨_, _, rfl⟩ := List.mem_map.mp hb
        rfl
      simpa [e] using h⟩
  | dict _ => exact hs.elim
end DL

/-! DL: shared defs, ratios. -/
namespace DL
open PySem PySem.Spec PyProof.Rows L2

theorem SameD_0 {d : D} : ¬ SameD 0 d := by cases d <;> exact id
theorem bigD_ex : ∃ n : Nat, n = 2 ^ 8000 := ⟨_, rfl⟩
/-- what the divisors stay below; nobody unfolds it -/
noncomputable def bigD : Nat := bigD_ex.choose
theorem bigD_eq : bigD = 2 ^ 8000 := bigD_ex.choose_spec
theorem lt_bigD {n k : Nat} (h : n < 2 ^ k) (hk : k ≤ 8000) : n < bigD := by
  rw [bigD_eq]
  exact Nat.lt_of_lt_of_le h (Nat.pow_le_pow_right (by decide) hk)
theorem divOk_bigD {j : Int} (h0 : j ≠ 0) (h : j.natAbs < bigD) : DivOk j := by
  rw [bigD_eq] at h
  exact DivOk.of h0 h (by decide)
theorem mulOk_bigD {a b : Int} (ha : a.natAbs < bigD) (hb : b.natAbs < bigD) : MulOk a b := by
  rw [bigD_eq] at ha hb
  exact MulOk.w (a := 8000) (b := 8000) ha hb (by omega)
def dnF (t b : Int) : Int := if b < 0 then -(Int.gcd t b : Int) else Int.gcd t b
def ratD (t b : Int) : D := .tuple [.int (t.fdiv (dnF t b)), .int (b.fdiv (dnF t b))]
theorem gcd_pos {t b : Int} (h : b ≠ 0) : 0 < Int.gcd t b := Int.gcd_pos_of_ne_zero_right t h
theorem gcd_le {t b : Int} (h : b ≠ 0) : Int.gcd t b ≤ b.natAbs := by
  have : Int.gcd t b ∣ b.natAbs := Nat.gcd_dvd_right ..
  exact Nat.le_of_dvd (by omega) this
theorem dnF_ok {t b : Int} (h : b ≠ 0) (hb : b.natAbs < bigD) : DivOk (dnF t b) := by
  have h1 := gcd_pos (t := t) h
  have h2 := gcd_le (t := t) h
  have e : (dnF t b).natAbs = Int.gcd t b := by unfold dnF; split <;> omega
  exact divOk_bigD (by omega) (by omega)
@[simp] theorem gcd_abs2 (t b : Int) : Nat.gcd t.natAbs b.natAbs = Int.gcd t b := rfl
theorem gcd_abs (t b : Int) : Int.gcd (t.natAbs : Int) (b.natAbs : Int) = Int.gcd t b := rfl
def g_ratio_of : DF := fun dl P => ∃ t b : Int, dl = [.int t, .int b] ∧ b ≠ 0 ∧ b.natAbs < bigD ∧ P (.val (ratD t b))
@[simp] theorem at_ratio_of {t b : Int} {P : SD → Prop} : g_ratio_of [.int t, .int b] P = (b ≠ 0 ∧ b.natAbs < bigD ∧ P (.val (ratD t b))) := by
  refine propext ⟨?_, fun h => ⟨_, _, rfl, h⟩⟩
  rintro ⟨_, _, e, h⟩
  cases e; exact h
def tb_ratio_of : DM := (mSeq (mSet 2 (dCall g_common (aCons (dB bAbs (aCons (dVar 0) aNil)) (aCons (dB bAbs (aCons (dVar 1) aNil)) aNil))))
    (mSeq (mIf (bT (d2 dLt (dVar 1) (dC (.int 0)))) (mSet 2 (d1 dNeg (dVar 2))) mNil)
    (mRet (dTup (aCons (d2 dFdiv (dVar 0) (dVar 2)) (aCons (d2 dFdiv (dVar 1) (dVar 2)) aNil))))))
theorem rd_ratio_of : ∀ dl Q, dl.length = 2 → g_ratio_of dl Q → tb_ratio_of (enF Q) (slots0 3 dl) := by
  rintro dl Q - ⟨t, b, rfl, hb, hz, h⟩
  have ok := dnF_ok (t := t) hb hz
  unfold ratD at h
  unfold dnF at ok h
  simp [tb_ratio_of]
  by_cases hn : b < 0
  · rw [if_pos hn] at ok h
    simpa [hn, ok] using h
  · rw [if_neg hn] at ok h
    simpa [hn, ok] using h
abbrev g__law_ratio : DF := g_ratio_of
def lc__law_ratio_1 : DTT := (bT (d2 dGt (dVar 3) (dC (.int 0))))
def lb__law_ratio_1 : DM := (mPar 2 3 (dVar 3) (d2 dMod (dB bInt (aCons (dVar 2) aNil)) (dVar 3)))
def tb__law_ratio : DM := (mSeq (mPar 2 3 (dB bAbs (aCons (dVar 0) aNil)) (dB bAbs (aCons (dVar 1) aNil)))
    (mSeq (mWhile lc__law_ratio_1 lb__law_ratio_1)
    (mSeq (mIf (bT (d2 dLt (dVar 1) (dC (.int 0)))) (mSet 2 (d2 dSub (dC (.int 0)) (dVar 2))) mNil)
    (mRet (dTup (aCons (d2 dFdiv (dVar 0) (dVar 2)) (aCons (d2 dFdiv (dVar 1) (dVar 2)) aNil)))))))
theorem rd__law_ratio : ∀ dl Q, dl.length = 2 → g__law_ratio dl Q → tb__law_ratio (enF Q) (slots0 4 dl) := by
  rintro dl Q - ⟨t, b, rfl, hb, hz, h⟩
  have ok := dnF_ok (t := t) hb hz
  unfold ratD at h
  unfold dnF at ok h
  simp only [tb__law_ratio, mSeq]
  simp
  refine while_ind (fun ds => ∃ x y : Int, ds = [.val (.int t), .val (.int b), .val (.int x), .val (.int y)] ∧ 0 ≤ x ∧ 0 ≤ y ∧ Int.gcd x y = Int.gcd t b) (fun ds : DS => match ds[3]? with | some (SD.val (PyData.int y)) => y.natAbs | _ => 0) ?_ ⟨_, _, rfl, by omega, by omega, gcd_abs t b⟩
  rintro ds L hL ⟨x, y, rfl, hx, hy, hg⟩
  by_cases h0 : 0 < y
  · have n0 := Int.fmod_nonneg_of_pos x h0
    have n1 := Int.fmod_lt_of_pos x h0
    simp [h0, lb__law_ratio_1, lc__law_ratio_1]
    refine ⟨by omega, hL _ ⟨y, x.fmod y, rfl, hy, n0, by rw [gcd_fmod h0, hg]⟩ ?_⟩
    simp; omega
  · have : y = 0 := by omega
    subst this
    simp [lc__law_ratio_1]
    have e : x = (Int.gcd t b : Int) := by rw [← hg, Int.gcd_zero_right, Int.natAbs_of_nonneg hx]
    subst e
    by_cases hn : b < 0
    · rw [if_pos hn] at ok h
      simpa [hn, ok] using h
    · rw [if_neg hn] at ok h
      simpa [hn, ok] using h
/-! the pot -/
def tb__law_pot (ce : DT) : DM := mRet (dPot (dComp (iSeq (dVar 0)) (gNm 2) cYes ce [2]) (aCons (dC (.int 0)) (aCons (dC (.int 0)) (aCons (dVar 1) aNil))))
def ce__law_pot_1 : DT := (dIf (bT (d2 dGe (dVar 2) (dC (.int 0)))) (dB bInt (aCons (dVar 2) aNil)) (d2 dSub (dC (.int 1)) (d2 dMul (dC (.int 2)) (dB bInt (aCons (dVar 2) aNil)))))
theorem rd__law_pot : ∀ dl Q, dl.length = 2 → gPot dl Q → tb__law_pot ce__law_pot_1 (enF Q) (slots0 3 dl) := by
  rintro dl Q - ⟨ns, s, rfl, hn, h⟩
  have sz : 63 ≤ sizeLine := by decide +kernel
  simp [tb__law_pot]
  refine ⟨by simpa using Nat.le_trans hn sz, ?_⟩
  let f : Int → Int := fun i => if 0 ≤ i then i else 1 - 2 * i
  refine compD_map (fun d => match d with | .int i => .int (f i) | d => d) _ _ _ (fun d hd L hL => ?_) ?_
  · obtain ⟨i, _, rfl⟩ := List.mem_map.mp hd
    by_cases h0 : 0 ≤ i
    · simpa [ce__law_pot_1, h0, f] using hL
    · have m : MulOk 2 i := MulOk.l ⟨by decide, by decide⟩
      simpa [ce__law_pot_1, h0, f, m] using hL
  · refine ⟨⟨ns.map f, by simp, fun x hx => ?_, by simpa using hn⟩, by simpa using h⟩
    obtain ⟨i, _, rfl⟩ := List.mem_map.mp hx
    simp only [f]
    split <;> omega
@[simp] theorem potB_val {p c : Addr} {b : Nat} : (potB p c b).val = .ref p := rfl
theorem at_draw {p c : Addr} {b : Nat} {m : Int} {P : SD → Wd → Prop} (h1 : 1 ≤ m) (h2 : m < 2 ^ 64) (hb : b < 2 ^ 60) (h : ∀ r : Int, 0 ≤ r → r < m → P (.val (.int r)) (potB p c (b + 1))) : gDraw (potB p c b) [.int m] P :=
  ⟨p, c, b, m, rfl, rfl, h1, h2, hb, h⟩
theorem atI_at {α : Type} {xs : List α} {i : Int} (h0 : 0 ≤ i) (h : i < xs.length) : ∃ v, atI xs i = some v ∧ v ∈ xs := by
  have hn : i.toNat < xs.length := by omega
  have := atI_nat (List.getElem?_eq_getElem hn)
  rw [Int.toNat_of_nonneg h0] at this
  exact ⟨_, this, List.getElem_mem hn⟩
end DL

/-! DL: expressions that leave the slots as they are: read piece by piece. -/
namespace DL
open PySem PySem.Spec PyProof.Rows L2

structure HdIs (ds : DS) (h : Hd) (d : D) : Prop where
  tk : ∀ P : D → DS → Prop, P d ds → take1 h ds P
  pk : peek ds h = some d
theorem HdIs.pk' {ds : DS} {h : Hd} {d : D} (x : HdIs ds h d) {P : D → Prop} (p : P d) : DL.pk ds h P := by
  unfold DL.pk
  rw [x.pk]; exact p
theorem HdIs.tmp {ds : DS} {d : D} : HdIs ds (.tmp d) d := ⟨fun _ p => p, rfl⟩
theorem HdIs.hdOf {ds : DS} {d : D} : HdIs ds (hdOf (.val d)) d := .tmp
def EvT (t : DT) (ds : DS) (d : D) : Prop := ∀ Q : QE, (∀ h, HdIs ds h d → Q h ds) → t ds Q
def EvA (t : DTA) (ds : DS) (dl : List D) : Prop := ∀ Q : List Hd → DS → Prop, (∀ hs, Paired (HdIs ds) hs dl → Q hs ds) → t ds Q
theorem takes_is {ds : DS} {hs : List Hd} {dl : List D} (x : Paired (HdIs ds) hs dl) {P : List D → DS → Prop} (p : P dl ds) : takes hs ds P := by
  induction x generalizing P with
  | nil => exact p
  | cons a b ih => exact a.tk _ (ih p)
theorem peeks_is {ds : DS} {hs : List Hd} {dl : List D} (x : Paired (HdIs ds) hs dl) {P : List D → Prop} (p : P dl) : peeks ds hs P := by
  induction x generalizing P with
  | nil => exact p
  | cons a b ih => exact a.pk' (ih p)
theorem ev_c {ds : DS} {d : D} : EvT (dC d) ds d := fun Q k => k _ .tmp
theorem ev_v {ds : DS} {i : Nat} {d : D} (h : ds[i]? = some (.val d) := by rfl) : EvT (dVar i) ds d := fun Q k => by
  unfold dVar
  rw [h]
  refine k _ ⟨fun P p => ?_, ?_⟩
  · simp only [take1, h]; exact p
  · simp only [peek, h]
theorem ev_nil {ds : DS} : EvA aNil ds [] := fun Q k => k _ .nil
theorem ev_cons {ds : DS} {t : DT} {u : DTA} {d : D} {dl : List D} (a : EvT t ds d) (b : EvA u ds dl) : EvA (aCons t u) ds (d :: dl) := fun Q k => a _ fun h x => b _ fun hs y => k _ (.cons x y)
theorem ev_tup {ds : DS} {u : DTA} {dl : List D} (a : EvA u ds dl) : EvT (dTup u) ds (.tuple dl) := fun Q k => a _ fun hs x => takes_is x (k _ .tmp)
theorem ev_pr {ds : DS} {a b : DT} {x y : D} (h1 : EvT a ds x) (h2 : EvT b ds y) : EvT (dTup (aCons a (aCons b aNil))) ds (.tuple [x, y]) := ev_tup (ev_cons h1 (ev_cons h2 ev_nil))
theorem HdIs.new {ds : DS} {dl : List D} : HdIs ds (.new (.own dl)) (.list dl) := ⟨fun _ p => p, rfl⟩
theorem ev_lst {ds : DS} {u : DTA} {dl : List D} (a : EvA u ds dl) : EvT (dLst u) ds (.list dl) := fun Q k => a _ fun hs x => takes_is x (k _ .new)
/-- a list display, its handle kept -/
theorem lst_new {ds : DS} {u : DTA} {dl : List D} {Q : QE} (a : EvA u ds dl) (q : Q (.new (.own dl)) ds) : dLst u ds Q := a _ fun hs x => takes_is x q
theorem ev_2 {op : D2} {ds : DS} {t u : DT} {a b r : D} (x : EvT t ds a) (y : EvT u ds b) (o : ∀ Q : Hd → Prop, Q (.tmp r) → op a b Q) : EvT (d2 op t u) ds r := fun Q k => x _ fun h1 i1 => y _ fun h2 i2 => i1.pk' (P := fun d1 => pk ds h2 fun e => op d1 e fun h => Q h ds) (i2.pk' (P := fun e => op a e fun h => Q h ds) (o _ (k _ .tmp)))
theorem ev_1 {op : D1} {ds : DS} {t : DT} {a r : D} (x : EvT t ds a) (o : ∀ Q : Hd → Prop, Q (.tmp r) → op a Q) : EvT (d1 op t) ds r := fun Q k => x _ fun h1 i1 => i1.pk' (P := fun d => op d fun h => Q h ds) (o _ (k _ .tmp))
theorem ev_mul {ds : DS} {t u : DT} {a b : Int} (x : EvT t ds (.int a)) (y : EvT u ds (.int b)) (m : MulOk a b) : EvT (d2 dMul t u) ds (.int (a * b)) := ev_2 x y fun Q q => ⟨m, q⟩
theorem ev_add {ds : DS} {t u : DT} {a b : Int} (x : EvT t ds (.int a)) (y : EvT u ds (.int b)) : EvT (d2 dAdd t u) ds (.int (a + b)) := ev_2 x y fun Q q => q
theorem ev_sub {ds : DS} {t u : DT} {a b : Int} (x : EvT t ds (.int a)) (y : EvT u ds (.int b)) : EvT (d2 dSub t u) ds (.int (a - b)) := ev_2 x y fun Q q => q
theorem ev_neg {ds : DS} {t : DT} {a : Int} (x : EvT t ds (.int a)) : EvT (d1 dNeg t) ds (.int (-a)) := ev_1 x fun Q q => q
theorem ev_pow {ds : DS} {t u : DT} {a b : Int} (x : EvT t ds (.int a)) (y : EvT u ds (.int b)) (c : CPow a b) : EvT (d2 dPow t u) ds (.int (a ^ b.toNat)) := ev_2 x y fun Q q => ⟨c, q⟩
theorem ev_ixL {ds : DS} {t u : DT} {xs : List D} {i : Int} {d : D} (x : EvT t ds (.list xs)) (y : EvT u ds (.int i)) (e : atI xs i = some d) : EvT (d2 dIx t u) ds d := ev_2 x y fun Q q => by simp only [dIx, e]; exact q
theorem ev_ixT {ds : DS} {t u : DT} {xs : List D} {i : Int} {d : D} (x : EvT t ds (.tuple xs)) (y : EvT u ds (.int i)) (e : atI xs i = some d) : EvT (d2 dIx t u) ds d := ev_2 x y fun Q q => by simp only [dIx, e]; exact q
theorem ev_call {ds : DS} {g : DF} {u : DTA} {dl : List D} {d : D} (a : EvA u ds dl) (h : ∀ P : SD → Prop, P (.val d) → g dl P) : EvT (dCall g u) ds d := fun Q k => a _ fun hs x => takes_is x (h _ (k _ .tmp))
theorem ev_b {ds : DS} {op : DN} {u : DTA} {dl : List D} {d : D} (a : EvA u ds dl) (h : ∀ Q : Hd → Prop, Q (.tmp d) → op dl Q) : EvT (dB op u) ds d := fun Q k => a _ fun hs x => peeks_is x (h _ (k _ .tmp))
/-! tests -/
def EvB (t : DTT) (ds : DS) (b : Bool) : Prop := ∀ Q : Bool → DS → Prop, Q b ds → t ds Q
theorem eb_t {ds : DS} {t : DT} {b : Bool} (x : EvT t ds (.bool b)) : EvB (bT t) ds b := fun Q q => x _ fun h i => i.pk' q
theorem eb_and {ds : DS} {t u : DTT} {a b : Bool} (x : EvB t ds a) (y : a = true → EvB u ds b) : EvB (bAnd t u) ds (a && b) := fun Q q => x _ (by
  cases a with
  | true => exact y rfl _ q
  | false => exact q)
theorem eb_or {ds : DS} {t u : DTT} {a b : Bool} (x : EvB t ds a) (y : a = false → EvB u ds b) : EvB (bOr t u) ds (a || b) := fun Q q => x _ (by
  cases a with
  | true => exact q
  | false => exact y rfl _ q)
theorem eb_not {ds : DS} {t : DTT} {a : Bool} (x : EvB t ds a) : EvB (bNot t) ds (!a) := fun Q q => x _ q
theorem ev_and {ds : DS} {t u : DT} {a b : Bool} (x : EvT t ds (.bool a)) (y : a = true → EvT u ds (.bool b)) : EvT (dAnd t u) ds (.bool (a && b)) := fun Q k => eb_t x _ (by
  cases a with
  | true => exact y rfl _ k
  | false => exact k _ .tmp)
theorem ev_or {ds : DS} {t u : DT} {a b : Bool} (x : EvT t ds (.bool a)) (y : a = false → EvT u ds (.bool b)) : EvT (dOr t u) ds (.bool (a || b)) := fun Q k => eb_t x _ (by
  cases a with
  | true => exact k _ .tmp
  | false => exact y rfl _ k)
theorem ev_not {ds : DS} {t : DT} {a : Bool} (x : EvT t ds (.bool a)) : EvT (dNot t) ds (.bool (!a)) := fun Q k => eb_t x _ (k _ .tmp)
theorem ev_if {ds : DS} {c : DTT} {t u : DT} {b : Bool} {d : D} (x : EvB c ds b) (y : b = true → EvT t ds d) (z : b = false → EvT u ds d) : EvT (dIf c t u) ds d := fun Q k => x _ (by
  cases b with
  | true => exact y rfl _ k
  | false => exact z rfl _ k)
end DL

/-! DL: the end of a law. -/
namespace DL
open PySem PySem.Spec PyProof.Rows L2

theorem spP_law {K : PySem.W.Frag} {H : Hp} {a : Addr} {ns : List Int} {g : DF} (hO : Only H) (hS : Ls K H a (ns.map V.int)) (hg : ∀ P : SD → Prop, P (.val (.bool true)) → g [.list (ns.map .int)] P) : spP K 1 g [.ref a] H (fun v _ => v = .bl true) fun _ _ _ => False := by
  refine ⟨rfl, fun b => ∃ o xs, H b = some (.frz o (.lst xs)), [.list (ns.map .int)], .cons (.lst ?_ (IsA.of_ints ns)) .nil, fun b ⟨o, xs, e⟩ => ⟨_, e, trivial⟩, fun r => r = .val (.bool true), hg _ rfl, ?_⟩
  · rcases hS with (h | ⟨o, h⟩) | h
    · rcases hO a with e | ⟨o, xs, e⟩
      · rw [e] at h; cases h
      · rw [e] at h; cases h
    · exact .inl (.inr ⟨o, by rw [res_in ⟨o, _, h⟩]; exact h⟩)
    · exact .inr h
  · rintro r rfl H' v F' q - - - ⟨⟨v', h1, h2⟩, _⟩
    cases h1
    cases h2
    rfl
theorem walkD {l : PySem.W.OpenLaw} {n k : Nat} {q : Program} {loose : List Str} {XP : (Str → Option Value) → Heap → Prop} {YP : World → Heap → Prop} {d : DefRec} {K : Params → PySem.W.Frag} {g : DF} {x : Str}
    (hn : l.most = some n) (hz : n ≤ sizeLine) (hdf : d.params.defaults = []) (hr : Room k callerA) (hY : ∀ w h, YP w h → (K w.params).In h)
    (hg : ∀ ns : List Int, ns.length ≤ n → ∀ P : SD → Prop, P (.val (.bool true)) → g [.list (ns.map .int)] P)
    (hF : ∀ (w : World) (mg : Str → Option Value) (fa : Addr) (h : Heap), (K w.params).In h → h.Ns mainGlobals mg → mg d.name = some (.ref fa) →
      ∃ fd : FuncData, (∀ s u, BindsTo s fd ⟨[u], []⟩ [(x, u)]) ∧ ∀ base : Heap, (K w.params).In base → base.Ns mainGlobals mg → FnOk l.prog w (K w.params) mg base CX0 k fa fd [x] (spP (K w.params) 1 g)) :
    PySem.W.WalkO q loose XP YP l.row.toRowW d [] (fun f vs => PySem.call f vs) := by
  refine Att.attach_call hn hdf fun w s0 s1 mg mb fa o pm cd doc a vs ns G Y ho hd hcd hmg hob hin hle hgn => ?_
  have kx := hY w _ Y
  obtain ⟨fd, hb, hf⟩ := hF w mg fa _ kx G.T.g hmg
  refine law_call kx G.T.g G.T.b G.T.builtins G.T.nolimit hgn hob hin (Nat.le_trans hle hz) hr hf hb (fun H hO hS => spP_law hO ?_ (hg ns hle)) fun _ _ _ h => h
  rcases hS with h | ⟨ob, its, m, hk, -, -, hd, hs, hv⟩
  · exact .inl h
  · have e := kx a ob hk
    rw [hob] at e
    cases e
    cases hd
    exact .inr ⟨_, _, hk, hs, hv⟩
end DL

namespace K51
open PySem PySem.Spec PyProof.Rows L2 DL
def topS (i : Nat) : Stmt := PySem.Challenge.pw_everyfolk_k51_ratios.main.body.getD i (.Pass ⟨0, 0, 0, 0⟩)
abbrev s_is_integer : Stmt := topS 1
abbrev N_is_integer : List Str := ["value"]
abbrev P_is_integer : List Str := ["value"]
theorem sc_is_integer : FnScope N_is_integer P_is_integer (defScope s_is_integer) := ⟨rfl, rfl, rfl, by decide +kernel, rfl, by decide +kernel, by decide +kernel⟩
abbrev s_is_tuple_of : Stmt := topS 2
abbrev N_is_tuple_of : List Str := ["length", "value"]
abbrev P_is_tuple_of : List Str := ["length", "value"]
theorem sc_is_tuple_of : FnScope N_is_tuple_of P_is_tuple_of (defScope s_is_tuple_of) := ⟨rfl, rfl, rfl, by decide +kernel, rfl, by decide +kernel, by decide +kernel⟩
abbrev s_common : Stmt := topS 4
abbrev N_common : List Str := ["one", "other"]
abbrev P_common : List Str := ["one", "other"]
theorem sc_common : FnScope N_common P_common (defScope s_common) := ⟨rfl, rfl, rfl, by decide +kernel, rfl, by decide +kernel, by decide +kernel⟩
abbrev s_ratio_of : Stmt := topS 6
abbrev N_ratio_of : List Str := ["top", "bottom", "factor"]
abbrev P_ratio_of : List Str := ["top", "bottom"]
theorem sc_ratio_of : FnScope N_ratio_of P_ratio_of (defScope s_ratio_of) := ⟨rfl, rfl, rfl, by decide +kernel, rfl, by decide +kernel, by decide +kernel⟩
abbrev s_is_ratio : Stmt := topS 7
abbrev N_is_ratio : List Str := ["value"]
abbrev P_is_ratio : List Str := ["value"]
theorem sc_is_ratio : FnScope N_is_ratio P_is_ratio (defScope s_is_ratio) := ⟨rfl, rfl, rfl, by decide +kernel, rfl, by decide +kernel, by decide +kernel⟩
abbrev s_is_below : Stmt := topS 8
abbrev N_is_below : List Str := ["one", "other"]
abbrev P_is_below : List Str := ["one", "other"]
theorem sc_is_below : FnScope N_is_below P_is_below (defScope s_is_below) := ⟨rfl, rfl, rfl, by decide +kernel, rfl, by decide +kernel, by decide +kernel⟩
abbrev s__law_pot : Stmt := topS 10
abbrev N__law_pot : List Str := ["script", "shares", "cell"]
abbrev P__law_pot : List Str := ["script", "shares"]
theorem sc__law_pot : FnScope N__law_pot P__law_pot (defScope s__law_pot) := ⟨rfl, rfl, rfl, by decide +kernel, rfl, by decide +kernel, by decide +kernel⟩
abbrev s__law_draw : Stmt := topS 11
abbrev N__law_draw : List Str := ["pot", "many", "cells", "cell", "mixed"]
abbrev P__law_draw : List Str := ["pot", "many"]
theorem sc__law_draw : FnScope N__law_draw P__law_draw (defScope s__law_draw) := ⟨rfl, rfl, rfl, by decide +kernel, rfl, by decide +kernel, by decide +kernel⟩
abbrev s__law_same : Stmt := topS 12
abbrev N__law_same : List Str := ["got", "due", "k"]
abbrev P__law_same : List Str := ["got", "due"]
theorem sc__law_same : FnScope N__law_same P__law_same (defScope s__law_same) := ⟨rfl, rfl, rfl, by decide +kernel, rfl, by decide +kernel, by decide +kernel⟩
abbrev s__law_is_between : Stmt := topS 13
abbrev N__law_is_between : List Str := ["low", "value", "high"]
abbrev P__law_is_between : List Str := ["low", "value", "high"]
theorem sc__law_is_between : FnScope N__law_is_between P__law_is_between (defScope s__law_is_between) := ⟨rfl, rfl, rfl, by decide +kernel, rfl, by decide +kernel, by decide +kernel⟩
abbrev s__law_ratio : Stmt := topS 14
abbrev N__law_ratio : List Str := ["top", "bottom", "one", "other"]
abbrev P__law_ratio : List Str := ["top", "bottom"]
theorem sc__law_ratio : FnScope N__law_ratio P__law_ratio (defScope s__law_ratio) := ⟨rfl, rfl, rfl, by decide +kernel, rfl, by decide +kernel, by decide +kernel⟩
abbrev s__law_number : Stmt := topS 15
abbrev N__law_number : List Str := ["pot", "size", "number"]
abbrev P__law_number : List Str := ["pot"]
theorem sc__law_number : FnScope N__law_number P__law_number (defScope s__law_number) := ⟨rfl, rfl, rfl, by decide +kernel, rfl, by decide +kernel, by decide +kernel⟩
abbrev s__law_is_ratio : Stmt := topS 16
abbrev N__law_is_ratio : List Str := ["value"]
abbrev P__law_is_ratio : List Str := ["value"]
theorem sc__law_is_ratio : FnScope N__law_is_ratio P__law_is_ratio (defScope s__law_is_ratio) := ⟨rfl, rfl, rfl, by decide +kernel, rfl, by decide +kernel, by decide +kernel⟩
abbrev s_law : Stmt := topS 17
abbrev N_law : List Str := ["script", "pot", "turn", "rows", "k", "top", "bottom", "factor", "told", "one", "other", "due", "values", "value"]
abbrev P_law : List Str := ["script"]
theorem sc_law : FnScope N_law P_law (defScope s_law) := ⟨rfl, rfl, rfl, by decide +kernel, rfl, by decide +kernel, by decide +kernel⟩
structure Df (K : PySem.W.Frag) (mg : Str → Option Value) (x : Str) (st : Stmt) (ps : List Str) (f : Addr) (fd : FuncData) : Prop where
  F : Fun K x x st f fd
  b : Binds K fd ps []
  m : mg x = some (.ref f)
structure Tx (K : PySem.W.Frag) (mg : Str → Option Value) where
  a_is_integer : Addr
  fd_is_integer : FuncData
  d_is_integer : Df K mg "is_integer" s_is_integer P_is_integer a_is_integer fd_is_integer
  a_is_tuple_of : Addr
  fd_is_tuple_of : FuncData
  d_is_tuple_of : Df K mg "is_tuple_of" s_is_tuple_of P_is_tuple_of a_is_tuple_of fd_is_tuple_of
  a_common : Addr
  fd_common : FuncData
  d_common : Df K mg "common" s_common P_common a_common fd_common
  a_ratio_of : Addr
  fd_ratio_of : FuncData
  d_ratio_of : Df K mg "ratio_of" s_ratio_of P_ratio_of a_ratio_of fd_ratio_of
  a_is_ratio : Addr
  fd_is_ratio : FuncData
  d_is_ratio : Df K mg "is_ratio" s_is_ratio P_is_ratio a_is_ratio fd_is_ratio
  a_is_below : Addr
  fd_is_below : FuncData
  d_is_below : Df K mg "is_below" s_is_below P_is_below a_is_below fd_is_below
  a__law_pot : Addr
  fd__law_pot : FuncData
  d__law_pot : Df K mg "_law_pot" s__law_pot P__law_pot a__law_pot fd__law_pot
  a__law_draw : Addr
  fd__law_draw : FuncData
  d__law_draw : Df K mg "_law_draw" s__law_draw P__law_draw a__law_draw fd__law_draw
  a__law_same : Addr
  fd__law_same : FuncData
  d__law_same : Df K mg "_law_same" s__law_same P__law_same a__law_same fd__law_same
  a__law_is_between : Addr
  fd__law_is_between : FuncData
  d__law_is_between : Df K mg "_law_is_between" s__law_is_between P__law_is_between a__law_is_between fd__law_is_between
  a__law_ratio : Addr
  fd__law_ratio : FuncData
  d__law_ratio : Df K mg "_law_ratio" s__law_ratio P__law_ratio a__law_ratio fd__law_ratio
  a__law_number : Addr
  fd__law_number : FuncData
  d__law_number : Df K mg "_law_number" s__law_number P__law_number a__law_number fd__law_number
  a__law_is_ratio : Addr
  fd__law_is_ratio : FuncData
  d__law_is_ratio : Df K mg "_law_is_ratio" s__law_is_ratio P__law_is_ratio a__law_is_ratio fd__law_is_ratio
  a_law : Addr
  fd_law : FuncData
  d_law : Df K mg "law" s_law P_law a_law fd_law
  z_isinstance : mg "isinstance" = none
  z_bool : mg "bool" = none
  z_int : mg "int" = none
  z_len : mg "len" = none
  z_tuple : mg "tuple" = none
  z_abs : mg "abs" = none
  z_str : mg "str" = none
  z_list : mg "list" = none
  z_range : mg "range" = none
  z_all : mg "all" = none
  z_min : mg "min" = none
theorem kp_ratio_of_01 {K : PySem.W.Frag} {mg : Str → Option Value} (T : Tx K mg) : KPerm K T.fd_ratio_of P_ratio_of ["top", "bottom"] [0, 1] := by
  obtain ⟨oc, od, kV, doc, pm, an, cdv, ct, osl, e, lk, hcd⟩ := T.d_ratio_of.F.ex
  refine ⟨fun s ws _ hl => ?_, rfl, by decide⟩
  match ws, hl with
  | [w0, w1], _ => rw [e]; exact .of_eq rfl
section
variable {P : Program} {w : World} {K : PySem.W.Frag} {mg : Str → Option Value} {base : Heap}
/-- a draw, by hand -/
theorem ok__law_draw (T : Tx K mg) : FnOk P w K mg base CX0 1 T.a__law_draw T.fd__law_draw P__law_draw (spW K 1 gDraw) := by
  refine T.d__law_draw.F.ok sc__law_draw (fun vs H Q E h => h.1) (fun cdv A outer s H vs Q E hr h => ?_)
  obtain ⟨hn, F0, wd, ws, dl, rfl, ia, sa, wo, wF, W, ⟨p, c, b, many, rfl, rfl, m1, m2, hb, hW⟩, hk⟩ := h
  obtain ⟨mv, rfl, im⟩ : ∃ mv, ws = [mv] ∧ mv = .int many := by
    cases ia with
    | cons x y => cases y; cases x; exact ⟨_, rfl, rfl⟩
  subst im
  obtain ⟨npc, cells, i, j, sh, hp, hc, hnn, hlen, i0, ij, jb⟩ := wo
  have nd := sc__law_draw.nd
  have fin : ∀ (r : Int) (H' : Hp), 0 ≤ r → r < many → (∀ a, F0 a → H' a = H a) → (potB p c (b + 1)).ok (res F0 H') H' → Q (.int r) H' := fun r H' h1 h2 h3 h4 => by
    refine hk _ _ (hW r h1 h2) H' (.int r) F0 Ad.nil (fun a f => ⟨f, h3 a f⟩) (fun a f => by rw [h3 a f]; exact sa a f) (fun _ z => z.elim) rfl h4 (fun a z => wF a z) ⟨⟨_, rfl, .int _⟩, fun _ z => z⟩
  refine ⟨_, pss_cons (ps_set (i := 2) nd rfl (.inl rfl) (pe_ix ix_list (pv 0) pe_int (fun _ _ => rfl)))
    (pss_cons (ps_augS (pv 0) pe_int get_listL pe_int ip_add set_list)
    (pss_cons (ps_set (i := 3) nd rfl (.inl rfl) (pe_ifExp (pt_cmpR (op_eqA hr.units) (pv 2) (pe_lst pa_nil) (nomark _)) pe_int (pe_ix ix_list (pv 2) (pe_op op_modN (pe_callTy call_int1 (by rfl) T.z_int (by decide +kernel) (pa_cons (pe_ix ix_list (pv 0) pe_int (fun _ _ => rfl)) pa_nil)) (pe_callB call_len_seq (by rfl) T.z_len (by decide +kernel) (pa_cons (pv 2) pa_nil))) (fun _ _ => rfl))))
    (pss_cons (ps_if (pt_cmpR op_ge (pv 3) (pe_op op_pow pe_int pe_int) (nomark _))
      (pss_cons (ps_asg (pe_op op_fdivO (pv 3) (pv 1)) (pg_sub (pv 2) (pe_op op_modN (pe_callTy call_int1 (by rfl) T.z_int (by decide +kernel) (pa_cons (pe_ix ix_list (pv 0) pe_int (fun _ _ => rfl)) pa_nil)) (pe_callB call_len_seq (by rfl) T.z_len (by decide +kernel) (pa_cons (pv 2) pa_nil))) set_list))
      (pss_one (ps_ret (pe_op op_modN (pe_callTy call_int1 (by rfl) T.z_int (by decide +kernel) (pa_cons (pv 3) pa_nil)) (pv 1))))) pss_nil)
    (pss_cons (ps_augS (pv 0) pe_int get_listL pe_int ip_add set_list)
    (pss_cons (ps_set (i := 4) nd rfl (.inl rfl) (pe_op op_modN (pe_callTy call_int1 (by rfl) T.z_int (by decide +kernel) (pa_cons
        (pe_op op_add (pe_op op_add (pe_op op_add (pe_op op_mulO (pv 3) pe_int) (pe_op op_mulO (pe_op op_mulO (pe_ix ix_list (pv 0) pe_int (fun _ _ => rfl)) (pe_ix ix_list (pv 0) pe_int (fun _ _ => rfl))) pe_int)) (pe_op op_mulO (pe_ix ix_list (pv 0) pe_int (fun _ _ => rfl)) pe_int)) pe_int) pa_nil)) pe_int))
    (pss_cons (ps_set (i := 4) nd rfl (.inl rfl) (pe_op op_modN (pe_callTy call_int1 (by rfl) T.z_int (by decide +kernel) (pa_cons (pe_op op_add (pe_op op_mulO (pv 4) (pv 4)) pe_int) pa_nil)) pe_int))
    (pss_one (ps_ret (pe_op op_modN (pe_callTy call_int1 (by rfl) T.z_int (by decide +kernel) (pa_cons (pe_op op_fdivO (pv 4) pe_int) pa_nil)) (pv 1))))))))))  , ?_⟩
  -- cells = pot[0]; pot[2] += 1
  refine ⟨_, rfl, p, _, 0, _, rfl, rfl, .of hp, atI_nat (j := 0) rfl, ?_⟩
  refine ⟨_, rfl, p, _, 2, _, rfl, rfl, .of hp, by decide, by decide, rfl, j, 1, rfl, rfl, p, _, 2, 2, rfl, rfl, hp, rfl, ?_⟩
  have hp1 : (upd H p (.lst [.ref c, .int i, .int (j + 1), sh])) p = some (.lst [.ref c, .int i, .int (j + 1), sh]) := upd_same
  have hc1 : (upd H p (.lst [.ref c, .int i, .int (j + 1), sh])) c = some (.lst (cells.map V.int)) := by rw [upd_ne npc.symm]; exact hc
  have hF1 : ∀ a, F0 a → (upd H p (.lst [.ref c, .int i, .int (j + 1), sh])) a = H a := fun a f => upd_ne fun e => wF a (.inl e) f
  show tSeq _ _ _ _ (upd H p (.lst [.ref c, .int i, .int (j + 1), sh]))
  generalize upd H p (.lst [.ref c, .int i, .int (j + 1), sh]) = H1 at hp1 hc1 hF1
  -- cell = 5 if cells == [] else ..
  refine ⟨_, rfl, Nat.zero_le _, fun x nx => ?_⟩
  have hp2 : (upd H1 x (.lst [])) p = some (.lst [.ref c, .int i, .int (j + 1), sh]) := by rw [upd_ne (ne_of_none hp1 nx)]; exact hp1
  have hc2 : (upd H1 x (.lst [])) c = some (.lst (cells.map V.int)) := by rw [upd_ne (ne_of_none hc1 nx)]; exact hc1
  have hF2 : ∀ a, F0 a → (upd H1 x (.lst [])) a = H a := fun a f => by
    rw [upd_ne fun e => ?_]; exact hF1 a f
    obtain ⟨o, e1, _⟩ := sa a f
    rw [← hF1 a f, e, nx] at e1; cases e1
  have hx2 : (upd H1 x (.lst [])) x = some (.lst []) := upd_same
  generalize upd H1 x (.lst []) = H2 at hp2 hc2 hF2 hx2
  have pc2 : Dp K H2 (.ref c) (.list (cells.map .int)) := .lst (.of hc2) (IsA.dp (R := H2) _ (IsA.of_ints cells))
  refine .inr ⟨_, _, pc2, .lst (.of hx2) .nil, (Shp.ints cells).shaped, rfl, _, rfl, ?_⟩
  rw [eqv_nil]
  have last : ∀ (z : Int), 0 ≤ z % many ∧ z % many < many := fun z => ⟨Int.emod_nonneg _ (by omega), Int.emod_lt_of_pos _ (by omega)⟩
  have ixp : ∀ {H3 : Hp} {vs : List V}, H3 p = some (.lst vs) → SqL K H3 p vs := fun h => .of h
  have mf : ∀ z : Int, z.fmod many = z % many := fun z => Int.fmod_eq_emod_of_nonneg _ (by omega)
  -- behind the cell: a small one is mixed
  have small : ∀ (cell : Int), 0 ≤ cell → cell < 10 ^ 18 → ∀ (H3 : Hp), H3 p = some (.lst [.ref c, .int (i + 1), .int (j + 1), sh]) → H3 c = some (.lst (cells.map V.int)) → (∀ a, F0 a → H3 a = H a) → ∀ r : Int, Q (.int (r.fmod many)) H3 := fun cell c0 c1 H3 h1 h2 h3 r => by
    rw [mf]
    exact fin _ H3 (last r).1 (last r).2 h3 ⟨npc, cells, i + 1, j + 1, sh, h1, h2, hnn, hlen, by omega, by omega, by omega⟩
  cases hcl : cells with
  | nil =>
    refine iteT ?_
    refine ⟨_, rfl, _, _, rfl, rfl, ⟨by decide, by decide, by decide⟩, _, _, rfl, rfl, _, rfl, ?_⟩
    refine iteF ?_
    rw [hcl] at hc2
    refine ⟨_, rfl, p, _, 1, _, rfl, rfl, ixp hp2, by decide, by decide, rfl, i, 1, rfl, rfl, p, _, 1, 1, rfl, rfl, hp2, rfl, ?_⟩
    have hp3 : (upd H2 p (.lst [.ref c, .int (i + 1), .int (j + 1), sh])) p = some (.lst [.ref c, .int (i + 1), .int (j + 1), sh]) := upd_same
    have hc3 : (upd H2 p (.lst [.ref c, .int (i + 1), .int (j + 1), sh])) c = some (.lst (cells.map V.int)) := by rw [upd_ne npc.symm, hcl]; exact hc2
    have hF3 : ∀ a, F0 a → (upd H2 p (.lst [.ref c, .int (i + 1), .int (j + 1), sh])) a = H a := fun a f => by rw [upd_ne fun e => wF a (.inl e) f]; exact hF2 a f
    show tSeq _ _ _ _ (upd H2 p (.lst [.ref c, .int (i + 1), .int (j + 1), sh]))
    generalize upd H2 p (.lst [.ref c, .int (i + 1), .int (j + 1), sh]) = H3 at hp3 hc3 hF3
    refine ⟨_, rfl, _, _, rfl, rfl, MulOk.r ⟨by decide, by decide⟩, _, rfl, p, _, 2, _, rfl, rfl, .of hp3, atI_nat (j := 2) rfl, _, rfl, p, _, 2, _, rfl, rfl, .of hp3, atI_nat (j := 2) rfl, _, _, rfl, rfl, MulOk.l ⟨by omega, by omega⟩, _, _, rfl, rfl, MulOk.r ⟨by decide, by decide⟩, _, _, rfl, rfl,
      _, rfl, p, _, 2, _, rfl, rfl, .of hp3, atI_nat (j := 2) rfl, _, _, rfl, rfl, MulOk.r ⟨by decide, by decide⟩, _, _, rfl, rfl, _, _, rfl, rfl, .inl ⟨_, rfl, _, _, rfl, rfl, (show (2147483647 : Int) ≠ 0 by decide), ?_⟩⟩
    refine ⟨_, rfl, _, rfl, _, _, rfl, rfl, MulOk.l ?_, _, _, rfl, rfl, .inl ⟨_, rfl, _, _, rfl, rfl, (show (2147483629 : Int) ≠ 0 by decide), ?_⟩⟩
    · have := Int.fmod_nonneg_of_pos (5 * 48271 + (j + 1) * (j + 1) * 69621 + (j + 1) * 7919 + 11) (b := 2147483647) (by decide)
      have := Int.fmod_lt_of_pos (5 * 48271 + (j + 1) * (j + 1) * 69621 + (j + 1) * 7919 + 11) (b := 2147483647) (by decide)
      omega
    refine ⟨_, rfl, _, _, rfl, rfl, ⟨by decide, by decide +kernel⟩, .inl ⟨_, rfl, _, rfl, _, _, rfl, rfl, by omega, ?_⟩⟩
    exact small 5 (by omega) (by omega) H3 hp3 hc3 hF3 _
  | cons z0 zr =>
    refine iteF ?_
    have hl : (cells.map V.int).length = cells.length := List.length_map ..
    have hpos : (0 : Int) < ((cells.map V.int).length : Int) := by rw [hl, hcl, List.length_cons]; omega
    have k0 := Int.fmod_nonneg_of_pos i hpos
    have k1 := Int.fmod_lt_of_pos i hpos
    have kn : (i.fmod ((cells.map V.int).length : Int)).toNat < cells.length := by rw [hl] at k0 k1 ⊢; omega
    have gk : (cells.map V.int)[(i.fmod ((cells.map V.int).length : Int)).toNat]? = some (.int cells[(i.fmod ((cells.map V.int).length : Int)).toNat]) := by
      rw [List.getElem?_map, List.getElem?_eq_getElem kn]; rfl
    have ek : ((i.fmod ((cells.map V.int).length : Int)).toNat : Int) = i.fmod ((cells.map V.int).length : Int) := Int.toNat_of_nonneg k0
    have ak : atI (cells.map V.int) (i.fmod ((cells.map V.int).length : Int)) = some (.int cells[(i.fmod ((cells.map V.int).length : Int)).toNat]) := by
      have := atI_nat gk
      rw [ek] at this; exact this
    have cn : 0 ≤ cells[(i.fmod ((cells.map V.int).length : Int)).toNat] := hnn _ (List.getElem_mem kn)
    have pos : ((cells.map V.int).length : Int) ≠ 0 := by omega
    refine ⟨_, rfl, _, rfl, p, _, 1, _, rfl, rfl, .of hp2, atI_nat (j := 1) rfl, .inl ⟨_, rfl, _, rfl, c, _, rfl, .inl (.of hc2), _, _, rfl, rfl, pos, c, _, _, _, rfl, rfl, .of hc2, ak, ?_⟩⟩
    generalize hcell : cells[(i.fmod ((cells.map V.int).length : Int)).toNat] = cell at cn
    refine ⟨_, rfl, _, _, rfl, rfl, ⟨by decide, by decide, by decide⟩, _, _, rfl, rfl, _, rfl, ?_⟩
    refine ite2 (fun big => ?_) (fun big => ?_)
    · refine ⟨_, rfl, _, rfl, _, _, rfl, rfl, DivOk.of (b := 64) (by omega) (by omega) (by decide), _, rfl, _, rfl, p, _, 1, _, rfl, rfl, .of hp2, atI_nat (j := 1) rfl, .inl ⟨_, rfl, _, rfl, c, _, rfl, .inl (.of hc2), _, _, rfl, rfl, pos, c, _, _, (i.fmod ((cells.map V.int).length : Int)).toNat, rfl, rfl, hc2, ?_, ?_⟩⟩
      · unfold ixN
        rw [if_pos k0, if_pos k1]
      refine ⟨_, rfl, .inl ⟨_, rfl, _, rfl, _, _, rfl, rfl, by omega, ?_⟩⟩
      show Q (.int (cell.fmod many)) _
      rw [mf]
      refine fin _ _ (last cell).1 (last cell).2 (fun a f => by rw [upd_ne fun e => wF a (.inr e) f]; exact hF2 a f) ⟨npc, cells.set (i.fmod ((cells.map V.int).length : Int)).toNat (cell.fdiv many), i, j + 1, sh, by rw [upd_ne npc]; exact hp2, by rw [upd_same, List.map_set], fun x hx => ?_, by rw [List.length_set]; exact hlen, i0, by omega, by omega⟩
      rcases List.mem_or_eq_of_mem_set hx with hx | hx
      · exact hnn x hx
      · rw [hx]; exact Int.fdiv_nonneg cn (by omega)
    have big : cell < 10 ^ 18 := by
      have b2 : ¬ (10 : Int) ^ (18 : Int).toNat ≤ cell := fun z => big (decide_eq_true z)
      have e18 : (10 : Int) ^ (18 : Int).toNat = 10 ^ 18 := rfl
      omega
    refine ⟨_, rfl, p, _, 1, _, rfl, rfl, ixp hp2, by decide, by decide, rfl, i, 1, rfl, rfl, p, _, 1, 1, rfl, rfl, hp2, rfl, ?_⟩
    have hp3 : (upd H2 p (.lst [.ref c, .int (i + 1), .int (j + 1), sh])) p = some (.lst [.ref c, .int (i + 1), .int (j + 1), sh]) := upd_same
    have hc3 : (upd H2 p (.lst [.ref c, .int (i + 1), .int (j + 1), sh])) c = some (.lst (cells.map V.int)) := by rw [upd_ne npc.symm]; exact hc2
    have hF3 : ∀ a, F0 a → (upd H2 p (.lst [.ref c, .int (i + 1), .int (j + 1), sh])) a = H a := fun a f => by rw [upd_ne fun e => wF a (.inl e) f]; exact hF2 a f
    show tSeq _ _ _ _ (upd H2 p (.lst [.ref c, .int (i + 1), .int (j + 1), sh]))
    generalize upd H2 p (.lst [.ref c, .int (i + 1), .int (j + 1), sh]) = H3 at hp3 hc3 hF3
    refine ⟨_, rfl, _, _, rfl, rfl, MulOk.r ⟨by decide, by decide⟩, _, rfl, p, _, 2, _, rfl, rfl, .of hp3, atI_nat (j := 2) rfl, _, rfl, p, _, 2, _, rfl, rfl, .of hp3, atI_nat (j := 2) rfl, _, _, rfl, rfl, MulOk.l ⟨by omega, by omega⟩, _, _, rfl, rfl, MulOk.r ⟨by decide, by decide⟩, _, _, rfl, rfl,
      _, rfl, p, _, 2, _, rfl, rfl, .of hp3, atI_nat (j := 2) rfl, _, _, rfl, rfl, MulOk.r ⟨by decide, by decide⟩, _, _, rfl, rfl, _, _, rfl, rfl, .inl ⟨_, rfl, _, _, rfl, rfl, (show (2147483647 : Int) ≠ 0 by decide), ?_⟩⟩
    refine ⟨_, rfl, _, rfl, _, _, rfl, rfl, MulOk.l ?_, _, _, rfl, rfl, .inl ⟨_, rfl, _, _, rfl, rfl, (show (2147483629 : Int) ≠ 0 by decide), ?_⟩⟩
    · have := Int.fmod_nonneg_of_pos (cell * 48271 + (j + 1) * (j + 1) * 69621 + (j + 1) * 7919 + 11) (b := 2147483647) (by decide)
      have := Int.fmod_lt_of_pos (cell * 48271 + (j + 1) * (j + 1) * 69621 + (j + 1) * 7919 + 11) (b := 2147483647) (by decide)
      omega
    refine ⟨_, rfl, _, _, rfl, rfl, ⟨by decide, by decide +kernel⟩, .inl ⟨_, rfl, _, rfl, _, _, rfl, rfl, by omega, ?_⟩⟩
    exact small cell (by omega) (by omega) H3 hp3 hc3 hF3 _
end
end K51

namespace K51
open PySem PySem.Spec PyProof.Rows L2 DL
def isRat : D → Bool
  | .tuple [.int a, .int b] => decide (1 ≤ b) && decide (Int.gcd a b = 1)
  | _ => false
def g_is_ratio : DF := fun dl P => ∃ d, dl = [d] ∧ P (.val (.bool (isRat d)))
def g_is_below : DF := fun dl P => ∃ a b c d : Int, dl = [.tuple [.int a, .int b], .tuple [.int c, .int d]] ∧ (a.natAbs < bigD ∧ b.natAbs < bigD ∧ c.natAbs < bigD ∧ d.natAbs < bigD) ∧ P (.val (.bool (decide (a * d < c * b))))
abbrev g__law_pot : DF := gPot
abbrev g__law_draw : DFW := gDraw
abbrev g__law_is_between : DF := g_is_between
abbrev tb__law_is_between : DM := tb_is_between
theorem rd__law_is_between : ∀ dl Q, dl.length = 3 → g_is_between dl Q → tb_is_between (enF Q) (slots0 3 dl) := rd_is_between
def g__law_number : DFW := fun w dl P => ∃ p c b, w = potB p c b ∧ dl = [] ∧ b + 4 < 2 ^ 60 ∧ ∀ n : Int, n.natAbs < 2 ^ 110 → P (.val (.int n)) (potB p c (b + 4))
def fitD : D → Prop
  | .tuple [.int a, .int b] => a.natAbs < 2 ^ 150 ∧ b.natAbs < 2 ^ 150
  | _ => True
def g__law_is_ratio : DF := fun dl P => ∃ d, dl = [d] ∧ fitD d ∧ P (.val (.bool (isRat d)))
/-! is_ratio: 0 value -/
def tb_is_ratio : DM := (mSeq (mIf (bOr (bNot (bT (dCall g_is_tuple_of (aCons (dC (.int 2)) (aCons (dVar 0) aNil))))) (bOr (bNot (bT (dCall g_is_integer (aCons (d2 dIx (dVar 0) (dC (.int 0))) aNil)))) (bNot (bT (dCall g_is_integer (aCons (d2 dIx (dVar 0) (dC (.int 1))) aNil)))))) (mRet (dC (.bool false))) mNil)
    (mRet (dAnd (d2 dGe (d2 dIx (dVar 0) (dC (.int 1))) (dC (.int 1))) (d2 dEq (dCall g_common (aCons (dB bAbs (aCons (d2 dIx (dVar 0) (dC (.int 0))) aNil)) (aCons (d2 dIx (dVar 0) (dC (.int 1))) aNil))) (dC (.int 1))))))
/-! is_below: 0 one 1 other -/
def tb_is_below : DM := (mRet (d2 dLt (d2 dMul (d2 dIx (dVar 0) (dC (.int 0))) (d2 dIx (dVar 1) (dC (.int 1)))) (d2 dMul (d2 dIx (dVar 1) (dC (.int 0))) (d2 dIx (dVar 0) (dC (.int 1))))))
/-! _law_number: 0 pot 1 size 2 number -/
def tb__law_number : DM := (mSeq (mSet 1 (d2 dIx (dLst (aCons (dC (.int 1)) (aCons (dC (.int 3)) (aCons (dC (.int 12)) (aCons (dC (.int 1000)) (aCons (d2 dPow (dC (.int 10)) (dC (.int 9))) (aCons (d2 dPow (dC (.int 10)) (dC (.int 30))) (aCons (d2 dMul (d2 dPow (dC (.int 2)) (dC (.int 60))) (d2 dPow (dC (.int 10)) (dC (.int 9)))) aNil)))))))) (dCallW 0 g__law_draw (aCons (dC (.int 7)) aNil))))
    (mSeq (mSet 2 (d2 dAdd (d2 dMul (dCallW 0 g__law_draw (aCons (dC (.int 1000)) aNil)) (dVar 1)) (dCallW 0 g__law_draw (aCons (dC (.int 13)) aNil))))
    (mRet (dIf (bT (d2 dEq (dCallW 0 g__law_draw (aCons (dC (.int 2)) aNil)) (dC (.int 0)))) (d2 dSub (dC (.int 0)) (dVar 2)) (dVar 2)))))
/-! _law_is_ratio: 0 value -/
def tb__law_is_ratio : DM := (mSeq (mIf (bOr (bNot (bT (dIsi "tuple" (dVar 0)))) (bT (d2 dNe (dB bLen (aCons (dVar 0) aNil)) (dC (.int 2))))) (mRet (dC (.bool false))) mNil)
    (mSeq (mIf (bOr (bNot (bT (dCall g__law_is_between (aCons (d1 dNeg (d2 dPow (dC (.int 10)) (dC (.int 60)))) (aCons (d2 dIx (dVar 0) (dC (.int 0))) (aCons (d2 dPow (dC (.int 10)) (dC (.int 60))) aNil)))))) (bNot (bT (dCall g__law_is_between (aCons (dC (.int 1)) (aCons (d2 dIx (dVar 0) (dC (.int 1))) (aCons (d2 dPow (dC (.int 10)) (dC (.int 60))) aNil))))))) (mRet (dC (.bool false))) mNil)
    (mRet (d2 dEq (dCall g__law_ratio (aCons (d2 dIx (dVar 0) (dC (.int 0))) (aCons (d2 dIx (dVar 0) (dC (.int 1))) aNil))) (dVar 0)))))
theorem tup2 {d : D} (h : tupN 2 d = true) : ∃ x y, d = .tuple [x, y] := by
  cases d with
  | tuple xs =>
    match xs, h with
    | [x, y], _ => exact ⟨x, y, rfl⟩
    | [], h => simp at h
    | [_], h => simp at h
    | _ :: _ :: _ :: r, h => simp at h; omega
  | _ => simp at h
theorem int_of {d : D} (h : intB d = true) : ∃ i, d = .int i := by
  cases d with
  | int i => exact ⟨i, rfl⟩
  | _ => simp at h
theorem isRat_of {d : D} (h : isRat d = true) : ∃ a b, d = .tuple [.int a, .int b] := by
  unfold isRat at h
  split at h
  · exact ⟨_, _, rfl⟩
  · cases h
theorem isRat_no {d : D} (h : ∀ a b, d ≠ .tuple [.int a, .int b]) : isRat d = false := by
  cases e : isRat d with
  | false => rfl
  | true => obtain ⟨a, b, e⟩ := isRat_of e; exact absurd e (h a b)
theorem rd_is_ratio : ∀ dl Q, dl.length = 1 → g_is_ratio dl Q → tb_is_ratio (enF Q) (slots0 1 dl) := by
  rintro dl Q - ⟨d, rfl, h⟩
  cases ht : tupN 2 d with
  | false =>
    rw [isRat_no (by rintro a b rfl; simp at ht)] at h
    simpa [tb_is_ratio, ht] using h
  | true =>
    obtain ⟨x, y, rfl⟩ := tup2 ht
    cases hx : intB x with
    | false =>
      rw [isRat_no (by rintro a b e; cases e; simp at hx)] at h
      simpa [tb_is_ratio, hx] using h
    | true =>
      cases hy : intB y with
      | false =>
        rw [isRat_no (by rintro a b e; cases e; simp at hy)] at h
        simpa [tb_is_ratio, hx, hy] using h
      | true =>
        obtain ⟨a, rfl⟩ := int_of hx
        obtain ⟨b, rfl⟩ := int_of hy
        by_cases hb : 1 ≤ b
        · simp [isRat, hb] at h
          simp [tb_is_ratio, hb]
          refine (show (0 ≤ b ∧ _) from ⟨by omega, ?_⟩)
          have e : Int.gcd (a.natAbs : Int) b = Int.gcd a b := rfl
          simp only [e]
          have e2 : decide ((Int.gcd a b : Int) = 1) = decide (Int.gcd a b = 1) := by
            rw [decide_eq_decide]; omega
          simpa [e2] using h
        · simpa [tb_is_ratio, isRat, hb] using h
theorem rd_is_below : ∀ dl Q, dl.length = 2 → g_is_below dl Q → tb_is_below (enF Q) (slots0 2 dl) := by
  rintro dl Q - ⟨a, b, c, d, rfl, ⟨h1, h2, h3, h4⟩, h⟩
  simp [tb_is_below]
  exact ⟨mulOk_bigD h1 h4, mulOk_bigD h3 h2, h⟩
theorem ratD_one {a b : Int} (hb : 1 ≤ b) : (ratD a b = .tuple [.int a, .int b]) ↔ Int.gcd a b = 1 := by
  have hp := gcd_pos (t := a) (b := b) (by omega)
  have e : dnF a b = (Int.gcd a b : Int) := by unfold dnF; rw [if_neg (by omega)]
  unfold ratD
  rw [e]
  constructor
  · intro h
    injection h with h
    injection h with _ h
    injection h with h
    injection h with h
    have d : (Int.gcd a b : Int) ∣ b := Int.gcd_dvd_right ..
    obtain ⟨k, hk⟩ := d
    have : b.fdiv (Int.gcd a b : Int) = k := by
      conv => lhs; lhs; rw [hk]
      exact Int.mul_fdiv_cancel_left k (by omega)
    rw [this] at h
    rw [h] at hk
    have : (Int.gcd a b : Int) * b = 1 * b := by omega
    have := Int.eq_of_mul_eq_mul_right (by omega) this
    omega
  · intro h
    rw [h]
    simp
theorem eqv_ints (a b c d : Int) : PyData.eqv (.tuple [.int a, .int b]) (.tuple [.int c, .int d]) = (decide (a = c) && decide (b = d)) := by
  simp only [PyData.eqv, PyData.eqvAll, Bool.and_true]
  rfl
theorem shp_pair (a b : Int) : SeqAt.shaped (.tuple [.int a, .int b]) = true := Shp.shaped (n := 2) (Shp.tuple fun x hx => by
  simp at hx
  rcases hx with rfl | rfl <;> exact Shp.int)
theorem betw_no {d : D} (h : ∀ v, d ≠ .int v) (lo hi : Int) : betw lo hi d = false := by
  cases d <;> first | rfl | exact absurd rfl (h _)
theorem ten60 : (10 : Int) ^ (60 : Int).toNat = 10 ^ 60 := rfl
theorem cpow60 : CPow 10 60 := ⟨by decide, by decide, by decide⟩
theorem rd__law_is_ratio : ∀ dl Q, dl.length = 1 → g__law_is_ratio dl Q → tb__law_is_ratio (enF Q) (slots0 1 dl) := by
  rintro dl Q - ⟨d, rfl, hf, h⟩
  cases ht : tupN 2 d with
  | false =>
    rw [isRat_no (by rintro a b rfl; simp at ht)] at h
    cases d with
    | tuple xs =>
      have ht : ¬ (xs.length : Int) = 2 := by simpa using ht
      simpa [tb__law_is_ratio, isT_tuple, ht] using h
    | _ => simpa [tb__law_is_ratio, isT_tuple] using h
  | true =>
    obtain ⟨x, y, rfl⟩ := tup2 ht
    by_cases hx : ∃ a, x = .int a
    · obtain ⟨a, rfl⟩ := hx
      by_cases hy : ∃ b, y = .int b
      · obtain ⟨b, rfl⟩ := hy
        obtain ⟨ha, hb⟩ : a.natAbs < 2 ^ 150 ∧ b.natAbs < 2 ^ 150 := hf
        have h1 : -1000000000000000000000000000000000000000000000000000000000000 ≤ a ∧ a ≤ 1000000000000000000000000000000000000000000000000000000000000 := by omega
        by_cases hb1 : 1 ≤ b
        · have h2 : 1 ≤ b ∧ b ≤ 1000000000000000000000000000000000000000000000000000000000000 := by omega
          simp [tb__law_is_ratio, isT_tuple, ten60, cpow60, h1, h2]
          refine ⟨by omega, lt_bigD hb (by decide), ?_⟩
          have e1 := ratD_one (a := a) hb1
          unfold ratD at e1 ⊢
          simp only [dEqB, shp_pair, eqv_ints, true_and]
          have e2 : isRat (.tuple [.int a, .int b]) = (decide (a.fdiv (dnF a b) = a) && decide (b.fdiv (dnF a b) = b)) := by
            rw [Bool.eq_iff_iff]
            simp [isRat, hb1]
            rw [← e1]
            simp
          rw [e2] at h
          simpa using h
        · have e : isRat (.tuple [.int a, .int b]) = false := by simp [isRat, hb1]
          rw [e] at h
          have h2 : ¬ (1 ≤ b ∧ b ≤ 1000000000000000000000000000000000000000000000000000000000000) := by omega
          simpa [tb__law_is_ratio, isT_tuple, ten60, cpow60, h1, h2] using h
      · have hy : ∀ v, y ≠ .int v := fun v e => hy ⟨v, e⟩
        rw [isRat_no (by rintro a b e; cases e; exact hy _ rfl)] at h
        simp only [tb__law_is_ratio]
        simp [isT_tuple, ten60, cpow60, betw_no hy]
        exact h
    · have hx : ∀ v, x ≠ .int v := fun v e => hx ⟨v, e⟩
      rw [isRat_no (by rintro a b e; cases e; exact hx _ rfl)] at h
      simpa [tb__law_is_ratio, isT_tuple, ten60, cpow60, betw_no hx] using h
theorem cpow9 : CPow 10 9 := ⟨by decide, by decide, by decide⟩
theorem cpow30 : CPow 10 30 := ⟨by decide, by decide, by decide⟩
theorem cpow260 : CPow 2 60 := ⟨by decide, by decide, by decide⟩
theorem rd__law_number : ∀ w dl Q, dl.length = 0 → g__law_number w dl Q → tb__law_number (enW w Q) (slotsW 3 w dl) := by
  rintro w dl Q - ⟨p, c, b, rfl, rfl, hb, h⟩
  have m1 : MulOk (2 ^ (60 : Int).toNat) (10 ^ (9 : Int).toNat) := MulOk.l ⟨by decide, by decide⟩
  simp only [tb__law_number, mSeq]
  simp [cpow9, cpow30, cpow260]
  refine ⟨m1, at_draw (by decide) (by decide) (by omega) fun r h0 h1 => ?_⟩
  have key : ∃ z : Int, atI [PyData.int 1, .int 3, .int 12, .int 1000, .int 1000000000, .int 1000000000000000000000000000000, .int 1152921504606846976000000000] r = some (.int z) ∧ 0 ≤ z ∧ z < 2 ^ 100 := by
    obtain ⟨v, e, hm⟩ := atI_at (xs := [PyData.int 1, .int 3, .int 12, .int 1000, .int 1000000000, .int 1000000000000000000000000000000, .int 1152921504606846976000000000]) h0 (by simpa using h1)
    simp at hm
    rcases hm with rfl | rfl | rfl | rfl | rfl | rfl | rfl <;> exact ⟨_, e, by decide, by decide⟩
  obtain ⟨z, e, z0, z1⟩ := key
  simp [e]
  refine at_draw (by decide) (by decide) (by omega) fun r2 h20 h21 => ?_
  have m2 : MulOk r2 z := MulOk.l ⟨by omega, by omega⟩
  simp [m2]
  refine at_draw (by decide) (by decide) (by omega) fun r3 h30 h31 => ?_
  simp
  refine at_draw (by decide) (by decide) (by omega) fun r4 h40 h41 => ?_
  simp
  have m0 : 0 ≤ r2 * z := Int.mul_nonneg h20 z0
  have m3 : r2 * z ≤ 1000 * 2 ^ 100 := Int.mul_le_mul (by omega) (by omega) z0 (by decide)
  by_cases hr : r4 = 0
  · simpa [hr] using h (-(r2 * z + r3)) (by omega)
  · simpa [hr] using h (r2 * z + r3) (by omega)
end K51

namespace K51
open PySem PySem.Spec PyProof.Rows L2 DL
@[simp] theorem at_is_ratio {d : D} {P : SD → Prop} : g_is_ratio [d] P = P (.val (.bool (isRat d))) := by
  refine propext ⟨?_, fun h => ⟨_, rfl, h⟩⟩
  rintro ⟨_, e, h⟩
  cases e; exact h
@[simp] theorem at_law_is_ratio {d : D} {P : SD → Prop} : g__law_is_ratio [d] P = (fitD d ∧ P (.val (.bool (isRat d)))) := by
  refine propext ⟨?_, fun h => ⟨_, rfl, h⟩⟩
  rintro ⟨_, e, h⟩
  cases e; exact h
@[simp] theorem at_is_below {a b c d : Int} {P : SD → Prop} : g_is_below [.tuple [.int a, .int b], .tuple [.int c, .int d]] P = ((a.natAbs < bigD ∧ b.natAbs < bigD ∧ c.natAbs < bigD ∧ d.natAbs < bigD) ∧ P (.val (.bool (decide (a * d < c * b))))) := by
  refine propext ⟨?_, fun h => ⟨_, _, _, _, rfl, h⟩⟩
  rintro ⟨_, _, _, _, e, h⟩
  cases e; exact h
theorem at_number {p c : Addr} {b : Nat} {P : SD → Wd → Prop} (hb : b + 4 < 2 ^ 60) (h : ∀ n : Int, n.natAbs < 2 ^ 110 → P (.val (.int n)) (potB p c (b + 4))) : g__law_number (potB p c b) [] P :=
  ⟨p, c, b, rfl, rfl, hb, h⟩
abbrev g__law_same : DF := gSame 2
/-! plain facts on ratios -/
theorem dn_dvd {t b : Int} : dnF t b ∣ t ∧ dnF t b ∣ b := by
  have h1 : (Int.gcd t b : Int) ∣ t := Int.gcd_dvd_left ..
  have h2 : (Int.gcd t b : Int) ∣ b := Int.gcd_dvd_right ..
  unfold dnF
  split
  · exact ⟨Int.neg_dvd.mpr h1, Int.neg_dvd.mpr h2⟩
  · exact ⟨h1, h2⟩
theorem rat_ex {t b : Int} (hb : b ≠ 0) : ∃ n d, ratD t b = .tuple [.int n, .int d] ∧ 1 ≤ d ∧ Int.gcd n d = 1 ∧ n * b = d * t ∧ n.natAbs ≤ t.natAbs ∧ d.natAbs ≤ b.natAbs := by
  obtain ⟨⟨n, hn⟩, ⟨d, hd⟩⟩ := dn_dvd (t := t) (b := b)
  have hp := gcd_pos (t := t) hb
  have na : (dnF t b).natAbs = Int.gcd t b := by unfold dnF; split <;> omega
  have f0 : dnF t b ≠ 0 := by omega
  have e1 : t.fdiv (dnF t b) = n := by
    conv => lhs; lhs; rw [hn]
    exact Int.mul_fdiv_cancel_left n f0
  have e2 : b.fdiv (dnF t b) = d := by
    conv => lhs; lhs; rw [hd]
    exact Int.mul_fdiv_cancel_left d f0
  have sgn : 1 ≤ d := by
    by_cases hn : b < 0
    · have : dnF t b < 0 := by unfold dnF; rw [if_pos hn]; omega
      have : 0 < d := by
        refine Decidable.byContradiction fun h => ?_
        have := Int.mul_nonneg_of_nonpos_of_nonpos (Int.le_of_lt this) (show d ≤ 0 by omega)
        omega
      omega
    · have : 0 < dnF t b := by unfold dnF; rw [if_neg hn]; omega
      have : 0 < d := by
        refine Decidable.byContradiction fun h => ?_
        have := Int.mul_nonpos_of_nonneg_of_nonpos (Int.le_of_lt this) (show d ≤ 0 by omega)
        omega
      omega
  have g : Int.gcd n d = 1 := by
    have : Int.gcd (dnF t b * n) (dnF t b * d) = (dnF t b).natAbs * Int.gcd n d := Int.gcd_mul_left ..
    rw [← hn, ← hd, na] at this
    have h1 : Int.gcd t b * 1 = Int.gcd t b * Int.gcd n d := by omega
    exact (Nat.eq_of_mul_eq_mul_left hp h1).symm
  refine ⟨n, d, by unfold ratD; rw [e1, e2], sgn, g, ?_, ?_, ?_⟩
  · conv => lhs; rw [hd]
    conv => rhs; rw [hn]
    rw [Int.mul_left_comm, Int.mul_left_comm d, Int.mul_comm n]
  · have : t.natAbs = (dnF t b).natAbs * n.natAbs := by conv => lhs; rw [hn, Int.natAbs_mul]
    rw [this, na]; exact Nat.le_mul_of_pos_left _ hp
  · have : b.natAbs = (dnF t b).natAbs * d.natAbs := by conv => lhs; rw [hd, Int.natAbs_mul]
    rw [this, na]; exact Nat.le_mul_of_pos_left _ hp
theorem dn_scale {t b f : Int} (hb : b ≠ 0) (hf : f ≠ 0) : dnF (t * f) (b * f) = dnF t b * f := by
  have hg : Int.gcd (t * f) (b * f) = Int.gcd t b * f.natAbs := Int.gcd_mul_right ..
  unfold dnF
  rw [hg, Int.natCast_mul]
  rcases Int.lt_or_lt_of_ne hf with h | h <;> rcases Int.lt_or_lt_of_ne hb with h2 | h2
  · have : ¬ b * f < 0 := by have := Int.mul_pos_of_neg_of_neg h2 h; omega
    rw [if_neg this, if_pos h2]
    have : (f.natAbs : Int) = -f := by omega
    rw [this, Int.mul_neg, Int.neg_mul]
  · have : b * f < 0 := Int.mul_neg_of_pos_of_neg h2 h
    rw [if_pos this, if_neg (by omega)]
    have : (f.natAbs : Int) = -f := by omega
    rw [this, Int.mul_neg, Int.neg_neg]
  · have : b * f < 0 := Int.mul_neg_of_neg_of_pos h2 h
    rw [if_pos this, if_pos h2]
    have : (f.natAbs : Int) = f := by omega
    rw [this, Int.neg_mul]
  · have : ¬ b * f < 0 := by have := Int.mul_pos h2 h; omega
    rw [if_neg this, if_neg (by omega)]
    have : (f.natAbs : Int) = f := by omega
    rw [this]
theorem rat_scale {t b f : Int} (hb : b ≠ 0) (hf : f ≠ 0) : ratD (t * f) (b * f) = ratD t b := by
  obtain ⟨⟨n, hn⟩, ⟨d, hd⟩⟩ := dn_dvd (t := t) (b := b)
  have hp := gcd_pos (t := t) hb
  have na : (dnF t b).natAbs = Int.gcd t b := by unfold dnF; split <;> omega
  have f0 : dnF t b ≠ 0 := by omega
  have f1 : dnF t b * f ≠ 0 := Int.mul_ne_zero f0 hf
  unfold ratD
  rw [dn_scale hb hf]
  have e1 : (t * f).fdiv (dnF t b * f) = t.fdiv (dnF t b) := by
    have a1 : t.fdiv (dnF t b) = n := by
      conv => lhs; lhs; rw [hn]
      exact Int.mul_fdiv_cancel_left n f0
    have a2 : (t * f).fdiv (dnF t b * f) = n := by
      have : t * f = dnF t b * f * n := by conv => lhs; lhs; rw [hn]
                                           rw [Int.mul_assoc, Int.mul_assoc, Int.mul_comm n]
      rw [this]
      exact Int.mul_fdiv_cancel_left n f1
    rw [a1, a2]
  have e2 : (b * f).fdiv (dnF t b * f) = b.fdiv (dnF t b) := by
    have a1 : b.fdiv (dnF t b) = d := by
      conv => lhs; lhs; rw [hd]
      exact Int.mul_fdiv_cancel_left d f0
    have a2 : (b * f).fdiv (dnF t b * f) = d := by
      have : b * f = dnF t b * f * d := by conv => lhs; lhs; rw [hd]
                                           rw [Int.mul_assoc, Int.mul_assoc, Int.mul_comm d]
      rw [this]
      exact Int.mul_fdiv_cancel_left d f1
    rw [a1, a2]
  rw [e1, e2]
theorem below_trans {a b c d e f : Int} (hb : 1 ≤ b) (hd : 1 ≤ d) (hf : 1 ≤ f) (h1 : a * d < c * b) (h2 : c * f < e * d) : a * f < e * b := by
  have x1 : a * d * f < c * b * f := Int.mul_lt_mul_of_pos_right h1 (by omega)
  have x2 : c * f * b < e * d * b := Int.mul_lt_mul_of_pos_right h2 (by omega)
  have y1 : a * d * f = a * f * d := by rw [Int.mul_assoc, Int.mul_comm d, ← Int.mul_assoc]
  have y2 : c * b * f = c * f * b := by rw [Int.mul_assoc, Int.mul_comm b, ← Int.mul_assoc]
  have y3 : e * d * b = e * b * d := by rw [Int.mul_assoc, Int.mul_comm d, ← Int.mul_assoc]
  have : a * f * d < e * b * d := by omega
  exact Int.lt_of_mul_lt_mul_right this (by omega)
end K51

namespace K51
open PySem PySem.Spec PyProof.Rows L2 DL
/-! law: 0 script 1 pot 2 turn 3 rows 4 k 5 top 6 bottom 7 factor 8 told 9 one 10 other 11 due 12 values 13 value -/
def lb_law_1 : DM := (mIf (bNot (bT (dCall g__law_same (aCons (dCall g_is_ratio (aCons (dVar 13) aNil)) (aCons (dCall g__law_is_ratio (aCons (dVar 13) aNil)) aNil))))) (mRet (dC (.bool false))) mNil)
def lb_law_2 : DM := (mSeq (mSet 11 (d2 dLt (d2 dMul (d2 dIx (dVar 9) (dC (.int 0))) (d2 dIx (dVar 10) (dC (.int 1)))) (d2 dMul (d2 dIx (dVar 10) (dC (.int 0))) (d2 dIx (dVar 9) (dC (.int 1))))))
    (mIf (bOr (bNot (bT (dCall g__law_same (aCons (dCall g_is_below (aCons (dVar 9) (aCons (dVar 10) aNil))) (aCons (dVar 11) aNil))))) (bNot (bT (dCall g__law_same (aCons (dCall g_is_below (aCons (dTup (aCons (d2 dSub (dC (.int 0)) (d2 dIx (dVar 10) (dC (.int 0)))) (aCons (d2 dIx (dVar 10) (dC (.int 1))) aNil))) (aCons (dTup (aCons (d2 dSub (dC (.int 0)) (d2 dIx (dVar 9) (dC (.int 0)))) (aCons (d2 dIx (dVar 9) (dC (.int 1))) aNil))) aNil))) (aCons (dVar 11) aNil)))))) (mRet (dC (.bool false))) mNil))
def lb_law_3 : DM := (mFor (iSeq (dVar 3)) (gNm 10) lb_law_2)
def lb_law_4 : DM := (mSeq (mPar 5 6 (dCallW 1 g__law_number aNil) (dCallW 1 g__law_number aNil))
    (mSeq (mSet 7 (d2 dIx (dLst (aCons (dC (.int 1)) (aCons (dC (.int 6)) (aCons (d1 dNeg (dC (.int 6))) (aCons (d2 dPow (dC (.int 10)) (dC (.int 12))) aNil))))) (dCallW 1 g__law_draw (aCons (dC (.int 4)) aNil))))
    (mSeq (mSet 6 (dIf (bT (d2 dNe (dVar 6) (dC (.int 0)))) (dVar 6) (dC (.int 7))))
    (mSeq (mSet 8 (dCallK [0, 1] g_ratio_of (aCons (d2 dMul (dVar 5) (dVar 7)) (aCons (d2 dMul (dVar 6) (dVar 7)) aNil))))
    (mSeq (mIf (bOr (bNot (bT (dCall g__law_same (aCons (dVar 8) (aCons (dCall g__law_ratio (aCons (dVar 5) (aCons (dVar 6) aNil))) aNil))))) (bOr (bT (d2 (dIsB true) (dCall g_is_ratio (aCons (dVar 8) aNil)) (dC (.bool true)))) (bT (d2 dNe (d2 dMul (d2 dIx (dVar 8) (dC (.int 0))) (dVar 6)) (d2 dMul (d2 dIx (dVar 8) (dC (.int 1))) (dVar 5)))))) (mRet (dC (.bool false))) mNil)
    (mApp 3 (dVar 8)))))))
def lb_law_5 : DM := (mSeq (mSet 3 (dLst aNil))
    (mSeq (mFor (iR1 (dC (.int 3))) (gNm 4) lb_law_4)
    (mSeq (mIf (bNot (bT (dCall g__law_same (aCons (dCall g_ratio_of (aCons (dC (.int 0)) (aCons (d2 dIx (d2 dIx (dVar 3) (dC (.int 0))) (dC (.int 1))) aNil))) (aCons (dTup (aCons (dC (.int 0)) (aCons (dC (.int 1)) aNil))) aNil))))) (mRet (dC (.bool false))) mNil)
    (mSeq (mFor (iSeq (dVar 3)) (gNm 9) lb_law_3)
    (mSeq (mIf (bAnd (bT (dCall g_is_below (aCons (d2 dIx (dVar 3) (dC (.int 0))) (aCons (d2 dIx (dVar 3) (dC (.int 1))) aNil)))) (bAnd (bT (dCall g_is_below (aCons (d2 dIx (dVar 3) (dC (.int 1))) (aCons (d2 dIx (dVar 3) (dC (.int 2))) aNil)))) (bNot (bT (dCall g_is_below (aCons (d2 dIx (dVar 3) (dC (.int 0))) (aCons (d2 dIx (dVar 3) (dC (.int 2))) aNil))))))) (mRet (dC (.bool false))) mNil)
    (mSeq (mUnp (d2 dIx (dVar 3) (dC (.int 0))) (gTp 2 (gsCons (gNm 5) (gsCons (gNm 6) gsNil))))
    (mSeq (mSet 12 (dLst (aCons (dTup (aCons (dVar 5) (aCons (dVar 6) aNil))) (aCons (dLst (aCons (dVar 5) (aCons (dVar 6) aNil))) (aCons (dTup (aCons (dVar 5) aNil)) (aCons (dTup (aCons (dVar 5) (aCons (dVar 6) (aCons (dC (.int 1)) aNil)))) (aCons (dTup (aCons (d2 dMul (dC (.int 2)) (dVar 5)) (aCons (d2 dMul (dC (.int 2)) (dVar 6)) aNil))) (aCons (dTup (aCons (dVar 5) (aCons (dC (.int 0)) aNil))) (aCons (dTup (aCons (dVar 5) (aCons (d2 dSub (dC (.int 0)) (dVar 6)) aNil))) (aCons (dTup (aCons (dC (.int 0)) (aCons (dC (.int 2)) aNil))) (aCons (dTup (aCons (dC (.int 0)) (aCons (dC (.int 1)) aNil))) (aCons (dTup (aCons (dC (.bool true)) (aCons (dC (.int 1)) aNil))) (aCons (dTup (aCons (dC (.int 1)) (aCons (dC (.bool true)) aNil))) aNil)))))))))))))
    (mFor (iSeq (d2 dAdd (dVar 12) (dLst (aCons (dC .none) (aCons (dC (.int 3)) (aCons (dC (.str "1/2")) (aCons (dTup (aCons (dC .none) (aCons (dC (.int 1)) aNil))) (aCons (dTup (aCons (dC (.int 1)) (aCons (dC .none) aNil))) (aCons (dTup (aCons (dVar 5) (aCons (d2 dAdd (dVar 6) (dC (.int 1))) aNil))) (aCons (dTup (aCons (dTup (aCons (dC (.int 1)) (aCons (dC (.int 2)) aNil))) (aCons (dC (.int 3)) aNil))) (aCons (dTup (aCons (dC (.str "1")) (aCons (dC (.int 2)) aNil))) aNil))))))))))) (gNm 13) lb_law_1))))))))
def g_law : DF := fun dl P => ∃ ns : List Int, dl = [.list (ns.map .int)] ∧ ns.length ≤ 63 ∧ P (.val (.bool true))
def tb_law : DM := (mSeq (mSet 1 (dCall g__law_pot (aCons (dVar 0) (aCons (dC (.int 0)) aNil))))
    (mSeq (mFor (iR1 (d2 dAdd (dC (.int 6)) (dB bMin (aCons (dC (.int 24)) (aCons (dB bLen (aCons (dVar 0) aNil)) aNil))))) (gNm 2) lb_law_5)
    (mRet (dC (.bool true)))))

theorem lp1 {E : En} {a0 a1 a2 a3 a4 a5 a6 a7 a8 a9 a10 a11 a12 : SD} (h : ∀ s, E.nx [a0, a1, a2, a3, a4, a5, a6, a7, a8, a9, a10, a11, a12, s]) : ∀ (items : List D) (s : SD), (∀ d ∈ items, fitD d) →
    loopD (gNm 13) lb_law_1 items E [a0, a1, a2, a3, a4, a5, a6, a7, a8, a9, a10, a11, a12, s] := by
  intro items s hf
  refine loopD_ind (fun r ds => (∀ d ∈ r, fitD d) ∧ ∃ s, ds = [a0, a1, a2, a3, a4, a5, a6, a7, a8, a9, a10, a11, a12, s]) ?_ ?_ items _ ⟨hf, s, rfl⟩
  · rintro ds ⟨-, s, rfl⟩
    exact h s
  · rintro d r ds L hL ⟨hf, s, rfl⟩
    have f1 : fitD d := hf d List.mem_cons_self
    have hl := hL _ ⟨fun d hd => hf d (List.mem_cons_of_mem _ hd), .val d, rfl⟩
    simp [lb_law_1, f1, SameD]
    exact hl
def RowD (d : D) : Prop := ∃ n e : Int, d = .tuple [.int n, .int e] ∧ 1 ≤ e ∧ n.natAbs < 2 ^ 120 ∧ e.natAbs < 2 ^ 120
theorem neg_below (a b c d : Int) : decide ((0 - c) * b < (0 - a) * d) = decide (a * d < c * b) := by
  rw [decide_eq_decide, Int.zero_sub, Int.zero_sub, Int.neg_mul, Int.neg_mul]
  omega
theorem fit_big {a : Int} (h : a.natAbs < 2 ^ 120) : a.natAbs < bigD := lt_bigD h (by decide)
theorem lp2 {E : En} {a0 a1 a2 a3 a4 a5 a6 a7 a8 a12 a13 : SD} {a b : Int} (ha : a.natAbs < 2 ^ 120) (hb : b.natAbs < 2 ^ 120) (h : ∀ s t, E.nx [a0, a1, a2, a3, a4, a5, a6, a7, a8, .val (.tuple [.int a, .int b]), s, t, a12, a13]) : ∀ (items : List D) (s t : SD), (∀ d ∈ items, RowD d) →
    loopD (gNm 10) lb_law_2 items E [a0, a1, a2, a3, a4, a5, a6, a7, a8, .val (.tuple [.int a, .int b]), s, t, a12, a13] := by
  intro items s t hf
  refine loopD_ind (fun r ds => (∀ d ∈ r, RowD d) ∧ ∃ s t, ds = [a0, a1, a2, a3, a4, a5, a6, a7, a8, .val (.tuple [.int a, .int b]), s, t, a12, a13]) ?_ ?_ items _ ⟨hf, s, t, rfl⟩
  · rintro ds ⟨-, s, t, rfl⟩
    exact h s t
  · rintro d r ds L hL ⟨hf, s, t, rfl⟩
    obtain ⟨c, d, rfl, hd, h1, h2⟩ := hf d List.mem_cons_self
    have hl := hL _ ⟨fun d hd => hf d (List.mem_cons_of_mem _ hd), .val (.tuple [.int c, .int d]), .val (.bool (decide (a * d < c * b))), rfl⟩
    have e := neg_below a b c d
    rw [Int.zero_sub, Int.zero_sub] at e
    simp [lb_law_2, SameD, mulOk_bigD (fit_big ha) (fit_big h2), mulOk_bigD (fit_big h1) (fit_big hb), fit_big ha, fit_big hb, fit_big h1, fit_big h2, e]
    exact hl
theorem lp3 {E : En} {a0 a1 a2 a4 a5 a6 a7 a8 a12 a13 : SD} {rows : List D} (hrows : ∀ d ∈ rows, RowD d) (h : ∀ s t u, E.nx [a0, a1, a2, .val (.list rows), a4, a5, a6, a7, a8, s, t, u, a12, a13]) : ∀ (items : List D) (s t u : SD), (∀ d ∈ items, RowD d) →
    loopD (gNm 9) lb_law_3 items E [a0, a1, a2, .val (.list rows), a4, a5, a6, a7, a8, s, t, u, a12, a13] := by
  intro items s t u hf
  refine loopD_ind (fun r ds => (∀ d ∈ r, RowD d) ∧ ∃ s t u, ds = [a0, a1, a2, .val (.list rows), a4, a5, a6, a7, a8, s, t, u, a12, a13]) ?_ ?_ items _ ⟨hf, s, t, u, rfl⟩
  · rintro ds ⟨-, s, t, u, rfl⟩
    exact h s t u
  · rintro d r ds L hL ⟨hf, s, t, u, rfl⟩
    obtain ⟨c, d, rfl, hd, h1, h2⟩ := hf d List.mem_cons_self
    simp [lb_law_3]
    exact lp2 h1 h2 (fun s t => hL _ ⟨fun d hd => hf d (List.mem_cons_of_mem _ hd), _, _, _, rfl⟩) rows t u hrows
end K51

namespace K51
open PySem PySem.Spec PyProof.Rows L2 DL
theorem seq_cut {a b : DM} {E : En} {ds : DS} (M : DS → Prop) (h1 : ∀ k : DS → Prop, (∀ ds1, M ds1 → k ds1) → a { E with nx := k } ds) (h2 : ∀ ds1, M ds1 → b E ds1) : mSeq a b E ds := h1 _ h2
theorem cpow12 : CPow 10 12 := ⟨by decide, by decide, by decide⟩
theorem lp4 {E : En} {a0 a2 : SD} {p c : Addr} {bm : Nat} (hbm : bm < 2 ^ 50) (h : ∀ (b : Nat) (xs : List D) a4 a5 a6 a7 a8 a9 a10 a11 a12 a13, b ≤ bm → xs.length = 3 → (∀ d ∈ xs, RowD d) → E.nx [a0, .wd (potB p c b), a2, .own xs, a4, a5, a6, a7, a8, a9, a10, a11, a12, a13]) :
    ∀ (items : List D) (b : Nat) (xs : List D) (a4 a5 a6 a7 a8 a9 a10 a11 a12 a13 : SD), b + 9 * items.length ≤ bm → xs.length + items.length = 3 → (∀ d ∈ xs, RowD d) → loopD (gNm 4) lb_law_4 items E [a0, .wd (potB p c b), a2, .own xs, a4, a5, a6, a7, a8, a9, a10, a11, a12, a13] := by
  intro items b xs a4 a5 a6 a7 a8 a9 a10 a11 a12 a13 h1 h2 h3
  refine loopD_ind (fun r ds => ∃ (b : Nat) (xs : List D) (a4 a5 a6 a7 a8 a9 a10 a11 a12 a13 : SD), ds = [a0, .wd (potB p c b), a2, .own xs, a4, a5, a6, a7, a8, a9, a10, a11, a12, a13] ∧ b + 9 * r.length ≤ bm ∧ xs.length + r.length = 3 ∧ ∀ d ∈ xs, RowD d) ?_ ?_ items _ ⟨b, xs, _, _, _, _, _, _, _, _, _, _, rfl, h1, h2, h3⟩
  · rintro ds ⟨b, xs, a4, a5, a6, a7, a8, a9, a10, a11, a12, a13, rfl, h1, h2, h3⟩
    exact h _ _ _ _ _ _ _ _ _ _ _ _ (by simpa using h1) (by simpa using h2) h3
  · rintro d r ds L hL ⟨b, xs, a4, a5, a6, a7, a8, a9, a10, a11, a12, a13, rfl, h1, h2, h3⟩
    rw [List.length_cons] at h1 h2
    unfold lb_law_4
    simp only [gNm, put]
    refine seq_cut (fun ds => ∃ t u : Int, t.natAbs < 2 ^ 110 ∧ u.natAbs < 2 ^ 110 ∧ ds = [a0, .wd (potB p c (b + 8)), a2, .own xs, .val d, .val (.int t), .val (.int u), a7, a8, a9, a10, a11, a12, a13]) (fun k hk => ?_) ?_
    · simp
      refine at_number (by omega) fun t ht => ?_
      simp
      refine at_number (by omega) fun u hu => ?_
      simp
      exact hk _ ⟨t, u, ht, hu, rfl⟩
    rintro _ ⟨t, u, ht, hu, rfl⟩
    refine seq_cut (fun ds => ∃ f : Int, f ≠ 0 ∧ f.natAbs < 2 ^ 63 ∧ ds = [a0, .wd (potB p c (b + 9)), a2, .own xs, .val d, .val (.int t), .val (.int u), .val (.int f), a8, a9, a10, a11, a12, a13]) (fun k hk => ?_) ?_
    · simp [cpow12]
      refine at_draw (by decide) (by decide) (by omega) fun q q0 q1 => ?_
      have key : ∃ f : Int, atI [PyData.int 1, .int 6, .int (-6), .int 1000000000000] q = some (.int f) ∧ f ≠ 0 ∧ f.natAbs < 2 ^ 63 := by
        obtain ⟨v, e, hm⟩ := atI_at (xs := [PyData.int 1, .int 6, .int (-6), .int 1000000000000]) q0 (by simpa using q1)
        simp at hm
        rcases hm with rfl | rfl | rfl | rfl <;> exact ⟨_, e, by decide, by decide⟩
      obtain ⟨f, e, f0, f1⟩ := key
      simp [e]
      exact hk _ ⟨f, f0, f1, rfl⟩
    rintro _ ⟨f, f0, f1, rfl⟩
    refine seq_cut (fun ds => ∃ v : Int, v ≠ 0 ∧ v.natAbs < 2 ^ 110 ∧ ds = [a0, .wd (potB p c (b + 9)), a2, .own xs, .val d, .val (.int t), .val (.int v), .val (.int f), a8, a9, a10, a11, a12, a13]) (fun k hk => ?_) ?_
    · by_cases hu0 : u = 0
      · simp [hu0]
        exact hk _ ⟨7, by decide, by decide, rfl⟩
      · simp [hu0]
        exact hk _ ⟨u, hu0, hu, rfl⟩
    rintro _ ⟨v, v0, hv, rfl⟩
    obtain ⟨n, e, hr, e1, hg, hx, hn, he⟩ := rat_ex (t := t) v0
    have mt : MulOk t f := MulOk.r ⟨by omega, by omega⟩
    have mv : MulOk v f := MulOk.r ⟨by omega, by omega⟩
    refine seq_cut (fun ds => ds = [a0, .wd (potB p c (b + 9)), a2, .own xs, .val d, .val (.int t), .val (.int v), .val (.int f), .val (.tuple [.int n, .int e]), a9, a10, a11, a12, a13]) (fun k hk => ?_) ?_
    · have big : (v * f).natAbs < bigD := by
        refine lt_bigD (k := 200) ?_ (by decide)
        rw [Int.natAbs_mul]
        have : v.natAbs * f.natAbs ≤ 2 ^ 110 * 2 ^ 63 := Nat.mul_le_mul (Nat.le_of_lt hv) (Nat.le_of_lt f1)
        omega
      simp [mt, mv, big, v0, f0, rat_scale v0 f0, hr]
      exact hk _ rfl
    rintro _ rfl
    have n1 : n.natAbs < bigD := lt_bigD (k := 110) (by omega) (by decide)
    have n2 : e.natAbs < bigD := lt_bigD (k := 110) (by omega) (by decide)
    have n3 : t.natAbs < bigD := lt_bigD ht (by decide)
    have n4 : v.natAbs < bigD := lt_bigD hv (by decide)
    have ir : isRat (.tuple [.int n, .int e]) = true := by simp [isRat, e1, hg]
    refine seq_cut (fun ds => ds = [a0, .wd (potB p c (b + 9)), a2, .own xs, .val d, .val (.int t), .val (.int v), .val (.int f), .val (.tuple [.int n, .int e]), a9, a10, a11, a12, a13]) (fun k hk => ?_) ?_
    · have sz : 2 ≤ sizeLine := by decide +kernel
      simp [v0, n4, hr, SameD, ir, mulOk_bigD n1 n4, mulOk_bigD n2 n3, hx, sz]
      exact hk _ rfl
    rintro _ rfl
    simp
    refine ⟨by have : 3 < sizeLine := by decide +kernel
               omega, hL _ ⟨b + 9, xs ++ [.tuple [.int n, .int e]], _, _, _, _, _, _, _, _, _, _, rfl, by omega, by simp; omega, fun d hd => ?_⟩⟩
    rcases List.mem_append.mp hd with hd | hd
    · exact h3 d hd
    · rw [List.mem_singleton.mp hd]
      exact ⟨n, e, rfl, e1, by omega, by omega⟩
end K51

namespace K51
open PySem PySem.Spec PyProof.Rows L2 DL
theorem len3 {α : Type} {xs : List α} (h : xs.length = 3) : ∃ a b c, xs = [a, b, c] := by
  match xs, h with
  | [a, b, c], _ => exact ⟨a, b, c, rfl⟩
theorem rat_zero {e : Int} (h : 1 ≤ e) : ratD 0 e = .tuple [.int 0, .int 1] := by
  have g : Int.gcd 0 e = e.natAbs := Int.gcd_zero_left e
  have k : ((e.natAbs : Nat) : Int) = e := by omega
  unfold ratD dnF
  rw [if_neg (by omega), g, k, Int.zero_fdiv, Int.fdiv_self (by omega)]
theorem vals_fit {a b : Int} (ha : a.natAbs < 2 ^ 120) (hb : b.natAbs < 2 ^ 120) : ∀ d ∈ [PyData.tuple [.int a, .int b], .list [.int a, .int b], .tuple [.int a], .tuple [.int a, .int b, .int 1], .tuple [.int (2 * a), .int (2 * b)], .tuple [.int a, .int 0], .tuple [.int a, .int (0 - b)], .tuple [.int 0, .int 2], .tuple [.int 0, .int 1], .tuple [.bool true, .int 1], .tuple [.int 1, .bool true]], fitD d := by
  intro d hd
  simp only [List.mem_cons, List.not_mem_nil, or_false] at hd
  have pr : ∀ x y : Int, x.natAbs < 2 ^ 150 → y.natAbs < 2 ^ 150 → fitD (.tuple [.int x, .int y]) := fun x y h1 h2 => ⟨h1, h2⟩
  rcases hd with rfl | rfl | rfl | rfl | rfl | rfl | rfl | rfl | rfl | rfl | rfl
  · exact pr _ _ (by omega) (by omega)
  · trivial
  · trivial
  · trivial
  · exact pr _ _ (by omega) (by omega)
  · exact pr _ _ (by omega) (by omega)
  · exact pr _ _ (by omega) (by omega)
  · exact pr _ _ (by omega) (by omega)
  · exact pr _ _ (by omega) (by omega)
  · trivial
  · trivial
theorem for_addL {g : DGT} {b : DM} {E : En} {ds : DS} {i : Nat} {xs dl : List D} {u : DTA} (h : ds[i]? = some (.own xs)) (a : EvA u ds dl) (hl : xs.length + dl.length ≤ sizeLine) (k : loopD g b (xs ++ dl) E ds) : mFor (iSeq (d2 dAdd (dVar i) (dLst u))) g b E ds := by
  simp only [mFor, iSeq, d2, dVar, h]
  refine lst_new a ?_
  simp only [pk, peek, h, dAdd, take1]
  exact ⟨hl, k⟩
theorem lp5 {E : En} {a0 : SD} {p c : Addr} {bm : Nat} (hbm : bm < 2 ^ 50) (h : ∀ ds, E.nx (a0 :: ds)) :
    ∀ (items : List D) (b : Nat) (a2 a3 a4 a5 a6 a7 a8 a9 a10 a11 a12 a13 : SD), b + 27 * items.length ≤ bm → loopD (gNm 2) lb_law_5 items E [a0, .wd (potB p c b), a2, a3, a4, a5, a6, a7, a8, a9, a10, a11, a12, a13] := by
  intro items b a2 a3 a4 a5 a6 a7 a8 a9 a10 a11 a12 a13 h1
  refine loopD_ind (fun r ds => ∃ (b : Nat) (a2 a3 a4 a5 a6 a7 a8 a9 a10 a11 a12 a13 : SD), ds = [a0, .wd (potB p c b), a2, a3, a4, a5, a6, a7, a8, a9, a10, a11, a12, a13] ∧ b + 27 * r.length ≤ bm) ?_ ?_ items _ ⟨b, _, _, _, _, _, _, _, _, _, _, _, _, rfl, h1⟩
  · rintro ds ⟨b, a2, a3, a4, a5, a6, a7, a8, a9, a10, a11, a12, a13, rfl, h1⟩
    exact h _
  · rintro d r ds L hL ⟨b, a2, a3, a4, a5, a6, a7, a8, a9, a10, a11, a12, a13, rfl, h1⟩
    rw [List.length_cons] at h1
    unfold lb_law_5
    simp only [gNm, put]
    refine seq_cut (fun ds => ds = [a0, .wd (potB p c b), .val d, .own [], a4, a5, a6, a7, a8, a9, a10, a11, a12, a13]) (fun k hk => ?_) ?_
    · simp
      exact hk _ rfl
    rintro _ rfl
    refine seq_cut (fun ds => ∃ (b' : Nat) (xs : List D) (a4 a5 a6 a7 a8 a9 a10 a11 a12 a13 : SD), ds = [a0, .wd (potB p c b'), .val d, .own xs, a4, a5, a6, a7, a8, a9, a10, a11, a12, a13] ∧ b' ≤ b + 27 ∧ xs.length = 3 ∧ ∀ d ∈ xs, RowD d) (fun k hk => ?_) ?_
    · simp
      exact lp4 (bm := b + 27) (by omega) (fun b' xs a4 a5 a6 a7 a8 a9 a10 a11 a12 a13 x1 x2 x3 => hk _ ⟨b', xs, _, _, _, _, _, _, _, _, _, _, rfl, x1, x2, x3⟩) _ b [] _ _ _ _ _ _ _ _ _ _ (by simp [rngD]) (by simp [rngD]) (by simp)
    rintro _ ⟨b', xs, a4, a5, a6, a7, a8, a9, a10, a11, a12, a13, rfl, hb', hl, hx⟩
    obtain ⟨r0, r1, r2, rfl⟩ := len3 hl
    obtain ⟨n0, e0, rfl, x0, y0, z0⟩ := hx r0 (by simp)
    obtain ⟨n1, e1, rfl, x1, y1, z1⟩ := hx r1 (by simp)
    obtain ⟨n2, e2, rfl, x2, y2, z2⟩ := hx r2 (by simp)
    refine seq_cut (fun ds => ds = [a0, .wd (potB p c b'), .val d, .own [.tuple [.int n0, .int e0], .tuple [.int n1, .int e1], .tuple [.int n2, .int e2]], a4, a5, a6, a7, a8, a9, a10, a11, a12, a13]) (fun k hk => ?_) ?_
    · have ne : e0 ≠ 0 := by omega
      have sz : 2 ≤ sizeLine := by decide +kernel
      simp [ne, fit_big z0, rat_zero x0, SameD, sz]
      exact hk _ rfl
    rintro _ rfl
    refine seq_cut (fun ds => ∃ s t u, ds = [a0, .wd (potB p c b'), .val d, .val (.list [.tuple [.int n0, .int e0], .tuple [.int n1, .int e1], .tuple [.int n2, .int e2]]), a4, a5, a6, a7, a8, s, t, u, a12, a13]) (fun k hk => ?_) ?_
    · simp
      exact lp3 hx (fun s t u => hk _ ⟨s, t, u, rfl⟩) _ _ _ _ hx
    rintro _ ⟨s, t, u, rfl⟩
    refine seq_cut (fun ds => ds = [a0, .wd (potB p c b'), .val d, .val (.list [.tuple [.int n0, .int e0], .tuple [.int n1, .int e1], .tuple [.int n2, .int e2]]), a4, a5, a6, a7, a8, s, t, u, a12, a13]) (fun k hk => ?_) ?_
    · have tr := below_trans (a := n0) (c := n1) (e := n2) x0 x1 x2
      have k0 := hk _ rfl
      by_cases q1 : n0 * e1 < n1 * e0
      · by_cases q2 : n1 * e2 < n2 * e1
        · have q3 := tr q1 q2
          simp [fit_big, y0, y1, y2, z0, z1, z2, q1, q2, q3]
          exact k0
        · simp [fit_big, y0, y1, y2, z0, z1, z2, q1, q2]
          exact k0
      · simp [fit_big, y0, y1, y2, z0, z1, z2, q1]
        exact k0
    rintro _ rfl
    refine seq_cut (fun ds => ds = [a0, .wd (potB p c b'), .val d, .val (.list [.tuple [.int n0, .int e0], .tuple [.int n1, .int e1], .tuple [.int n2, .int e2]]), a4, .val (.int n0), .val (.int e0), a7, a8, s, t, u, a12, a13]) (fun k hk => ?_) ?_
    · simp
      exact hk _ rfl
    rintro _ rfl
    have m1 : MulOk 2 n0 := MulOk.l ⟨by decide, by decide⟩
    have m2 : MulOk 2 e0 := MulOk.l ⟨by decide, by decide⟩
    refine seq_cut (fun ds => ∃ xs : List D, xs.length = 11 ∧ (∀ d ∈ xs, fitD d) ∧ ds = [a0, .wd (potB p c b'), .val d, .val (.list [.tuple [.int n0, .int e0], .tuple [.int n1, .int e1], .tuple [.int n2, .int e2]]), a4, .val (.int n0), .val (.int e0), a7, a8, s, t, u, .own xs, a13]) (fun k hk => ?_) ?_
    · have t0 : EvT (dVar 5) _ (.int n0) := ev_v (ds := [a0, .wd (potB p c b'), .val d, .val (.list [.tuple [.int n0, .int e0], .tuple [.int n1, .int e1], .tuple [.int n2, .int e2]]), a4, .val (.int n0), .val (.int e0), a7, a8, s, t, u, a12, a13])
      have t1 : EvT (dVar 6) _ (.int e0) := ev_v (ds := [a0, .wd (potB p c b'), .val d, .val (.list [.tuple [.int n0, .int e0], .tuple [.int n1, .int e1], .tuple [.int n2, .int e2]]), a4, .val (.int n0), .val (.int e0), a7, a8, s, t, u, a12, a13])
      refine lst_new (ev_cons (ev_pr t0 t1) (ev_cons (ev_lst (ev_cons t0 (ev_cons t1 ev_nil))) (ev_cons (ev_tup (ev_cons t0 ev_nil)) (ev_cons (ev_tup (ev_cons t0 (ev_cons t1 (ev_cons ev_c ev_nil)))) (ev_cons (ev_pr (ev_mul ev_c t0 m1) (ev_mul ev_c t1 m2)) (ev_cons (ev_pr t0 ev_c) (ev_cons (ev_pr t0 (ev_sub ev_c t1)) (ev_cons (ev_pr ev_c ev_c) (ev_cons (ev_pr ev_c ev_c) (ev_cons (ev_pr ev_c ev_c) (ev_cons (ev_pr ev_c ev_c) ev_nil))))))))))) ?_
      exact hk _ ⟨_, rfl, vals_fit y0 z0, rfl⟩
    rintro _ ⟨vs, vl, vf, rfl⟩
    have sz : 19 ≤ sizeLine := by decide +kernel
    have q0 : EvT (dVar 5) _ (.int n0) := ev_v (ds := [a0, .wd (potB p c b'), .val d, .val (.list [.tuple [.int n0, .int e0], .tuple [.int n1, .int e1], .tuple [.int n2, .int e2]]), a4, .val (.int n0), .val (.int e0), a7, a8, s, t, u, .own vs, a13])
    have q1 : EvT (dVar 6) _ (.int e0) := ev_v (ds := [a0, .wd (potB p c b'), .val d, .val (.list [.tuple [.int n0, .int e0], .tuple [.int n1, .int e1], .tuple [.int n2, .int e2]]), a4, .val (.int n0), .val (.int e0), a7, a8, s, t, u, .own vs, a13])
    refine for_addL rfl (ev_cons ev_c (ev_cons ev_c (ev_cons ev_c (ev_cons (ev_pr ev_c ev_c) (ev_cons (ev_pr ev_c ev_c) (ev_cons (ev_pr q0 (ev_add q1 ev_c)) (ev_cons (ev_pr (ev_pr ev_c ev_c) ev_c) (ev_cons (ev_pr ev_c ev_c) ev_nil)))))))) (by rw [vl]; exact sz) ?_
    refine lp1 (fun s => hL _ ⟨b', _, _, _, _, _, _, _, _, _, _, _, _, rfl, by omega⟩) _ _ ?_
    intro d hd
    rcases List.mem_append.mp hd with hd | hd
    · exact vf d hd
    · simp at hd
      rcases hd with rfl | rfl | rfl | rfl | rfl | rfl | rfl | rfl <;> simp [fitD]
      omega
theorem rd_law : ∀ dl Q, dl.length = 1 → g_law dl Q → tb_law (enF Q) (slots0 14 dl) := by
  rintro dl Q - ⟨ns, rfl, hn, h⟩
  unfold tb_law
  refine seq_cut (fun ds => ∃ p c, ds = [.val (.list (ns.map .int)), .wd (potB p c 0), .no, .no, .no, .no, .no, .no, .no, .no, .no, .no, .no, .no]) (fun k hk => ?_) ?_
  · simp
    exact ⟨ns, .int 0, rfl, hn, fun p c => hk _ ⟨p, c, rfl⟩⟩
  rintro _ ⟨p, c, rfl⟩
  refine seq_cut (fun ds => ∃ r, ds = SD.val (.list (ns.map .int)) :: r) (fun k hk => ?_) ?_
  · simp
    refine ⟨by omega, lp5 (bm := 1000) (by decide) (fun ds => hk _ ⟨_, rfl⟩) _ 0 _ _ _ _ _ _ _ _ _ _ _ _ ?_⟩
    simp [rngD]
    omega
  rintro _ ⟨r, rfl⟩
  simp
  exact h
end K51

namespace K51
open PySem PySem.Spec PyProof.Rows L2 DL
section
variable {P : Program} {w : World} {K : PySem.W.Frag} {mg : Str → Option Value} {base : Heap}
theorem ok_is_integer (T : Tx K mg) : FnOk P w K mg base CX0 1 T.a_is_integer T.fd_is_integer P_is_integer (spP K 1 g_is_integer) := by
  exact dfun T.d_is_integer.F sc_is_integer (tb := tb_is_integer) (fun cdv A outer s H E hr => ⟨_, (dss_one (ds_ret (do_and (do_isi (n := "int") (by decide +kernel) (by rfl) T.z_isinstance (by rfl) T.z_int (by decide +kernel) (by decide) (by decide) (dv 0)) (do_one (do_not (do_isi (n := "bool") (by decide +kernel) (by rfl) T.z_isinstance (by rfl) T.z_bool (by decide +kernel) (by decide) (by decide) (dv 0)))))))⟩) rd_is_integer
theorem ok_is_tuple_of (T : Tx K mg) : FnOk P w K mg base CX0 1 T.a_is_tuple_of T.fd_is_tuple_of P_is_tuple_of (spP K 2 g_is_tuple_of) := by
  exact dfun T.d_is_tuple_of.F sc_is_tuple_of (tb := tb_is_tuple_of) (fun cdv A outer s H E hr => ⟨_, (dss_one (ds_ret (do_and (do_isi (n := "tuple") (by decide +kernel) (by rfl) T.z_isinstance (by rfl) T.z_tuple (by decide +kernel) (by decide) (by decide) (dv 1)) (do_one (do_cmp (op_eqA hr.units) rok_eq (do_B call_lenA cok_len (by rfl) T.z_len (by decide +kernel) (da_cons (dv 1) da_nil)) (dv 0))))))⟩) rd_is_tuple_of
theorem ok_common (T : Tx K mg) : FnOk P w K mg base CX0 1 T.a_common T.fd_common P_common (spP K 2 g_common) := by
  exact dfun T.d_common.F sc_common (tb := tb_common) (fun cdv A outer s H E hr => ⟨_, (dss_cons (ds_while PassesOwn.never (db_cmp op_gt rok_rel (dv 1) do_int) (dss_one (ds_par (i := 0) (j := 1) sc_common.nd (dv 1) (do_bin op_modN rok_mod (dv 0) (dv 1)))))
      (dss_one (ds_ret (dv 0))))⟩) rd_common
theorem ok_ratio_of (T : Tx K mg) : FnOk P w K mg base CX0 2 T.a_ratio_of T.fd_ratio_of P_ratio_of (spP K 2 g_ratio_of) := by
  have G_common := ok_common (P := P) (w := w) (base := base) T
  exact dfun T.d_ratio_of.F sc_ratio_of (tb := tb_ratio_of) (fun cdv A outer s H E hr => ⟨_, (dss_cons (ds_set (i := 2) sc_ratio_of.nd (do_call G_common (hr.mono (by decide)) (by rfl) T.d_common.m T.d_common.F.kp T.d_common.b (da_cons (do_B call_abs cok_abs (by rfl) T.z_abs (by decide +kernel) (da_cons (dv 0) da_nil)) (da_cons (do_B call_abs cok_abs (by rfl) T.z_abs (by decide +kernel) (da_cons (dv 1) da_nil)) da_nil))))
      (dss_cons (ds_if (db_cmp op_ltA rok_lt (dv 1) do_int) (dss_one (ds_set (i := 2) sc_ratio_of.nd (do_un un_neg uok_neg (dv 2)))) dss_nil)
      (dss_one (ds_ret (do_tup (da_cons (do_bin op_fdivO rok_fdiv (dv 0) (dv 2)) (da_cons (do_bin op_fdivO rok_fdiv (dv 1) (dv 2)) da_nil)))))))⟩) rd_ratio_of
theorem ok_is_ratio (T : Tx K mg) : FnOk P w K mg base CX0 2 T.a_is_ratio T.fd_is_ratio P_is_ratio (spP K 1 g_is_ratio) := by
  have G_common := ok_common (P := P) (w := w) (base := base) T
  have G_is_integer := ok_is_integer (P := P) (w := w) (base := base) T
  have G_is_tuple_of := ok_is_tuple_of (P := P) (w := w) (base := base) T
  exact dfun T.d_is_ratio.F sc_is_ratio (tb := tb_is_ratio) (fun cdv A outer s H E hr => ⟨_, (dss_cons (ds_if (DW.db (dw_or (db_not (db_val (do_call G_is_tuple_of (hr.mono (by decide)) (by rfl) T.d_is_tuple_of.m T.d_is_tuple_of.F.kp T.d_is_tuple_of.b (da_cons do_int (da_cons (dv 0) da_nil))))) (dw_or (db_not (db_val (do_call G_is_integer (hr.mono (by decide)) (by rfl) T.d_is_integer.m T.d_is_integer.F.kp T.d_is_integer.b (da_cons (do_ix (dv 0) do_int) da_nil)))) (dw_or1 (db_not (db_val (do_call G_is_integer (hr.mono (by decide)) (by rfl) T.d_is_integer.m T.d_is_integer.F.kp T.d_is_integer.b (da_cons (do_ix (dv 0) do_int) da_nil)))))))) (dss_one (ds_ret do_bl)) dss_nil)
      (dss_one (ds_ret (do_and (do_cmp op_ge rok_rel (do_ix (dv 0) do_int) do_int) (do_one (do_cmp (op_eqA hr.units) rok_eq (do_call G_common (hr.mono (by decide)) (by rfl) T.d_common.m T.d_common.F.kp T.d_common.b (da_cons (do_B call_abs cok_abs (by rfl) T.z_abs (by decide +kernel) (da_cons (do_ix (dv 0) do_int) da_nil)) (da_cons (do_ix (dv 0) do_int) da_nil))) do_int))))))⟩) rd_is_ratio
theorem ok_is_below (T : Tx K mg) : FnOk P w K mg base CX0 1 T.a_is_below T.fd_is_below P_is_below (spP K 2 g_is_below) := by
  exact dfun T.d_is_below.F sc_is_below (tb := tb_is_below) (fun cdv A outer s H E hr => ⟨_, (dss_one (ds_ret (do_cmp op_ltA rok_lt (do_bin op_mulO rok_mul (do_ix (dv 0) do_int) (do_ix (dv 1) do_int)) (do_bin op_mulO rok_mul (do_ix (dv 1) do_int) (do_ix (dv 0) do_int)))))⟩) rd_is_below
theorem ok__law_pot (T : Tx K mg) : FnOk P w K mg base CX0 1 T.a__law_pot T.fd__law_pot P__law_pot (spP K 2 g__law_pot) := by
  exact dfun T.d__law_pot.F sc__law_pot (tb := tb__law_pot ce__law_pot_1) (fun cdv A outer s H E hr => ⟨_, (dss_one (ds_ret (do_pot (do_comp (own := [("cell", 2)]) sc__law_pot.nd (di_seq (dv 0)) (blkOk_by (own := [("cell", 2)]) (N := N__law_pot) (sc := defScope s__law_pot) (by first | decide +kernel | rfl)) (fun _ _ _ _ _ => (dg_nm (i := 2) sc__law_pot.nd)) (fun _ _ _ _ _ => ⟨_, dcs_nil⟩) (fun _ _ _ _ _ => ⟨_, (do_ifx (db_cmp op_ge rok_rel (dv 2) do_int) (do_Ty call_int1 cok_int (by rfl) T.z_int (by decide +kernel) (da_cons (dv 2) da_nil)) (do_bin op_sub rok_sub do_int (do_bin op_mulO rok_mul do_int (do_Ty call_int1 cok_int (by rfl) T.z_int (by decide +kernel) (da_cons (dv 2) da_nil)))))⟩) (by decide) (by rfl) (by intro _; rfl)) (da_cons do_int (da_cons do_int (da_cons (dv 1) da_nil))))))⟩) rd__law_pot
theorem ok__law_same_at (T : Tx K mg) : ∀ n : Nat, FnOk P w K mg base CX0 n T.a__law_same T.fd__law_same P__law_same (spP K 2 (gSame n))
  | 0 => ⟨fun vs H Q E h => h.1, fun _ _ _ _ _ _ _ _ _ _ _ _ _ ⟨_, _, _, _, _, _, ⟨_, _, h, _⟩, _⟩ => (SameD_0 h).elim⟩
  | n + 1 => by
    have G__law_same := ok__law_same_at T n
    exact dfun T.d__law_same.F sc__law_same (tb := tbSame (gSame n)) (fun cdv A outer s H E hr => ⟨_, (dss_cons (ds_if (DW.db (dw_or (db_val (do_isi (n := "tuple") (by decide +kernel) (by rfl) T.z_isinstance (by rfl) T.z_tuple (by decide +kernel) (by decide) (by decide) (dv 1))) (dw_or1 (db_val (do_isi (n := "list") (by decide +kernel) (by rfl) T.z_isinstance (by rfl) T.z_list (by decide +kernel) (by decide) (by decide) (dv 1)))))) (dss_cons (ds_if (DW.db (dw_or (db_cmp (op_neA hr.units) rok_ne (do_isi (n := "tuple") (by decide +kernel) (by rfl) T.z_isinstance (by rfl) T.z_tuple (by decide +kernel) (by decide) (by decide) (dv 1)) (do_isi (n := "tuple") (by decide +kernel) (by rfl) T.z_isinstance (by rfl) T.z_tuple (by decide +kernel) (by decide) (by decide) (dv 0))) (dw_or1 (db_cmp (op_neA hr.units) rok_ne (do_isi (n := "list") (by decide +kernel) (by rfl) T.z_isinstance (by rfl) T.z_list (by decide +kernel) (by decide) (by decide) (dv 1)) (do_isi (n := "list") (by decide +kernel) (by rfl) T.z_isinstance (by rfl) T.z_list (by decide +kernel) (by decide) (by decide) (dv 0)))))) (dss_one (ds_ret do_bl)) dss_nil)
      (dss_one (ds_ret (do_and (do_cmp (op_eqA hr.units) rok_eq (do_B call_lenA cok_len (by rfl) T.z_len (by decide +kernel) (da_cons (dv 0) da_nil)) (do_B call_lenA cok_len (by rfl) T.z_len (by decide +kernel) (da_cons (dv 1) da_nil))) (do_one (do_B (cr_all rfl) cok_all (by rfl) T.z_all (by decide +kernel) (da_cons (do_comp (own := [("k", 2)]) sc__law_same.nd (di_r1 (by rfl) T.z_range (do_B call_lenA cok_len (by rfl) T.z_len (by decide +kernel) (da_cons (dv 1) da_nil))) (blkOk_by (own := [("k", 2)]) (N := N__law_same) (sc := defScope s__law_same) (by first | decide +kernel | rfl)) (fun _ _ _ _ _ => (dg_nm (i := 2) sc__law_same.nd)) (fun _ _ _ _ _ => ⟨_, dcs_nil⟩) (fun _ _ _ _ _ => ⟨_, (do_call G__law_same (hr.mono (by omega)) (by rfl) T.d__law_same.m T.d__law_same.F.kp T.d__law_same.b (da_cons (do_ix (dv 0) (dv 2)) (da_cons (do_ix (dv 1) (dv 2)) da_nil)))⟩) (by decide) (by rfl) (by intro _; rfl)) da_nil))))))) dss_nil)
      (dss_cons (ds_if (db_cmp op_isN rok_isN (dv 1) do_non) (dss_one (ds_ret (do_cmp op_isN rok_isN (dv 0) do_non))) dss_nil)
      (dss_cons (ds_if (db_val (do_isi (n := "bool") (by decide +kernel) (by rfl) T.z_isinstance (by rfl) T.z_bool (by decide +kernel) (by decide) (by decide) (dv 1))) (dss_one (ds_ret (do_and (do_isi (n := "bool") (by decide +kernel) (by rfl) T.z_isinstance (by rfl) T.z_bool (by decide +kernel) (by decide) (by decide) (dv 0)) (do_one (do_cmp (op_eqA hr.units) rok_eq (dv 0) (dv 1)))))) dss_nil)
      (dss_cons (ds_if (DW.db (dw_or (db_val (do_isi (n := "bool") (by decide +kernel) (by rfl) T.z_isinstance (by rfl) T.z_bool (by decide +kernel) (by decide) (by decide) (dv 0))) (dw_or (db_cmp (op_neA hr.units) rok_ne (do_isi (n := "int") (by decide +kernel) (by rfl) T.z_isinstance (by rfl) T.z_int (by decide +kernel) (by decide) (by decide) (dv 0)) (do_isi (n := "int") (by decide +kernel) (by rfl) T.z_isinstance (by rfl) T.z_int (by decide +kernel) (by decide) (by decide) (dv 1))) (dw_or1 (db_cmp (op_neA hr.units) rok_ne (do_isi (n := "str") (by decide +kernel) (by rfl) T.z_isinstance (by rfl) T.z_str (by decide +kernel) (by decide) (by decide) (dv 0)) (do_isi (n := "str") (by decide +kernel) (by rfl) T.z_isinstance (by rfl) T.z_str (by decide +kernel) (by decide) (by decide) (dv 1))))))) (dss_one (ds_ret do_bl)) dss_nil)
      (dss_one (ds_ret (do_cmp (op_eqA hr.units) rok_eq (dv 0) (dv 1))))))))⟩) (rdSame n)
theorem ok__law_same (T : Tx K mg) : FnOk P w K mg base CX0 2 T.a__law_same T.fd__law_same P__law_same (spP K 2 g__law_same) := ok__law_same_at T 2
theorem ok__law_is_between (T : Tx K mg) : FnOk P w K mg base CX0 1 T.a__law_is_between T.fd__law_is_between P__law_is_between (spP K 3 g__law_is_between) := by
  exact dfun T.d__law_is_between.F sc__law_is_between (tb := tb__law_is_between) (fun cdv A outer s H E hr => ⟨_, (dss_one (ds_ret (do_and (do_isi (n := "int") (by decide +kernel) (by rfl) T.z_isinstance (by rfl) T.z_int (by decide +kernel) (by decide) (by decide) (dv 1)) (do_and (do_not (do_isi (n := "bool") (by decide +kernel) (by rfl) T.z_isinstance (by rfl) T.z_bool (by decide +kernel) (by decide) (by decide) (dv 1))) (do_one (do_chain op_leA rok_le op_leA rok_le (dv 0) (dv 1) (dv 2)))))))⟩) rd__law_is_between
theorem ok__law_ratio (T : Tx K mg) : FnOk P w K mg base CX0 1 T.a__law_ratio T.fd__law_ratio P__law_ratio (spP K 2 g__law_ratio) := by
  exact dfun T.d__law_ratio.F sc__law_ratio (tb := tb__law_ratio) (fun cdv A outer s H E hr => ⟨_, (dss_cons (ds_par (i := 2) (j := 3) sc__law_ratio.nd (do_B call_abs cok_abs (by rfl) T.z_abs (by decide +kernel) (da_cons (dv 0) da_nil)) (do_B call_abs cok_abs (by rfl) T.z_abs (by decide +kernel) (da_cons (dv 1) da_nil)))
      (dss_cons (ds_while PassesOwn.never (db_cmp op_gt rok_rel (dv 3) do_int) (dss_one (ds_par (i := 2) (j := 3) sc__law_ratio.nd (dv 3) (do_bin op_modN rok_mod (do_Ty call_int1 cok_int (by rfl) T.z_int (by decide +kernel) (da_cons (dv 2) da_nil)) (dv 3)))))
      (dss_cons (ds_if (db_cmp op_ltA rok_lt (dv 1) do_int) (dss_one (ds_set (i := 2) sc__law_ratio.nd (do_bin op_sub rok_sub do_int (dv 2)))) dss_nil)
      (dss_one (ds_ret (do_tup (da_cons (do_bin op_fdivO rok_fdiv (dv 0) (dv 2)) (da_cons (do_bin op_fdivO rok_fdiv (dv 1) (dv 2)) da_nil))))))))⟩) rd__law_ratio
theorem ok__law_number (T : Tx K mg) : FnOk P w K mg base CX0 2 T.a__law_number T.fd__law_number P__law_number (spW K 0 g__law_number) := by
  have G__law_draw := ok__law_draw (P := P) (w := w) (base := base) T
  exact dfunW T.d__law_number.F sc__law_number rfl (tb := tb__law_number) (fun cdv A outer s H E hr => ⟨_, (dss_cons (ds_set (i := 1) sc__law_number.nd (do_ix (do_lst (da_cons do_int (da_cons do_int (da_cons do_int (da_cons do_int (da_cons (do_bin op_pow rok_pow do_int do_int) (da_cons (do_bin op_pow rok_pow do_int do_int) (da_cons (do_bin op_mulO rok_mul (do_bin op_pow rok_pow do_int do_int) (do_bin op_pow rok_pow do_int do_int)) da_nil)))))))) (do_callW (j := 0) G__law_draw (hr.mono (by decide)) (by rfl) T.d__law_draw.m T.d__law_draw.F.kp T.d__law_draw.b (da_cons do_int da_nil))))
      (dss_cons (ds_set (i := 2) sc__law_number.nd (do_bin op_addA rok_add (do_bin op_mulO rok_mul (do_callW (j := 0) G__law_draw (hr.mono (by decide)) (by rfl) T.d__law_draw.m T.d__law_draw.F.kp T.d__law_draw.b (da_cons do_int da_nil)) (dv 1)) (do_callW (j := 0) G__law_draw (hr.mono (by decide)) (by rfl) T.d__law_draw.m T.d__law_draw.F.kp T.d__law_draw.b (da_cons do_int da_nil))))
      (dss_one (ds_ret (do_ifx (db_cmp (op_eqA hr.units) rok_eq (do_callW (j := 0) G__law_draw (hr.mono (by decide)) (by rfl) T.d__law_draw.m T.d__law_draw.F.kp T.d__law_draw.b (da_cons do_int da_nil)) do_int) (do_bin op_sub rok_sub do_int (dv 2)) (dv 2))))))⟩) rd__law_number
theorem ok__law_is_ratio (T : Tx K mg) : FnOk P w K mg base CX0 2 T.a__law_is_ratio T.fd__law_is_ratio P__law_is_ratio (spP K 1 g__law_is_ratio) := by
  have G__law_ratio := ok__law_ratio (P := P) (w := w) (base := base) T
  have G__law_is_between := ok__law_is_between (P := P) (w := w) (base := base) T
  exact dfun T.d__law_is_ratio.F sc__law_is_ratio (tb := tb__law_is_ratio) (fun cdv A outer s H E hr => ⟨_, (dss_cons (ds_if (DW.db (dw_or (db_not (db_val (do_isi (n := "tuple") (by decide +kernel) (by rfl) T.z_isinstance (by rfl) T.z_tuple (by decide +kernel) (by decide) (by decide) (dv 0)))) (dw_or1 (db_cmp (op_neA hr.units) rok_ne (do_B call_lenA cok_len (by rfl) T.z_len (by decide +kernel) (da_cons (dv 0) da_nil)) do_int)))) (dss_one (ds_ret do_bl)) dss_nil)
      (dss_cons (ds_if (DW.db (dw_or (db_not (db_val (do_call G__law_is_between (hr.mono (by decide)) (by rfl) T.d__law_is_between.m T.d__law_is_between.F.kp T.d__law_is_between.b (da_cons (do_un un_neg uok_neg (do_bin op_pow rok_pow do_int do_int)) (da_cons (do_ix (dv 0) do_int) (da_cons (do_bin op_pow rok_pow do_int do_int) da_nil)))))) (dw_or1 (db_not (db_val (do_call G__law_is_between (hr.mono (by decide)) (by rfl) T.d__law_is_between.m T.d__law_is_between.F.kp T.d__law_is_between.b (da_cons do_int (da_cons (do_ix (dv 0) do_int) (da_cons (do_bin op_pow rok_pow do_int do_int) da_nil))))))))) (dss_one (ds_ret do_bl)) dss_nil)
      (dss_one (ds_ret (do_cmp (op_eqA hr.units) rok_eq (do_call G__law_ratio (hr.mono (by decide)) (by rfl) T.d__law_ratio.m T.d__law_ratio.F.kp T.d__law_ratio.b (da_cons (do_ix (dv 0) do_int) (da_cons (do_ix (dv 0) do_int) da_nil))) (dv 0))))))⟩) rd__law_is_ratio
theorem ok_law (T : Tx K mg) : FnOk P w K mg base CX0 3 T.a_law T.fd_law P_law (spP K 1 g_law) := by
  have G__law_same := ok__law_same (P := P) (w := w) (base := base) T
  have G__law_is_ratio := ok__law_is_ratio (P := P) (w := w) (base := base) T
  have G_is_ratio := ok_is_ratio (P := P) (w := w) (base := base) T
  have G_is_below := ok_is_below (P := P) (w := w) (base := base) T
  have G_ratio_of := ok_ratio_of (P := P) (w := w) (base := base) T
  have G__law_ratio := ok__law_ratio (P := P) (w := w) (base := base) T
  have G__law_draw := ok__law_draw (P := P) (w := w) (base := base) T
  have G__law_number := ok__law_number (P := P) (w := w) (base := base) T
  have G__law_pot := ok__law_pot (P := P) (w := w) (base := base) T
  exact dfun T.d_law.F sc_law (tb := tb_law) (fun cdv A outer s H E hr => ⟨_, (dss_cons (ds_set (i := 1) sc_law.nd (do_call G__law_pot (hr.mono (by decide)) (by rfl) T.d__law_pot.m T.d__law_pot.F.kp T.d__law_pot.b (da_cons (dv 0) (da_cons do_int da_nil))))
      (dss_cons (ds_for PassesOwn.never (di_r1 (by rfl) T.z_range (do_bin op_addA rok_add do_int (do_B (call_min2 rfl) cok_min (by rfl) T.z_min (by decide +kernel) (da_cons do_int (da_cons (do_B call_lenA cok_len (by rfl) T.z_len (by decide +kernel) (da_cons (dv 0) da_nil)) da_nil))))) (dg_nm (i := 2) sc_law.nd) (dss_cons (ds_set (i := 3) sc_law.nd (do_lst da_nil))
      (dss_cons (ds_for PassesOwn.never (di_r1 (by rfl) T.z_range do_int) (dg_nm (i := 4) sc_law.nd) (dss_cons (ds_par (i := 5) (j := 6) sc_law.nd (do_callW (j := 1) G__law_number (hr.mono (by decide)) (by rfl) T.d__law_number.m T.d__law_number.F.kp T.d__law_number.b da_nil) (do_callW (j := 1) G__law_number (hr.mono (by decide)) (by rfl) T.d__law_number.m T.d__law_number.F.kp T.d__law_number.b da_nil))
      (dss_cons (ds_set (i := 7) sc_law.nd (do_ix (do_lst (da_cons do_int (da_cons do_int (da_cons (do_un un_neg uok_neg do_int) (da_cons (do_bin op_pow rok_pow do_int do_int) da_nil))))) (do_callW (j := 1) G__law_draw (hr.mono (by decide)) (by rfl) T.d__law_draw.m T.d__law_draw.F.kp T.d__law_draw.b (da_cons do_int da_nil))))
      (dss_cons (ds_set (i := 6) sc_law.nd (do_ifx (db_cmp (op_neA hr.units) rok_ne (dv 6) do_int) (dv 6) do_int))
      (dss_cons (ds_set (i := 8) sc_law.nd (do_callK G_ratio_of (hr.mono (by decide)) (by rfl) T.d_ratio_of.m T.d_ratio_of.F.kp (kp_ratio_of_01 T) rfl (dk_cons (do_bin op_mulO rok_mul (dv 5) (dv 7)) (dk_cons (do_bin op_mulO rok_mul (dv 6) (dv 7)) dk_nil))))
      (dss_cons (ds_if (DW.db (dw_or (db_not (db_val (do_call G__law_same (hr.mono (by decide)) (by rfl) T.d__law_same.m T.d__law_same.F.kp T.d__law_same.b (da_cons (dv 8) (da_cons (do_call G__law_ratio (hr.mono (by decide)) (by rfl) T.d__law_ratio.m T.d__law_ratio.F.kp T.d__law_ratio.b (da_cons (dv 5) (da_cons (dv 6) da_nil))) da_nil))))) (dw_or (db_cmp op_notBl rok_notB (do_call G_is_ratio (hr.mono (by decide)) (by rfl) T.d_is_ratio.m T.d_is_ratio.F.kp T.d_is_ratio.b (da_cons (dv 8) da_nil)) do_bl) (dw_or1 (db_cmp (op_neA hr.units) rok_ne (do_bin op_mulO rok_mul (do_ix (dv 8) do_int) (dv 6)) (do_bin op_mulO rok_mul (do_ix (dv 8) do_int) (dv 5))))))) (dss_one (ds_ret do_bl)) dss_nil)
      (dss_one (ds_app (i := 3) (dv 8)))))))))
      (dss_cons (ds_if (db_not (db_val (do_call G__law_same (hr.mono (by decide)) (by rfl) T.d__law_same.m T.d__law_same.F.kp T.d__law_same.b (da_cons (do_call G_ratio_of (hr.mono (by decide)) (by rfl) T.d_ratio_of.m T.d_ratio_of.F.kp T.d_ratio_of.b (da_cons do_int (da_cons (do_ix (do_ix (dv 3) do_int) do_int) da_nil))) (da_cons (do_tup (da_cons do_int (da_cons do_int da_nil))) da_nil))))) (dss_one (ds_ret do_bl)) dss_nil)
      (dss_cons (ds_for PassesOwn.never (di_seq (dv 3)) (dg_nm (i := 9) sc_law.nd) (dss_one (ds_for PassesOwn.never (di_seq (dv 3)) (dg_nm (i := 10) sc_law.nd) (dss_cons (ds_set (i := 11) sc_law.nd (do_cmp op_ltA rok_lt (do_bin op_mulO rok_mul (do_ix (dv 9) do_int) (do_ix (dv 10) do_int)) (do_bin op_mulO rok_mul (do_ix (dv 10) do_int) (do_ix (dv 9) do_int))))
      (dss_one (ds_if (DW.db (dw_or (db_not (db_val (do_call G__law_same (hr.mono (by decide)) (by rfl) T.d__law_same.m T.d__law_same.F.kp T.d__law_same.b (da_cons (do_call G_is_below (hr.mono (by decide)) (by rfl) T.d_is_below.m T.d_is_below.F.kp T.d_is_below.b (da_cons (dv 9) (da_cons (dv 10) da_nil))) (da_cons (dv 11) da_nil))))) (dw_or1 (db_not (db_val (do_call G__law_same (hr.mono (by decide)) (by rfl) T.d__law_same.m T.d__law_same.F.kp T.d__law_same.b (da_cons (do_call G_is_below (hr.mono (by decide)) (by rfl) T.d_is_below.m T.d_is_below.F.kp T.d_is_below.b (da_cons (do_tup (da_cons (do_bin op_sub rok_sub do_int (do_ix (dv 10) do_int)) (da_cons (do_ix (dv 10) do_int) da_nil))) (da_cons (do_tup (da_cons (do_bin op_sub rok_sub do_int (do_ix (dv 9) do_int)) (da_cons (do_ix (dv 9) do_int) da_nil))) da_nil))) (da_cons (dv 11) da_nil)))))))) (dss_one (ds_ret do_bl)) dss_nil))))))
      (dss_cons (ds_if (DW.db (dw_and (db_val (do_call G_is_below (hr.mono (by decide)) (by rfl) T.d_is_below.m T.d_is_below.F.kp T.d_is_below.b (da_cons (do_ix (dv 3) do_int) (da_cons (do_ix (dv 3) do_int) da_nil)))) (dw_and (db_val (do_call G_is_below (hr.mono (by decide)) (by rfl) T.d_is_below.m T.d_is_below.F.kp T.d_is_below.b (da_cons (do_ix (dv 3) do_int) (da_cons (do_ix (dv 3) do_int) da_nil)))) (dw_and1 (db_not (db_val (do_call G_is_below (hr.mono (by decide)) (by rfl) T.d_is_below.m T.d_is_below.F.kp T.d_is_below.b (da_cons (do_ix (dv 3) do_int) (da_cons (do_ix (dv 3) do_int) da_nil))))))))) (dss_one (ds_ret do_bl)) dss_nil)
      (dss_cons (ds_unp (do_ix (dv 3) do_int) (dg_tup (dgs_cons (dg_nm (i := 5) sc_law.nd) (dgs_cons (dg_nm (i := 6) sc_law.nd) dgs_nil))))
      (dss_cons (ds_set (i := 12) sc_law.nd (do_lst (da_cons (do_tup (da_cons (dv 5) (da_cons (dv 6) da_nil))) (da_cons (do_lst (da_cons (dv 5) (da_cons (dv 6) da_nil))) (da_cons (do_tup (da_cons (dv 5) da_nil)) (da_cons (do_tup (da_cons (dv 5) (da_cons (dv 6) (da_cons do_int da_nil)))) (da_cons (do_tup (da_cons (do_bin op_mulO rok_mul do_int (dv 5)) (da_cons (do_bin op_mulO rok_mul do_int (dv 6)) da_nil))) (da_cons (do_tup (da_cons (dv 5) (da_cons do_int da_nil))) (da_cons (do_tup (da_cons (dv 5) (da_cons (do_bin op_sub rok_sub do_int (dv 6)) da_nil))) (da_cons (do_tup (da_cons do_int (da_cons do_int da_nil))) (da_cons (do_tup (da_cons do_int (da_cons do_int da_nil))) (da_cons (do_tup (da_cons do_bl (da_cons do_int da_nil))) (da_cons (do_tup (da_cons do_int (da_cons do_bl da_nil))) da_nil)))))))))))))
      (dss_one (ds_for PassesOwn.never (di_seq (do_bin op_addA rok_add (dv 12) (do_lst (da_cons do_non (da_cons do_int (da_cons do_str (da_cons (do_tup (da_cons do_non (da_cons do_int da_nil))) (da_cons (do_tup (da_cons do_int (da_cons do_non da_nil))) (da_cons (do_tup (da_cons (dv 5) (da_cons (do_bin op_addA rok_add (dv 6) do_int) da_nil))) (da_cons (do_tup (da_cons (do_tup (da_cons do_int (da_cons do_int da_nil))) (da_cons do_int da_nil))) (da_cons (do_tup (da_cons do_str (da_cons do_int da_nil))) da_nil))))))))))) (dg_nm (i := 13) sc_law.nd) (dss_one (ds_if (db_not (db_val (do_call G__law_same (hr.mono (by decide)) (by rfl) T.d__law_same.m T.d__law_same.F.kp T.d__law_same.b (da_cons (do_call G_is_ratio (hr.mono (by decide)) (by rfl) T.d_is_ratio.m T.d_is_ratio.F.kp T.d_is_ratio.b (da_cons (dv 13) da_nil)) (da_cons (do_call G__law_is_ratio (hr.mono (by decide)) (by rfl) T.d__law_is_ratio.m T.d__law_is_ratio.F.kp T.d__law_is_ratio.b (da_cons (dv 13) da_nil)) da_nil))))) (dss_one (ds_ret do_bl)) dss_nil))))))))))))
      (dss_one (ds_ret do_bl))))⟩) rd_law
end
end K51

namespace K51
open PySem PySem.Spec PyProof.Rows L2 DL
theorem all_mk {P : Program} {w : World} {K : PySem.W.Frag} {h : Heap} {mg : Str → Option Value} {fa : Addr} (X : K.In h) (G : h.Ns mainGlobals mg) (hfa : mg "law" = some (.ref fa))
    {f0 : Addr} {od0 an0 : Option Addr} {sl0 : Array (Option Value)} {oc0 kV0 dc0 pm0 cd0 ct0 : Value}
    (a0 : PySem.W.nsIn K mainGlobals "is_integer" = some (some (.ref f0))) (l0 : K.lookup f0 = some ⟨oc0, od0, .func (PySem.W.fnOf "is_integer" "is_integer" (defArgs s_is_integer) (defBody s_is_integer) (defScope s_is_integer) .none kV0 dc0 pm0 an0 cd0 ct0), sl0⟩) (c0 : PySem.W.codeIn K cd0 "is_integer" = true) (k0 : PySem.W.keepIn K (.ref f0) = true)
    {f1 : Addr} {od1 an1 : Option Addr} {sl1 : Array (Option Value)} {oc1 kV1 dc1 pm1 cd1 ct1 : Value}
    (a1 : PySem.W.nsIn K mainGlobals "is_tuple_of" = some (some (.ref f1))) (l1 : K.lookup f1 = some ⟨oc1, od1, .func (PySem.W.fnOf "is_tuple_of" "is_tuple_of" (defArgs s_is_tuple_of) (defBody s_is_tuple_of) (defScope s_is_tuple_of) .none kV1 dc1 pm1 an1 cd1 ct1), sl1⟩) (c1 : PySem.W.codeIn K cd1 "is_tuple_of" = true) (k1 : PySem.W.keepIn K (.ref f1) = true)
    {f2 : Addr} {od2 an2 : Option Addr} {sl2 : Array (Option Value)} {oc2 kV2 dc2 pm2 cd2 ct2 : Value}
    (a2 : PySem.W.nsIn K mainGlobals "common" = some (some (.ref f2))) (l2 : K.lookup f2 = some ⟨oc2, od2, .func (PySem.W.fnOf "common" "common" (defArgs s_common) (defBody s_common) (defScope s_common) .none kV2 dc2 pm2 an2 cd2 ct2), sl2⟩) (c2 : PySem.W.codeIn K cd2 "common" = true) (k2 : PySem.W.keepIn K (.ref f2) = true)
    {f3 : Addr} {od3 an3 : Option Addr} {sl3 : Array (Option Value)} {oc3 kV3 dc3 pm3 cd3 ct3 : Value}
    (a3 : PySem.W.nsIn K mainGlobals "ratio_of" = some (some (.ref f3))) (l3 : K.lookup f3 = some ⟨oc3, od3, .func (PySem.W.fnOf "ratio_of" "ratio_of" (defArgs s_ratio_of) (defBody s_ratio_of) (defScope s_ratio_of) .none kV3 dc3 pm3 an3 cd3 ct3), sl3⟩) (c3 : PySem.W.codeIn K cd3 "ratio_of" = true) (k3 : PySem.W.keepIn K (.ref f3) = true)
    {f4 : Addr} {od4 an4 : Option Addr} {sl4 : Array (Option Value)} {oc4 kV4 dc4 pm4 cd4 ct4 : Value}
    (a4 : PySem.W.nsIn K mainGlobals "is_ratio" = some (some (.ref f4))) (l4 : K.lookup f4 = some ⟨oc4, od4, .func (PySem.W.fnOf "is_ratio" "is_ratio" (defArgs s_is_ratio) (defBody s_is_ratio) (defScope s_is_ratio) .none kV4 dc4 pm4 an4 cd4 ct4), sl4⟩) (c4 : PySem.W.codeIn K cd4 "is_ratio" = true) (k4 : PySem.W.keepIn K (.ref f4) = true)
    {f5 : Addr} {od5 an5 : Option Addr} {sl5 : Array (Option Value)} {oc5 kV5 dc5 pm5 cd5 ct5 : Value}
    (a5 : PySem.W.nsIn K mainGlobals "is_below" = some (some (.ref f5))) (l5 : K.lookup f5 = some ⟨oc5, od5, .func (PySem.W.fnOf "is_below" "is_below" (defArgs s_is_below) (defBody s_is_below) (defScope s_is_below) .none kV5 dc5 pm5 an5 cd5 ct5), sl5⟩) (c5 : PySem.W.codeIn K cd5 "is_below" = true) (k5 : PySem.W.keepIn K (.ref f5) = true)
    {f6 : Addr} {od6 an6 : Option Addr} {sl6 : Array (Option Value)} {oc6 kV6 dc6 pm6 cd6 ct6 : Value}
    (a6 : PySem.W.nsIn K mainGlobals "_law_pot" = some (some (.ref f6))) (l6 : K.lookup f6 = some ⟨oc6, od6, .func (PySem.W.fnOf "_law_pot" "_law_pot" (defArgs s__law_pot) (defBody s__law_pot) (defScope s__law_pot) .none kV6 dc6 pm6 an6 cd6 ct6), sl6⟩) (c6 : PySem.W.codeIn K cd6 "_law_pot" = true) (k6 : PySem.W.keepIn K (.ref f6) = true)
    {f7 : Addr} {od7 an7 : Option Addr} {sl7 : Array (Option Value)} {oc7 kV7 dc7 pm7 cd7 ct7 : Value}
    (a7 : PySem.W.nsIn K mainGlobals "_law_draw" = some (some (.ref f7))) (l7 : K.lookup f7 = some ⟨oc7, od7, .func (PySem.W.fnOf "_law_draw" "_law_draw" (defArgs s__law_draw) (defBody s__law_draw) (defScope s__law_draw) .none kV7 dc7 pm7 an7 cd7 ct7), sl7⟩) (c7 : PySem.W.codeIn K cd7 "_law_draw" = true) (k7 : PySem.W.keepIn K (.ref f7) = true)
    {f8 : Addr} {od8 an8 : Option Addr} {sl8 : Array (Option Value)} {oc8 kV8 dc8 pm8 cd8 ct8 : Value}
    (a8 : PySem.W.nsIn K mainGlobals "_law_same" = some (some (.ref f8))) (l8 : K.lookup f8 = some ⟨oc8, od8, .func (PySem.W.fnOf "_law_same" "_law_same" (defArgs s__law_same) (defBody s__law_same) (defScope s__law_same) .none kV8 dc8 pm8 an8 cd8 ct8), sl8⟩) (c8 : PySem.W.codeIn K cd8 "_law_same" = true) (k8 : PySem.W.keepIn K (.ref f8) = true)
    {f9 : Addr} {od9 an9 : Option Addr} {sl9 : Array (Option Value)} {oc9 kV9 dc9 pm9 cd9 ct9 : Value}
    (a9 : PySem.W.nsIn K mainGlobals "_law_is_between" = some (some (.ref f9))) (l9 : K.lookup f9 = some ⟨oc9, od9, .func (PySem.W.fnOf "_law_is_between" "_law_is_between" (defArgs s__law_is_between) (defBody s__law_is_between) (defScope s__law_is_between) .none kV9 dc9 pm9 an9 cd9 ct9), sl9⟩) (c9 : PySem.W.codeIn K cd9 "_law_is_between" = true) (k9 : PySem.W.keepIn K (.ref f9) = true)
    {f10 : Addr} {od10 an10 : Option Addr} {sl10 : Array (Option Value)} {oc10 kV10 dc10 pm10 cd10 ct10 : Value}
    (a10 : PySem.W.nsIn K mainGlobals "_law_ratio" = some (some (.ref f10))) (l10 : K.lookup f10 = some ⟨oc10, od10, .func (PySem.W.fnOf "_law_ratio" "_law_ratio" (defArgs s__law_ratio) (defBody s__law_ratio) (defScope s__law_ratio) .none kV10 dc10 pm10 an10 cd10 ct10), sl10⟩) (c10 : PySem.W.codeIn K cd10 "_law_ratio" = true) (k10 : PySem.W.keepIn K (.ref f10) = true)
    {f11 : Addr} {od11 an11 : Option Addr} {sl11 : Array (Option Value)} {oc11 kV11 dc11 pm11 cd11 ct11 : Value}
    (a11 : PySem.W.nsIn K mainGlobals "_law_number" = some (some (.ref f11))) (l11 : K.lookup f11 = some ⟨oc11, od11, .func (PySem.W.fnOf "_law_number" "_law_number" (defArgs s__law_number) (defBody s__law_number) (defScope s__law_number) .none kV11 dc11 pm11 an11 cd11 ct11), sl11⟩) (c11 : PySem.W.codeIn K cd11 "_law_number" = true) (k11 : PySem.W.keepIn K (.ref f11) = true)
    {f12 : Addr} {od12 an12 : Option Addr} {sl12 : Array (Option Value)} {oc12 kV12 dc12 pm12 cd12 ct12 : Value}
    (a12 : PySem.W.nsIn K mainGlobals "_law_is_ratio" = some (some (.ref f12))) (l12 : K.lookup f12 = some ⟨oc12, od12, .func (PySem.W.fnOf "_law_is_ratio" "_law_is_ratio" (defArgs s__law_is_ratio) (defBody s__law_is_ratio) (defScope s__law_is_ratio) .none kV12 dc12 pm12 an12 cd12 ct12), sl12⟩) (c12 : PySem.W.codeIn K cd12 "_law_is_ratio" = true) (k12 : PySem.W.keepIn K (.ref f12) = true)
    {f13 : Addr} {od13 an13 : Option Addr} {sl13 : Array (Option Value)} {oc13 kV13 dc13 pm13 cd13 ct13 : Value}
    (a13 : PySem.W.nsIn K mainGlobals "law" = some (some (.ref f13))) (l13 : K.lookup f13 = some ⟨oc13, od13, .func (PySem.W.fnOf "law" "law" (defArgs s_law) (defBody s_law) (defScope s_law) .none kV13 dc13 pm13 an13 cd13 ct13), sl13⟩) (c13 : PySem.W.codeIn K cd13 "law" = true) (k13 : PySem.W.keepIn K (.ref f13) = true)
    (z_isinstance : PySem.W.nsIn K mainGlobals "isinstance" = some none)
    (z_bool : PySem.W.nsIn K mainGlobals "bool" = some none)
    (z_int : PySem.W.nsIn K mainGlobals "int" = some none)
    (z_len : PySem.W.nsIn K mainGlobals "len" = some none)
    (z_tuple : PySem.W.nsIn K mainGlobals "tuple" = some none)
    (z_abs : PySem.W.nsIn K mainGlobals "abs" = some none)
    (z_str : PySem.W.nsIn K mainGlobals "str" = some none)
    (z_list : PySem.W.nsIn K mainGlobals "list" = some none)
    (z_range : PySem.W.nsIn K mainGlobals "range" = some none)
    (z_all : PySem.W.nsIn K mainGlobals "all" = some none)
    (z_min : PySem.W.nsIn K mainGlobals "min" = some none)
    : ∃ fd : FuncData, (∀ (s : Shared) (v : Value), BindsTo s fd ⟨[v], []⟩ [("script", v)]) ∧ ∀ base : Heap, K.In base → base.Ns mainGlobals mg → FnOk P w K mg base CX0 3 fa fd ["script"] (spP K 1 g_law) := by
  have e := hfa.symm.trans (PySem.W.mg_of X G a13)
  cases e
  have F0 := fun_mk (st := s_is_integer) l0 c0 k0
  have F1 := fun_mk (st := s_is_tuple_of) l1 c1 k1
  have F2 := fun_mk (st := s_common) l2 c2 k2
  have F3 := fun_mk (st := s_ratio_of) l3 c3 k3
  have F4 := fun_mk (st := s_is_ratio) l4 c4 k4
  have F5 := fun_mk (st := s_is_below) l5 c5 k5
  have F6 := fun_mk (st := s__law_pot) l6 c6 k6
  have F7 := fun_mk (st := s__law_draw) l7 c7 k7
  have F8 := fun_mk (st := s__law_same) l8 c8 k8
  have F9 := fun_mk (st := s__law_is_between) l9 c9 k9
  have F10 := fun_mk (st := s__law_ratio) l10 c10 k10
  have F11 := fun_mk (st := s__law_number) l11 c11 k11
  have F12 := fun_mk (st := s__law_is_ratio) l12 c12 k12
  have F13 := fun_mk (st := s_law) l13 c13 k13
  let T : Tx K mg := {
    a_is_integer := f0
    fd_is_integer := _
    d_is_integer := ⟨F0, F0.binds (ps := P_is_integer) fun _ _ _ _ _ _ us hl => match us, hl with | [_], _ => rfl, PySem.W.mg_of X G a0⟩
    a_is_tuple_of := f1
    fd_is_tuple_of := _
    d_is_tuple_of := ⟨F1, F1.binds (ps := P_is_tuple_of) fun _ _ _ _ _ _ us hl => match us, hl with | [_, _], _ => rfl, PySem.W.mg_of X G a1⟩
    a_common := f2
    fd_common := _
    d_common := ⟨F2, F2.binds (ps := P_common) fun _ _ _ _ _ _ us hl => match us, hl with | [_, _], _ => rfl, PySem.W.mg_of X G a2⟩
    a_ratio_of := f3
    fd_ratio_of := _
    d_ratio_of := ⟨F3, F3.binds (ps := P_ratio_of) fun _ _ _ _ _ _ us hl => match us, hl with | [_, _], _ => rfl, PySem.W.mg_of X G a3⟩
    a_is_ratio := f4
    fd_is_ratio := _
    d_is_ratio := ⟨F4, F4.binds (ps := P_is_ratio) fun _ _ _ _ _ _ us hl => match us, hl with | [_], _ => rfl, PySem.W.mg_of X G a4⟩
    a_is_below := f5
    fd_is_below := _
    d_is_below := ⟨F5, F5.binds (ps := P_is_below) fun _ _ _ _ _ _ us hl => match us, hl with | [_, _], _ => rfl, PySem.W.mg_of X G a5⟩
    a__law_pot := f6
    fd__law_pot := _
    d__law_pot := ⟨F6, F6.binds (ps := P__law_pot) fun _ _ _ _ _ _ us hl => match us, hl with | [_, _], _ => rfl, PySem.W.mg_of X G a6⟩
    a__law_draw := f7
    fd__law_draw := _
    d__law_draw := ⟨F7, F7.binds (ps := P__law_draw) fun _ _ _ _ _ _ us hl => match us, hl with | [_, _], _ => rfl, PySem.W.mg_of X G a7⟩
    a__law_same := f8
    fd__law_same := _
    d__law_same := ⟨F8, F8.binds (ps := P__law_same) fun _ _ _ _ _ _ us hl => match us, hl with | [_, _], _ => rfl, PySem.W.mg_of X G a8⟩
    a__law_is_between := f9
    fd__law_is_between := _
    d__law_is_between := ⟨F9, F9.binds (ps := P__law_is_between) fun _ _ _ _ _ _ us hl => match us, hl with | [_, _, _], _ => rfl, PySem.W.mg_of X G a9⟩
    a__law_ratio := f10
    fd__law_ratio := _
    d__law_ratio := ⟨F10, F10.binds (ps := P__law_ratio) fun _ _ _ _ _ _ us hl => match us, hl with | [_, _], _ => rfl, PySem.W.mg_of X G a10⟩
    a__law_number := f11
    fd__law_number := _
    d__law_number := ⟨F11, F11.binds (ps := P__law_number) fun _ _ _ _ _ _ us hl => match us, hl with | [_], _ => rfl, PySem.W.mg_of X G a11⟩
    a__law_is_ratio := f12
    fd__law_is_ratio := _
    d__law_is_ratio := ⟨F12, F12.binds (ps := P__law_is_ratio) fun _ _ _ _ _ _ us hl => match us, hl with | [_], _ => rfl, PySem.W.mg_of X G a12⟩
    a_law := fa
    fd_law := _
    d_law := ⟨F13, F13.binds (ps := P_law) fun _ _ _ _ _ _ us hl => match us, hl with | [_], _ => rfl, PySem.W.mg_of X G a13⟩
    z_isinstance := PySem.W.mg_none_of X G z_isinstance
    z_bool := PySem.W.mg_none_of X G z_bool
    z_int := PySem.W.mg_none_of X G z_int
    z_len := PySem.W.mg_none_of X G z_len
    z_tuple := PySem.W.mg_none_of X G z_tuple
    z_abs := PySem.W.mg_none_of X G z_abs
    z_str := PySem.W.mg_none_of X G z_str
    z_list := PySem.W.mg_none_of X G z_list
    z_range := PySem.W.mg_none_of X G z_range
    z_all := PySem.W.mg_none_of X G z_all
    z_min := PySem.W.mg_none_of X G z_min
  }
  exact ⟨PySem.W.fnOf "law" "law" (defArgs s_law) (defBody s_law) (defScope s_law) .none kV13 dc13 pm13 an13 cd13 ct13, fun s v => .of_eq rfl, fun base _ _ => ok_law (P := P) (w := w) (base := base) T⟩
end K51
open PySem PySem.W PyProof.Rows
set_option maxHeartbeats 0 in
theorem PySem.Challenge.cw_everyfolk_k51_ratios_holds : PySem.Challenge.rw_everyfolk_k51_ratios.Holds := by
  w_on; o_law; k_head; (case hw => w_witness2)
  k_fill
  refine DL.walkD (l := PySem.Challenge.rw_everyfolk_k51_ratios) (n := 63) (k := 3) (g := K51.g_law) (x := "script") rfl (by decide) rfl ⟨rfl, by decide, by decide⟩ (fun w h Y => PySem.W.kIn_of Y) (fun ns hn P hp => ⟨ns, rfl, hn, hp⟩) ?F
  case F =>
    intro w mg fa h KX G hmg
    refine' K51.all_mk KX G hmg ?a0 ?l0 ?c0 ?k0 ?a1 ?l1 ?c1 ?k1 ?a2 ?l2 ?c2 ?k2 ?a3 ?l3 ?c3 ?k3 ?a4 ?l4 ?c4 ?k4 ?a5 ?l5 ?c5 ?k5 ?a6 ?l6 ?c6 ?k6 ?a7 ?l7 ?c7 ?k7 ?a8 ?l8 ?c8 ?k8 ?a9 ?l9 ?c9 ?k9 ?a10 ?l10 ?c10 ?k10 ?a11 ?l11 ?c11 ?k11 ?a12 ?l12 ?c12 ?k12 ?a13 ?l13 ?c13 ?k13 ?z_isinstance ?z_bool ?z_int ?z_len ?z_tuple ?z_abs ?z_str ?z_list ?z_range ?z_all ?z_min
    (case a0 => k_is); (case l0 => k_is); (case c0 => k_is); (case k0 => k_is); (case a1 => k_is); (case l1 => k_is); (case c1 => k_is); (case k1 => k_is); (case a2 => k_is); (case l2 => k_is); (case c2 => k_is); (case k2 => k_is); (case a3 => k_is); (case l3 => k_is); (case c3 => k_is); (case k3 => k_is); (case a4 => k_is); (case l4 => k_is); (case c4 => k_is); (case k4 => k_is); (case a5 => k_is); (case l5 => k_is); (case c5 => k_is); (case k5 => k_is); (case a6 => k_is); (case l6 => k_is); (case c6 => k_is); (case k6 => k_is); (case a7 => k_is); (case l7 => k_is); (case c7 => k_is); (case k7 => k_is); (case a8 => k_is); (case l8 => k_is); (case c8 => k_is); (case k8 => k_is); (case a9 => k_is); (case l9 => k_is); (case c9 => k_is); (case k9 => k_is); (case a10 => k_is); (case l10 => k_is); (case c10 => k_is); (case k10 => k_is); (case a11 => k_is); (case l11 => k_is); (case c11 => k_is); (case k11 => k_is); (case a12 => k_is); (case l12 => k_is); (case c12 => k_is); (case k12 => k_is); (case a13 => k_is); (case l13 => k_is); (case c13 => k_is); (case k13 => k_is); (case z_isinstance => k_is); (case z_bool => k_is); (case z_int => k_is); (case z_len => k_is); (case z_tuple => k_is); (case z_abs => k_is); (case z_str => k_is); (case z_list => k_is); (case z_range => k_is); (case z_all => k_is); (case z_min => k_is)
